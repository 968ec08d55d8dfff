import PyProof.Rows.All
import Wide.All
import OpenK.AllK
import Wide.FinOn
import HandS.Conv
import HandS.Dict
import HandS.EndBits
import HandS.EndTab
import HandS.Evl
import HandS.ExcIs
import HandS.ForExc
import HandS.ForMost
import HandS.HotCalls
import HandS.IsInst
import HandS.Iter
import HandS.Nested
import HandS.SortInts
import HandS.Style
import HandS.Text
import HandS.Wide
import PyProof.LongRange
import PySem.Challenge.RW_bothread_k10_whole_anew
set_option Elab.async false
set_option linter.all false
set_option maxRecDepth 100000
set_option exponentiation.threshold 256
namespace Bm
/-! figures, the least place's first -/
def dsF (b : Nat) : Nat → Nat → List Nat
  | 0, n => [n]
  | f + 1, n => if n < b then [n] else (n % b) :: dsF b f (n / b)
def ds (b n : Nat) : List Nat := dsF b n n
def fig (b n : Nat) : List Nat := (ds b n).reverse
def vl (b : Nat) : List Nat → Nat
  | [] => 0
  | d :: r => d + b * vl b r
def val (b : Nat) (l : List Nat) : Nat := l.foldl (fun a d => a * b + d) 0

theorem dsF_eq {b : Nat} (hb : 2 ≤ b) : ∀ f g n, n ≤ f → n ≤ g → dsF b f n = dsF b g n
  | 0, 0, n, _, _ => rfl
  | 0, g + 1, n, h, _ => by
    have : n = 0 := by omega
    subst this
    unfold dsF
    rw [if_pos (by omega)]
  | f + 1, 0, n, _, h => by
    have : n = 0 := by omega
    subst this
    unfold dsF
    rw [if_pos (by omega)]
  | f + 1, g + 1, n, h1, h2 => by
    unfold dsF
    by_cases hn : n < b
    · rw [if_pos hn, if_pos hn]
    · rw [if_neg hn, if_neg hn]
      have : n / b < n := Nat.div_lt_self (by omega) (by omega)
      rw [dsF_eq hb f g (n / b) (by omega) (by omega)]
theorem ds_lo {b n : Nat} (h : n < b) : ds b n = [n] := by
  unfold ds
  cases n with
  | zero => rfl
  | succ k => unfold dsF; rw [if_pos h]
theorem ds_hi {b n : Nat} (hb : 2 ≤ b) (h : ¬ n < b) : ds b n = (n % b) :: ds b (n / b) := by
  unfold ds
  cases n with
  | zero => omega
  | succ k =>
    have : (k + 1) / b < k + 1 := Nat.div_lt_self (by omega) (by omega)
    rw [show dsF b (k + 1) (k + 1) = ((k + 1) % b) :: dsF b k ((k + 1) / b) by
      conv => lhs; unfold dsF
      rw [if_neg h]]
    rw [dsF_eq hb k ((k + 1) / b) _ (by omega) (Nat.le_refl _)]
/-- the law's own induction -/
theorem ds_ind {b : Nat} (hb : 2 ≤ b) {P : Nat → Prop} (lo : ∀ n, n < b → P n) (hi : ∀ n, ¬ n < b → P (n / b) → P n) (n : Nat) : P n := by
  induction n using Nat.strongRecOn with
  | ind n ih =>
    by_cases h : n < b
    · exact lo n h
    · exact hi n h (ih _ (Nat.div_lt_self (by omega) (by omega)))
theorem ds_ne {b : Nat} (hb : 2 ≤ b) (n : Nat) : ds b n ≠ [] := by
  by_cases h : n < b
  · rw [ds_lo h]; simp
  · rw [ds_hi hb h]; simp
theorem ds_pos {b : Nat} (hb : 2 ≤ b) (n : Nat) : 0 < (ds b n).length := List.length_pos_iff.mpr (ds_ne hb n)
theorem ds_lt {b : Nat} (hb : 2 ≤ b) (n : Nat) : ∀ d ∈ ds b n, d < b := by
  induction n using ds_ind hb with
  | lo n h =>
    rw [ds_lo h]
    intro d hd
    rw [List.mem_singleton] at hd
    omega
  | hi n h ih =>
    rw [ds_hi hb h]
    intro d hd
    rcases List.mem_cons.mp hd with e | e
    · rw [e]; exact Nat.mod_lt _ (by omega)
    · exact ih d e
theorem vl_ds {b : Nat} (hb : 2 ≤ b) (n : Nat) : vl b (ds b n) = n := by
  induction n using ds_ind hb with
  | lo n h =>
    rw [ds_lo h]
    show n + b * 0 = n
    rw [Nat.mul_zero, Nat.add_zero]
  | hi n h ih =>
    rw [ds_hi hb h]
    show n % b + b * vl b (ds b (n / b)) = n
    rw [ih]
    exact Nat.mod_add_div n b
theorem vl_append (b : Nat) : ∀ l m : List Nat, vl b (l ++ m) = vl b l + b ^ l.length * vl b m
  | [], m => by simp [vl]
  | d :: r, m => by
    show d + b * vl b (r ++ m) = (d + b * vl b r) + b ^ (r.length + 1) * vl b m
    rw [vl_append b r m, Nat.mul_add, Nat.pow_succ, Nat.mul_comm (b ^ r.length) b, Nat.mul_assoc, Nat.add_assoc]
theorem vl_lt {b : Nat} : ∀ {l : List Nat}, (∀ d ∈ l, d < b) → vl b l < b ^ l.length
  | [], _ => by simp [vl]
  | d :: r, h => by
    have h1 : d < b := h d List.mem_cons_self
    have h2 := vl_lt (l := r) fun x hx => h x (List.mem_cons_of_mem _ hx)
    show d + b * vl b r < b ^ (r.length + 1)
    rw [Nat.pow_succ]
    have h3 : b * (vl b r + 1) ≤ b * b ^ r.length := Nat.mul_le_mul_left b h2
    rw [Nat.mul_add, Nat.mul_one, Nat.mul_comm b (b ^ r.length)] at h3
    omega
theorem foldl_val (b : Nat) : ∀ (l : List Nat) (a : Nat), l.foldl (fun a d => a * b + d) a = a * b ^ l.length + val b l
  | [], a => by simp [val]
  | d :: r, a => by
    show r.foldl (fun a d => a * b + d) (a * b + d) = a * b ^ (r.length + 1) + r.foldl (fun a d => a * b + d) (0 * b + d)
    rw [foldl_val b r (a * b + d), foldl_val b r (0 * b + d), Nat.pow_succ, Nat.add_mul, Nat.add_mul, Nat.zero_mul, Nat.zero_mul, Nat.zero_add, Nat.mul_comm (b ^ r.length) b, Nat.mul_assoc, Nat.add_assoc]
theorem val_snoc (b : Nat) (l : List Nat) (d : Nat) : val b (l ++ [d]) = val b l * b + d := by
  unfold val
  rw [List.foldl_append]
  rfl
theorem val_vl (b : Nat) : ∀ l : List Nat, val b l.reverse = vl b l
  | [] => rfl
  | d :: r => by
    rw [List.reverse_cons, val_snoc, val_vl b r]
    show vl b r * b + d = d + b * vl b r
    rw [Nat.mul_comm, Nat.add_comm]
theorem val_eq (b : Nat) (l : List Nat) : val b l = vl b l.reverse := by
  rw [← val_vl, List.reverse_reverse]
theorem val_fig {b : Nat} (hb : 2 ≤ b) (n : Nat) : val b (fig b n) = n := by
  unfold fig
  rw [val_vl, vl_ds hb]
/-- a list of figures is that of its number, if it ends (the greatest place) on no 0, or has one figure -/
theorem ds_vl {b : Nat} (hb : 2 ≤ b) : ∀ {l : List Nat}, (∀ d ∈ l, d < b) → (l.length = 1 ∨ ∃ x, l.getLast? = some x ∧ x ≠ 0) → ds b (vl b l) = l
  | [], _, h => by
    rcases h with h | ⟨x, h, _⟩
    · cases h
    · cases h
  | [d], h, _ => by
    have h1 : d < b := h d List.mem_cons_self
    show ds b (d + b * 0) = [d]
    rw [Nat.mul_zero, Nat.add_zero, ds_lo h1]
  | d :: e :: r, h, hz => by
    have h1 : d < b := h d List.mem_cons_self
    have h2 : ∀ x ∈ e :: r, x < b := fun x hx => h x (List.mem_cons_of_mem _ hx)
    have hz2 : ∃ x, (e :: r).getLast? = some x ∧ x ≠ 0 := by
      rcases hz with hz | ⟨x, hx, h0⟩
      · simp at hz
      · exact ⟨x, by rw [List.getLast?_cons_cons] at hx; exact hx, h0⟩
    have ih := ds_vl hb h2 (Or.inr hz2)
    have hv : vl b (e :: r) ≠ 0 := by
      intro z
      rw [z, ds_lo (by omega)] at ih
      obtain ⟨x, hx, h0⟩ := hz2
      rw [← ih] at hx
      exact h0 (Option.some.inj hx).symm
    have hp : b * 1 ≤ b * vl b (e :: r) := Nat.mul_le_mul_left b (by omega)
    show ds b (d + b * vl b (e :: r)) = d :: e :: r
    rw [ds_hi hb (by omega)]
    rw [Nat.add_mul_mod_self_left, Nat.mod_eq_of_lt h1, Nat.add_mul_div_left _ _ (by omega : 0 < b), Nat.div_eq_of_lt h1, Nat.zero_add, ih]
theorem ds_last {b : Nat} (hb : 2 ≤ b) (n : Nat) (hn : 0 < n) : ∃ x, (ds b n).getLast? = some x ∧ x ≠ 0 := by
  revert hn
  induction n using ds_ind hb with
  | lo n h =>
    intro hn
    rw [ds_lo h]
    exact ⟨n, rfl, by omega⟩
  | hi n h ih =>
    intro hn
    rw [ds_hi hb h]
    have h1 : 0 < n / b := Nat.div_pos (by omega) (by omega)
    obtain ⟨x, hx, h0⟩ := ih h1
    refine ⟨x, ?_, h0⟩
    have hne := ds_ne hb (n / b)
    cases e : ds b (n / b) with
    | nil => exact absurd e hne
    | cons y r =>
      rw [e] at hx
      rw [List.getLast?_cons_cons]
      exact hx
theorem ds_up {b : Nat} (hb : 2 ≤ b) (n : Nat) : n < b ^ (ds b n).length := by
  have h := vl_lt (ds_lt hb n)
  rw [vl_ds hb] at h
  exact h
theorem ds_dn {b : Nat} (hb : 2 ≤ b) (n : Nat) (hn : 0 < n) : b ^ ((ds b n).length - 1) ≤ n := by
  revert hn
  induction n using ds_ind hb with
  | lo n h =>
    intro hn
    rw [ds_lo h]
    show b ^ 0 ≤ n
    rw [Nat.pow_zero]
    exact hn
  | hi n h ih =>
    intro hn
    have h1 : 0 < n / b := Nat.div_pos (by omega) (by omega)
    have h2 := ih h1
    have h3 := ds_pos hb (n / b)
    rw [ds_hi hb h]
    show b ^ ((ds b (n / b)).length + 1 - 1) ≤ n
    rw [show (ds b (n / b)).length + 1 - 1 = ((ds b (n / b)).length - 1) + 1 by omega, Nat.pow_succ]
    exact Nat.le_trans (Nat.mul_le_mul_right b h2) (Nat.div_mul_le_self n b)
theorem pow_lt {b i j : Nat} (hb : 2 ≤ b) (h : b ^ i < b ^ j) : i < j := by
  rcases Nat.lt_or_ge i j with g | g
  · exact g
  · have := Nat.pow_le_pow_right (show 0 < b by omega) g
    omega
/-- how many figures, by the bounds -/
theorem ds_len {b n m : Nat} (hb : 2 ≤ b) (h1 : b ^ m ≤ n) (h2 : n < b ^ (m + 1)) : (ds b n).length = m + 1 := by
  have p : 0 < b ^ m := Nat.pow_pos (by omega)
  have u := ds_up hb n
  have d := ds_dn hb n (by omega)
  have a1 : m < (ds b n).length := pow_lt hb (Nat.lt_of_le_of_lt h1 u)
  have a2 : (ds b n).length - 1 < m + 1 := pow_lt hb (Nat.lt_of_le_of_lt d h2)
  omega
theorem ds_len1 {b n : Nat} (h : n < b) : (ds b n).length = 1 := by rw [ds_lo h]; rfl
theorem ds_drop {b : Nat} (hb : 2 ≤ b) : ∀ (k n : Nat), k < (ds b n).length → (ds b n).drop k = ds b (n / b ^ k)
  | 0, n, _ => by simp
  | k + 1, n, h => by
    by_cases hn : n < b
    · rw [ds_lo hn] at h
      simp at h
    · rw [ds_hi hb hn] at h ⊢
      show (ds b (n / b)).drop k = _
      rw [ds_drop hb k (n / b) (by simpa using h), Nat.div_div_eq_div_mul, Nat.pow_succ, Nat.mul_comm b]
theorem ds_inj {b n m : Nat} (hb : 2 ≤ b) (h : ds b n = ds b m) : n = m := by
  rw [← vl_ds hb n, h, vl_ds hb]

/-! reading alike -/
def pal (b n : Nat) : Bool := decide ((ds b n).reverse = ds b n)
theorem pal_fig (b n : Nat) : pal b n = decide (fig b n = (fig b n).reverse) := by
  unfold pal fig
  rw [List.reverse_reverse]
theorem pal_lo {b n : Nat} (h : n < b) : pal b n = true := by
  unfold pal
  rw [ds_lo h]
  exact decide_eq_true rfl
/-! the number that begins with a half -/
def half2 (d : List Nat) (k : Nat) : List Nat := (d.drop k).reverse ++ d
def made (b h m : Nat) : Nat := val b (fig b h ++ (fig b h).reverse.drop (m % 2))
theorem made_eq (b h m : Nat) : made b h m = vl b (half2 (ds b h) (m % 2)) := by
  unfold made half2 fig
  rw [val_eq, List.reverse_append, List.reverse_reverse]
theorem half2_len {d : List Nat} {m : Nat} (hm : 0 < m) (hd : d.length = (m + 1) / 2) : (half2 d (m % 2)).length = m := by
  unfold half2
  rw [List.length_append, List.length_reverse, List.length_drop, hd]
  omega
theorem half2_rev {d : List Nat} {m : Nat} (hd : d ≠ []) : (half2 d (m % 2)).reverse = half2 d (m % 2) := by
  unfold half2
  rw [List.reverse_append, List.reverse_reverse]
  rcases Nat.mod_two_eq_zero_or_one m with e | e
  · rw [e, List.drop_zero]
  · rw [e]
    cases d with
    | nil => exact absurd rfl hd
    | cons x t => simp
theorem made_form {b h m : Nat} (hb : 2 ≤ b) (hm : 0 < m) (hd : (ds b h).length = (m + 1) / 2) : ∃ r, made b h m = r + b ^ (m / 2) * h ∧ r < b ^ (m / 2) := by
  refine ⟨vl b ((ds b h).drop (m % 2)).reverse, ?_, ?_⟩
  · rw [made_eq]
    unfold half2
    rw [vl_append, vl_ds hb, List.length_reverse, List.length_drop, hd]
    congr 2
    congr 1
    omega
  · have := vl_lt (b := b) (l := ((ds b h).drop (m % 2)).reverse) fun d hx => ds_lt hb h d (List.mem_of_mem_drop (List.mem_reverse.mp hx))
    rw [List.length_reverse, List.length_drop, hd] at this
    rw [show m / 2 = (m + 1) / 2 - m % 2 by omega]
    exact this
theorem made_div {b h m : Nat} (hb : 2 ≤ b) (hm : 0 < m) (hd : (ds b h).length = (m + 1) / 2) : made b h m / b ^ (m / 2) = h := by
  obtain ⟨r, e, hr⟩ := made_form hb hm hd
  rw [e, Nat.add_mul_div_left _ _ (Nat.pow_pos (by omega)), Nat.div_eq_of_lt hr, Nat.zero_add]
theorem made_ds {b h m : Nat} (hb : 2 ≤ b) (hm : 0 < m) (hd : (ds b h).length = (m + 1) / 2) (h0 : m = 1 ∨ 0 < h) : ds b (made b h m) = half2 (ds b h) (m % 2) := by
  rw [made_eq]
  refine ds_vl hb (fun d hx => ?_) ?_
  · unfold half2 at hx
    rcases List.mem_append.mp hx with e | e
    · exact ds_lt hb h d (List.mem_of_mem_drop (List.mem_reverse.mp e))
    · exact ds_lt hb h d e
  · rcases h0 with h0 | h0
    · left
      rw [half2_len hm hd, h0]
    · right
      obtain ⟨x, hx, z⟩ := ds_last hb h h0
      refine ⟨x, ?_, z⟩
      unfold half2
      rw [List.getLast?_append, hx]
      rfl
theorem made_len {b h m : Nat} (hb : 2 ≤ b) (hm : 0 < m) (hd : (ds b h).length = (m + 1) / 2) (h0 : m = 1 ∨ 0 < h) : (ds b (made b h m)).length = m := by
  rw [made_ds hb hm hd h0, half2_len hm hd]
theorem made_pal {b h m : Nat} (hb : 2 ≤ b) (hm : 0 < m) (hd : (ds b h).length = (m + 1) / 2) (h0 : m = 1 ∨ 0 < h) : pal b (made b h m) = true := by
  unfold pal
  rw [made_ds hb hm hd h0]
  exact decide_eq_true (half2_rev (ds_ne hb h))
theorem pal_half {l : List Nat} (h : l.reverse = l) : half2 (l.drop (l.length / 2)) (l.length % 2) = l := by
  unfold half2
  have e : (l.drop (l.length / 2)).drop (l.length % 2) = l.drop (l.length - l.length / 2) := by
    rw [List.drop_drop]
    congr 1
    omega
  rw [e]
  have e2 : (l.drop (l.length - l.length / 2)).reverse = l.take (l.length / 2) := by
    rw [List.reverse_drop, h]
    congr 1
    omega
  rw [e2, List.take_append_drop]
/-- the half of a number -/
def hf (b n : Nat) : Nat := n / b ^ ((ds b n).length / 2)
theorem hf_ds {b : Nat} (hb : 2 ≤ b) (n : Nat) : ds b (hf b n) = (ds b n).drop ((ds b n).length / 2) := by
  have := ds_pos hb n
  rw [hf, ← ds_drop hb _ _ (by omega)]
theorem hf_len {b : Nat} (hb : 2 ≤ b) (n : Nat) : (ds b (hf b n)).length = ((ds b n).length + 1) / 2 := by
  rw [hf_ds hb, List.length_drop]
  omega
theorem pal_made {b : Nat} (hb : 2 ≤ b) (n : Nat) : pal b n = true ↔ made b (hf b n) (ds b n).length = n := by
  constructor
  · intro h
    have h1 := of_decide_eq_true h
    rw [made_eq, hf_ds hb, pal_half h1, vl_ds hb]
  · intro h
    have hm := ds_pos hb n
    have h0 : (ds b n).length = 1 ∨ 0 < hf b n := by
      rcases Nat.eq_zero_or_pos n with z | z
      · left
        rw [z, ds_lo (by omega)]
        rfl
      · right
        have := ds_dn hb n z
        exact Nat.div_pos (Nat.le_trans (Nat.pow_le_pow_right (by omega) (by omega)) this) (Nat.pow_pos (by omega))
    have := made_pal hb hm (hf_len hb n) h0
    rw [h] at this
    exact this
/-! counts -/
def cnt (b m : Nat) : Nat := if m = 1 then b else (b - 1) * b ^ ((m - 1) / 2)
def lo (b m : Nat) : Nat := if m = 1 then 0 else b ^ ((m - 1) / 2)
def sm (b : Nat) : Nat → Nat
  | 0 => 0
  | m + 1 => sm b m + (if m = 0 then 0 else cnt b m)
def bl (b n : Nat) : Nat :=
  if n = 0 then 0 else sm b (ds b n).length + (hf b n - lo b (ds b n).length) + (if made b (hf b n) (ds b n).length < n then 1 else 0)
theorem cnt_lo {b m : Nat} (hb : 2 ≤ b) (hm : 0 < m) : cnt b m + lo b m = b ^ ((m + 1) / 2) := by
  unfold cnt lo
  by_cases h : m = 1
  · subst h
    simp
  · rw [if_neg h, if_neg h, show (m + 1) / 2 = (m - 1) / 2 + 1 by omega, Nat.pow_succ]
    obtain ⟨c, rfl⟩ : ∃ c, b = c + 1 := ⟨b - 1, by omega⟩
    rw [Nat.add_sub_cancel, Nat.mul_add, Nat.mul_one, Nat.mul_comm]
theorem lo_le {b n : Nat} (hb : 2 ≤ b) (hn : 0 < n) : lo b (ds b n).length ≤ hf b n := by
  unfold lo hf
  by_cases h : (ds b n).length = 1
  · rw [if_pos h]
    exact Nat.zero_le _
  · rw [if_neg h]
    have hm := ds_pos hb n
    have d := ds_dn hb n hn
    rw [Nat.le_div_iff_mul_le (Nat.pow_pos (by omega)), ← Nat.pow_add]
    rw [show ((ds b n).length - 1) / 2 + (ds b n).length / 2 = (ds b n).length - 1 by omega]
    exact d
theorem hf_lt {b : Nat} (hb : 2 ≤ b) (n : Nat) : hf b n < b ^ (((ds b n).length + 1) / 2) := by
  have := ds_up hb (hf b n)
  rw [hf_len hb] at this
  exact this
theorem pow_pred {b k : Nat} (hb : 2 ≤ b) : (ds b (b ^ (k + 1) - 1)).length = k + 1 := by
  have p : 0 < b ^ k := Nat.pow_pos (by omega)
  have e : b ^ (k + 1) = b ^ k * b := Nat.pow_succ ..
  have : b ^ k * 2 ≤ b ^ k * b := Nat.mul_le_mul_left _ hb
  exact ds_len hb (by omega) (by omega)
theorem vl_rep (b : Nat) (hb : 2 ≤ b) : ∀ k, vl b (List.replicate k (b - 1)) = b ^ k - 1
  | 0 => by simp [vl]
  | k + 1 => by
    show (b - 1) + b * vl b (List.replicate k (b - 1)) = _
    rw [vl_rep b hb k, Nat.pow_succ]
    have p : 0 < b ^ k := Nat.pow_pos (by omega)
    have : b * 1 ≤ b * b ^ k := Nat.mul_le_mul_left b p
    rw [Nat.mul_sub, Nat.mul_comm (b ^ k) b]
    omega
theorem pal_pred {b k : Nat} (hb : 2 ≤ b) : pal b (b ^ (k + 1) - 1) = true := by
  have e : ds b (b ^ (k + 1) - 1) = List.replicate (k + 1) (b - 1) := by
    rw [← vl_rep b hb]
    refine ds_vl hb (fun d h => ?_) (Or.inr ⟨b - 1, ?_, by omega⟩)
    · rw [(List.mem_replicate.mp h).2]
      omega
    · rw [List.getLast?_replicate]
      simp
  unfold pal
  rw [e, List.reverse_replicate]
  exact decide_eq_true rfl
theorem bl_succ {b : Nat} (hb : 2 ≤ b) (n : Nat) : bl b (n + 1) = bl b n + (if pal b n = true then 1 else 0) := by
  rcases Nat.eq_zero_or_pos n with z | hn
  · subst z
    have e1 : ds b 1 = [1] := ds_lo (by omega)
    have e0 : hf b 1 = 1 := by
      unfold hf
      rw [e1]
      simp
    rw [pal_lo (by omega : 0 < b), if_pos rfl]
    unfold bl
    rw [if_neg (by omega), if_pos rfl, e0, e1]
    have : made b 1 1 = 1 := by
      unfold made fig
      rw [e1]
      simp [val]
    simp [lo, sm, this]
  · have hm := ds_pos hb n
    have up := ds_up hb n
    have dn := ds_dn hb n hn
    have dl := hf_len hb n
    obtain ⟨r, er, hr⟩ := made_form hb hm dl
    have lle := lo_le hb hn
    have hp : 0 < b ^ ((ds b n).length / 2) := Nat.pow_pos (by omega)
    have hdm : b ^ ((ds b n).length / 2) * hf b n + n % b ^ ((ds b n).length / 2) = n := Nat.div_add_mod n _
    have hml : n % b ^ ((ds b n).length / 2) < b ^ ((ds b n).length / 2) := Nat.mod_lt _ hp
    have pm := pal_made hb n
    by_cases hc : n + 1 < b ^ (ds b n).length
    · -- as many figures
      have hl : (ds b (n + 1)).length = (ds b n).length := by
        have := ds_len hb (m := (ds b n).length - 1) (n := n + 1) (by omega) (by rw [show (ds b n).length - 1 + 1 = (ds b n).length by omega]; exact hc)
        omega
      have e1 : bl b (n + 1) = sm b (ds b n).length + (hf b (n + 1) - lo b (ds b n).length) + (if made b (hf b (n + 1)) (ds b n).length < n + 1 then 1 else 0) := by
        unfold bl
        rw [if_neg (by omega), hl]
      have e2 : bl b n = sm b (ds b n).length + (hf b n - lo b (ds b n).length) + (if made b (hf b n) (ds b n).length < n then 1 else 0) := by
        unfold bl
        rw [if_neg (by omega)]
      have dl' := hf_len hb (n + 1)
      rw [hl] at dl'
      obtain ⟨r', er', hr'⟩ := made_form hb hm dl'
      have hdm' : b ^ ((ds b n).length / 2) * hf b (n + 1) + (n + 1) % b ^ ((ds b n).length / 2) = n + 1 := by
        unfold hf
        rw [hl]
        exact Nat.div_add_mod (n + 1) _
      have hml' : (n + 1) % b ^ ((ds b n).length / 2) < b ^ ((ds b n).length / 2) := Nat.mod_lt _ hp
      rw [e1, e2]
      generalize hq : b ^ ((ds b n).length / 2) = q at *
      by_cases hs : hf b (n + 1) = hf b n
      · rw [hs]
        by_cases hpn : pal b n = true
        · have := pm.mp hpn
          rw [if_pos hpn, this, if_pos (by omega), if_neg (by omega)]
        · have : made b (hf b n) (ds b n).length ≠ n := fun z => hpn (pm.mpr z)
          rw [if_neg hpn]
          by_cases hlt : made b (hf b n) (ds b n).length < n
          · rw [if_pos hlt, if_pos (by omega)]
          · rw [if_neg hlt, if_neg (by omega)]
      · have hs2 : hf b (n + 1) = hf b n + 1 := by
          have g1 : hf b n ≤ hf b (n + 1) := by
            have : hf b (n + 1) = (n + 1) / q := by rw [← hq]; unfold hf; rw [hl]
            have h2 : hf b n = n / q := by rw [← hq]; rfl
            rw [this, h2]
            exact Nat.div_le_div_right (by omega)
          have g2 : q * hf b (n + 1) < q * (hf b n + 2) := by
            rw [Nat.mul_add]
            omega
          have g3 := Nat.lt_of_mul_lt_mul_left g2
          omega
        rw [hs2] at hdm' er' ⊢
        rw [Nat.mul_add, Nat.mul_one] at hdm' er'
        have z0 : (n + 1) % q = 0 := by omega
        have c1 : ¬ made b (hf b n + 1) (ds b n).length < n + 1 := by omega
        rw [if_neg c1]
        by_cases hpn : pal b n = true
        · have := pm.mp hpn
          rw [if_pos hpn, if_neg (by omega)]
          omega
        · have : made b (hf b n) (ds b n).length ≠ n := fun z => hpn (pm.mpr z)
          rw [if_neg hpn, if_pos (by omega)]
          omega
    · -- a figure more
      have hb1 : n + 1 = b ^ (ds b n).length := by omega
      generalize hmm : (ds b n).length = m at *
      obtain ⟨k, rfl⟩ : ∃ k, m = k + 1 := ⟨m - 1, by omega⟩
      have hnp : n = b ^ (k + 1) - 1 := by omega
      have hpn : pal b n = true := by
        rw [hnp]
        exact pal_pred hb
      have hpm := pm.mp hpn
      have hl : (ds b (n + 1)).length = k + 2 := by
        rw [hb1]
        exact ds_len hb (Nat.le_refl _) (by rw [Nat.pow_succ b (k + 1)]; have : 0 < b ^ (k + 1) := Nat.pow_pos (by omega); have : b ^ (k + 1) * 2 ≤ b ^ (k + 1) * b := Nat.mul_le_mul_left _ hb; omega)
      have hh : hf b (n + 1) = b ^ ((k + 1) / 2) := by
        unfold hf
        rw [hl, hb1]
        rw [show b ^ (k + 1) = b ^ ((k + 1) / 2) * b ^ ((k + 2) / 2) by rw [← Nat.pow_add]; congr 1; omega]
        exact Nat.mul_div_cancel _ (Nat.pow_pos (by omega))
      have hlo : lo b (k + 2) = b ^ ((k + 1) / 2) := by
        unfold lo
        rw [if_neg (by omega)]
        rfl
      have hcl := cnt_lo (b := b) (m := k + 1) hb (by omega)
      have hhn : hf b n + 1 = b ^ ((k + 1 + 1) / 2) := by
        have g : hf b n = (b ^ (k + 1) - 1) / b ^ ((k + 1) / 2) := by
          unfold hf
          rw [hmm, ← hnp]
        have e : b ^ (k + 1) = b ^ ((k + 1 + 1) / 2) * b ^ ((k + 1) / 2) := by
          rw [← Nat.pow_add]
          congr 1
          omega
        have p1 : 0 < b ^ ((k + 1 + 1) / 2) := Nat.pow_pos (by omega)
        have p2 : 0 < b ^ ((k + 1) / 2) := Nat.pow_pos (by omega)
        rw [g, e]
        have : (b ^ ((k + 1 + 1) / 2) * b ^ ((k + 1) / 2) - 1) / b ^ ((k + 1) / 2) = b ^ ((k + 1 + 1) / 2) - 1 := by
          refine Nat.div_eq_of_lt_le ?_ ?_
          · rw [Nat.sub_mul, Nat.one_mul]
            omega
          · rw [show b ^ ((k + 1 + 1) / 2) - 1 + 1 = b ^ ((k + 1 + 1) / 2) by omega]
            have : 0 < b ^ ((k + 1 + 1) / 2) * b ^ ((k + 1) / 2) := Nat.mul_pos p1 p2
            omega
        rw [this]
        omega
      have dl' := hf_len hb (n + 1)
      rw [hl] at dl'
      obtain ⟨r', er', hr'⟩ := made_form hb (show 0 < k + 2 by omega) dl'
      have big : ¬ made b (hf b (n + 1)) (k + 2) < n + 1 := by
        rw [er', hh, hb1]
        rw [← Nat.pow_add, show (k + 2) / 2 + (k + 1) / 2 = k + 1 by omega]
        omega
      have e1 : bl b (n + 1) = sm b (k + 2) + (hf b (n + 1) - lo b (k + 2)) + 0 := by
        unfold bl
        rw [if_neg (by omega), hl, if_neg big]
      have e2 : bl b n = sm b (k + 1) + (hf b n - lo b (k + 1)) + 0 := by
        unfold bl
        rw [if_neg (by omega), hmm, hpm, if_neg (by omega)]
      have e3 : sm b (k + 2) = sm b (k + 1) + cnt b (k + 1) := by
        show sm b (k + 1) + (if k + 1 = 0 then 0 else cnt b (k + 1)) = _
        rw [if_neg (by omega)]
      rw [e1, e2, e3, hh, hlo, if_pos hpn]
      omega
/-! the number of a count -/
def nbF (b : Nat) : Nat → Nat → Nat → Nat
  | 0, m, l => made b (b ^ ((m - 1) / 2) + l) m
  | f + 1, m, l => if cnt b m - (if m = 1 then 1 else 0) ≤ l then nbF b f (m + 1) (l - (cnt b m - (if m = 1 then 1 else 0))) else made b (b ^ ((m - 1) / 2) + l) m
def nb (b a : Nat) : Nat := if a = 0 then 0 else nbF b a 1 (a - 1)
theorem cnt_pos {b m : Nat} (hb : 2 ≤ b) : 1 ≤ cnt b m - (if m = 1 then 1 else 0) := by
  unfold cnt
  by_cases h : m = 1
  · rw [if_pos h, if_pos h]
    omega
  · rw [if_neg h, if_neg h]
    have : 1 * 1 ≤ (b - 1) * b ^ ((m - 1) / 2) := Nat.mul_le_mul (by omega) (Nat.pow_pos (by omega))
    omega
theorem bl_made {b h m : Nat} (hb : 2 ≤ b) (hm : 0 < m) (h1 : lo b m ≤ h) (h2 : h < b ^ ((m + 1) / 2)) (h0 : 0 < h) : bl b (made b h m) = sm b m + (h - lo b m) ∧ pal b (made b h m) = true ∧ (ds b (made b h m)).length = m ∧ 0 < made b h m := by
  have hd : (ds b h).length = (m + 1) / 2 := by
    by_cases e : m = 1
    · subst e
      have : h < b := by simpa using h2
      rw [ds_lo this]
      rfl
    · unfold lo at h1
      rw [if_neg e] at h1
      have := ds_len hb (m := (m - 1) / 2) h1 (by rw [show (m - 1) / 2 + 1 = (m + 1) / 2 by omega]; exact h2)
      omega
  have hl := made_len hb hm hd (Or.inr h0)
  have hp := made_pal hb hm hd (Or.inr h0)
  have hv := made_div hb hm hd
  obtain ⟨r, er, hr⟩ := made_form hb hm hd
  have hpos : 0 < made b h m := by
    have : 1 * 1 ≤ b ^ (m / 2) * h := Nat.mul_le_mul (Nat.pow_pos (by omega)) h0
    omega
  have hh : hf b (made b h m) = h := by
    unfold hf
    rw [hl]
    exact hv
  refine ⟨?_, hp, hl, hpos⟩
  unfold bl
  rw [if_neg (by omega), hl, hh, if_neg (by omega)]
  rfl
theorem nbF_ok {b : Nat} (hb : 2 ≤ b) : ∀ f m l, 0 < m → l < f + 1 → ∃ m' l', 0 < m' ∧ nbF b f m l = made b (b ^ ((m' - 1) / 2) + l') m' ∧ l' + (if m' = 1 then 1 else 0) < cnt b m' ∧ sm b m' + l' + (if m' = 1 then 1 else 0) = sm b m + l + (if m = 1 then 1 else 0)
  | 0, m, l, hm, hl => by
    have := cnt_pos (m := m) hb
    exact ⟨m, l, hm, rfl, by split <;> simp_all <;> omega, rfl⟩
  | f + 1, m, l, hm, hl => by
    have hc := cnt_pos (m := m) hb
    unfold nbF
    by_cases h : cnt b m - (if m = 1 then 1 else 0) ≤ l
    · rw [if_pos h]
      obtain ⟨m', l', a1, a2, a3, a4⟩ := nbF_ok hb f (m + 1) (l - (cnt b m - (if m = 1 then 1 else 0))) (by omega) (by omega)
      refine ⟨m', l', a1, a2, a3, ?_⟩
      rw [a4]
      show sm b m + (if m = 0 then 0 else cnt b m) + _ + _ = _
      rw [if_neg (by omega), if_neg (show ¬ m + 1 = 1 by omega)]
      by_cases e : m = 1
      · rw [if_pos e] at h hc ⊢
        omega
      · rw [if_neg e] at h hc ⊢
        omega
    · rw [if_neg h]
      exact ⟨m, l, hm, rfl, by omega, rfl⟩
theorem nb_ok {b : Nat} (hb : 2 ≤ b) (a : Nat) : bl b (nb b a) = a ∧ pal b (nb b a) = true := by
  unfold nb
  by_cases h : a = 0
  · rw [if_pos h, h]
    exact ⟨rfl, pal_lo (by omega)⟩
  · rw [if_neg h]
    obtain ⟨m, l, hm, e, h1, h2⟩ := nbF_ok hb a 1 (a - 1) (by omega) (by omega)
    rw [e]
    have hcl := cnt_lo (b := b) (m := m) hb hm
    have p : 0 < b ^ ((m - 1) / 2) := Nat.pow_pos (by omega)
    have hlo : lo b m + (if m = 1 then 1 else 0) = b ^ ((m - 1) / 2) := by
      unfold lo
      by_cases z : m = 1
      · subst z
        rfl
      · rw [if_neg z, if_neg z]
        rfl
    obtain ⟨q1, q2, q3, q4⟩ := bl_made (b := b) (h := b ^ ((m - 1) / 2) + l) (m := m) hb hm (by omega) (by omega) (by omega)
    refine ⟨?_, q2⟩
    rw [q1]
    have : sm b 1 = 0 := rfl
    rw [this, if_pos rfl] at h2
    omega
/-! what follows: bl counts, nb numbers -/
theorem bl_mono {b : Nat} (hb : 2 ≤ b) {m n : Nat} (h : m ≤ n) : bl b m ≤ bl b n := by
  induction h with
  | refl => exact Nat.le_refl _
  | step _ ih =>
    rw [bl_succ hb]
    omega
theorem bl_lt {b : Nat} (hb : 2 ≤ b) {m n : Nat} (h : m < n) (hp : pal b m = true) : bl b m < bl b n := by
  have h1 := bl_mono hb (show m + 1 ≤ n from h)
  rw [bl_succ hb, if_pos hp] at h1
  omega
theorem nb_lt {b : Nat} (hb : 2 ≤ b) {i j : Nat} (h : i < j) : nb b i < nb b j := by
  rcases Nat.lt_or_ge (nb b i) (nb b j) with g | g
  · exact g
  · have := bl_mono hb g
    rw [(nb_ok hb i).1, (nb_ok hb j).1] at this
    omega
theorem nb_bl {b : Nat} (hb : 2 ≤ b) {n : Nat} (hp : pal b n = true) : nb b (bl b n) = n := by
  have h := (nb_ok hb (bl b n)).1
  have q := (nb_ok hb (bl b n)).2
  rcases Nat.lt_trichotomy (nb b (bl b n)) n with g | g | g
  · have := bl_lt hb g q
    omega
  · exact g
  · have := bl_lt hb g hp
    omega
theorem bl_zero (b : Nat) : bl b 0 = 0 := rfl
/-- the numbers below n that read alike -/
def pals (b n : Nat) : List Nat := (List.range n).filter (pal b)
theorem pals_len {b : Nat} (hb : 2 ≤ b) : ∀ n, (pals b n).length = bl b n
  | 0 => rfl
  | n + 1 => by
    have ih := pals_len hb n
    unfold pals at ih ⊢
    rw [List.range_succ, List.filter_append, List.length_append, ih, bl_succ hb, List.filter_cons]
    by_cases h : pal b n = true
    · rw [if_pos h, if_pos h]
      rfl
    · rw [if_neg h, if_neg h]
      rfl
end Bm
namespace Bm
theorem nbF_eq {b : Nat} (hb : 2 ≤ b) : ∀ f g m l, l ≤ f → l ≤ g → nbF b f m l = nbF b g m l
  | 0, 0, m, l, _, _ => rfl
  | 0, g + 1, m, l, h, _ => by
    have hc := cnt_pos (m := m) hb
    have : l = 0 := by omega
    subst this
    unfold nbF
    rw [if_neg (by omega)]
  | f + 1, 0, m, l, _, h => by
    have hc := cnt_pos (m := m) hb
    have : l = 0 := by omega
    subst this
    unfold nbF
    rw [if_neg (by omega)]
  | f + 1, g + 1, m, l, h1, h2 => by
    have hc := cnt_pos (m := m) hb
    unfold nbF
    by_cases h : cnt b m - (if m = 1 then 1 else 0) ≤ l
    · rw [if_pos h, if_pos h, nbF_eq hb f g _ _ (by omega) (by omega)]
    · rw [if_neg h, if_neg h]
def nbG (b m l : Nat) : Nat := nbF b l m l
theorem nbG_lo {b m l : Nat} (hb : 2 ≤ b) (h : l < cnt b m - (if m = 1 then 1 else 0)) : nbG b m l = made b (b ^ ((m - 1) / 2) + l) m := by
  unfold nbG
  cases l with
  | zero => rfl
  | succ k =>
    unfold nbF
    rw [if_neg (by omega)]
theorem nbG_hi {b m l : Nat} (hb : 2 ≤ b) (h : cnt b m - (if m = 1 then 1 else 0) ≤ l) : nbG b m l = nbG b (m + 1) (l - (cnt b m - (if m = 1 then 1 else 0))) := by
  have hc := cnt_pos (m := m) hb
  unfold nbG
  cases l with
  | zero => omega
  | succ k =>
    rw [show nbF b (k + 1) m (k + 1) = nbF b k (m + 1) (k + 1 - (cnt b m - (if m = 1 then 1 else 0))) by
      conv => lhs; unfold nbF
      rw [if_pos h]]
    exact nbF_eq hb _ _ _ _ (by omega) (by omega)
theorem nb_G {b a : Nat} (hb : 2 ≤ b) (h : 0 < a) : nb b a = nbG b 1 (a - 1) := by
  unfold nb nbG
  rw [if_neg (by omega)]
  exact nbF_eq hb _ _ _ _ (by omega) (by omega)
theorem sm_succ {b m : Nat} (hm : 0 < m) : sm b (m + 1) = sm b m + cnt b m := by
  show sm b m + (if m = 0 then 0 else cnt b m) = _
  rw [if_neg (by omega)]
theorem sm_ge {b m : Nat} (hb : 2 ≤ b) (hm : 2 ≤ m) : b ^ ((m - 2) / 2) ≤ sm b m := by
  obtain ⟨k, rfl⟩ : ∃ k, m = k + 2 := ⟨m - 2, by omega⟩
  rw [show k + 2 = (k + 1) + 1 from rfl, sm_succ (by omega)]
  have hc : b ^ (k / 2) ≤ cnt b (k + 1) := by
    unfold cnt
    by_cases h : k + 1 = 1
    · rw [if_pos h]
      have : k = 0 := by omega
      subst this
      simp
      omega
    · rw [if_neg h]
      have : 1 * b ^ (k / 2) ≤ (b - 1) * b ^ (k / 2) := Nat.mul_le_mul_right _ (by omega)
      rw [Nat.one_mul] at this
      exact this
  show b ^ (k / 2) ≤ _
  omega
theorem m_bound {b m e : Nat} (hb : 2 ≤ b) (h : sm b m < 2 ^ e) : m ≤ 2 * e + 1 := by
  rcases Nat.lt_or_ge m 2 with z | z
  · omega
  · have h1 := sm_ge hb z
    have h2 : 2 ^ ((m - 2) / 2) ≤ b ^ ((m - 2) / 2) := Nat.pow_le_pow_left hb _
    have := pow_lt (b := 2) (by omega) (Nat.lt_of_le_of_lt (Nat.le_trans h2 h1) h)
    omega
theorem sm_le_bl {b n : Nat} (hn : 0 < n) : sm b (ds b n).length ≤ bl b n := by
  unfold bl
  rw [if_neg (by omega)]
  omega
theorem size_of_bl {b n : Nat} (hb : 2 ≤ b) (hb2 : b ≤ 1000) (h : bl b n < 2 ^ 700) : n < 2 ^ 14010 := by
  rcases Nat.eq_zero_or_pos n with z | z
  · subst z
    exact Nat.pow_pos (by decide)
  · have h1 := m_bound hb (Nat.lt_of_le_of_lt (sm_le_bl z) h)
    have h2 := ds_up hb n
    have h3 : b ^ (ds b n).length ≤ 1024 ^ (ds b n).length := Nat.pow_le_pow_left (by omega) _
    have h4 : (1024 : Nat) ^ (ds b n).length ≤ 1024 ^ 1401 := Nat.pow_le_pow_right (by decide) (by omega)
    have h5 : (1024 : Nat) ^ 1401 = 2 ^ (10 * 1401) := by rw [Nat.pow_mul]
    rw [h5] at h4
    exact Nat.lt_of_lt_of_le h2 (Nat.le_trans h3 h4)
theorem pow_le_two {b m : Nat} (hb2 : b ≤ 1000) : b ^ m ≤ 2 ^ (10 * m) := by
  rw [Nat.pow_mul]
  exact Nat.pow_le_pow_left (by omega) _
theorem bl_pow {b m : Nat} (hb : 2 ≤ b) (hm : 0 < m) : bl b (b ^ m) = sm b (m + 1) := by
  have p : 0 < b ^ m := Nat.pow_pos (by omega)
  have hl : (ds b (b ^ m)).length = m + 1 := ds_len hb (Nat.le_refl _) (by
    rw [Nat.pow_succ]
    have : b ^ m * 2 ≤ b ^ m * b := Nat.mul_le_mul_left _ hb
    omega)
  have hh : hf b (b ^ m) = b ^ (m / 2) := by
    unfold hf
    rw [hl]
    rw [show b ^ m = b ^ (m / 2) * b ^ ((m + 1) / 2) by rw [← Nat.pow_add]; congr 1; omega]
    exact Nat.mul_div_cancel _ (Nat.pow_pos (by omega))
  have hlo : lo b (m + 1) = b ^ (m / 2) := by
    unfold lo
    rw [if_neg (by omega)]
    rfl
  have dl' := hf_len hb (b ^ m)
  rw [hl] at dl'
  obtain ⟨r', er', hr'⟩ := made_form hb (show 0 < m + 1 by omega) dl'
  have big : ¬ made b (hf b (b ^ m)) (m + 1) < b ^ m := by
    rw [er', hh, ← Nat.pow_add, show (m + 1) / 2 + m / 2 = m by omega]
    omega
  unfold bl
  rw [if_neg (by omega), hl, if_neg big, hh, hlo]
  omega
theorem hf_val {b : Nat} (hb : 2 ≤ b) (n : Nat) : val b ((fig b n).take (((ds b n).length + 1) / 2)) = hf b n := by
  have e : (fig b n).take (((ds b n).length + 1) / 2) = ((ds b n).drop ((ds b n).length / 2)).reverse := by
    unfold fig
    rw [List.take_reverse]
    congr 2
    omega
  rw [e, val_vl, ← hf_ds hb, vl_ds hb]
end Bm
namespace Bm
theorem bl_form {b : Nat} (hb : 2 ≤ b) {n : Nat} (hp : pal b n = true) : bl b n + lo b (ds b n).length = sm b (ds b n).length + hf b n := by
  rcases Nat.eq_zero_or_pos n with z | z
  · subst z
    have e : ds b 0 = [0] := ds_lo (by omega)
    have h0 : hf b 0 = 0 := by unfold hf; rw [Nat.zero_div]
    rw [h0, e, bl_zero]
    rfl
  · have h1 := lo_le hb z
    have h2 := (pal_made hb n).mp hp
    unfold bl
    rw [if_neg (by omega), if_neg (by omega)]
    omega
theorem half_next {b : Nat} (hb : 2 ≤ b) (a : Nat) (h : (ds b (nb b a)).length = (ds b (nb b (a + 1))).length) : hf b (nb b (a + 1)) = hf b (nb b a) + 1 := by
  have h1 := bl_form hb (nb_ok hb a).2
  have h2 := bl_form hb (nb_ok hb (a + 1)).2
  rw [(nb_ok hb a).1] at h1
  rw [(nb_ok hb (a + 1)).1, ← h] at h2
  omega
theorem mid_bl {b : Nat} (hb : 2 ≤ b) (a x : Nat) (h1 : nb b a < x) (h2 : x ≤ nb b (a + 1)) : bl b x = a + 1 := by
  have e1 := bl_mono hb (show nb b a + 1 ≤ x from h1)
  have e2 := bl_mono hb h2
  rw [bl_succ hb, (nb_ok hb a).1, if_pos (nb_ok hb a).2] at e1
  rw [(nb_ok hb (a + 1)).1] at e2
  omega
theorem ds_len_le {b m n : Nat} (hb : 2 ≤ b) (h : m ≤ n) : (ds b m).length ≤ (ds b n).length := by
  rcases Nat.eq_zero_or_pos m with z | z
  · subst z
    rw [ds_lo (by omega)]
    exact ds_pos hb n
  · have h1 := ds_dn hb m z
    have h2 := ds_up hb n
    have := pow_lt hb (Nat.lt_of_le_of_lt h1 (Nat.lt_of_le_of_lt h h2))
    omega
theorem ds_shift {b n : Nat} (hb : 2 ≤ b) (hn : 0 < n) (d : Nat) (hd : d < b) : ds b (b * n + d) = d :: ds b n := by
  have : b * 1 ≤ b * n := Nat.mul_le_mul_left b hn
  rw [ds_hi hb (by omega), Nat.mul_add_mod, Nat.mod_eq_of_lt hd, Nat.mul_add_div (by omega), Nat.div_eq_of_lt hd, Nat.add_zero]
theorem ds_pow {b : Nat} (hb : 2 ≤ b) : ∀ m, ds b (b ^ m) = List.replicate m 0 ++ [1]
  | 0 => by
    rw [Nat.pow_zero, ds_lo (by omega)]
    rfl
  | m + 1 => by
    have p : 0 < b ^ m := Nat.pow_pos (by omega)
    rw [Nat.pow_succ, Nat.mul_comm, ← Nat.add_zero (b * b ^ m), ds_shift hb p 0 (by omega), ds_pow hb m]
    rfl
theorem pal_pow {b m : Nat} (hb : 2 ≤ b) (hm : 0 < m) : pal b (b ^ m) = false := by
  obtain ⟨k, rfl⟩ : ∃ k, m = k + 1 := ⟨m - 1, by omega⟩
  unfold pal
  rw [ds_pow hb, decide_eq_false_iff_not, List.reverse_append]
  intro h
  have := congrArg List.head? h
  simp [List.replicate_succ] at this
theorem pal_pow_succ {b m : Nat} (hb : 2 ≤ b) (hm : 0 < m) : pal b (b ^ m + 1) = true := by
  obtain ⟨k, rfl⟩ : ∃ k, m = k + 1 := ⟨m - 1, by omega⟩
  have p : 0 < b ^ k := Nat.pow_pos (by omega)
  unfold pal
  rw [Nat.pow_succ, Nat.mul_comm, ds_shift hb p 1 (by omega), ds_pow hb k]
  simp
theorem bl_pow_succ {b m : Nat} (hb : 2 ≤ b) (hm : 0 < m) : bl b (b ^ m + 1) = sm b (m + 1) := by
  rw [bl_succ hb, pal_pow hb hm, bl_pow hb hm]
  rfl
theorem nb_pow_succ {b m : Nat} (hb : 2 ≤ b) (hm : 0 < m) : nb b (sm b (m + 1)) = b ^ m + 1 := by
  rw [← bl_pow_succ hb hm, nb_bl hb (pal_pow_succ hb hm)]
theorem bl_pow_pred {b m : Nat} (hb : 2 ≤ b) (hm : 0 < m) : bl b (b ^ m - 1) + 1 = sm b (m + 1) := by
  obtain ⟨k, rfl⟩ : ∃ k, m = k + 1 := ⟨m - 1, by omega⟩
  have p : 0 < b ^ (k + 1) := Nat.pow_pos (by omega)
  have := bl_succ hb (b ^ (k + 1) - 1)
  rw [pal_pred hb, if_pos rfl, show b ^ (k + 1) - 1 + 1 = b ^ (k + 1) by omega, bl_pow hb hm] at this
  exact this.symm
theorem nb_pow_pred {b m : Nat} (hb : 2 ≤ b) (hm : 0 < m) : nb b (sm b (m + 1) - 1) = b ^ m - 1 := by
  obtain ⟨k, rfl⟩ : ∃ k, m = k + 1 := ⟨m - 1, by omega⟩
  rw [← bl_pow_pred hb hm, Nat.add_sub_cancel, nb_bl hb (pal_pred hb)]
/-- where the next one has more figures -/
theorem next_longer {b : Nat} (hb : 2 ≤ b) (a : Nat) (h : (ds b (nb b a)).length ≠ (ds b (nb b (a + 1))).length) :
    nb b a = b ^ (ds b (nb b a)).length - 1 ∧ nb b (a + 1) = b ^ (ds b (nb b a)).length + 1 := by
  have hlt := nb_lt hb (show a < a + 1 by omega)
  have hl := ds_len_le hb (Nat.le_of_lt hlt)
  generalize hm : (ds b (nb b a)).length = m at *
  have hmp : 0 < m := by rw [← hm]; exact ds_pos hb _
  obtain ⟨k, rfl⟩ : ∃ k, m = k + 1 := ⟨m - 1, by omega⟩
  have up := ds_up hb (nb b a)
  rw [hm] at up
  have p : 0 < b ^ (k + 1) := Nat.pow_pos (by omega)
  have dn := ds_dn hb (nb b (a + 1)) (by omega)
  have dn2 : b ^ (k + 1) ≤ nb b (a + 1) := Nat.le_trans (Nat.pow_le_pow_right (by omega) (by omega)) dn
  have e1 : nb b a = b ^ (k + 1) - 1 := by
    rcases Nat.lt_or_ge (nb b a) (b ^ (k + 1) - 1) with z | z
    · have g := mid_bl hb a (b ^ (k + 1) - 1) z (by omega)
      have q := bl_lt hb (show b ^ (k + 1) - 1 < nb b (a + 1) by omega) (pal_pred hb)
      rw [g, (nb_ok hb (a + 1)).1] at q
      omega
    · omega
  refine ⟨e1, ?_⟩
  have e2 : a + 1 = sm b (k + 1 + 1) := by
    have g := bl_pow_pred hb hmp
    rw [← e1, (nb_ok hb a).1] at g
    exact g
  rw [e2, nb_pow_succ hb hmp]
end Bm
namespace Bm
/-! crossed: rows of figures, all numbers tried -/
def mn (a b : Nat) : Nat := if b < a then b else a
def rws (L : Nat) : Nat → List (List Nat)
  | 0 => [[]]
  | m + 1 => (rws L m).flatMap fun r => (List.range L).map fun d => r ++ [d]
def cnd (m a b : Nat) (r : List Nat) : Bool := (decide (m = 1) || decide (0 < r.getD 0 0 * r.getD (r.length - 1) 0)) && decide (val a r = val b r.reverse)
def fnd (m a b : Nat) : List Nat := ((rws (mn a b) m).filter (cnd m a b)).map (val a)
def due (m a b : Nat) : List Nat := (List.range (mn a b ^ m)).filter fun n => decide ((fig a n).length = m) && decide ((fig a n).reverse = fig b n)
theorem cross_all : ∀ m : Fin 3, ∀ a : Fin 11, ∀ b : Fin 11, (fnd (m.val + 1) (a.val + 2) (b.val + 2) == due (m.val + 1) (a.val + 2) (b.val + 2)) = true := by decide +kernel
end Bm
namespace Bm
theorem cross_ok {m a b : Nat} (hm : 1 ≤ m ∧ m ≤ 3) (ha : 2 ≤ a ∧ a ≤ 12) (hb : 2 ≤ b ∧ b ≤ 12) : fnd m a b = due m a b := by
  have h := cross_all ⟨m - 1, by omega⟩ ⟨a - 2, by omega⟩ ⟨b - 2, by omega⟩
  have e1 : m - 1 + 1 = m := by omega
  have e2 : a - 2 + 2 = a := by omega
  have e3 : b - 2 + 2 = b := by omega
  have h2 : (fnd (m - 1 + 1) (a - 2 + 2) (b - 2 + 2) == due (m - 1 + 1) (a - 2 + 2) (b - 2 + 2)) = true := h
  rw [e1, e2, e3] at h2
  exact eq_of_beq h2
theorem due_swap {m a b : Nat} : due m a b = due m b a := by
  have e : mn a b = mn b a := by
    unfold mn
    split <;> split <;> omega
  unfold due
  rw [e]
  congr 1
  funext n
  apply Bool.eq_iff_iff.mpr
  simp only [Bool.and_eq_true, decide_eq_true_eq]
  constructor
  · rintro ⟨h1, h2⟩
    refine ⟨?_, ?_⟩
    · rw [← h2, List.length_reverse]
      exact h1
    · rw [← h2, List.reverse_reverse]
  · rintro ⟨h1, h2⟩
    refine ⟨?_, ?_⟩
    · rw [← h2, List.length_reverse]
      exact h1
    · rw [← h2, List.reverse_reverse]
theorem due_sorted (m a b : Nat) : (due m a b).Pairwise (· < ·) := List.Pairwise.filter _ List.pairwise_lt_range
theorem rws_mem {L : Nat} : ∀ {m : Nat} {r : List Nat}, r ∈ rws L m → r.length = m ∧ ∀ d ∈ r, d < L
  | 0, r, h => by
    have : r = [] := by simpa [rws] using h
    subst this
    exact ⟨rfl, fun d hd => absurd hd List.not_mem_nil⟩
  | m + 1, r, h => by
    unfold rws at h
    rw [List.mem_flatMap] at h
    obtain ⟨r', h1, h2⟩ := h
    rw [List.mem_map] at h2
    obtain ⟨d, h3, rfl⟩ := h2
    obtain ⟨h4, h5⟩ := rws_mem h1
    refine ⟨by rw [List.length_append, h4]; rfl, fun e he => ?_⟩
    rcases List.mem_append.mp he with z | z
    · exact h5 e z
    · rw [List.mem_singleton.mp z]
      exact List.mem_range.mp h3
theorem flat_len {α β : Type} {L : Nat} (f : α → List β) (hf : ∀ x, (f x).length = L) : ∀ l : List α, (l.flatMap f).length = l.length * L
  | [] => by simp
  | x :: l => by
    rw [List.flatMap_cons, List.length_append, hf, flat_len f hf l, List.length_cons, Nat.add_mul]
    omega
theorem rws_len (L : Nat) : ∀ m, (rws L m).length = L ^ m
  | 0 => rfl
  | m + 1 => by
    unfold rws
    rw [flat_len _ (L := L) (fun r => by rw [List.length_map, List.length_range]), rws_len L m, Nat.pow_succ]
end Bm

set_option maxHeartbeats 4000000
namespace Bt
open PySem PySem.Spec PyProof.Rows L2 Evl
section
variable {X : Cx}
theorem op_mulX : OpR X (binaryOp .Mult) (rI IntMulOk fun i j => .int (i * j)) := opI fun _ _ _ _ _ _ _ hc q => mul_int q hc
end
theorem mulL {i j : Int} (h1 : -(2 ^ 64) < i) (h2 : i < 2 ^ 64) : IntMulOk i j := IntMulOk.of_left (intBits_le_64 h1 h2)
theorem mulR {i j : Int} (h1 : -(2 ^ 64) < j) (h2 : j < 2 ^ 64) : IntMulOk i j := IntMulOk.of_right (intBits_le_64 h1 h2)
/-! promises by the arguments' kinds -/
def spI1 (C : Int → Prop) (f : Int → V) : Sp := fun vs H Q _ => ∃ a, vs = [.int a] ∧ C a ∧ RetV (f a) H Q
def spI2 (C : Int → Int → Prop) (f : Int → Int → V) : Sp := fun vs H Q _ => ∃ a b, vs = [.int a, .int b] ∧ C a b ∧ RetV (f a b) H Q
def spI3 (C : Int → Int → Int → Prop) (f : Int → Int → Int → V) : Sp := fun vs H Q _ => ∃ a b c, vs = [.int a, .int b, .int c] ∧ C a b c ∧ RetV (f a b c) H Q
def spL2 (C : Int → Int → Prop) (f : Int → Int → List V) : Sp := fun vs H Q _ => ∃ a b, vs = [.int a, .int b] ∧ C a b ∧ RetL (f a b) H Q
def spL3 (C : Int → Int → Int → Prop) (f : Int → Int → Int → List V) : Sp := fun vs H Q _ => ∃ a b c, vs = [.int a, .int b, .int c] ∧ C a b c ∧ RetL (f a b c) H Q
def spL4 (C : Int → Int → Int → Int → Prop) (f : Int → Int → Int → Int → List V) : Sp := fun vs H Q _ => ∃ a b c d, vs = [.int a, .int b, .int c, .int d] ∧ C a b c d ∧ RetL (f a b c d) H Q
/-- a list of ints and an int -/
def spR (K : PySem.W.Frag) (C : List Int → Int → Prop) (f : List Int → Int → V) : Sp := fun vs H Q _ => ∃ (p : Addr) (xs : List Int) (b : Int), vs = [.ref p, .int b] ∧ SqL K H p (xs.map V.int) ∧ C xs b ∧ RetV (f xs b) H Q
section
variable {K : PySem.W.Frag} {σ : L2.St} {H H' : Hp} {ta tb te tx : TE} {t u : TT} {x y z v : V} {D : Ends} {tu tw tz : TS} {g : TG}
theorem sv1 {C : Int → Prop} {f : Int → V} {a : Int} (h : C a) : SpV (spI1 C f) [.int a] H (f a) := fun _ _ _ q _ => ⟨a, rfl, h, q⟩
theorem sv2 {C : Int → Int → Prop} {f : Int → Int → V} {a b : Int} (h : C a b) : SpV (spI2 C f) [.int a, .int b] H (f a b) := fun _ _ _ q _ => ⟨a, b, rfl, h, q⟩
theorem sv3 {C : Int → Int → Int → Prop} {f : Int → Int → Int → V} {a b c : Int} (h : C a b c) : SpV (spI3 C f) [.int a, .int b, .int c] H (f a b c) := fun _ _ _ q _ => ⟨a, b, c, rfl, h, q⟩
theorem sl2 {C : Int → Int → Prop} {f : Int → Int → List V} {a b : Int} (h : C a b) : SpL (spL2 C f) [.int a, .int b] H (f a b) := fun _ _ _ q _ => ⟨a, b, rfl, h, q⟩
theorem sl3 {C : Int → Int → Int → Prop} {f : Int → Int → Int → List V} {a b c : Int} (h : C a b c) : SpL (spL3 C f) [.int a, .int b, .int c] H (f a b c) := fun _ _ _ q _ => ⟨a, b, c, rfl, h, q⟩
theorem sl4 {C : Int → Int → Int → Int → Prop} {f : Int → Int → Int → Int → List V} {a b c d : Int} (h : C a b c d) : SpL (spL4 C f) [.int a, .int b, .int c, .int d] H (f a b c d) := fun _ _ _ q _ => ⟨a, b, c, d, rfl, h, q⟩
theorem svR {C : List Int → Int → Prop} {f : List Int → Int → V} {p : Addr} {xs : List Int} {b : Int} (hs : SqL K H p (xs.map V.int)) (h : C xs b) : SpV (spR K C f) [.ref p, .int b] H (f xs b) := fun _ e _ q _ => ⟨p, xs, b, rfl, ex_l e hs, h, q⟩
/-! calls by their argument's readings -/
variable {E : XK}
theorem ec1 {C : Int → Prop} {f : Int → V} {a : Int} (h1 : Ev ta σ H (.int a)) (h : C a) : Ev (tCall (spI1 C f) [] E (tCons ta tNil)) σ H (f a) := ev_call (ea_cons h1 ea_nil) (sv1 h)
theorem ec2 {C : Int → Int → Prop} {f : Int → Int → V} {a b : Int} (h1 : Ev ta σ H (.int a)) (h2 : Ev tb σ H (.int b)) (h : C a b) : Ev (tCall (spI2 C f) [] E (tCons ta (tCons tb tNil))) σ H (f a b) := ev_call (ea_cons h1 (ea_cons h2 ea_nil)) (sv2 h)
theorem ec3 {tc : TE} {C : Int → Int → Int → Prop} {f : Int → Int → Int → V} {a b c : Int} (h1 : Ev ta σ H (.int a)) (h2 : Ev tb σ H (.int b)) (h3 : Ev tc σ H (.int c)) (h : C a b c) : Ev (tCall (spI3 C f) [] E (tCons ta (tCons tb (tCons tc tNil)))) σ H (f a b c) := ev_call (ea_cons h1 (ea_cons h2 (ea_cons h3 ea_nil))) (sv3 h)
theorem el2 {C : Int → Int → Prop} {f : Int → Int → List V} {a b : Int} (h1 : Ev ta σ H (.int a)) (h2 : Ev tb σ H (.int b)) (h : C a b) : EvL (tCall (spL2 C f) [] E (tCons ta (tCons tb tNil))) σ H (f a b) := el_call (ea_cons h1 (ea_cons h2 ea_nil)) (sl2 h)
theorem el3 {tc : TE} {C : Int → Int → Int → Prop} {f : Int → Int → Int → List V} {a b c : Int} (h1 : Ev ta σ H (.int a)) (h2 : Ev tb σ H (.int b)) (h3 : Ev tc σ H (.int c)) (h : C a b c) : EvL (tCall (spL3 C f) [] E (tCons ta (tCons tb (tCons tc tNil)))) σ H (f a b c) := el_call (ea_cons h1 (ea_cons h2 (ea_cons h3 ea_nil))) (sl3 h)
theorem el4 {tc td : TE} {C : Int → Int → Int → Int → Prop} {f : Int → Int → Int → Int → List V} {a b c d : Int} (h1 : Ev ta σ H (.int a)) (h2 : Ev tb σ H (.int b)) (h3 : Ev tc σ H (.int c)) (h4 : Ev td σ H (.int d)) (h : C a b c d) : EvL (tCall (spL4 C f) [] E (tCons ta (tCons tb (tCons tc (tCons td tNil))))) σ H (f a b c d) := el_call (ea_cons h1 (ea_cons h2 (ea_cons h3 (ea_cons h4 ea_nil)))) (sl4 h)
theorem ecR {C : List Int → Int → Prop} {f : List Int → Int → V} {p : Addr} {xs : List Int} {b : Int} (h1 : Ev ta σ H (.ref p)) (hs : SqL K H p (xs.map V.int)) (h2 : Ev tb σ H (.int b)) (h : C xs b) : Ev (tCall (spR K C f) [] E (tCons ta (tCons tb tNil))) σ H (f xs b) := ev_call (ea_cons h1 (ea_cons h2 ea_nil)) (svR hs h)
theorem ecRN {C : List Int → Int → Prop} {f : List Int → Int → V} {xs : List Int} {b : Int} (h1 : EvL ta σ H (xs.map V.int)) (h2 : Ev tb σ H (.int b)) (h : C xs b) : Ev (tCall (spR K C f) [] E (tCons ta (tCons tb tNil))) σ H (f xs b) := fun H1 e Q q =>
  h1 H1 e _ fun p H2 _ e2 hp => h2 H2 (e.trans e2) _ fun H3 e3 => ⟨p, xs, b, rfl, sq_of (e3 p _ hp), h, fun H4 e4 => q H4 ((e2.trans e3).trans e4)⟩
/-! lists -/
theorem el_rev {a : Addr} {xs : List V} (h : Ev te σ H (.ref a)) (hs : SqL K H a xs) : EvL (tRevL K te) σ H xs.reverse := fun H1 e Q q =>
  h H1 e _ fun H2 e2 => ⟨a, xs, rfl, ex_l (e.trans e2) hs, fun p hp => q p _ (fresh_back e2 hp) (e2.trans (Ex.new hp)) upd_same⟩
theorem el_revN {xs : List V} (h : EvL te σ H xs) : EvL (tRevL K te) σ H xs.reverse := fun H1 e Q q =>
  h H1 e _ fun a H2 _ e2 ha => ⟨a, xs, rfl, sq_of ha, fun p hp => q p _ (fresh_back e2 hp) (e2.trans (Ex.new hp)) upd_same⟩
theorem el_slN {tl th : TO} {xs : List V} {lo hi : Option Int} (h : EvL te σ H xs) (h1 : EvO tl σ H lo) (h2 : EvO th σ H hi) : EvL (tSl (rSlL K) te tl th) σ H (cutV xs lo hi) := fun H1 e _ q =>
  h H1 e _ fun a H2 _ e2 ha => h1 H2 (e.trans e2) _ fun H3 e3 => h2 H3 ((e.trans e2).trans e3) _ fun H4 e4 =>
    ⟨a, xs, rfl, sq_of (e4 a _ (e3 a _ ha)), fun p hp => q p _ (fresh_back ((e2.trans e3).trans e4) hp) (((e2.trans e3).trans e4).trans (Ex.new hp)) upd_same⟩
theorem rcl_cat {l b : Addr} {xs zs : List V} {H1 : Hp} {Q : VK} (hl : H1 l = some (.lst xs)) (hb : H1 b = some (.lst zs)) (hz : xs.length + zs.length ≤ 100000) (q : ∀ p H2, H1 p = none → Ex H1 H2 → H2 p = some (.lst (xs ++ zs)) → Q (.ref p) H2) : rCat (.ref l) (.ref b) H1 Q :=
  ⟨l, b, xs, zs, rfl, rfl, hl, hb, sz_of hz, fun p hp => q p _ hp (Ex.new hp) upd_same⟩
/-- two lists joined: the first, the second a variable's or a new one -/
theorem el_cat {l b : Addr} {xs zs : List V} (h1 : Ev ta σ H (.ref l)) (hl : H l = some (.lst xs)) (h2 : Ev tb σ H (.ref b)) (hb : H b = some (.lst zs)) (hz : xs.length + zs.length ≤ 100000) : EvL (tOp rCat ta tb) σ H (xs ++ zs) := fun H1 e Q q =>
  h1 H1 e _ fun H2 e2 => h2 H2 (e.trans e2) _ fun H3 e3 => rcl_cat (e3 l _ (e2 l _ (e l _ hl))) (e3 b _ (e2 b _ (e b _ hb))) hz fun p H4 hp e4 h4 => q p H4 (fresh_back (e2.trans e3) hp) ((e2.trans e3).trans e4) h4
theorem el_catN {l : Addr} {xs zs : List V} (h1 : Ev ta σ H (.ref l)) (hl : H l = some (.lst xs)) (h2 : EvL tb σ H zs) (hz : xs.length + zs.length ≤ 100000) : EvL (tOp rCat ta tb) σ H (xs ++ zs) := fun H1 e Q q =>
  h1 H1 e _ fun H2 e2 => h2 H2 (e.trans e2) _ fun b H3 _ e3 hb => rcl_cat (e3 l _ (e2 l _ (e l _ hl))) hb hz fun p H4 hp e4 h4 => q p H4 (fresh_back (e2.trans e3) hp) ((e2.trans e3).trans e4) h4
theorem el_catN1 {b : Addr} {xs zs : List V} (h1 : EvL ta σ H xs) (h2 : Ev tb σ H (.ref b)) (hb : H b = some (.lst zs)) (hz : xs.length + zs.length ≤ 100000) : EvL (tOp rCat ta tb) σ H (xs ++ zs) := fun H1 e Q q =>
  h1 H1 e _ fun l H2 _ e2 hl => h2 H2 (e.trans e2) _ fun H3 e3 => rcl_cat (e3 l _ hl) (e3 b _ (e2 b _ (e b _ hb))) hz fun p H4 hp e4 h4 => q p H4 (fresh_back (e2.trans e3) hp) ((e2.trans e3).trans e4) h4
theorem el_catNN {xs zs : List V} (h1 : EvL ta σ H xs) (h2 : EvL tb σ H zs) (hz : xs.length + zs.length ≤ 100000) : EvL (tOp rCat ta tb) σ H (xs ++ zs) := fun H1 e Q q =>
  h1 H1 e _ fun l H2 _ e2 hl => h2 H2 (e.trans e2) _ fun b H3 _ e3 hb => rcl_cat (e3 l _ hl) hb hz fun p H4 hp e4 h4 => q p H4 (fresh_back (e2.trans e3) hp) ((e2.trans e3).trans e4) h4
/-! == of lists of ints -/
theorem dp_ints (K : PySem.W.Frag) (H : Hp) : ∀ xs : List Int, DpAll K H (xs.map V.int) (xs.map PyData.int)
  | [] => .nil
  | x :: r => .cons (.int x) (dp_ints K H r)
theorem eqv_ints (xs ys : List Int) : PyData.eqv (.list (xs.map PyData.int)) (.list (ys.map PyData.int)) = decide (xs = ys) := by
  induction xs generalizing ys with
  | nil =>
    cases ys with
    | nil => rfl
    | cons y r => rfl
  | cons x r ih =>
    cases ys with
    | nil => rfl
    | cons y r2 =>
      have h := ih r2
      simp only [PyData.eqv] at h ⊢
      simp only [List.map_cons, PyData.eqvAll, PyData.eqv] at h ⊢
      rw [h]
      by_cases e : x = y
      · subst e
        simp
      · simp [e]
end
theorem shaped_ints (ns : List Int) : SeqAt.shaped (.list (ns.map PyData.int)) = true := by
  have h1 : ∀ l : List Int, PyData.canLayAll0 (l.map PyData.int) = true := fun l => by
    induction l with
    | nil => rfl
    | cons x r ih => simp [PyData.canLayAll0, PyData.canLay0, ih]
  have h2 : ∀ l : List Int, PyData.depthAll (l.map PyData.int) ≤ 1 := fun l => by
    induction l with
    | nil => simp [PyData.depthAll]
    | cons x r ih => simp [PyData.depthAll, PyData.depth]; omega
  unfold SeqAt.shaped
  have a1 := h1 ns
  have a2 := h2 ns
  have a3 : (PyData.list (ns.map PyData.int)).depth ≤ 64 := by
    simp only [PyData.depth]
    omega
  have a4 : (PyData.list (ns.map PyData.int)).canLay0 = true := by
    simp only [PyData.canLay0]
    exact a1
  rw [a4, decide_eq_true a3]
  rfl
section
variable {K : PySem.W.Frag} {σ : L2.St} {H H' : Hp} {ta tb te tx : TE} {t u : TT} {x y z v : V} {D : Ends} {tu tw tz : TS} {g : TG}
theorem rv_eqI {p q : Addr} {xs ys : List Int} (h1 : SqL K H p (xs.map V.int)) (h2 : SqL K H q (ys.map V.int)) : RV (rEqD K) (.ref p) (.ref q) H (.bl (decide (xs = ys))) := fun H1 e Q k =>
  ⟨_, _, .lst (ex_l e h1) (dp_ints K H1 xs), .lst (ex_l e h2) (dp_ints K H1 ys), shaped_ints xs, shaped_ints ys, by rw [eqv_ints]; exact k H1 (Ex.refl H1)⟩
theorem rv_neI {p q : Addr} {xs ys : List Int} (h1 : SqL K H p (xs.map V.int)) (h2 : SqL K H q (ys.map V.int)) : RV (rNeD K) (.ref p) (.ref q) H (.bl (!decide (xs = ys))) := fun H1 e Q k =>
  ⟨_, _, .lst (ex_l e h1) (dp_ints K H1 xs), .lst (ex_l e h2) (dp_ints K H1 ys), shaped_ints xs, shaped_ints ys, by rw [eqv_ints]; exact k H1 (Ex.refl H1)⟩
/-- == and != of lists of ints: V a variable's, N a new one -/
theorem ev_eqVV {p q : Addr} {xs ys : List Int} (ha : Ev ta σ H (.ref p)) (h1 : SqL K H p (xs.map V.int)) (hb : Ev tb σ H (.ref q)) (h2 : SqL K H q (ys.map V.int)) : Ev (tOp (rEqD K) ta tb) σ H (.bl (decide (xs = ys))) := ev_op ha hb (rv_eqI h1 h2)
theorem ev_eqVN {p : Addr} {xs ys : List Int} (ha : Ev ta σ H (.ref p)) (h1 : SqL K H p (xs.map V.int)) (hb : EvL tb σ H (ys.map V.int)) : Ev (tOp (rEqD K) ta tb) σ H (.bl (decide (xs = ys))) := ev_opL ha hb fun q H1 hq e => rv_eqI (ex_l e h1) (sq_of hq)
theorem ev_eqNV {q : Addr} {xs ys : List Int} (ha : EvL ta σ H (xs.map V.int)) (hb : Ev tb σ H (.ref q)) (h2 : SqL K H q (ys.map V.int)) : Ev (tOp (rEqD K) ta tb) σ H (.bl (decide (xs = ys))) := ev_opL1 ha (fun H1 e => hb.mono e) fun p H1 hp e => rv_eqI (sq_of hp) (ex_l e h2)
theorem ev_eqNN {xs ys : List Int} (ha : EvL ta σ H (xs.map V.int)) (hb : EvL tb σ H (ys.map V.int)) : Ev (tOp (rEqD K) ta tb) σ H (.bl (decide (xs = ys))) := ev_opLL ha hb fun p q H1 hp hq e => rv_eqI (sq_of hp) (sq_of hq)
theorem ev_neVV {p q : Addr} {xs ys : List Int} (ha : Ev ta σ H (.ref p)) (h1 : SqL K H p (xs.map V.int)) (hb : Ev tb σ H (.ref q)) (h2 : SqL K H q (ys.map V.int)) : Ev (tOp (rNeD K) ta tb) σ H (.bl (!decide (xs = ys))) := ev_op ha hb (rv_neI h1 h2)
theorem ev_neVN {p : Addr} {xs ys : List Int} (ha : Ev ta σ H (.ref p)) (h1 : SqL K H p (xs.map V.int)) (hb : EvL tb σ H (ys.map V.int)) : Ev (tOp (rNeD K) ta tb) σ H (.bl (!decide (xs = ys))) := ev_opL ha hb fun q H1 hq e => rv_neI (ex_l e h1) (sq_of hq)
theorem ev_neNV {q : Addr} {xs ys : List Int} (ha : EvL ta σ H (xs.map V.int)) (hb : Ev tb σ H (.ref q)) (h2 : SqL K H q (ys.map V.int)) : Ev (tOp (rNeD K) ta tb) σ H (.bl (!decide (xs = ys))) := ev_opL1 ha (fun H1 e => hb.mono e) fun p H1 hp e => rv_neI (sq_of hp) (ex_l e h2)
theorem ev_neNN {xs ys : List Int} (ha : EvL ta σ H (xs.map V.int)) (hb : EvL tb σ H (ys.map V.int)) : Ev (tOp (rNeD K) ta tb) σ H (.bl (!decide (xs = ys))) := ev_opLL ha hb fun p q H1 hp hq e => rv_neI (sq_of hp) (sq_of hq)
theorem elI {xs : List V} {ys : List Int} (h : EvL te σ H xs) (e : xs = ys.map V.int) : EvL te σ H (ys.map V.int) := by
  rw [← e]
  exact h
theorem el_is {xs ys : List V} (h : EvL te σ H xs) (e : xs = ys) : EvL te σ H ys := by
  rw [← e]
  exact h
/-! built-in calls -/
theorem ev_sumN {ns : List Int} (h : EvL ta σ H (ns.map V.int)) : Ev (tCB (rSum K) (tCons ta tNil)) σ H (.int ns.sum) := fun H1 e Q q =>
  h H1 e _ fun p H2 _ e2 hp => ⟨p, ns, rfl, sq_of hp, q H2 e2⟩
theorem ev_allN {bs : List Bool} (h : EvL ta σ H (bs.map V.bl)) : Ev (tCB (rAll K) (tCons ta tNil)) σ H (.bl (bs.all id)) := fun H1 e Q q =>
  h H1 e _ fun p H2 _ e2 hp => ⟨p, bs, rfl, sq_of hp, q H2 e2⟩
def rMin2 : List V → Hp → VK → Prop := fun xs H Q => ∃ i j, xs = [.int i, .int j] ∧ Q (.int (if j < i then j else i)) H
theorem ev_min2 {i j : Int} (ha : Ev ta σ H (.int i)) (hb : Ev tb σ H (.int j)) : Ev (tCB rMin2 (tCons ta (tCons tb tNil))) σ H (.int (if j < i then j else i)) := fun H1 e Q q =>
  ha H1 e _ fun H2 e2 => hb H2 (e.trans e2) _ fun H3 e3 => ⟨i, j, rfl, q H3 (e2.trans e3)⟩
def rInt1 : List V → Hp → VK → Prop := fun xs H Q => (∃ i, xs = [.int i] ∧ Q (.int i) H) ∨ ∃ k, xs = [.bl k] ∧ Q (.int (if k then 1 else 0)) H
theorem ev_intB {b : Bool} (ha : Ev ta σ H (.bl b)) : Ev (tCB rInt1 (tCons ta tNil)) σ H (.int (if b then 1 else 0)) := fun H1 e Q q =>
  ha H1 e _ fun H2 e2 => Or.inr ⟨b, rfl, q H2 e2⟩
def rAbs1 : List V → Hp → VK → Prop := fun xs H Q => ∃ i, xs = [.int i] ∧ Q (.int (if i < 0 then -i else i)) H
theorem ev_abs {i : Int} (ha : Ev ta σ H (.int i)) : Ev (tCB rAbs1 (tCons ta tNil)) σ H (.int (if i < 0 then -i else i)) := fun H1 e Q q =>
  ha H1 e _ fun H2 e2 => ⟨i, rfl, q H2 e2⟩
theorem ev_isI {T : String} {i : Int} {b : Bool} (ha : Ev ta σ H (.int i)) (hk : kitB "int" T = some b) : Ev (tCB (rIsi K) (tCons ta (tCons (tC (.ty T)) tNil))) σ H (.bl b) := fun H1 e Q q =>
  ha H1 e _ fun H2 e2 => ⟨.int i, .ty T, _, _, b, rfl, .ty T, .base (.int i), kit_ty hk, q H2 e2⟩
theorem ev_isB {T : String} {i : Bool} {b : Bool} (ha : Ev ta σ H (.bl i)) (hk : kitB "bool" T = some b) : Ev (tCB (rIsi K) (tCons ta (tCons (tC (.ty T)) tNil))) σ H (.bl b) := fun H1 e Q q =>
  ha H1 e _ fun H2 e2 => ⟨.bl i, .ty T, _, _, b, rfl, .ty T, .base (.bl i), kit_ty hk, q H2 e2⟩
theorem ev_isL {T : String} {p : Addr} {xs : List V} {b : Bool} (ha : Ev ta σ H (.ref p)) (h : H p = some (.lst xs)) (hk : kitB "list" T = some b) : Ev (tCB (rIsi K) (tCons ta (tCons (tC (.ty T)) tNil))) σ H (.bl b) := fun H1 e Q q =>
  ha H1 e _ fun H2 e2 => ⟨.ref p, .ty T, _, _, b, rfl, .ty T, .base (.lst (e2 p _ (e p _ h))), kit_ty hk, q H2 e2⟩
/-! chains, pairs -/
theorem ev_chain {r r' : R2} {tc : TE} {a b : Bool} {x y w : V} (ha : Ev ta σ H x) (hb : Ev tb σ H y) (hc : Ev tc σ H w) (h1 : RV r x y H (.bl a)) (h2 : a = true → RV r' y w H (.bl b)) : Ev (tChain r r' ta tb tc) σ H (.bl (a && b)) := fun H1 e Q q =>
  ha H1 e _ fun H2 e2 => hb H2 (e.trans e2) _ fun H3 e3 => h1 H3 ((e.trans e2).trans e3) _ fun H4 e4 => ⟨a, rfl, by
    have eh : Ex H1 H4 := (e2.trans e3).trans e4
    cases a with
    | true =>
      show tc σ H4 _
      exact hc H4 (e.trans eh) _ fun H5 e5 => h2 rfl H5 ((e.trans eh).trans e5) Q fun H6 e6 => q H6 ((eh.trans e5).trans e6)
    | false =>
      show Q (.bl false) H4
      exact q H4 eh⟩
theorem q_par {i j : Nat} {ta : TA} {v w : V} (h : EvA ta σ H [v, w]) (k : ∀ H1, Ex H H1 → tz D ((σ.set i (some v)).set j (some w)) H1) : tSeq (tPar i j ta) tz D σ H := h H (Ex.refl H) _ fun H1 e => ⟨v, w, rfl, k H1 e⟩
theorem s_par {i j : Nat} {ta : TA} {v w : V} (h : EvA ta σ H [v, w]) (k : ∀ H1, Ex H H1 → D.nx ((σ.set i (some v)).set j (some w)) H1) : tPar i j ta D σ H := h H (Ex.refl H) _ fun H1 e => ⟨v, w, rfl, k H1 e⟩
theorem q_par3 {i j l : Nat} {ta : TA} {u v w : V} (h : EvA ta σ H [u, v, w]) (k : ∀ H1, Ex H H1 → tz D (((σ.set i (some u)).set j (some v)).set l (some w)) H1) : tSeq (tPar3 i j l ta) tz D σ H := h H (Ex.refl H) _ fun H1 e => ⟨u, v, w, rfl, k H1 e⟩
/-- an item of a written tuple -/
theorem ev_opU1 {r : R2} {xs : List V} (ha : EvU ta σ H xs) (hb : Ev tb σ H y) (hr : ∀ p H1, H1 p = some (.tup xs) → Ex H H1 → RV r (.ref p) y H1 z) : Ev (tOp r ta tb) σ H z := fun H1 e Q q =>
  ha H1 e _ fun p H2 _ e2 hp => hb H2 (e.trans e2) _ fun H3 e3 => hr p H3 (e3 p _ hp) ((e.trans e2).trans e3) H3 (Ex.refl H3) Q fun H4 e4 => q H4 ((e2.trans e3).trans e4)
theorem ev_ixU {xs : List V} {i : Int} (ha : EvU ta σ H xs) (hb : Ev tb σ H (.int i)) (h : atI xs i = some v) : Ev (tOp (rIxT K) ta tb) σ H v := ev_opU1 ha hb fun p H1 hp _ => rv_ixT (st_of hp) h
theorem ev_ixN {xs : List V} {i : Int} (ha : EvL ta σ H xs) (hb : Ev tb σ H (.int i)) (h : atI xs i = some v) : Ev (tOp (rIxL K) ta tb) σ H v := ev_opL1 ha (fun H1 e => hb.mono e) fun p H1 hp _ => rv_ixL (sq_of hp) h
theorem ev_ixV {p : Addr} {xs : List V} {i : Int} (ha : Ev ta σ H (.ref p)) (hp : SqL K H p xs) (hb : Ev tb σ H (.int i)) (h : atI xs i = some v) : Ev (tOp (rIxL K) ta tb) σ H v := ev_op ha hb (rv_ixL hp h)
theorem ev_ixT {p : Addr} {xs : List V} {i : Int} (ha : Ev ta σ H (.ref p)) (hp : SqT K H p xs) (hb : Ev tb σ H (.int i)) (h : atI xs i = some v) : Ev (tOp (rIxT K) ta tb) σ H v := ev_op ha hb (rv_ixT hp h)
/-! a test that is known -/
theorem q_no {b : Bool} (h : EvT t σ H b) (e : b = false) (k : ∀ H1, Ex H H1 → tz D σ H1) : tSeq (tIfS t tu tNext) tz D σ H := q_when h (fun z => by rw [e] at z; cases z) fun _ => k
theorem s_no {b : Bool} (h : EvT t σ H b) (e : b = false) (k : ∀ H1, Ex H H1 → D.nx σ H1) : tIfS t tu tNext D σ H := s_when h (fun z => by rw [e] at z; cases z) fun _ => k
theorem q_yes {b : Bool} (h : EvT t σ H b) (e : b = true) (k : ∀ H1, Ex H H1 → tu { D with nx := tz D } σ H1) : tSeq (tIfS t tu tw) tz D σ H := q_if h (fun _ => k) (fun z => by rw [e] at z; cases z)
theorem q_else {b : Bool} (h : EvT t σ H b) (e : b = false) (k : ∀ H1, Ex H H1 → tw { D with nx := tz D } σ H1) : tSeq (tIfS t tu tw) tz D σ H := q_if h (fun z => by rw [e] at z; cases z) (fun _ => k)
end
end Bt
namespace Bt
open PySem PySem.Spec PyProof.Rows L2 Evl
/-! data of any depth that stands in the heap -/
mutual
inductive Dh (H : Hp) : V → PyData → Prop
  | non : Dh H .non .none
  | bl (b : Bool) : Dh H (.bl b) (.bool b)
  | int (i : Int) : Dh H (.int i) (.int i)
  | str (x : Str) : Dh H (.str x) (.str x)
  | lst {a : Addr} {xs : List V} {ds : List PyData} : H a = some (.lst xs) → DhAll H xs ds → Dh H (.ref a) (.list ds)
  | tup {a : Addr} {xs : List V} {ds : List PyData} : H a = some (.tup xs) → DhAll H xs ds → Dh H (.ref a) (.tuple ds)
inductive DhAll (H : Hp) : List V → List PyData → Prop
  | nil : DhAll H [] []
  | cons {v : V} {vs : List V} {d : PyData} {ds : List PyData} : Dh H v d → DhAll H vs ds → DhAll H (v :: vs) (d :: ds)
end
mutual
theorem Dh.mono {H H' : Hp} (e : Ex H H') : ∀ (d : PyData) (v : V), Dh H v d → Dh H' v d
  | .none, _, h => by cases h; exact .non
  | .bool b, _, h => by cases h; exact .bl b
  | .int i, _, h => by cases h; exact .int i
  | .str x, _, h => by cases h; exact .str x
  | .list ds, _, h => by
    cases h with
    | lst hs ha => exact .lst (e _ _ hs) (DhAll.mono e ds _ ha)
  | .tuple ds, _, h => by
    cases h with
    | tup hs ha => exact .tup (e _ _ hs) (DhAll.mono e ds _ ha)
  | .dict _, _, h => by cases h
theorem DhAll.mono {H H' : Hp} (e : Ex H H') : ∀ (ds : List PyData) (vs : List V), DhAll H vs ds → DhAll H' vs ds
  | [], _, h => by cases h; exact .nil
  | d :: ds, _, h => by
    cases h with
    | cons h1 h2 => exact .cons (Dh.mono e d _ h1) (DhAll.mono e ds _ h2)
end
mutual
theorem Dh.dp {K : PySem.W.Frag} {H : Hp} : ∀ (d : PyData) (v : V), Dh H v d → Dp K H v d
  | .none, _, h => by cases h; exact .non
  | .bool b, _, h => by cases h; exact .bl b
  | .int i, _, h => by cases h; exact .int i
  | .str x, _, h => by cases h; exact .str x
  | .list ds, _, h => by
    cases h with
    | lst hs ha => exact .lst (sq_of hs) (DhAll.dp ds _ ha)
  | .tuple ds, _, h => by
    cases h with
    | tup hs ha => exact .tup (st_of hs) (DhAll.dp ds _ ha)
  | .dict _, _, h => by cases h
theorem DhAll.dp {K : PySem.W.Frag} {H : Hp} : ∀ (ds : List PyData) (vs : List V), DhAll H vs ds → DpAll K H vs ds
  | [], _, h => by cases h; exact .nil
  | d :: ds, _, h => by
    cases h with
    | cons h1 h2 => exact .cons (Dh.dp d _ h1) (DhAll.dp ds _ h2)
end
theorem DhAll.length {H : Hp} : ∀ {ds : List PyData} {vs : List V}, DhAll H vs ds → vs.length = ds.length
  | [], _, h => by cases h; rfl
  | d :: ds, _, h => by
    cases h with
    | cons h1 h2 => rw [List.length_cons, List.length_cons, DhAll.length h2]
theorem DhAll.append {H : Hp} {es : List PyData} {us : List V} (h2 : DhAll H us es) : ∀ {ds : List PyData} {vs : List V}, DhAll H vs ds → DhAll H (vs ++ us) (ds ++ es)
  | [], _, h => by cases h; exact h2
  | d :: ds, _, h => by
    cases h with
    | cons h1 h3 => exact .cons h1 (DhAll.append h2 h3)
theorem DhAll.get {H : Hp} : ∀ {ds : List PyData} {vs : List V} {i : Nat} {v : V}, DhAll H vs ds → vs[i]? = some v → ∃ d, ds[i]? = some d ∧ Dh H v d
  | [], _, i, v, h, e => by cases h; simp at e
  | d :: ds, _, i, v, h, e => by
    cases h with
    | cons h1 h2 =>
      cases i with
      | zero =>
        simp at e
        subst e
        exact ⟨d, rfl, h1⟩
      | succ j =>
        simp at e
        obtain ⟨d', e', h'⟩ := DhAll.get h2 e
        exact ⟨d', by simpa using e', h'⟩
theorem DhAll.ints (H : Hp) : ∀ xs : List Int, DhAll H (xs.map V.int) (xs.map PyData.int)
  | [] => .nil
  | x :: r => .cons (.int x) (DhAll.ints H r)
theorem DhAll.bools (H : Hp) : ∀ xs : List Bool, DhAll H (xs.map V.bl) (xs.map PyData.bool)
  | [] => .nil
  | x :: r => .cons (.bl x) (DhAll.bools H r)
def EvD (te : TE) (σ : L2.St) (H : Hp) (d : PyData) : Prop := ∀ H1, Ex H H1 → ∀ Q : VK, (∀ v H2, Ex H1 H2 → Dh H2 v d → Q v H2) → te σ H1 Q
def EvDA (ta : TA) (σ : L2.St) (H : Hp) (ds : List PyData) : Prop := ∀ H1, Ex H H1 → ∀ Q : List V → Hp → Prop, (∀ vs H2, Ex H1 H2 → DhAll H2 vs ds → Q vs H2) → ta σ H1 Q
section
variable {K : PySem.W.Frag} {σ : L2.St} {H H' : Hp} {ta tb te tx : TE} {t u : TT} {x y z v : V} {D : Ends} {tu tw tz : TS} {g : TG} {d e : PyData}
theorem EvD.mono (e : Ex H H') (h : EvD te σ H d) : EvD te σ H' d := fun H1 a Q q => h H1 (e.trans a) Q q
theorem ed_int {i : Int} (h : Ev te σ H (.int i)) : EvD te σ H (.int i) := fun H1 e _ q => h H1 e _ fun H2 e2 => q _ H2 e2 (.int i)
theorem ed_bl {i : Bool} (h : Ev te σ H (.bl i)) : EvD te σ H (.bool i) := fun H1 e _ q => h H1 e _ fun H2 e2 => q _ H2 e2 (.bl i)
theorem ed_str {i : Str} (h : Ev te σ H (.str i)) : EvD te σ H (.str i) := fun H1 e _ q => h H1 e _ fun H2 e2 => q _ H2 e2 (.str i)
theorem ed_non (h : Ev te σ H .non) : EvD te σ H .none := fun H1 e _ q => h H1 e _ fun H2 e2 => q _ H2 e2 .non
theorem ed_val (h : Ev te σ H v) (hd : Dh H v d) : EvD te σ H d := fun H1 e _ q => h H1 e _ fun H2 e2 => q _ H2 e2 (Dh.mono (e.trans e2) _ _ hd)
theorem ed_ints {ns : List Int} (h : EvL te σ H (ns.map V.int)) : EvD te σ H (.list (ns.map PyData.int)) := fun H1 e _ q => h H1 e _ fun p H2 _ e2 hp => q _ H2 e2 (.lst hp (DhAll.ints H2 ns))
theorem ed_bools {ns : List Bool} (h : EvL te σ H (ns.map V.bl)) : EvD te σ H (.list (ns.map PyData.bool)) := fun H1 e _ q => h H1 e _ fun p H2 _ e2 hp => q _ H2 e2 (.lst hp (DhAll.bools H2 ns))
theorem eda_nil : EvDA tNil σ H [] := fun H1 _ _ q => q [] H1 (Ex.refl H1) .nil
theorem eda_cons {tr : TA} {ds : List PyData} (h : EvD ta σ H d) (hr : EvDA tr σ H ds) : EvDA (tCons ta tr) σ H (d :: ds) := fun H1 e _ q =>
  h H1 e _ fun v H2 e2 hv => hr H2 (e.trans e2) _ fun vs H3 e3 hvs => q _ H3 (e2.trans e3) (.cons (Dh.mono e3 _ _ hv) hvs)
theorem ed_lst {ta : TA} {ds : List PyData} (h : EvDA ta σ H ds) (hl : ds.length ≤ 100000) : EvD (tLst ta) σ H (.list ds) := fun H1 e _ q =>
  h H1 e _ fun vs H2 e2 hv => ⟨sz_of (by rw [hv.length]; exact hl), fun p hp => q _ _ (e2.trans (Ex.new hp)) (.lst upd_same (DhAll.mono (Ex.new hp) _ _ hv))⟩
theorem ed_tup {ta : TA} {ds : List PyData} (h : EvDA ta σ H ds) (hl : ds.length ≤ 100000) : EvD (tTup ta) σ H (.tuple ds) := fun H1 e _ q =>
  h H1 e _ fun vs H2 e2 hv => ⟨sz_of (by rw [hv.length]; exact hl), fun p hp => q _ _ (e2.trans (Ex.new hp)) (.tup upd_same (DhAll.mono (Ex.new hp) _ _ hv))⟩
theorem ed_cat {ds es : List PyData} (h1 : EvD ta σ H (.list ds)) (h2 : EvD tb σ H (.list es)) (hz : ds.length + es.length ≤ 100000) : EvD (tOp rCat ta tb) σ H (.list (ds ++ es)) := fun H1 e Q q =>
  h1 H1 e _ fun v H2 e2 hv => h2 H2 (e.trans e2) _ fun u H3 e3 hu => by
    have hv3 := Dh.mono e3 _ _ hv
    cases hv3 with
    | lst a1 b1 =>
      cases hu with
      | lst a2 b2 =>
        refine ⟨_, _, _, _, rfl, rfl, a1, a2, sz_of (by rw [b1.length, b2.length]; exact hz), fun p hp => q _ _ ((e2.trans e3).trans (Ex.new hp)) (.lst upd_same (DhAll.mono (Ex.new hp) _ _ (DhAll.append b2 b1)))⟩
theorem DhAll.rep {H : Hp} {vs : List V} {ds : List PyData} (h : DhAll H vs ds) : ∀ k, DhAll H (List.replicate k vs).flatten (List.replicate k ds).flatten
  | 0 => .nil
  | k + 1 => by
    rw [List.replicate_succ, List.replicate_succ, List.flatten_cons, List.flatten_cons]
    exact DhAll.append (DhAll.rep h k) h
theorem ed_rep {ds : List PyData} {k : Int} (h1 : EvD ta σ H (.list ds)) (h2 : Ev tb σ H (.int k)) (hk : 0 ≤ k ∧ k ≤ 1000) (hz : ds.length ≤ 100) : EvD (tOp rRep ta tb) σ H (.list (List.replicate k.toNat ds).flatten) := fun H1 e Q q =>
  h1 H1 e _ fun v H2 e2 hv => h2 H2 (e.trans e2) _ fun H3 e3 => by
    have hv3 := Dh.mono e3 _ _ hv
    cases hv3 with
    | lst a1 b1 =>
      refine ⟨_, _, _, rfl, rfl, a1, by omega, by omega, ?_, fun p hp => q _ _ ((e2.trans e3).trans (Ex.new hp)) (.lst upd_same (DhAll.mono (Ex.new hp) _ _ (DhAll.rep b1 _)))⟩
      rw [b1.length]
      have : ds.length * k.toNat ≤ 100 * 1000 := Nat.mul_le_mul hz (by omega)
      exact sz_of (by omega)
theorem ev_eqD (h1 : EvD ta σ H d) (h2 : EvD tb σ H e) (s1 : SeqAt.shaped d = true) (s2 : SeqAt.shaped e = true) : Ev (tOp (rEqD K) ta tb) σ H (.bl (PyData.eqv d e)) := fun H1 ex Q q =>
  h1 H1 ex _ fun v H2 e2 hv => h2 H2 (ex.trans e2) _ fun u H3 e3 hu => ⟨_, _, Dh.dp _ _ (Dh.mono e3 _ _ hv), Dh.dp _ _ hu, s1, s2, q H3 (e2.trans e3)⟩
theorem ev_neD (h1 : EvD ta σ H d) (h2 : EvD tb σ H e) (s1 : SeqAt.shaped d = true) (s2 : SeqAt.shaped e = true) : Ev (tOp (rNeD K) ta tb) σ H (.bl (!PyData.eqv d e)) := fun H1 ex Q q =>
  h1 H1 ex _ fun v H2 e2 hv => h2 H2 (ex.trans e2) _ fun u H3 e3 hu => ⟨_, _, Dh.dp _ _ (Dh.mono e3 _ _ hv), Dh.dp _ _ hu, s1, s2, q H3 (e2.trans e3)⟩
theorem q_asgD {i : Nat} (h : EvD te σ H d) (k : ∀ v H1, Ex H H1 → Dh H1 v d → tz D (σ.set i (some v)) H1) : tSeq (tAsg te (gName i)) tz D σ H := h H (Ex.refl H) _ fun v H1 e hv => k v H1 e hv
theorem s_asgD {i : Nat} (h : EvD te σ H d) (k : ∀ v H1, Ex H H1 → Dh H1 v d → D.nx (σ.set i (some v)) H1) : tAsg te (gName i) D σ H := h H (Ex.refl H) _ fun v H1 e hv => k v H1 e hv
/-- a for over data: the list stands as long as what is known stands -/
theorem q_forD {ds : List PyData} {tl : TE} (h : EvD tl σ H (.list ds)) (Pv : Nat → L2.St → Hp → Prop) (h0 : ∀ H1, Ex H H1 → Pv 0 σ H1) (hx : ∀ i σ' H', Pv i σ' H' → Ex H H')
    (hs : ∀ i v d' H0 σ' H', Ex H H0 → Ex H0 H' → ds[i]? = some d' → Dh H0 v d' → Pv i σ' H' → g v σ' H' fun σ2 H2 => tu { D with nx := fun σ3 H3 => Pv (i + 1) σ3 H3 ∧ Ex H0 H3, ct := fun σ3 H3 => Pv (i + 1) σ3 H3 ∧ Ex H0 H3, bk := tz D } σ2 H2)
    (hd : ∀ σ' H', Pv ds.length σ' H' → tz D σ' H') : tSeq (tFor (iList K tl) g tu) tz D σ H :=
  h H (Ex.refl H) _ fun v H0 e0 hv => by
    cases hv with
    | @lst a xs ds hl ha =>
      refine ⟨a, rfl, ⟨xs, sq_of hl⟩, for_list (D := { D with nx := tz D }) (fun i σ' H' => Pv i σ' H' ∧ Ex H0 H') ⟨h0 H0 e0, Ex.refl H0⟩ (fun i σ' H' _ q => sq_of (q.2 a _ hl)) (fun i x σ' H' hi q => ?_) (fun σ' H' q => ?_)⟩
      · obtain ⟨d', e', h'⟩ := DhAll.get ha hi
        exact hs i x d' H0 σ' H' e0 q.2 e' h' q.1
      · have := q.1
        rw [ha.length] at this
        exact hd σ' H' this
theorem q_forDT {ds : List PyData} {tl : TE} (h : EvD tl σ H (.tuple ds)) (Pv : Nat → L2.St → Hp → Prop) (h0 : ∀ H1, Ex H H1 → Pv 0 σ H1)
    (hs : ∀ i v d' H0 σ' H', Ex H H0 → Ex H0 H' → ds[i]? = some d' → Dh H0 v d' → Pv i σ' H' → g v σ' H' fun σ2 H2 => tu { D with nx := fun σ3 H3 => Pv (i + 1) σ3 H3 ∧ Ex H0 H3, ct := fun σ3 H3 => Pv (i + 1) σ3 H3 ∧ Ex H0 H3, bk := tz D } σ2 H2)
    (hd : ∀ σ' H', Ex H H' → Pv ds.length σ' H' → tz D σ' H') : tSeq (tFor (iTup K tl) g tu) tz D σ H :=
  h H (Ex.refl H) _ fun v H0 e0 hv => by
    cases hv with
    | @tup a xs ds hl ha =>
      refine ⟨a, rfl, ⟨xs, st_of hl⟩, for_tup (D := { D with nx := tz D }) (fun i σ' H' => Pv i σ' H' ∧ Ex H0 H') ⟨h0 H0 e0, Ex.refl H0⟩ (fun i σ' H' _ q => st_of (q.2 a _ hl)) (fun i x σ' H' hi q => ?_) (fun σ' H' q => ?_)⟩
      · obtain ⟨d', e', h'⟩ := DhAll.get ha hi
        exact hs i x d' H0 σ' H' e0 q.2 e' h' q.1
      · have := q.1
        rw [ha.length] at this
        exact hd σ' H' (e0.trans q.2) this
/-! range with a step -/
theorem q_forR3 {ta : TA} {j : Nat} {lo hi c : Int} {n : Nat} (h : EvA ta σ H [.int lo, .int hi, .int c]) (hr : RgC lo hi c n) (Pv : Nat → L2.St → Hp → Prop) (h0 : ∀ H1, Ex H H1 → Pv 0 σ H1)
    (hs : ∀ (i : Nat) σ' H', i < n → Pv i σ' H' → tu { D with nx := Pv (i + 1), ct := Pv (i + 1), bk := tz D } (σ'.set j (some (.int (lo + (i : Int) * c)))) H') (hd : ∀ σ' H', Pv n σ' H' → tz D σ' H') : tSeq (tFor (iRng3 ta) (gName j) tu) tz D σ H :=
  h H (Ex.refl H) _ fun H1 e => ⟨lo, hi, c, n, rfl, hr, for_rangeC (D := { D with nx := tz D }) Pv (h0 H1 e) hs hd⟩
theorem et_yes : EvT tYes σ H true := fun H1 _ _ q => q H1 (Ex.refl H1)
theorem given_all (n : Nat) (v : Nat → V) : given n (fun _ => true) v = (List.range n).map v := by
  unfold given
  rw [List.filter_eq_self.mpr (fun _ _ => rfl)]
end
theorem rg_two {M : Int} (h1 : 1 ≤ M) (h2 : M ≤ 12) : ∃ n, n ≤ 6 ∧ RgC 0 M 2 n := by
  obtain ⟨k, rfl⟩ := Int.eq_ofNat_of_zero_le (show 0 ≤ M by omega)
  have hk : k < 13 := by omega
  have hk1 : 1 ≤ k := by omega
  have key : ∀ i : Fin 13, 1 ≤ i.val → Builtin.Range.small 0 ((i.val : Nat) : Int) 2 = true ∧ (Builtin.Range.rangeSize 0 ((i.val : Nat) : Int) 2).toNat ≤ 6 ∧ Builtin.Range.rangeSize 0 ((i.val : Nat) : Int) 2 = (((Builtin.Range.rangeSize 0 ((i.val : Nat) : Int) 2).toNat : Nat) : Int) := by decide
  have := key ⟨k, hk⟩ hk1
  exact ⟨_, this.2.1, by decide, by decide, this.1, this.2.2⟩
theorem rg_three {M : Int} (h1 : 1 ≤ M) (h2 : M ≤ 6) : ∃ n, n ≤ 2 ∧ RgC 0 M 3 n := by
  obtain ⟨k, rfl⟩ := Int.eq_ofNat_of_zero_le (show 0 ≤ M by omega)
  have hk : k < 7 := by omega
  have hk1 : 1 ≤ k := by omega
  have key : ∀ i : Fin 7, 1 ≤ i.val → Builtin.Range.small 0 ((i.val : Nat) : Int) 3 = true ∧ (Builtin.Range.rangeSize 0 ((i.val : Nat) : Int) 3).toNat ≤ 2 ∧ Builtin.Range.rangeSize 0 ((i.val : Nat) : Int) 3 = (((Builtin.Range.rangeSize 0 ((i.val : Nat) : Int) 3).toNat : Nat) : Int) := by decide
  have := key ⟨k, hk⟩ hk1
  exact ⟨_, this.2.1, by decide, by decide, this.1, this.2.2⟩
end Bt
namespace Bt
open PySem PySem.Spec PyProof.Rows L2 Evl
section
variable {K : PySem.W.Frag} {σ : L2.St} {H H' : Hp} {ta tb te tx : TE} {t u : TT} {x y z v : V} {D : Ends} {tu tw tz : TS} {g : TG}
/-- a comprehension over range(a, b) -/
theorem el_lcR2 {ta : TA} {j : Nat} {vs : List Nat} {lo hi : Int} (f : Nat → Bool) (v : Nat → V) (h : EvA ta σ H [.int lo, .int hi]) (h0 : 0 ≤ lo ∧ lo < 2 ^ 60) (hn : hi ≤ lo + 40000) (hm : -40000 ≤ hi) (hw : ∀ x, wipe ((wipe σ vs).set j (some x)) vs = wipe σ vs)
    (ht : ∀ (i : Nat) H1, Ex H H1 → lo + (i : Int) < hi → EvT t ((wipe σ vs).set j (some (.int (lo + (i : Int))))) H1 (f i)) (he : ∀ (i : Nat) H1, Ex H H1 → lo + (i : Int) < hi → f i = true → Ev te ((wipe σ vs).set j (some (.int (lo + (i : Int))))) H1 (v i)) :
    EvL (tLc (iRng2 ta) (gName j) t te vs) σ H (given (hi - lo).toNat f v) := fun H0 e Q q => h H0 e _ fun H1 e1 => ⟨lo, hi, rfl, ⟨by omega, by omega, by omega, by omega⟩, fun Dl hD =>
  lc_range (lo := lo) (n := (hi - lo).toNat) (Cw H1 f v Dl) ⟨hD, Ex.new hD, upd_same⟩ (fun i H' hi' p => ⟨hw _, cw_turn p (by omega) (ht i H1 (e.trans e1) (by omega)) (fun hf => he i H1 (e.trans e1) (by omega) hf)⟩) (fun H' p => q Dl H' (fresh_back e1 p.1) (e1.trans p.2.1) p.2.2)⟩
/-- for i, x in enumerate(a list) -/
theorem q_forEn {ta : TA} {a : Addr} {xs : List V} {j l : Nat} (h : EvA ta σ H [.ref a]) (hx : SqL K H a xs) (Pv : Nat → L2.St → Hp → Prop) (h0 : ∀ H1, Ex H H1 → Pv 0 σ H1) (hl : ∀ i σ' H', Pv i σ' H' → SqL K H' a xs)
    (hs : ∀ (i : Nat) (x : V) σ' H' T, xs[i]? = some x → Pv i σ' H' → H' T = none → tu { D with nx := Pv (i + 1), ct := Pv (i + 1), bk := tz D } ((σ'.set j (some (.int (i : Int)))).set l (some x)) (upd H' T (.tup [.int (i : Int), x]))) (hd : ∀ σ' H', Pv xs.length σ' H' → tz D σ' H') :
    tSeq (tFor (iEnum K ta) (gTup K 2 (gCons (gName j) (gCons (gName l) gNil))) tu) tz D σ H :=
  h H (Ex.refl H) _ fun H1 e1 => ⟨a, xs, rfl, ex_l e1 hx, fun i m σ' H' => m = xs.length - i ∧ i ≤ xs.length ∧ Pv i σ' H', ⟨xs.length, by simp, Nat.zero_le _, h0 H1 e1⟩, fun i m σ' H' ⟨em, hi, p⟩ => by
    have hS := hl i σ' H' p
    by_cases hlt : i < xs.length
    · have gx : xs[i]? = some xs[i] := List.getElem?_eq_getElem hlt
      refine Or.inr ⟨⟨xs, xs[i], hS, gx⟩, Pv (i + 1), fun σ2 H2 p2 => ⟨xs.length - (i + 1), by omega, rfl, hlt, p2⟩, fun w H2 y => ?_⟩
      obtain ⟨T, x, rfl, nT, rfl, fx⟩ := y
      have gx2 := fx xs hS
      exact ⟨T, [.int (i : Nat), x], rfl, Or.inl (Or.inl upd_same), rfl, _, _, rfl, _, _, rfl, rfl, hs i x σ' H' T gx2 p nT⟩
    · have : i = xs.length := by omega
      subst this
      exact Or.inl ⟨⟨xs, hS, Nat.le_refl _⟩, hd σ' H' p⟩⟩
end
/-- a, b = a written tuple of constants -/
theorem q_asgT2 {K : PySem.W.Frag} {σ : L2.St} {H : Hp} {te : TE} {D : Ends} {tz : TS} {i j : Nat} {v w : V} (h : EvU te σ H [v, w]) (k : ∀ H1, Ex H H1 → tz D ((σ.set i (some v)).set j (some w)) H1) : tSeq (tAsg te (gTup K 2 (gCons (gName i) (gCons (gName j) gNil)))) tz D σ H :=
  h H (Ex.refl H) _ fun p H1 hp e hl => ⟨p, [v, w], rfl, st_of hl, rfl, v, [w], rfl, w, [], rfl, rfl, k H1 e⟩
theorem cut_from (xs : List V) {i : Int} (h : 0 ≤ i) : cutV xs (some i) none = xs.drop i.toNat := by
  obtain ⟨k, rfl⟩ := Int.eq_ofNat_of_zero_le h
  unfold cutV
  rw [show HT.sIx xs.length 0 (some ((k : Nat) : Int)) = min k xs.length from HT.sIx_nat xs.length 0 k, HT.sIx_none, Int.toNat_natCast]
  rcases Nat.le_total k xs.length with z | z
  · rw [Nat.min_eq_left z]
    exact List.take_of_length_le (by rw [List.length_drop]; omega)
  · rw [Nat.min_eq_right z, List.drop_length, List.drop_eq_nil_of_le z, List.take_nil]
theorem cut_to (xs : List V) {i : Int} (h : 0 ≤ i) : cutV xs none (some i) = xs.take i.toNat := by
  obtain ⟨k, rfl⟩ := Int.eq_ofNat_of_zero_le h
  unfold cutV
  rw [show HT.sIx xs.length xs.length (some ((k : Nat) : Int)) = min k xs.length from HT.sIx_nat xs.length xs.length k, HT.sIx_none, Int.toNat_natCast, List.drop_zero, Nat.sub_zero]
  rcases Nat.le_total k xs.length with z | z
  · rw [Nat.min_eq_left z]
  · rw [Nat.min_eq_right z, List.take_length, List.take_of_length_le z]
end Bt
/-! defs that are run where no text of an object is being made (no guard stands): what str(a list) wants to know -/
namespace Bt
open PySem PySem.Spec PyProof.Rows L2 Evl
structure FnG (P : Program) (w : World) (K : PySem.W.Frag) (mg : Str → Option Value) (B : Heap) (C : CXT) (k : Nat) (f : Addr) (fd : FuncData) (ps : List Str) (sp : Sp) : Prop where
  len : ∀ vs H Q E, sp vs H Q E → vs.length = ps.length
  go : ∀ (A : Around) (out : List Env) (s : Shared) (H : Hp) (args : Args) (us : List Value) (vs : List V) (Q : VK) (E : XK), A.guards = some [] → Room k A → Env0 P w K mg B A out s H →
    BindsTo s fd args (ps.zip us) → Vals vs us → sp vs H Q E → codeAny (model P w) A (.call (.ref f) args) (CR C out P w H s Q E) s
section
variable {P : Program} {w : World} {K : PySem.W.Frag} {mg : Str → Option Value} {B : Heap} {C : CXT}
theorem fnG_of {k : Nat} {f : Addr} {nm ql : Str} {pa : Arguments} {bd : List Stmt} {sc : Scope} {dV kV dc pm cv ct oc : Value} {an od : Option Addr} {os : Array (Option Value)} {N ps : List Str} {sp : Sp}
    (lk : K.lookup f = some ⟨oc, od, .func (PySem.W.fnOf nm ql pa bd sc dV kV dc pm an cv ct), os⟩) (hcd : PySem.W.codeIn K cv ql = true) (S : FnScope N ps sc) (len : ∀ vs H Q E, sp vs H Q E → vs.length = ps.length)
    (body : ∀ (A : Around) (out : List Env) (s : Shared) (H : Hp) (vs : List V) (Q : VK) (E : XK), A.guards = some [] → Room k (A.deeper (envOfC ql sc s.heap.objs.size f cv)) → sp vs H Q E →
      ∃ t, PSs (cxOf C P w K mg B N ql sc f cv A out s H E) bd t ∧ t { nx := fun _ H' => Q .non H', rt := Q } (start N vs) H) :
    FnG P w K mg B C (k + 1) f (PySem.W.fnOf nm ql pa bd sc dV kV dc pm an cv ct) ps sp := by
  constructor
  · exact len
  · intro A out s H args us vs Q E hG hr e0 hb r hsp
    have kin : K.In s.heap := e0.mod.kin.keeps fun b o e => (e0.bs b o e).1
    have nol : s.heap.NoLimit := e0.mod.nolimit.keeps fun b o e => (e0.bs b o e).1
    have kinds : ∀ y ∈ ps.zip us, sc.names.lookup y.1 = some .local ∨ (sc.names.lookup y.1 = some .cell ∧ ((cellsFrom (s.heap.objs.size + 1) sc.names []).lookup y.1).isSome = true) := by
      rintro ⟨n, v⟩ hy
      cases S.par n (List.of_mem_zip hy).1 with
      | inl q => exact Or.inl q
      | inr q => exact Or.inr ⟨q, PySem.W.cellsFrom_some _ _ _ (Or.inl q)⟩
    apply codeAny_call_function hr.depth (kin _ _ lk) rfl S.co S.gen rfl (PySem.W.codeRec_of kin hcd)
    apply hb
    apply wpAny_newFunctionEnv_cells S.kind kinds
    intro env he s1 x
    subst he
    refine ⟨nol.keeps x.toInCall.keep, codeAny_func ?_⟩
    obtain ⟨t, ht, hq⟩ := body A out s H vs Q E hG (hr.deeper _) hsp
    have J : Inv (cxOf C P w K mg B N ql sc f cv A out s H E) [] (start N vs) H s1 := inv_start S hr.hd e0 (len _ _ _ _ hsp) r x
    refine wpAny_mono (ht.run [] s1 (start N vs) H _ J hq) (fun fl s' hs => ?_) (fun _ _ hs => hs)
    cases fl with
    | ret u =>
      obtain ⟨v, σ', H', I2, rv, q⟩ := hs
      exact ⟨v, H', I2.os, I2.bare, I2.base, I2.hok, rv, q⟩
    | next =>
      obtain ⟨σ', H', I2, q⟩ := hs
      exact ⟨V.non, H', I2.os, I2.bare, I2.base, I2.hok, rfl, q⟩
    | brk =>
      obtain ⟨_, _, _, q⟩ := hs
      cases q
    | cont =>
      obtain ⟨_, _, _, q⟩ := hs
      cases q
theorem okG {x ql : Str} {st : Stmt} {f : Addr} {fd : FuncData} {N ps : List Str} {k : Nat} {sp : Sp} (F : Fun K x ql st f fd) (S : FnScope N ps (defScope st)) (len : ∀ vs H Q E, sp vs H Q E → vs.length = ps.length)
    (body : ∀ (cv : Value) (A : Around) (out : List Env) (s : Shared) (H : Hp) (vs : List V) (Q : VK) (E : XK), A.guards = some [] → Room k (A.deeper (envOfC ql (defScope st) s.heap.objs.size f cv)) → sp vs H Q E →
      ∃ t, PSs (cxOf CX0 P w K mg B N ql (defScope st) f cv A out s H E).nox (defBody st) t ∧ t { nx := fun _ H' => Q .non H', rt := Q } (start N vs) H) : FnG P w K mg B CX0 (k + 1) f fd ps sp := by
  obtain ⟨oc, od, kV, dc, pm, an, cv, ct, os, rfl, lk, hcd⟩ := F.ex
  refine fnG_of lk hcd S len fun A out s H vs Q E hG hr hsp => ?_
  obtain ⟨t, h, q⟩ := body cv A out s H vs Q E hG hr hsp
  exact ⟨t, h.nox, q⟩
/-- the same for a def that may raise -/
theorem okGX {x ql : Str} {st : Stmt} {f : Addr} {fd : FuncData} {N ps : List Str} {k : Nat} {sp : Sp} (F : Fun K x ql st f fd) (S : FnScope N ps (defScope st)) (len : ∀ vs H Q E, sp vs H Q E → vs.length = ps.length)
    (body : ∀ (cv : Value) (A : Around) (out : List Env) (s : Shared) (H : Hp) (vs : List V) (Q : VK) (E : XK), A.guards = some [] → Room k (A.deeper (envOfC ql (defScope st) s.heap.objs.size f cv)) → sp vs H Q E →
      ∃ t, PSs (cxOf (L2.CX P w) P w K mg B N ql (defScope st) f cv A out s H E) (defBody st) t ∧ t { nx := fun _ H' => Q .non H', rt := Q } (start N vs) H) : FnG P w K mg B (L2.CX P w) (k + 1) f fd ps sp := by
  obtain ⟨oc, od, kV, dc, pm, an, cv, ct, os, rfl, lk, hcd⟩ := F.ex
  exact fnG_of lk hcd S len fun A out s H vs Q E hG hr hsp => body cv A out s H vs Q E hG hr hsp
end
section
variable {X : Cx} {C : CXT} {k : Nat} {f : Addr} {fd : FuncData} {ps : List Str} {sp : Sp} {E : XK} {x : Str} {p pos : Pos} {e : Expr} {es : List Expr} {t : TA}
/-- f(..) of such a def -/
theorem pe_callG (hG : X.A.guards = some []) (F : FnG X.prog X.w X.K X.mg X.base C k f fd ps sp) (hr : Room k X.A) (hg : Gl X x) (hm : X.mg x = some (.ref f)) (hk : PySem.W.keepIn X.K (.ref f) = true) (hb : Binds X.K fd ps []) (hx : Passes C X E)
    (ha : PA X (e :: es) t) (hdb : (x == ("__debug__" : Str)) = false := by decide) (he : starEach (e :: es) X.env = (false, eval e X.env) :: starEach es X.env := by rfl) (hpl : (backTo pos (starEach es X.env)).any (·.1) = false := by rfl) :
    PE X (.Call (.Name x p) (e :: es) [] pos) (tCall sp [] E t) := by
  constructor
  intro pins s σ H Q I h
  apply wpAny_Call_Name_kw
  apply ld_glob I hg hm ?_ hdb
  apply PySem.W.callWith_K (h₀ := X.base) I.ok.mod.kin hk ?_ he hpl
  refine thn (ha.run pos pins s σ H _ I h) fun us s1 ⟨vs, H1, I1, r, q⟩ => ⟨I1.kIn, ?_⟩
  have q' : sp vs H1 Q E := by
    have z := q
    dsimp only at z
    rw [List.append_nil] at z
    exact z
  have hl : us.length = ps.length := by
    rw [← Paired.length r]
    exact F.len _ _ _ _ q'
  have hb' := hb s1 us I1.kIn (by rw [List.append_nil]; exact hl)
  rw [List.append_nil] at hb'
  refine wpAny_call (codeAny_mono (F.go X.A X.stack s1 H1 ⟨us, []⟩ us vs Q E hG hr I1.env0 hb' r q') fun r' s' hq => ?_)
  cases r' with
  | error ex => exact hx pins σ H1 s1 ex s' I1 hq
  | ok fl =>
    cases fl with
    | ret u => exact I1.after hq
    | next => cases hq
    | brk => cases hq
    | cont => cases hq
/-! str of a list or tuple of plain data -/
def rStrD (K : PySem.W.Frag) : List V → Hp → VK → Prop := fun xs H Q => ∃ (p : Addr) (d : PyData), xs = [.ref p] ∧ Dp K H (.ref p) d ∧ d.showable = true ∧ d.hasDict = false ∧ d.depth ≤ 64 ∧ d.shown.length ≤ sizeLine ∧ Q (.str d.shown) H
theorem call_strD (hG : X.A.guards = some []) (hu : X.A.units + 100 < cLine) : CallR X (.type "str") (rStrD X.K) := by
  intro pins s σ H xs us Q I r h
  obtain ⟨p, d, rfl, hd, h1, h2, h3, h4, q⟩ := h
  rw [Vals.ref1 r]
  obtain ⟨as, rd⟩ := Dp.reads I d (.ref p) (.ref p) hd rfl
  refine str_of_reads rd h1 (fun z => by rw [h2] at z; cases z) hG (by omega) (fun b o e => e) (fun h' u tk hk => ?_) h4
  exact ⟨.str d.shown, H, I.kept hk, ⟨u, rfl⟩, q⟩
end


/-! the law's end over such a def -/
theorem law_callG {P : Program} {w : World} {K : PySem.W.Frag} {mg mb : Str → Option Value} {C : CXT} {k : Nat} {fa a : Addr} {fd : FuncData} {x : Str} {sp : Sp} {s : Shared} {vs : List Value} {ns : List Int}
    (kin : K.In s.heap) (hns : s.heap.Ns mainGlobals mg) (hb : s.heap.Ns builtinsNs mb) (hbb : ∀ x : Str, x ≠ "__name__" → mb x = bootBuiltins x) (nol : s.heap.NoLimit) (gens : s.gens = #[])
    (ha : s.heap.get? a = some { cls := .type "list", data := .seq vs.toArray }) (hi : IntsAre vs ns) (hl : ns.length ≤ sizeLine) (hr : Room k callerA)
    (F : ∀ B : Heap, K.In B → B.Ns mainGlobals mg → FnG P w K mg B C k fa fd [x] sp) (bd : ∀ (s : Shared) (u : Value), BindsTo s fd ⟨[u], []⟩ [(x, u)])
    (hsp : ∀ H : Hp, Only H → SqL K H a (ns.map V.int) → sp [.ref a] H (fun v _ => v = .bl true) fun _ _ _ => False) (hC : ∀ H e s', C [] H s (fun _ _ _ => False) e s' → False) :
    codeAny (model P w) callerA (.call (.ref fa) ⟨[.ref a], []⟩) (fun r s' => r = .ok (.ret (.bool true)) ∧ OldK s.heap s'.heap ∧ s'.os = s.os ∧ AllBare s'.gens) s := by
  have main : ∀ H : Hp, Only H → SqL K H a (ns.map V.int) → HOk P w H s.heap → (∀ b, H b ≠ none → b = a ∧ K.lookup b = none) →
      codeAny (model P w) callerA (.call (.ref fa) ⟨[.ref a], []⟩) (fun r s' => r = .ok (.ret (.bool true)) ∧ OldK s.heap s'.heap ∧ s'.os = s.os ∧ AllBare s'.gens) s := by
    intro H only hS hok hA
    have other : ∀ {b : Addr}, b ≠ a → H b = none := fun {b} z => by
      cases q : H b with
      | none => rfl
      | some u => exact absurd (hA b (by rw [q]; simp)).1 z
    have nsB : ∀ {b : Addr} {m : Str → Option Value}, s.heap.Ns b m → (hidT s.heap H).Ns b m := by
      rintro b m ⟨o, es, ep, e, d, r⟩
      refine ⟨o, es, ep, hidT_get e (other ?_), d, r⟩
      rintro rfl
      rw [ha] at e
      cases e
      cases (show Data.seq vs.toArray _ = Data.dict es ep from d)
    have kinB : K.In (hidT s.heap H) := fun b o e => hidT_get (kin b o e) (by
      cases q : H b with
      | none => rfl
      | some u =>
        have z := (hA b (by rw [q]; simp)).2
        rw [e] at z
        cases z)
    have modB : Mod K mg (hidT s.heap H) := by
      obtain ⟨mc, n1, n2⟩ := nol
      exact ⟨kinB, nsB hns, ⟨mb, nsB hb, hbb⟩, ⟨mc, nsB n1, n2⟩⟩
    have e0 : Env0 P w K mg (hidT s.heap H) callerA [] s H := by
      refine ⟨rfl, modB, fun b o e => of_hidT e, Nat.le_of_eq (hidT_size _ _), trivial, fun b hb => ?_, hok, AllBare.of_eq gens⟩
      cases (show b ∈ ([] : List Addr) from hb)
    refine codeAny_mono ((F _ kinB (nsB hns)).go callerA [] s H ⟨[.ref a], []⟩ [.ref a] [.ref a] _ _ rfl hr e0 (bd s (.ref a)) (Paired.cons rfl .nil) (hsp H only hS)) fun r s' h => ?_
    cases r with
    | error e => exact (hC H e s' h).elim
    | ok fl =>
      cases fl with
      | ret u =>
        obtain ⟨v, H', os, bare, un, hok', rv, q⟩ := h
        obtain rfl : v = .bl true := q
        obtain rfl : u = Value.bool true := rv
        refine ⟨rfl, OldK.of_keep fun b o e => ?_, os, bare⟩
        cases q : H b with
        | none =>
          refine un.keep b o e q (fun z => ?_) (fun z => ?_)
          · cases (show b ∈ ([] : List Addr) from z)
          · cases z
        | some u =>
          cases only b with
          | inl z =>
            rw [q] at z
            cases z
          | inr z =>
            obtain ⟨ob, xs, z⟩ := z
            have e1 := (hok b _ z).1
            have e2 := (hok' b _ (un.frzs b ob _ z)).1
            rw [e] at e1
            cases e1
            exact e2
      | next => cases h
      | brk => cases h
      | cont => cases h
  have rv := vals_ints hi
  have lv := hi.length
  by_cases hk : K.lookup a = none
  · let H : Hp := fun b => if b = a then some (.frz { cls := .type "list", data := .seq vs.toArray } (.lst (ns.map V.int))) else none
    have Ha : H a = some (.frz { cls := .type "list", data := .seq vs.toArray } (.lst (ns.map V.int))) := if_pos rfl
    have Hb : ∀ b, b ≠ a → H b = none := fun b z => if_neg z
    refine main H (fun b => ?_) (Or.inl (Or.inr ⟨_, Ha⟩)) (fun b u z => ?_) (fun b z => ?_)
    · by_cases e : b = a
      · exact Or.inr ⟨_, _, by rw [e]; exact Ha⟩
      · exact Or.inl (Hb b e)
    · by_cases e : b = a
      · subst e
        rw [Ha] at z
        cases z
        exact ⟨ha, by rw [List.length_map]; exact hl, vs, _, rv, ha⟩
      · rw [Hb b e] at z
        cases z
    · by_cases e : b = a
      · exact ⟨e, by rw [e]; exact hk⟩
      · exact absurd (Hb b e) z
  · obtain ⟨o, ho⟩ := Option.ne_none_iff_exists'.mp hk
    have e := kin a o ho
    rw [ha] at e
    cases e
    refine main (fun _ => none) (fun _ => Or.inl rfl) (Or.inr ⟨_, vs.toArray, _, ho, rfl, rfl, rfl, ?_, ?_⟩) (fun b u z => ?_) (fun b z => absurd rfl z)
    · rw [List.size_toArray, lv]
      exact hl
    · simpa using rv
    · cases (show (none : Option HO) = some u from z)
theorem walk_ofG {l : PySem.W.OpenLaw} {n k : Nat} {q : Program} {loose : List Str} {XP : (Str → Option Value) → Heap → Prop} {YP : World → Heap → Prop} {d : DefRec} {K : Params → PySem.W.Frag} {C : World → CXT} {sp : World → Sp} {x : Str}
    (hn : l.most = some n) (hn2 : n ≤ sizeLine) (hdf : d.params.defaults = []) (hr : Room k callerA) (hY : ∀ (w : World) (h : Heap), YP w h → (K w.params).In h)
    (F : ∀ (w : World) (mg : Str → Option Value) (fa : Addr) (h : Heap), (K w.params).In h → h.Ns mainGlobals mg → mg d.name = some (.ref fa) →
      ∃ fd : FuncData, (∀ (s : Shared) (u : Value), BindsTo s fd ⟨[u], []⟩ [(x, u)]) ∧ ∀ B : Heap, (K w.params).In B → B.Ns mainGlobals mg → FnG l.prog w (K w.params) mg B (C w) k fa fd [x] (sp w))
    (hsp : ∀ (w : World) (H : Hp) (a : Addr) (ns : List Int), ns.length ≤ n → (∀ z ∈ ns, Builtin.Int.intBits z ≤ 1048576) → Only H → SqL (K w.params) H a (ns.map V.int) → sp w [.ref a] H (fun v _ => v = .bl true) fun _ _ _ => False)
    (hC : ∀ (w : World) (H : Hp) (s : Shared) (e : Value) (s' : Shared), C w [] H s (fun _ _ _ => False) e s' → False) :
    PySem.W.WalkO q loose XP YP l.row.toRowW d [] (fun f vs => PySem.call f vs) := by
  apply Att.attach_callB hn hdf
  intro w s0 s1 mg mb fa o pm cd doc a vs ns G Y ho hd hcd hmg hobj hints hlen hbits hg
  obtain ⟨fd, hb, hF⟩ := F w mg fa _ (hY w _ Y) G.T.g hmg
  exact law_callG (hY w _ Y) G.T.g G.T.b G.T.builtins G.T.nolimit hg hobj hints (Nat.le_trans hlen hn2) hr hF hb (fun H hO hS => hsp w H a ns hlen hbits hO hS) fun H e s' => hC w H s1 e s'
/-! readings -/
section
variable {K : PySem.W.Frag} {σ : L2.St} {H : Hp} {ta : TE} {d : PyData}
theorem ev_strD (h : EvD ta σ H d) (h0 : ∀ H1 v, Dh H1 v d → ∃ p, v = .ref p) (h1 : d.showable = true) (h2 : d.hasDict = false) (h3 : d.depth ≤ 64) (h4 : d.shown.length ≤ sizeLine) : Ev (tCB (rStrD K) (tCons ta tNil)) σ H (.str d.shown) := fun H1 e Q q =>
  h H1 e _ fun v H2 e2 hv => by
    obtain ⟨p, rfl⟩ := h0 H2 v hv
    exact ⟨p, d, rfl, Dh.dp _ _ hv, h1, h2, h3, h4, q H2 e2⟩
theorem dh_ref {H : Hp} {v : V} {ds : List PyData} (h : Dh H v (.list ds)) : ∃ p, v = .ref p := by
  cases h with
  | lst a b => exact ⟨_, rfl⟩
theorem dh_refT {H : Hp} {v : V} {ds : List PyData} (h : Dh H v (.tuple ds)) : ∃ p, v = .ref p := by
  cases h with
  | tup a b => exact ⟨_, rfl⟩
end
theorem hu100 {k : Nat} {A : Around} (hr : Room k A) : A.units + 100 < cLine := by
  have := hr.un
  omega
theorem log_small {i : Int} (h : i.natAbs < 10 ^ 100) : i.natAbs.log2 < 1920 := by
  have h2 : i.natAbs < 2 ^ 1920 := Nat.lt_of_lt_of_le h (by
    have e : (10 : Nat) ^ 100 ≤ 2 ^ 400 := by decide +kernel
    exact Nat.le_trans e (Nat.pow_le_pow_right (by decide) (by decide)))
  exact log2_small h2
theorem int_len {i : Int} (h : i.natAbs < 10 ^ 100) : (PyData.shown (.int i)).length ≤ 101 := by
  have e := int_text_length_le10 (k := 100) (by decide) h
  show (Str.ofString (toString i)).length ≤ 101
  rw [PySem.ofString_length]
  exact e
theorem ev_str1 {K : PySem.W.Frag} {σ : L2.St} {H : Hp} {ta : TE} {i : Int} (h : Ev ta σ H (.int i)) (hi : i.natAbs < 10 ^ 100) : Ev (tCB (rStrD K) (tCons (tLst (tCons ta tNil)) tNil)) σ H (.str (PyData.list [.int i]).shown) := by
  refine ev_strD (ed_lst (eda_cons (ed_int h) eda_nil) (by simp)) (fun H1 v hv => dh_ref hv) ?_ rfl (by simp [PyData.depth, PyData.depthAll]) ?_
  · simp only [PyData.showable, PyData.showableAll, Bool.and_true, decide_eq_true_eq]
    exact log_small hi
  · have h1 := listText_len_le [PyData.shown (.int i)]
    have h2 := int_len hi
    simp only [PyData.shown, PyData.shownAll, List.map_cons, List.map_nil, List.sum_cons, List.sum_nil, List.length_cons, List.length_nil] at h1 h2 ⊢
    have : (200 : Nat) ≤ sizeLine := by decide
    omega
theorem ev_str2 {K : PySem.W.Frag} {σ : L2.St} {H : Hp} {ta tb : TE} {i j : Int} (h : Ev ta σ H (.int i)) (h' : Ev tb σ H (.int j)) (hi : i.natAbs < 10 ^ 100) (hj : j.natAbs < 10 ^ 100) : Ev (tCB (rStrD K) (tCons (tTup (tCons ta (tCons tb tNil))) tNil)) σ H (.str (PyData.tuple [.int i, .int j]).shown) := by
  refine ev_strD (ed_tup (eda_cons (ed_int h) (eda_cons (ed_int h') eda_nil)) (by simp)) (fun H1 v hv => dh_refT hv) ?_ rfl (by simp [PyData.depth, PyData.depthAll]) ?_
  · simp only [PyData.showable, PyData.showableAll, Bool.and_true, Bool.and_eq_true, decide_eq_true_eq]
    exact ⟨log_small hi, log_small hj⟩
  · have h1 := tupleText_len_le [PyData.shown (.int i), PyData.shown (.int j)]
    have h2 := int_len hi
    have h3 := int_len hj
    simp only [PyData.shown, PyData.shownAll, List.map_cons, List.map_nil, List.sum_cons, List.sum_nil, List.length_cons, List.length_nil] at h1 h2 h3 ⊢
    have : (400 : Nat) ≤ sizeLine := by decide
    omega
end Bt
namespace Bt
open PySem PySem.Spec PyProof.Rows L2 Evl
/-- str of a pair of ints that stands -/
theorem ev_strT {K : PySem.W.Frag} {σ : L2.St} {H : Hp} {ta : TE} {p : Addr} {i j : Int} (h : Ev ta σ H (.ref p)) (hp : H p = some (.tup [.int i, .int j])) (hi : i.natAbs < 10 ^ 100) (hj : j.natAbs < 10 ^ 100) : Ev (tCB (rStrD K) (tCons ta tNil)) σ H (.str (PyData.tuple [.int i, .int j]).shown) := by
  refine ev_strD (ed_val h (.tup hp (.cons (.int i) (.cons (.int j) .nil)))) (fun H1 v hv => dh_refT hv) ?_ rfl (by simp [PyData.depth, PyData.depthAll]) ?_
  · simp only [PyData.showable, PyData.showableAll, Bool.and_true, Bool.and_eq_true, decide_eq_true_eq]
    exact ⟨log_small hi, log_small hj⟩
  · have h1 := tupleText_len_le [PyData.shown (.int i), PyData.shown (.int j)]
    have h2 := int_len hi
    have h3 := int_len hj
    simp only [PyData.shown, PyData.shownAll, List.map_cons, List.map_nil, List.sum_cons, List.sum_nil, List.length_cons, List.length_nil] at h1 h2 h3 ⊢
    have : (400 : Nat) ≤ sizeLine := by decide
    omega
end Bt
namespace Bt
open PySem PySem.Spec PyProof.Rows L2 Evl
/-! loops over new tuples and lists of ints -/
section
variable {K : PySem.W.Frag} {σ : L2.St} {H H' : Hp} {ta tb te tx : TE} {t u : TT} {x y z v : V} {D : Ends} {tu tw tz : TS} {g : TG}
theorem q_forUI {ns : List Int} {tl : TE} {j : Nat} (h : EvU tl σ H (ns.map V.int)) (Pv : Nat → L2.St → Hp → Prop) (h0 : ∀ H1, Ex H H1 → Pv 0 σ H1)
    (hs : ∀ i n H0 σ' H', Ex H H0 → Ex H0 H' → n ∈ ns → Pv i σ' H' → tu { D with nx := fun σ3 H3 => Pv (i + 1) σ3 H3 ∧ Ex H0 H3, ct := fun σ3 H3 => Pv (i + 1) σ3 H3 ∧ Ex H0 H3, bk := tz D } (σ'.set j (some (.int n))) H')
    (hd : ∀ σ' H', Ex H H' → Pv ns.length σ' H' → tz D σ' H') : tSeq (tFor (iTup K tl) (gName j) tu) tz D σ H :=
  h H (Ex.refl H) _ fun p H0 hp e0 hl => ⟨p, rfl, ⟨_, st_of hl⟩, for_tup (D := { D with nx := tz D }) (fun i σ' H' => Pv i σ' H' ∧ Ex H0 H') ⟨h0 H0 e0, Ex.refl H0⟩ (fun i σ' H' _ q => st_of (q.2 p _ hl)) (fun i x σ' H' hi q => by
    rw [List.getElem?_map] at hi
    obtain ⟨n, hn, rfl⟩ := Option.map_eq_some_iff.mp hi
    exact hs i n H0 σ' H' e0 q.2 (List.mem_of_getElem? hn) q.1) (fun σ' H' q => by
    have := q.1
    rw [List.length_map] at this
    exact hd σ' H' (e0.trans q.2) this)⟩
theorem q_forLI {ns : List Int} {tl : TE} {j : Nat} (h : EvL tl σ H (ns.map V.int)) (Pv : Nat → L2.St → Hp → Prop) (h0 : ∀ H1, Ex H H1 → Pv 0 σ H1)
    (hs : ∀ i n H0 σ' H', Ex H H0 → Ex H0 H' → n ∈ ns → Pv i σ' H' → tu { D with nx := fun σ3 H3 => Pv (i + 1) σ3 H3 ∧ Ex H0 H3, ct := fun σ3 H3 => Pv (i + 1) σ3 H3 ∧ Ex H0 H3, bk := tz D } (σ'.set j (some (.int n))) H')
    (hd : ∀ σ' H', Ex H H' → Pv ns.length σ' H' → tz D σ' H') : tSeq (tFor (iList K tl) (gName j) tu) tz D σ H :=
  h H (Ex.refl H) _ fun p H0 hp e0 hl => ⟨p, rfl, ⟨_, sq_of hl⟩, for_list (D := { D with nx := tz D }) (fun i σ' H' => Pv i σ' H' ∧ Ex H0 H') ⟨h0 H0 e0, Ex.refl H0⟩ (fun i σ' H' _ q => sq_of (q.2 p _ hl)) (fun i x σ' H' hi q => by
    rw [List.getElem?_map] at hi
    obtain ⟨n, hn, rfl⟩ := Option.map_eq_some_iff.mp hi
    exact hs i n H0 σ' H' e0 q.2 (List.mem_of_getElem? hn) q.1) (fun σ' H' q => by
    have := q.1
    rw [List.length_map] at this
    exact hd σ' H' (e0.trans q.2) this)⟩
end
/-! errors of own classes: raised, caught, looked at -/
def RaX (c : Addr) (H : Hp) (E : XK) : Prop := ∀ H2, Ex H H2 → E (.ref c) none H2
def SpX (sp : Sp) (vs : List V) (H : Hp) (c : Addr) : Prop := ∀ H1, Ex H H1 → ∀ (Q : VK) (E : XK), RaX c H1 E → sp vs H1 Q E
def rIsE2 (K : PySem.W.Frag) (cls : Value) (d : Option Addr) (a : Addr) : List V → Hp → VK → Prop := fun xs H Q => ∃ (D : Addr) (c : V) (cv : Value) (b : Bool), cls = .ref D ∧ d = none ∧ ExcC K D ∧ xs = [.ref a, c] ∧ ClsV c cv ∧ PySem.W.kitOne K (.ref D) cv = some b ∧ Q (.bl b) H
theorem call_isE2 {X : Cx} {a : Addr} {cls : Value} {d : Option Addr} {oe : Obj} {pn : List (Addr × Obj)} (hz : Zc cls d oe) (hf : ∃ vs, oe.data = .fields vs) : CallR (X.suite a ((a, oe) :: pn)) (.builtin "isinstance") (rIsE2 X.K cls d a) := by
  intro pins s σ H xs us Q I r h
  obtain ⟨D, c, cv, b, rfl, rfl, C, rfl, hc, e, q⟩ := h
  exact call_isE C hz hf pins s σ H _ us Q I r ⟨c, cv, b, rfl, fun u h => hc.eq h, e, q⟩
section
variable {K : PySem.W.Frag} {σ : L2.St} {H H' : Hp} {ta tb te tx : TE} {D : Ends} {tu tw tz : TS}
theorem ev_isE {C c a : Addr} {b : Bool} (hc : ExcC K C) (ha : Ev ta σ H (.ref a)) (hk : PySem.W.kitOne K (.ref C) (.ref c) = some b) : Ev (tCB (rIsE2 K (.ref C) none a) (tCons ta (tCons (tC (.ref c)) tNil))) σ H (.bl b) := fun H1 e Q q =>
  ha H1 e _ fun H2 e2 => ⟨C, .ref c, .ref c, b, rfl, rfl, hc, rfl, .own c, hk, q H2 e2⟩
theorem ev_isET {C a : Addr} {n : String} {b : Bool} (hc : ExcC K C) (ha : Ev ta σ H (.ref a)) (hk : PySem.W.kitOne K (.ref C) (.type n) = some b) : Ev (tCB (rIsE2 K (.ref C) none a) (tCons ta (tCons (tC (.ty n)) tNil))) σ H (.bl b) := fun H1 e Q q =>
  ha H1 e _ fun H2 e2 => ⟨C, .ty n, .type n, b, rfl, rfl, hc, rfl, .ty n, hk, q H2 e2⟩
/-- try: f(..) except c as n: suite, f raises C -/
theorem q_tryX {sp : Sp} {ta : TA} {vs : List V} {C : Addr} {c : Value} {i : Nat} {ts : Addr → Value → Option Addr → TS} {Wout : WX} (h : EvA ta σ H vs) (hs : SpX sp vs H C) (hm : PySem.W.exmOne K (.ref C) c = some true)
    (k : ∀ a H1, Ex H H1 → H1 a = none → ts a (.ref C) none { nx := fun σ' H' => tz D (σ'.set i none) H', rt := D.rt, bk := fun σ' H' => D.bk (σ'.set i none) H', ct := fun σ' H' => D.ct (σ'.set i none) H' } (σ.set i (some (.ref a))) H1) :
    tSeq (fun D σ H => tDrop (tCallS sp (WE (wAs K c i ts Wout D)) ta) D σ H) tz D σ H :=
  h H (Ex.refl H) _ fun H1 e1 => hs H1 e1 _ _ fun H2 e2 => ⟨true, hm, fun _ a ha => k a H2 (e1.trans e2) ha, fun z => by cases z⟩
end
theorem exm_C {K : PySem.W.Frag} {C R : Addr} (hb : PySem.W.subIn K (.ref R) (.type "BaseException") = some true) (hd : PySem.W.hasDictIn K R = true) (ht : PySem.W.typeIn K (.ref R) = some (.type "type")) (hs : PySem.W.subIn K (.ref C) (.ref R) = some true) : PySem.W.exmOne K (.ref C) (.ref R) = some true := PySem.W.exm_ref hb hd ht hs
theorem kit_own {K : PySem.W.Frag} {C D : Addr} {b : Bool} (hn : b = true ∨ (Value.ref C == Value.ref D) = false) (hd : PySem.W.hasDictIn K D = true) (ht : PySem.W.typeIn K (.ref D) = some (.type "type")) (hs : PySem.W.subIn K (.ref C) (.ref D) = some b) : PySem.W.kitOne K (.ref C) (.ref D) = some b := by
  obtain ⟨cd, hc, _⟩ := PySem.W.any_some hd
  have e2 : ((PySem.W.clsIn K D).isSome && PySem.W.typeIn K (.ref D) == some (.type "type")) = true := by rw [hc, ht] <;> rfl
  have e3 : PySem.W.kitCls K (.ref C) (.ref D) = some b := by
    show (if ((PySem.W.clsIn K D).isSome && PySem.W.typeIn K (.ref D) == some (.type "type")) = true then PySem.W.subIn K (.ref C) (.ref D) else none) = some b
    rw [if_pos e2]
    exact hs
  unfold PySem.W.kitOne
  by_cases z : (Value.ref C == Value.ref D) = true
  · rw [if_pos z]
    rcases hn with h | h
    · rw [h]
    · rw [h] at z
      cases z
  · rw [if_neg z]
    exact e3
theorem kit_type {K : PySem.W.Frag} {C : Addr} {n : String} {b : Bool} (hm : PySem.W.kitMeta n = true) (hs : PySem.W.subIn K (.ref C) (.type n) = some b) : PySem.W.kitOne K (.ref C) (.type n) = some b := by
  unfold PySem.W.kitOne
  rw [if_neg (by intro z; have := beq_iff_eq.mp z; cases this)]
  show (if PySem.W.kitMeta n = true then PySem.W.subIn K (.ref C) (.type n) else none) = some b
  rw [if_pos hm]
  exact hs
end Bt
namespace Bt
open PySem PySem.Spec PyProof.Rows L2 Evl
theorem rg_up {a b c : Int} (h0 : 0 ≤ a) (h1 : a ≤ 1000000) (h2 : 0 ≤ b) (h3 : b ≤ 1000000) (hc : 1 ≤ c) (hc2 : c ≤ 1000000) : ∃ n : Nat, RgC a b c n ∧ ∀ i : Nat, i < n → a + (i : Int) * c < b := by
  have e : Builtin.Range.rangeSize a b c = if a < b then (b - a - 1) / c + 1 else 0 := by
    unfold Builtin.Range.rangeSize
    rw [if_pos (by omega)]
  have hq : ∀ z : Int, 0 ≤ z → 0 ≤ z / c ∧ z / c ≤ z := fun z hz => ⟨Int.ediv_nonneg hz (by omega), Int.ediv_le_self _ hz⟩
  have hs : 0 ≤ Builtin.Range.rangeSize a b c ∧ Builtin.Range.rangeSize a b c ≤ 1000001 := by
    rw [e]
    split
    · have := hq (b - a - 1) (by omega)
      omega
    · omega
  refine ⟨(Builtin.Range.rangeSize a b c).toNat, ⟨by omega, by omega, ?_, by omega⟩, fun i hi => ?_⟩
  · unfold Builtin.Range.small
    rw [if_pos (by omega)]
    simp only [Builtin.Range.rangeFitsLong, Bool.and_eq_true, Bool.or_eq_true, decide_eq_true_eq]
    refine ⟨⟨⟨⟨by omega, by omega⟩, by omega⟩, by omega⟩, Or.inr (by omega)⟩
  · by_cases hab : a < b
    · rw [e, if_pos hab] at hi
      have h4 : (i : Int) ≤ (b - a - 1) / c := by
        have := hq (b - a - 1) (by omega)
        omega
      have h5 := (Int.le_ediv_iff_mul_le (by omega : 0 < c)).mp h4
      omega
    · rw [e, if_neg hab] at hi
      exact absurd hi (Nat.not_lt_zero i)
theorem range_getD (ns : List Int) : (List.range ns.length).map (fun i => ns.getD i 0) = ns := by
  refine List.ext_getElem (by simp) fun i h1 h2 => ?_
  simp [List.getD_eq_getElem?_getD, List.getElem?_eq_getElem h2]
theorem given_filter (ns : List Int) (p : Int → Bool) (g : Int → V) : given ns.length (fun i => p (ns.getD i 0)) (fun i => g (ns.getD i 0)) = (ns.filter p).map g := by
  unfold given
  have h : ((List.range ns.length).filter (fun i => p (ns.getD i 0))).map (fun i => ns.getD i 0) = ns.filter p := by
    conv => rhs; rw [← range_getD ns, List.filter_map]
    rfl
  rw [← h, List.map_map]
  rfl
theorem given_map (ns : List Int) (f : Int → V) : given ns.length (fun _ => true) (fun i => f (ns.getD i 0)) = ns.map f := by
  rw [given_all]
  conv => rhs; rw [← range_getD ns, List.map_map]
  rfl
section
variable {K : PySem.W.Frag} {σ : L2.St} {H H' : Hp} {ta tb te tx tl : TE} {t u : TT} {x y z v : V} {D : Ends} {tu tw tz : TS} {g : TG} {a : Addr} {j : Nat} {vs : List Nat}
theorem el_lcT {xs : List V} (f : Nat → Bool) (v : Nat → V) (h : Ev tl σ H (.ref a)) (hx : SqT K H a xs) (hz : xs.length ≤ 40000) (hw : ∀ x, wipe ((wipe σ vs).set j (some x)) vs = wipe σ vs)
    (ht : ∀ (i : Nat) (x : V) H1, Ex H H1 → xs[i]? = some x → EvT t ((wipe σ vs).set j (some x)) H1 (f i)) (he : ∀ (i : Nat) (x : V) H1, Ex H H1 → xs[i]? = some x → f i = true → Ev te ((wipe σ vs).set j (some x)) H1 (v i)) :
    EvL (tLc (iTup K tl) (gName j) t te vs) σ H (given xs.length f v) := fun H0 e Q q => h H0 e _ fun H1 e1 => ⟨a, rfl, ⟨xs, ex_t (e.trans e1) hx⟩, fun Dl hD =>
  lc_tup (xs := xs) (Cw H1 f v Dl) ⟨hD, Ex.new hD, upd_same⟩ (fun i H' _ p => ex_t ((e.trans e1).trans p.2.1) hx) (fun i x H' hi p => ⟨hw x, cw_turn p (by have := (List.getElem?_eq_some_iff.mp hi).1; omega) (ht i x H1 (e.trans e1) hi) (fun hf => he i x H1 (e.trans e1) hi hf)⟩)
    (fun H' p => q Dl H' (fresh_back e1 p.1) (e1.trans p.2.1) p.2.2)⟩
theorem el_lcNT {xs : List V} (f : Nat → Bool) (v : Nat → V) (h : EvU tl σ H xs) (hz : xs.length ≤ 40000) (hw : ∀ x, wipe ((wipe σ vs).set j (some x)) vs = wipe σ vs)
    (ht : ∀ (i : Nat) (x : V) H1, Ex H H1 → xs[i]? = some x → EvT t ((wipe σ vs).set j (some x)) H1 (f i)) (he : ∀ (i : Nat) (x : V) H1, Ex H H1 → xs[i]? = some x → f i = true → Ev te ((wipe σ vs).set j (some x)) H1 (v i)) :
    EvL (tLc (iTup K tl) (gName j) t te vs) σ H (given xs.length f v) := fun H0 e Q q => h H0 e _ fun a H1 ha e1 hx => ⟨a, rfl, ⟨xs, st_of hx⟩, fun Dl hD =>
  lc_tup (xs := xs) (Cw H1 f v Dl) ⟨hD, Ex.new hD, upd_same⟩ (fun i H' _ p => st_of (p.2.1 a _ hx)) (fun i x H' hi p => ⟨hw x, cw_turn p (by have := (List.getElem?_eq_some_iff.mp hi).1; omega) (ht i x H1 (e.trans e1) hi) (fun hf => he i x H1 (e.trans e1) hi hf)⟩)
    (fun H' p => q Dl H' (fresh_back e1 p.1) (e1.trans p.2.1) p.2.2)⟩
/-! comprehensions over ints -/
theorem int_item {ns : List Int} {i : Nat} {x : V} (h : (ns.map V.int)[i]? = some x) : x = .int (ns.getD i 0) ∧ ns.getD i 0 ∈ ns := by
  rw [List.getElem?_map] at h
  obtain ⟨d, hd, rfl⟩ := Option.map_eq_some_iff.mp h
  have e : ns.getD i 0 = d := by
    rw [List.getD_eq_getElem?_getD, hd]
    rfl
  rw [e]
  exact ⟨rfl, List.mem_of_getElem? hd⟩
theorem el_mapT {ns : List Int} (f : Int → V) (h : Ev tl σ H (.ref a)) (hx : SqT K H a (ns.map V.int)) (hz : ns.length ≤ 40000) (hw : ∀ x, wipe ((wipe σ vs).set j (some x)) vs = wipe σ vs)
    (he : ∀ (n : Int), n ∈ ns → ∀ H1, Ex H H1 → Ev te ((wipe σ vs).set j (some (.int n))) H1 (f n)) : EvL (tLc (iTup K tl) (gName j) tYes te vs) σ H (ns.map f) := by
  have := el_lcT (K := K) (te := te) (t := tYes) (vs := vs) (j := j) (fun _ => true) (fun i => f (ns.getD i 0)) h hx (by rw [List.length_map]; exact hz) hw (fun _ _ _ _ _ => et_yes) (fun i x H1 e hx' _ => by
    obtain ⟨rfl, hm⟩ := int_item hx'
    exact he _ hm H1 e)
  rw [List.length_map, given_map] at this
  exact this
theorem el_mapNT {ns : List Int} (f : Int → V) (h : EvU tl σ H (ns.map V.int)) (hz : ns.length ≤ 40000) (hw : ∀ x, wipe ((wipe σ vs).set j (some x)) vs = wipe σ vs)
    (he : ∀ (n : Int), n ∈ ns → ∀ H1, Ex H H1 → Ev te ((wipe σ vs).set j (some (.int n))) H1 (f n)) : EvL (tLc (iTup K tl) (gName j) tYes te vs) σ H (ns.map f) := by
  have := el_lcNT (K := K) (te := te) (t := tYes) (vs := vs) (j := j) (fun _ => true) (fun i => f (ns.getD i 0)) h (by rw [List.length_map]; exact hz) hw (fun _ _ _ _ _ => et_yes) (fun i x H1 e hx' _ => by
    obtain ⟨rfl, hm⟩ := int_item hx'
    exact he _ hm H1 e)
  rw [List.length_map, given_map] at this
  exact this
theorem el_filL {ns : List Int} (p : Int → Bool) (f : Int → V) (h : Ev tl σ H (.ref a)) (hx : SqL K H a (ns.map V.int)) (hz : ns.length ≤ 40000) (hw : ∀ x, wipe ((wipe σ vs).set j (some x)) vs = wipe σ vs)
    (ht : ∀ (n : Int), n ∈ ns → ∀ H1, Ex H H1 → EvT t ((wipe σ vs).set j (some (.int n))) H1 (p n)) (he : ∀ (n : Int), n ∈ ns → ∀ H1, Ex H H1 → Ev te ((wipe σ vs).set j (some (.int n))) H1 (f n)) : EvL (tLc (iList K tl) (gName j) t te vs) σ H ((ns.filter p).map f) := by
  have := el_lcL (K := K) (te := te) (t := t) (vs := vs) (j := j) (fun i => p (ns.getD i 0)) (fun i => f (ns.getD i 0)) h hx (by rw [List.length_map]; exact hz) hw (fun i x H1 e hx' => by
    obtain ⟨rfl, hm⟩ := int_item hx'
    exact ht _ hm H1 e) (fun i x H1 e hx' _ => by
    obtain ⟨rfl, hm⟩ := int_item hx'
    exact he _ hm H1 e)
  rw [List.length_map, given_filter] at this
  exact this
theorem el_mapL {ns : List Int} (f : Int → V) (h : Ev tl σ H (.ref a)) (hx : SqL K H a (ns.map V.int)) (hz : ns.length ≤ 40000) (hw : ∀ x, wipe ((wipe σ vs).set j (some x)) vs = wipe σ vs)
    (he : ∀ (n : Int), n ∈ ns → ∀ H1, Ex H H1 → Ev te ((wipe σ vs).set j (some (.int n))) H1 (f n)) : EvL (tLc (iList K tl) (gName j) tYes te vs) σ H (ns.map f) := by
  have := el_filL (K := K) (te := te) (t := tYes) (vs := vs) (j := j) (fun _ => true) f h hx hz hw (fun _ _ _ _ => et_yes) he
  rw [List.filter_eq_self.mpr (fun _ _ => rfl)] at this
  exact this
theorem el_filR {n : Nat} (p : Nat → Bool) (f : Nat → V) {ta : TA} (h : EvA ta σ H [.int (n : Int)]) (hz : n ≤ 40000) (hw : ∀ x, wipe ((wipe σ vs).set j (some x)) vs = wipe σ vs)
    (ht : ∀ i : Nat, i < n → ∀ H1, Ex H H1 → EvT t ((wipe σ vs).set j (some (.int (i : Int)))) H1 (p i)) (he : ∀ i : Nat, i < n → ∀ H1, Ex H H1 → Ev te ((wipe σ vs).set j (some (.int (i : Int)))) H1 (f i)) : EvL (tLc (iRng1 ta) (gName j) t te vs) σ H (((List.range n).filter p).map f) := by
  have := el_lcR1 (te := te) (t := t) (vs := vs) (j := j) p f h ⟨by omega, by omega⟩ hw (fun i H1 e hi => ht i (by omega) H1 e) (fun i H1 e hi _ => he i (by omega) H1 e)
  rw [Int.toNat_natCast] at this
  exact this
end
end Bt
namespace Bt
open PySem PySem.Spec PyProof.Rows L2 Evl
section
variable {K : PySem.W.Frag} {σ : L2.St} {H H' : Hp} {ta tb tc te tx tl : TE} {t u : TT} {x y z v w : V} {D : Ends} {tu tw tz : TS} {g : TG}
theorem q_par3L {i j l : Nat} {xs : List V} (h1 : EvL ta σ H xs) (h2 : Ev tb σ H v) (h3 : Ev tc σ H w) (k : ∀ p H1, H p = none → Ex H H1 → H1 p = some (.lst xs) → tz D (((σ.set i (some (.ref p))).set j (some v)).set l (some w)) H1) : tSeq (tPar3 i j l (tCons ta (tCons tb (tCons tc tNil)))) tz D σ H :=
  h1 H (Ex.refl H) _ fun p H1 hp e1 l1 => h2 H1 e1 _ fun H2 e2 => h3 H2 (e1.trans e2) _ fun H3 e3 => ⟨.ref p, v, w, rfl, k p H3 hp ((e1.trans e2).trans e3) (e3 _ _ (e2 _ _ l1))⟩
theorem ev_allT {ns : List Int} (h : EvL tl σ H (ns.map fun _ => V.bl true)) : Ev (tCB (rAll K) (tCons tl tNil)) σ H (.bl true) := by
  have h2 : EvL tl σ H ((ns.map fun _ => true).map V.bl) := by
    rw [List.map_map]
    exact h
  have h3 := ev_allN (K := K) h2
  have e : (ns.map fun _ => true).all id = true := by simp
  rw [e] at h3
  exact h3
end
end Bt
namespace Bt
open PySem PySem.Spec PyProof.Rows L2 Evl
/-! ranges of any size: the long iterator beside the short one -/
theorem turn_long {P : Program} {w : World} {K : PySem.W.Frag} {tg : Expr} (z : Addr) (lo : Int) (n : Nat) : Turn P w K tg (Itr lo n) [z] z (fun k g => IsLongIter g z (lo + (k : Nat) * 1) ((n : Int) - (k : Nat)) 1) where
  mem := List.mem_singleton.mpr rfl
  obj := fun k g st b hb => by
    obtain rfl : b = z := List.mem_singleton.mp hb
    refine ⟨_, st, fun v y => ?_⟩
    cases (show Data.fields _ = Data.cell v from y)
  keep := fun k g g' st hk => hk z (List.mem_singleton.mpr rfl) _ st
  item := by
    intro X eP ew eK hc k pins s σ H E I hf st hg
    subst eP ew eK
    obtain ⟨z0, z1, z2, z3, z4, z5⟩ := hf z (List.mem_singleton.mpr rfl)
    refine (Walks.longrange (prog := X.prog) (w := X.w) (I.ok.hd hc) z lo 1 n).item k s _ _ hg st fun v g tk hv st' kk => ?_
    obtain ⟨t, rfl⟩ := hv
    have J : Inv X pins σ H { s with heap := g, toks := tk } := I.turned (fun b o ne e => kk b o (fun y => ne (List.mem_singleton.mp y)) e) z0 z1 z3 z4 z5
    refine ⟨_, rfl, go_of (s := { s with heap := g, toks := tk }) (n := "longrange_iterator") st' rfl rfl (by decide) ⟨.int (lo + k), H, J, ⟨t, by rw [Int.mul_one]⟩, ⟨rfl, rfl⟩, st', fun b hb => (hf b hb).1⟩⟩
  done := by
    intro X eP ew eK hc k pins s σ H E I hf st hg
    subst eP ew eK
    obtain ⟨z0, z1, z2, z3, z4, z5⟩ := hf z (List.mem_singleton.mpr rfl)
    have hn : n ≤ k := hg
    refine wpAny_pyNext_long_end (I.ok.hd hc) st (by omega) fun g eb => ⟨rfl, ?_⟩
    exact I.turned (t' := s.toks) (fun b o ne e => eb b o ne e) z0 z1 z3 z4 z5
  self := fun _ _ _ _ _ st h => wpAny_pyIter_longiter st h
section
variable {X : Cx} {tg : Expr}
theorem long_it {pins : List (Addr × Obj)} {σ : L2.St} {H : Hp} {s : Shared} {R : It → Hp → Prop} {E : Value → Shared → Prop} {lo hi : Int} {t u v : Tok} {tk : Nat} (I : Inv X pins σ H s) (q : R (Itr lo (hi - lo).toNat) H) :
    wpAny (model X.prog X.w) X.A (pyIter (.ref s.heap.objs.size)) (PIE X pins σ tg R) E { s with heap := s.heap.push { cls := .type "range", data := .fields #[.int lo t, .int hi u, .int 1 v] }, toks := tk } := by
  have J : Inv X pins σ H { s with heap := s.heap.push { cls := .type "range", data := .fields #[.int lo t, .int hi u, .int 1 v] }, toks := tk } := I.kept fun _ _ e => Heap.get?_push_of_some _ e
  have d1 : lo + ((0 : Nat) : Int) * 1 = lo := by omega
  have d2 : (((hi - lo).toNat : Nat) : Int) - ((0 : Nat) : Int) = Builtin.Range.rangeSize lo hi 1 := by
    rw [rangeSize_one]
    split <;> omega
  cases hz : Builtin.Range.small lo hi 1 with
  | true =>
    refine wpAny_pyIter_range (IsRange.new ..) hz ⟨_, [_], _, _, H, rfl, J.kept (t' := tk) fun _ _ e => Heap.get?_push_of_some _ e, turn_range _ lo (hi - lo).toNat, ?_, fun b hb => ?_, q⟩
    · show IsRangeIter _ _ (lo + ((0 : Nat) : Int) * 1) ((((hi - lo).toNat : Nat) : Int) - ((0 : Nat) : Int)) 1
      rw [d1, d2]
      exact Heap.get?_push_size _ rfl
    · rw [List.mem_singleton.mp hb]
      exact J.fpOk (Nat.le_refl _) (J.hok.fresh (Nat.le_refl _))
  | false =>
    refine wpAny_pyIter_longrange (IsRange.new ..) hz ⟨_, [_], _, _, H, rfl, J.kept (t' := tk) fun _ _ e => Heap.get?_push_of_some _ e, turn_long _ lo (hi - lo).toNat, ?_, fun b hb => ?_, q⟩
    · show IsLongIter _ _ (lo + ((0 : Nat) : Int) * 1) ((((hi - lo).toNat : Nat) : Int) - ((0 : Nat) : Int)) 1
      rw [d1, d2]
      exact Heap.get?_push_size _ rfl
    · rw [List.mem_singleton.mp hb]
      exact J.fpOk (Nat.le_refl _) (J.hok.fresh (Nat.le_refl _))
def iRngW (ta : TA) : TI := fun σ H R => ta σ H fun vs H1 => ∃ i j : Int, vs = [.int i, .int j] ∧ R (Itr i (j - i).toNat) H1
theorem pi_rangeW {a b : Expr} {ta : TA} {p pos : Pos} (hg : Gl X "range") (hm : X.mg "range" = none) (ha : PA X [a, b] ta) (e1 : starEach [a, b] X.env = [(false, eval a X.env), (false, eval b X.env)] := by rfl) (e2 : starEach [b] X.env = [(false, eval b X.env)] := by rfl) : PI X tg (.Call (.Name "range" p) [a, b] [] pos) (iRngW ta) := by
  refine ⟨fun pins s σ H R I h => Call_ (ld_blt I hg hm boot_range (PyProof.Rows.callWith_type1 (thn (ha.run pos pins s σ H _ I h) fun us s1 ⟨vs, H1, I1, r1, q1⟩ => ?_) (by rw [e1, e2]) (by rw [e2]; rfl)))⟩
  obtain ⟨i, j, rfl, q⟩ := q1
  cases r1 with
  | cons r rr =>
    cases rr with
    | cons r2 rr =>
      cases rr
      obtain ⟨t1, rfl⟩ := r
      obtain ⟨t2, rfl⟩ := r2
      exact call_range_2 (long_it I1 q)
end
section
variable {K : PySem.W.Frag} {σ : L2.St} {H H' : Hp} {ta tb te tx : TE} {t u : TT} {x y z v : V} {D : Ends} {tu tw tz : TS} {g : TG}
theorem s_forW {ta : TA} {j : Nat} {lo hi : Int} (h : EvA ta σ H [.int lo, .int hi]) (Pv : Nat → L2.St → Hp → Prop) (h0 : ∀ H1, Ex H H1 → Pv 0 σ H1)
    (hs : ∀ (i : Nat) σ' H', lo + (i : Int) < hi → Pv i σ' H' → tu { D with nx := Pv (i + 1), ct := Pv (i + 1), bk := D.nx } (σ'.set j (some (.int (lo + (i : Int))))) H') (hd : ∀ σ' H', Pv (hi - lo).toNat σ' H' → D.nx σ' H') : tFor (iRngW ta) (gName j) tu D σ H :=
  h H (Ex.refl H) _ fun H1 e => ⟨lo, hi, rfl, for_range Pv (h0 H1 e) (fun i σ' H' hi' p => hs i σ' H' (by omega) p) hd⟩
theorem q_forW {ta : TA} {j : Nat} {lo hi : Int} (h : EvA ta σ H [.int lo, .int hi]) (Pv : Nat → L2.St → Hp → Prop) (h0 : ∀ H1, Ex H H1 → Pv 0 σ H1)
    (hs : ∀ (i : Nat) σ' H', lo + (i : Int) < hi → Pv i σ' H' → tu { D with nx := Pv (i + 1), ct := Pv (i + 1), bk := tz D } (σ'.set j (some (.int (lo + (i : Int))))) H') (hd : ∀ σ' H', Pv (hi - lo).toNat σ' H' → tz D σ' H') : tSeq (tFor (iRngW ta) (gName j) tu) tz D σ H :=
  s_forW (D := { D with nx := tz D }) h Pv h0 hs hd
end
/-! a < b < c < d as a test -/
section
variable {X : Cx} {a b c d : Expr} {ta tb tc td : TE} {pos : Pos}
def tChain3 (r1 r2 r3 : R2) (ta tb tc td : TE) : TT := fun σ H Q => ta σ H fun x H1 => tb σ H1 fun y H2 => r1 x y H2 fun z H3 => ∃ k, z = .bl k ∧ (if k = true then tc σ H3 fun w H4 => r2 y w H4 fun z2 H5 => ∃ k2, z2 = .bl k2 ∧ (if k2 = true then td σ H5 fun u H6 => r3 w u H6 fun z3 H7 => ∃ k3, z3 = .bl k3 ∧ Q k3 H7 else Q false H5) else Q false H3)
theorem pt_chain3 {o1 o2 o3 : CmpOp} {r1 r2 r3 : R2} (h1 : OpR X (compareOp o1) r1) (h2 : OpR X (compareOp o2) r2) (h3 : OpR X (compareOp o3) r3) (ha : PE X a ta) (hb : PE X b tb) (hc : PE X c tc) (hd : PE X d td)
    (hm : lastMarks [o1, o2, o3] [b, c, d] = false := by with_unfolding_all rfl) : PT X (.Compare a [o1, o2, o3] [b, c, d] pos) (tChain3 r1 r2 r3 ta tb tc td) := by
  refine ⟨fun pins s σ H Q I h => isTrue_chain (thn (ha.run pins s σ H _ I h) fun v1 s1 ⟨x, H1, I1, p1, q1⟩ => test_link (thn (hb.run pins s1 σ H1 _ I1 q1) fun v2 s2 ⟨y, H2, I2, p2, q2⟩ => thn (h1 pins s2 σ H2 x y v1 v2 _ I2 p1 p2 q2) fun v3 s3 ⟨z, H3, I3, p3, k, e3, q3⟩ => ?_)) hm⟩
  subst e3
  cases p3
  refine wpAny_truthy_bool ?_
  cases k with
  | false => exact ite_ff ⟨H3, I3, q3⟩
  | true =>
    refine ite_tt (test_link (thn (hc.run pins s3 σ H3 _ I3 q3) fun v4 s4 ⟨w, H4, I4, p4, q4⟩ => thn (h2 pins s4 σ H4 y w v2 v4 _ I4 p2 p4 q4) fun v5 s5 ⟨z5, H5, I5, p5, k5, e5, q5⟩ => ?_))
    subst e5
    cases p5
    refine wpAny_truthy_bool ?_
    cases k5 with
    | false => exact ite_ff ⟨H5, I5, q5⟩
    | true =>
      refine ite_tt (test_last (thn (hd.run pins s5 σ H5 _ I5 q5) fun v6 s6 ⟨u, H6, I6, p6, q6⟩ => thn (h3 pins s6 σ H6 w u v4 v6 _ I6 p4 p6 q6) fun v7 s7 ⟨z7, H7, I7, p7, k7, e7, q7⟩ => ?_))
      subst e7
      cases p7
      exact wpAny_truthy_bool ⟨H7, I7, q7⟩
theorem et_chain3 {r1 r2 r3 : R2} {σ : L2.St} {H : Hp} {x y z w : V} {b1 b2 b3 : Bool} (ha : Ev ta σ H x) (hb : Ev tb σ H y) (hc : Ev tc σ H z) (hd : Ev td σ H w) (h1 : RV r1 x y H (.bl b1)) (h2 : b1 = true → RV r2 y z H (.bl b2)) (h3 : b2 = true → RV r3 z w H (.bl b3)) : EvT (tChain3 r1 r2 r3 ta tb tc td) σ H (b1 && (b2 && b3)) := fun H1 e Q q =>
  ha H1 e _ fun H2 e2 => hb H2 (e.trans e2) _ fun H3 e3 => h1 H3 ((e.trans e2).trans e3) _ fun H4 e4 => ⟨b1, rfl, by
    have f4 : Ex H1 H4 := (e2.trans e3).trans e4
    cases b1 with
    | false => exact q H4 f4
    | true =>
      show tc σ H4 _
      refine hc H4 (e.trans f4) _ fun H5 e5 => h2 rfl H5 ((e.trans f4).trans e5) _ fun H6 e6 => ⟨b2, rfl, ?_⟩
      have f6 : Ex H1 H6 := f4.trans (e5.trans e6)
      cases b2 with
      | false => exact q H6 f6
      | true =>
        show td σ H6 _
        exact hd H6 (e.trans f6) _ fun H7 e7 => h3 rfl H7 ((e.trans f6).trans e7) _ fun H8 e8 => ⟨b3, rfl, q H8 (f6.trans (e7.trans e8))⟩⟩
end
end Bt
namespace Bt
open PySem PySem.Spec PyProof.Rows L2 Evl
/-! lists of lists of ints that stand in the heap; P: what is known of where -/
inductive RowsP (P : Addr → Prop) (H : Hp) : List V → List (List Int) → Prop
  | nil : RowsP P H [] []
  | cons {a : Addr} {r : List Int} {us : List V} {rs : List (List Int)} : P a → H a = some (.lst (r.map V.int)) → RowsP P H us rs → RowsP P H (.ref a :: us) (r :: rs)
theorem RowsP.mono {P P' : Addr → Prop} {H H' : Hp} (hp : ∀ a, P a → P' a) (e : ∀ a o, P a → H a = some o → H' a = some o) : ∀ {rs : List (List Int)} {us : List V}, RowsP P H us rs → RowsP P' H' us rs
  | [], _, h => by cases h; exact .nil
  | r :: rs, _, h => by
    cases h with
    | cons h1 h2 h3 => exact .cons (hp _ h1) (e _ _ h1 h2) (RowsP.mono hp e h3)
theorem RowsP.append {P : Addr → Prop} {H : Hp} {es : List (List Int)} {vs : List V} (h2 : RowsP P H vs es) : ∀ {rs : List (List Int)} {us : List V}, RowsP P H us rs → RowsP P H (us ++ vs) (rs ++ es)
  | [], _, h => by cases h; exact h2
  | r :: rs, _, h => by
    cases h with
    | cons h1 h3 h4 => exact .cons h1 h3 (RowsP.append h2 h4)
theorem RowsP.len {P : Addr → Prop} {H : Hp} : ∀ {rs : List (List Int)} {us : List V}, RowsP P H us rs → us.length = rs.length
  | [], _, h => by cases h; rfl
  | r :: rs, _, h => by
    cases h with
    | cons h1 h3 h4 => rw [List.length_cons, List.length_cons, RowsP.len h4]
theorem RowsP.get {P : Addr → Prop} {H : Hp} : ∀ {rs : List (List Int)} {us : List V} {i : Nat} {v : V}, RowsP P H us rs → us[i]? = some v → ∃ a r, v = .ref a ∧ rs[i]? = some r ∧ P a ∧ H a = some (.lst (r.map V.int))
  | [], _, i, v, h, e => by cases h; simp at e
  | r :: rs, _, i, v, h, e => by
    cases h with
    | cons h1 h2 h3 =>
      cases i with
      | zero =>
        simp at e
        exact ⟨_, r, e.symm, rfl, h1, h2⟩
      | succ j =>
        simp at e
        obtain ⟨a, r', e1, e2, e3, e4⟩ := RowsP.get h3 e
        exact ⟨a, r', e1, by simpa using e2, e3, e4⟩
def EvRows (te : TE) (σ : L2.St) (H : Hp) (rs : List (List Int)) : Prop := ∀ H1, Ex H H1 → ∀ Q : VK, (∀ p us H2, H1 p = none → Ex H1 H2 → H2 p = some (.lst us) → RowsP (fun a => H1 a = none) H2 us rs → Q (.ref p) H2) → te σ H1 Q
section
variable {K : PySem.W.Frag} {σ : L2.St} {H H' : Hp} {ta tb tc te tx tl : TE} {t u : TT} {x y z v w : V} {D : Ends} {tu tw tz : TS} {g : TG}
/-- a comprehension over range(n) whose items are new lists of ints -/
theorem er_lcR1 {ta : TA} {j : Nat} {vs : List Nat} {n : Nat} (r : Nat → List Int) (h : EvA ta σ H [.int (n : Int)]) (hn : n ≤ 40000) (hw : ∀ x, wipe ((wipe σ vs).set j (some x)) vs = wipe σ vs)
    (he : ∀ (i : Nat) H1, Ex H H1 → i < n → EvL te ((wipe σ vs).set j (some (.int (i : Int)))) H1 ((r i).map V.int)) : EvRows (tLc (iRng1 ta) (gName j) tYes te vs) σ H ((List.range n).map r) := fun H0 e Q q => h H0 e _ fun H1 e1 => ⟨(n : Int), rfl, by omega, by omega, fun Dl hD =>
  lc_range (lo := 0) (n := (n : Int).toNat) (fun i H' => Ex H1 H' ∧ ∃ us, H' Dl = some (.lst us) ∧ RowsP (fun a => H1 a = none ∧ a ≠ Dl) H' us ((List.range i).map r)) ⟨Ex.new hD, [], upd_same, .nil⟩ (fun i H' hi p => by
    have e0 : (0 : Int) + (i : Int) = (i : Int) := Int.zero_add _
    show wipe ((wipe σ vs).set j (some (.int ((0 : Int) + (i : Int))))) vs = wipe σ vs ∧ tYes ((wipe σ vs).set j (some (.int ((0 : Int) + (i : Int))))) H' fun b H3 => if b = true then te ((wipe σ vs).set j (some (.int ((0 : Int) + (i : Int))))) H3 fun y H4 => ∃ acc, H4 Dl = some (.lst acc) ∧ acc.length < sizeLine ∧ (Ex H1 (upd H4 Dl (.lst (acc ++ [y]))) ∧ ∃ us, (upd H4 Dl (.lst (acc ++ [y]))) Dl = some (.lst us) ∧ RowsP (fun a => H1 a = none ∧ a ≠ Dl) (upd H4 Dl (.lst (acc ++ [y]))) us ((List.range (i + 1)).map r)) else _
    rw [e0]
    obtain ⟨ex, us, hl, hr⟩ := p
    refine ⟨hw _, ?_⟩
    show te _ H' _
    refine he i H' ((e.trans e1).trans ex) (by omega) H' (Ex.refl H') _ fun p H4 hp e4 l4 => ⟨us, e4 _ _ hl, ?_, ?_, us ++ [.ref p], upd_same, ?_⟩
    · rw [hr.len, List.length_map, List.length_range]
      exact sz_lt (by omega)
    · exact Ex.mut (ex.trans e4) hD
    · have hne : p ≠ Dl := fun z => by
        rw [z, hl] at hp
        cases hp
      rw [List.range_succ, List.map_append]
      refine RowsP.append (.cons ⟨fresh_back ex hp, hne⟩ (by rw [upd_ne hne]; exact l4) .nil) (hr.mono (fun _ h => h) fun a o ha h => by
        rw [upd_ne ha.2]
        exact e4 _ _ h)) (fun H' p => by
    obtain ⟨ex, us, hl, hr⟩ := p
    rw [Int.toNat_natCast] at hr
    exact q Dl us H' (fresh_back e1 hD) (e1.trans ex) hl (hr.mono (fun a h => fresh_back e1 h.1) fun _ _ _ h => h))⟩
/-- l.extend(new lists) -/
theorem s_extR {l : Addr} {us : List V} {rs rs2 : List (List Int)} (hl : H l = some (.lst us)) (hr : RowsP (fun a => a ≠ l) H us rs) (ha : Ev ta σ H (.ref l)) (h : EvRows te σ H rs2) (hz : rs.length + rs2.length ≤ 100000)
    (k : ∀ us2 H1, Ex H H1 → RowsP (fun a => a ≠ l) (upd H1 l (.lst us2)) us2 (rs ++ rs2) → D.nx σ (upd H1 l (.lst us2))) : tDrop (tBM K "list" rExtend ta (tCons te tNil)) D σ H := ha H (Ex.refl H) _ fun H1 e1 =>
  ⟨Or.inl ⟨rfl, us, sq_of (e1 l _ hl)⟩, h H1 e1 _ fun p us2 H2 hp e2 h2 hr2 => by
    refine ⟨l, p, us, us2, rfl, rfl, e2 l _ (e1 l _ hl), h2, sz_of (by rw [hr.len, hr2.len]; exact hz), k _ H2 (e1.trans e2) ?_⟩
    refine RowsP.append (hr2.mono (P' := fun a => a ≠ l) (fun a ha z => ?_) fun a o ha h => ?_) (hr.mono (fun _ h => h) fun a o ha h => ?_)
    · rw [z, e1 _ _ hl] at ha
      cases ha
    · rw [upd_ne (fun z => by rw [z, e1 _ _ hl] at ha; cases ha)]
      exact h
    · rw [upd_ne ha]
      exact e2 _ _ (e1 _ _ h)⟩
theorem q_parR {i j : Nat} (h2 : Ev tb σ H w) (k : ∀ p a H1, Ex H H1 → H1 p = some (.lst [.ref a]) → H1 a = some (.lst []) → tz D ((σ.set i (some (.ref p))).set j (some w)) H1) : tSeq (tPar i j (tCons (tLst (tCons (tLst tNil) tNil)) (tCons tb tNil))) tz D σ H := by
  refine ⟨sz_of (by simp), fun a ha => ⟨sz_of (by simp), fun p hp => ?_⟩⟩
  have e1 : Ex H (upd (upd H a (.lst [])) p (.lst [.ref a])) := (Ex.new ha).trans (Ex.new hp)
  have hne : a ≠ p := fun z => by
    rw [← z, upd_same] at hp
    cases hp
  exact h2 _ e1 _ fun H3 e3 => ⟨.ref p, w, rfl, k p a H3 (e1.trans e3) (e3 _ _ upd_same) (e3 _ _ (by rw [upd_ne hne, upd_same]))⟩
/-- return sorted(a list of ints that rise) -/
theorem s_retS {a : Addr} {ns : List Int} (h : Ev ta σ H (.ref a)) (hs : SqL K H a (ns.map V.int)) (hp : ns.Pairwise (· ≤ ·)) (k : ∀ p H1, H p = none → Ex H H1 → H1 p = some (.lst (ns.map V.int)) → D.rt (.ref p) H1) : tRet (tCB (rSortedI K) (tCons ta tNil)) D σ H :=
  h H (Ex.refl H) _ fun H1 e1 => ⟨a, ns, rfl, ex_l e1 hs, fun ns' p hperm hpw hpn => by
    have e : ns' = ns := List.Perm.eq_of_pairwise (le := (· ≤ ·)) (fun a b _ _ h1 h2 => Int.le_antisymm h1 h2) hpw hp hperm
    subst e
    exact k p _ (fresh_back e1 hpn) (e1.trans (Ex.new hpn)) upd_same⟩
end
theorem atI_neg1 {xs : List Int} (h : 0 < xs.length) : atI (xs.map V.int) (-1) = some (.int (xs.getD (xs.length - 1) 0)) := by
  unfold atI ixN
  rw [List.length_map, if_neg (by omega), if_pos (by omega), Option.bind_some, show ((-1 : Int) + (xs.length : Int)).toNat = xs.length - 1 by omega, List.getElem?_map, List.getElem?_eq_getElem (by omega), List.getD_eq_getElem?_getD, List.getElem?_eq_getElem (by omega)]
  rfl
end Bt
namespace Bt
open PySem PySem.Spec PyProof.Rows L2 Evl
/-! objects of own classes: made, asked, looked at -/
def tMakeO (C : Addr) : TE := fun _ H Q => ∀ x dx, H x = none → H dx = none → dx ≠ x → Q (.ref x) (upd (upd H dx (.own x)) x (.ins C dx []))
def tMeth2 (C1 C2 : Addr) (m : Str) (sp1 sp2 : Sp) (E : XK) (ta : TE) (t : TA) : TE := fun σ H Q => ta σ H fun x H1 => ∃ a dx fs, x = .ref a ∧ fs.lookup m = none ∧
  ((H1 a = some (.ins C1 dx fs) ∧ t σ H1 fun vs H2 => sp1 (x :: vs) H2 Q E) ∨ (H1 a = some (.ins C2 dx fs) ∧ t σ H1 fun vs H2 => sp2 (x :: vs) H2 Q E))
section
variable {X : Cx} {C C1 C2 f1 f2 : Addr} {fd1 fd2 : FuncData} {ps1 ps2 : List Str} {sp1 sp2 : Sp} {E : XK} {x m : Str} {p pos apos : Pos} {e o : Expr} {es : List Expr} {ta : TE} {t : TA} {k1 k2 : Nat}
/-- C(), C without an __init__ of its own -/
theorem pe_makeO (hm : PySem.W.makesIn X.K C = true) (hi : PySem.W.findIn X.K (.ref C) "__init__" = some (some (.builtin "object.__init__"))) (hk : PySem.W.keepIn X.K (.ref C) = true) (hg : Gl X x) (hmg : X.mg x = some (.ref C))
    (hdb : (x == ("__debug__" : Str)) = false := by decide) : PE X (.Call (.Name x p) [] [] pos) (tMakeO C) := by
  refine ⟨fun pins s σ H Q I h => ?_⟩
  refine wpAny_Call_Name_kw (ld_glob I hg hmg ?_ hdb)
  refine PySem.W.callWith_K0 I.kIn hk ?_
  have I2 := Inv.made (C := C) I
  have hq := h (s.heap.objs.size + 1) s.heap.objs.size (I.hok.fresh (Nat.le_succ _)) (I.hok.fresh (Nat.le_refl _)) (Nat.ne_of_lt (Nat.lt_succ_self _))
  have Y := PySem.W.makes_of (M := model X.prog X.w) I.kIn hm
  refine wpAny_call (make_map0 I.kIn hm hi (fun self => PySem.W.Looks.of_pure (PySem.W.oi_bind self)) ?_)
  obtain ⟨hh, g, d, tk, os⟩ := s
  dsimp only at I2 hq Y ⊢
  have e2 : ((hh.push PySem.W.emptyDict).push (PySem.W.instObj C hh.objs.size)).get? (hh.objs.size + 1) = some (PySem.W.instObj C hh.objs.size) := by
    have := Heap.get?_push_size (hh.push PySem.W.emptyDict) (o := PySem.W.instObj C hh.objs.size) rfl
    rwa [Heap.size_push] at this
  have t1 : PySem.W.Looks (model X.prog X.w) ((hh.push PySem.W.emptyDict).push (PySem.W.instObj C hh.objs.size)) (typeOf (.ref (hh.objs.size + 1))) (.ref C) := (PySem.W.Looks.ld e2).andThen .now
  have t2 : PySem.W.Looks (model X.prog X.w) ((hh.push PySem.W.emptyDict).push (PySem.W.instObj C hh.objs.size)) (isInstance (.ref (hh.objs.size + 1)) (.type "object")) true := t1.andThen (Y.top.keeps fun b o e => Heap.get?_push_of_some _ (Heap.get?_push_of_some _ e))
  refine codeAny_call_builtin PySem.W.oi_plain PySem.W.entry_oi (@PySem.W.check_slot (model X.prog X.w) _ _ _ "object.__init__" "object" "__init__" (.ref (hh.objs.size + 1)) [] [] _ PySem.W.oi_kind PySem.W.oi_split t2 (PySem.W.oi_args (.ref (hh.objs.size + 1))) ?_)
  rw [PySem.W.oi_run]
  exact wpAny_pure (And.intro rfl ⟨.ref (hh.objs.size + 1), _, I2, rfl, hq⟩)
/-- o.m(..), o of one of two classes -/
theorem pe_meth2 {pl : Sem Bool} (he : PE X o ta) (c1 : Cls X.K C1) (c2 : Cls X.K C2) (hm1 : Meth X.K C1 m f1) (hm2 : Meth X.K C2 m f2) (F1 : FnOk X.prog X.w X.K X.mg X.base CX0 k1 f1 fd1 ps1 sp1) (F2 : FnOk X.prog X.w X.K X.mg X.base CX0 k2 f2 fd2 ps2 sp2)
    (hr1 : Room k1 X.A) (hr2 : Room k2 X.A) (hb1 : Binds X.K fd1 ps1 []) (hb2 : Binds X.K fd2 ps2 []) (hx : Passes CX0 X E) (ha : PA X (e :: es) t)
    (hst : starEach (e :: es) X.env = (false, eval e X.env) :: starEach es X.env := by rfl) (hpl : (backTo pos (starEach es X.env)).any (·.1) = false := by rfl)
    (ht : eval (.Call (.Attribute o m apos) (e :: es) [] pos) X.env = (do
      let ov ← eval o X.env
      standAt apos.atName
      let (f, first) ← holding [ov] (getMethod ov m pl)
      callWith pos f first (backTo pos (starEach (e :: es) X.env)) (backToKw pos (keywordEach [] X.env))) := by rfl) :
    PE X (.Call (.Attribute o m apos) (e :: es) [] pos) (tMeth2 C1 C2 m sp1 sp2 E ta t) := by
  refine ⟨fun pins s σ H Q I h => ?_⟩
  refine PySem.W.methodCall_KW (pl := pl) (thn (he.run pins s σ H _ I h) fun u s1 ⟨x, H1, I1, rx, a, dx, fs, ex, l, q⟩ => ?_) ht
  subst ex
  obtain rfl : u = Value.ref a := rx
  rcases q with ⟨ea, q⟩ | ⟨ea, q⟩
  · refine getmeth_ok I1 ea c1 hm1 l ?_
    refine PySem.W.callWith_K (first := [.ref a]) (h₀ := X.base) I.ok.mod.kin hm1.kp (thn (ha.run pos pins s1 σ H1 _ I1 q) fun us s2 ⟨vs, H2, I2, r, q2⟩ => ⟨I2.kIn, ?_⟩) hst hpl
    exact run_fn (us := .ref a :: us) (vs := .ref a :: vs) (dvs := []) F1 hr1 hb1 .nil hx I2 (.cons rfl r) (by rw [List.append_nil]; exact q2)
  · refine getmeth_ok I1 ea c2 hm2 l ?_
    refine PySem.W.callWith_K (first := [.ref a]) (h₀ := X.base) I.ok.mod.kin hm2.kp (thn (ha.run pos pins s1 σ H1 _ I1 q) fun us s2 ⟨vs, H2, I2, r, q2⟩ => ⟨I2.kIn, ?_⟩) hst hpl
    exact run_fn (us := .ref a :: us) (vs := .ref a :: vs) (dvs := []) F2 hr2 hb2 .nil hx I2 (.cons rfl r) (by rw [List.append_nil]; exact q2)
end
/-- a new object of the class at C -/
def EvI (te : TE) (σ : L2.St) (H : Hp) (C : Addr) (fs : List (Str × V)) : Prop := ∀ H1, Ex H H1 → ∀ Q : VK, (∀ p dx H2, H1 p = none → Ex H1 H2 → H2 p = some (.ins C dx fs) → Q (.ref p) H2) → te σ H1 Q
/-- what the class says, so that isinstance asks rightly -/
structure ClsC (K : PySem.W.Frag) (C : Addr) : Prop where
  cl : Cls K C
  ha : PySem.W.findIn K (.ref C) "__class__" = some (some (.builtin "object.__class__"))
  hn : PySem.W.specialIn K (.builtin "object.__class__") "__get__" = some (some (.builtin "getset_descriptor.__get__"))
  ht : PySem.W.takesIn K (.builtin "object.__class__") = some true
  hm : PySem.W.mroIn K C (.type "object") = some true
section
variable {K : PySem.W.Frag} {σ : L2.St} {H H' : Hp} {ta tb te tx : TE} {t u : TT} {x y z v w : V} {D : Ends} {tu tw tz : TS} {g : TG} {C C1 C2 a : Addr} {fs : List (Str × V)} {f m : Str}
theorem ei_makeO : EvI (tMakeO C) σ H C [] := fun H1 e Q q x dx hx hd hn => q x dx _ hx ((Ex.new hd).trans (Ex.new (by rw [upd_ne hn.symm]; exact hx))) upd_same
theorem ev_fld {dx : Addr} (h : Ev ta σ H (.ref a)) (ha : H a = some (.ins C dx fs)) (c : Cls K C) (n : NoAttr K C f) (hl : fs.lookup f = some v) : Ev (tFld K ta f) σ H v := fun H1 e Q q =>
  h H1 e _ fun H2 e2 => ⟨a, C, dx, fs, v, rfl, e2 _ _ (e _ _ ha), c, n, hl, q H2 e2⟩
theorem ev_fldN (h : EvI ta σ H C fs) (c : Cls K C) (n : NoAttr K C f) (hl : fs.lookup f = some v) : Ev (tFld K ta f) σ H v := fun H1 e Q q =>
  h H1 e _ fun p dx H2 hp e2 h2 => ⟨p, C, dx, fs, v, rfl, h2, c, n, hl, q H2 e2⟩
theorem ev_isO {dx c : Addr} {b : Bool} (hc : ClsC K C) (h : Ev ta σ H (.ref a)) (ha : H a = some (.ins C dx fs)) (hk : PySem.W.kitOne K (.ref C) (.ref c) = some b) : Ev (tCB (rIsi K) (tCons ta (tCons (tC (.ref c)) tNil))) σ H (.bl b) := fun H1 e Q q =>
  h H1 e _ fun H2 e2 => ⟨.ref a, .ref c, _, _, b, rfl, .own c, .base (.ins (e2 _ _ (e _ _ ha)) hc.cl hc.ha hc.hn hc.ht hc.hm), hk, q H2 e2⟩
theorem ev_isON {c : Addr} {b : Bool} (hc : ClsC K C) (h : EvI ta σ H C fs) (hk : PySem.W.kitOne K (.ref C) (.ref c) = some b) : Ev (tCB (rIsi K) (tCons ta (tCons (tC (.ref c)) tNil))) σ H (.bl b) := fun H1 e Q q =>
  h H1 e _ fun p dx H2 hp e2 h2 => ⟨.ref p, .ref c, _, _, b, rfl, .own c, .base (.ins h2 hc.cl hc.ha hc.hn hc.ht hc.hm), hk, q H2 e2⟩
theorem ev_meth {dx : Addr} {sp : Sp} {E : XK} {t : TA} {vs : List V} (h : Ev ta σ H (.ref a)) (ha : H a = some (.ins C dx fs)) (hl : fs.lookup m = none) (ht : EvA t σ H vs) (hs : ∀ H1, Ex H H1 → SpV sp (.ref a :: vs) H1 v) : Ev (tMeth C m sp [] E ta t) σ H v := fun H1 e Q q =>
  h H1 e _ fun H2 e2 => ⟨a, dx, fs, rfl, e2 _ _ (e _ _ ha), hl, ht H2 (e.trans e2) _ fun H3 e3 => by rw [List.append_nil]; exact hs H3 ((e.trans e2).trans e3) H3 (Ex.refl H3) _ (fun H4 e4 => q H4 ((e2.trans e3).trans e4)) _⟩
theorem ev_methN {sp : Sp} {E : XK} {t : TA} {vs : List V} (h : EvI ta σ H C fs) (hl : fs.lookup m = none) (ht : EvA t σ H vs) (hs : ∀ p dx H1, H1 p = some (.ins C dx fs) → SpV sp (.ref p :: vs) H1 v) : Ev (tMeth C m sp [] E ta t) σ H v := fun H1 e Q q =>
  h H1 e _ fun p dx H2 hp e2 h2 => ⟨p, dx, fs, rfl, h2, hl, ht H2 (e.trans e2) _ fun H3 e3 => by rw [List.append_nil]; exact hs p dx H3 (e3 _ _ h2) H3 (Ex.refl H3) _ (fun H4 e4 => q H4 ((e2.trans e3).trans e4)) _⟩
theorem ev_meth2a {dx : Addr} {sp1 sp2 : Sp} {E : XK} {t : TA} {vs : List V} (h : Ev ta σ H (.ref a)) (ha : H a = some (.ins C1 dx fs)) (hl : fs.lookup m = none) (ht : EvA t σ H vs) (hs : ∀ H1, Ex H H1 → SpV sp1 (.ref a :: vs) H1 v) : Ev (tMeth2 C1 C2 m sp1 sp2 E ta t) σ H v := fun H1 e Q q =>
  h H1 e _ fun H2 e2 => ⟨a, dx, fs, rfl, hl, Or.inl ⟨e2 _ _ (e _ _ ha), ht H2 (e.trans e2) _ fun H3 e3 => hs H3 ((e.trans e2).trans e3) H3 (Ex.refl H3) _ (fun H4 e4 => q H4 ((e2.trans e3).trans e4)) _⟩⟩
theorem ev_meth2b {dx : Addr} {sp1 sp2 : Sp} {E : XK} {t : TA} {vs : List V} (h : Ev ta σ H (.ref a)) (ha : H a = some (.ins C2 dx fs)) (hl : fs.lookup m = none) (ht : EvA t σ H vs) (hs : ∀ H1, Ex H H1 → SpV sp2 (.ref a :: vs) H1 v) : Ev (tMeth2 C1 C2 m sp1 sp2 E ta t) σ H v := fun H1 e Q q =>
  h H1 e _ fun H2 e2 => ⟨a, dx, fs, rfl, hl, Or.inr ⟨e2 _ _ (e _ _ ha), ht H2 (e.trans e2) _ fun H3 e3 => hs H3 ((e.trans e2).trans e3) H3 (Ex.refl H3) _ (fun H4 e4 => q H4 ((e2.trans e3).trans e4)) _⟩⟩
theorem q_asgI {i : Nat} (h : EvI te σ H C fs) (k : ∀ p dx H1, H p = none → Ex H H1 → H1 p = some (.ins C dx fs) → tz D (σ.set i (some (.ref p))) H1) : tSeq (tAsg te (gName i)) tz D σ H := h H (Ex.refl H) _ k
theorem s_retI (h : EvI te σ H C fs) (k : ∀ p dx H1, H p = none → Ex H H1 → H1 p = some (.ins C dx fs) → D.rt (.ref p) H1) : tRet te D σ H := h H (Ex.refl H) _ k
/-! is, is not -/
theorem ev_isB2 {b c : Bool} (ha : Ev ta σ H (.bl b)) (hb : Ev tb σ H (.bl c)) : Ev (tOp rIsB ta tb) σ H (.bl (decide (b = c))) := ev_op ha hb fun H1 e Q q => ⟨b, c, rfl, rfl, q H1 (Ex.refl H1)⟩
theorem ev_nisB2 {b c : Bool} (ha : Ev ta σ H (.bl b)) (hb : Ev tb σ H (.bl c)) : Ev (tOp rNotB ta tb) σ H (.bl (!decide (b = c))) := ev_op ha hb fun H1 e Q q => ⟨b, c, rfl, rfl, q H1 (Ex.refl H1)⟩
/-- for x in a new tuple of ints, by its place -/
theorem q_forUX {ns : List Int} {tl : TE} {j : Nat} (h : EvU tl σ H (ns.map V.int)) (Pv : Nat → L2.St → Hp → Prop) (h0 : ∀ H1, Ex H H1 → Pv 0 σ H1)
    (hs : ∀ i n H0 σ' H', Ex H H0 → Ex H0 H' → ns[i]? = some n → Pv i σ' H' → tu { D with nx := fun σ3 H3 => Pv (i + 1) σ3 H3 ∧ Ex H0 H3, ct := fun σ3 H3 => Pv (i + 1) σ3 H3 ∧ Ex H0 H3, bk := tz D } (σ'.set j (some (.int n))) H')
    (hd : ∀ σ' H', Ex H H' → Pv ns.length σ' H' → tz D σ' H') : tSeq (tFor (iTup K tl) (gName j) tu) tz D σ H :=
  h H (Ex.refl H) _ fun p H0 hp e0 hl => ⟨p, rfl, ⟨_, st_of hl⟩, for_tup (D := { D with nx := tz D }) (fun i σ' H' => Pv i σ' H' ∧ Ex H0 H') ⟨h0 H0 e0, Ex.refl H0⟩ (fun i σ' H' _ q => st_of (q.2 p _ hl)) (fun i x σ' H' hi q => by
    rw [List.getElem?_map] at hi
    obtain ⟨n, hn, rfl⟩ := Option.map_eq_some_iff.mp hi
    exact hs i n H0 σ' H' e0 q.2 hn q.1) (fun σ' H' q => by
    have := q.1
    rw [List.length_map] at this
    exact hd σ' H' (e0.trans q.2) this)⟩
end
theorem atI_minus {xs : List Int} {i : Nat} (h : i < xs.length) : atI (xs.map V.int) (-1 - (i : Int)) = some (.int (xs.getD (xs.length - 1 - i) 0)) := by
  unfold atI ixN
  rw [List.length_map, if_neg (by omega), if_pos (by omega), Option.bind_some, show ((-1 - (i : Int)) + (xs.length : Int)).toNat = xs.length - 1 - i by omega, List.getElem?_map, List.getElem?_eq_getElem (by omega), List.getD_eq_getElem?_getD, List.getElem?_eq_getElem (by omega)]
  rfl
end Bt
namespace Bt
open PySem PySem.Spec PyProof.Rows L2 Evl
theorem shaped_two {i j : Int} : SeqAt.shaped (.tuple [.int i, .int j]) = true := rfl
theorem eqv_two (i j k l : Int) : PyData.eqv (.tuple [.int i, .int j]) (.tuple [.int k, .int l]) = (decide (i = k) && decide (j = l)) := by
  simp only [PyData.eqv, PyData.eqvAll, Bool.and_true]
  rfl
theorem DhAll.boolsF (H : Hp) (f : Int → Bool) : ∀ xs : List Int, DhAll H (xs.map fun p => V.bl (f p)) (xs.map fun p => PyData.bool (f p))
  | [] => .nil
  | x :: r => .cons (.bl (f x)) (DhAll.boolsF H f r)
section
variable {K : PySem.W.Frag} {σ : L2.St} {H H' : Hp} {ta tb te tx : TE} {D : Ends} {tu tw tz : TS}
theorem ed_boolsF {ns : List Int} {f : Int → Bool} (h : EvL te σ H (ns.map fun p => V.bl (f p))) : EvD te σ H (.list (ns.map fun p => PyData.bool (f p))) := fun H1 e _ q => h H1 e _ fun p H2 _ e2 hp => q _ H2 e2 (.lst hp (DhAll.boolsF H2 f ns))
theorem s_forUI {ns : List Int} {tl : TE} {j : Nat} (h : EvU tl σ H (ns.map V.int)) (Pv : Nat → L2.St → Hp → Prop) (h0 : ∀ H1, Ex H H1 → Pv 0 σ H1)
    (hs : ∀ i n H0 σ' H', Ex H H0 → Ex H0 H' → n ∈ ns → Pv i σ' H' → tu { D with nx := fun σ3 H3 => Pv (i + 1) σ3 H3 ∧ Ex H0 H3, ct := fun σ3 H3 => Pv (i + 1) σ3 H3 ∧ Ex H0 H3, bk := D.nx } (σ'.set j (some (.int n))) H')
    (hd : ∀ σ' H', Ex H H' → Pv ns.length σ' H' → D.nx σ' H') : tFor (iTup K tl) (gName j) tu D σ H := q_forUI (tz := fun D => D.nx) (D := D) h Pv h0 hs hd
end
end Bt
namespace Bt
open PySem PySem.Spec PyProof.Rows L2 Evl
section
variable {K : PySem.W.Frag} {σ : L2.St} {H H' : Hp} {ta tb te tx tl : TE} {t : TT} {D : Ends} {tu tw tz : TS} {vs : List Nat} {j : Nat}
theorem el_filNT {ns : List Int} (p : Int → Bool) (f : Int → V) (h : EvU tl σ H (ns.map V.int)) (hz : ns.length ≤ 40000) (hw : ∀ x, wipe ((wipe σ vs).set j (some x)) vs = wipe σ vs)
    (ht : ∀ (n : Int), n ∈ ns → ∀ H1, Ex H H1 → EvT t ((wipe σ vs).set j (some (.int n))) H1 (p n)) (he : ∀ (n : Int), n ∈ ns → ∀ H1, Ex H H1 → Ev te ((wipe σ vs).set j (some (.int n))) H1 (f n)) : EvL (tLc (iTup K tl) (gName j) t te vs) σ H ((ns.filter p).map f) := by
  have := el_lcNT (K := K) (te := te) (t := t) (vs := vs) (j := j) (fun i => p (ns.getD i 0)) (fun i => f (ns.getD i 0)) h (by rw [List.length_map]; exact hz) hw (fun i x H1 e hx' => by
    obtain ⟨rfl, hm⟩ := int_item hx'
    exact ht _ hm H1 e) (fun i x H1 e hx' _ => by
    obtain ⟨rfl, hm⟩ := int_item hx'
    exact he _ hm H1 e)
  rw [List.length_map, given_filter] at this
  exact this
theorem rv_notN {x : V} : RV (fun x y H Q => y = .non ∧ Q (.bl (!decide (x = .non))) H) x .non H (.bl (!decide (x = .non))) := fun H1 _ Q q => ⟨rfl, q H1 (Ex.refl H1)⟩
theorem eu_if {b : Bool} {xs : List V} (h : EvT t σ H b) (hb : b = true) (h1 : EvU ta σ H xs) : EvU (tIf t ta tb) σ H xs := fun H1 e Q q => h H1 e _ fun H2 e2 => by
  rw [hb]
  show ta σ H2 Q
  exact h1 H2 (e.trans e2) Q fun p H3 hp e3 h3 => q p H3 (fresh_back e2 hp) (e2.trans e3) h3
theorem ei_eq {C C' : Addr} {fs fs' : List (Str × V)} (h : EvI te σ H C fs) (e1 : C = C') (e2 : fs = fs') : EvI te σ H C' fs' := by
  subst e1 e2
  exact h
end
end Bt
namespace Bt
open PySem PySem.Spec PyProof.Rows L2 Evl
theorem elI' {te : TE} {σ : L2.St} {H : Hp} {xs : List V} {ys : List Bool} (h : EvL te σ H xs) (e : xs = ys.map V.bl) : EvL te σ H (ys.map V.bl) := by
  rw [← e]
  exact h
end Bt
/-! lambdas with one parameter as values: made, handed on, asked -/
namespace Bt
open PySem PySem.Spec PyProof.Rows L2 Evl LamX NdefX
/-- at f stands the lambda with the words F (F's own body is not looked at) and the body b -/
def LmO (f : Addr) (F : NF) (b : Expr) : HO := .ext fun g => ∃ m t, g.get? f = some (PySem.W.kla_obj "<lambda>" F.qual F.params b F.scope F.cl m F.c t)
theorem lmO_at {P : Program} {w : World} {H : Hp} {g : Heap} {f : Addr} {F : NF} {b : Expr} (ok : HOk P w H g) (e : H f = some (LmO f F b)) : ∃ m t, g.get? f = some (PySem.W.kla_obj "<lambda>" F.qual F.params b F.scope F.cl m F.c t) := (ok f _ e).1
section
variable {X : Cx} {pins : List (Addr × Obj)} {σ : L2.St} {H : Hp} {s : Shared}
theorem inv_lm {F : NF} {b : Expr} {tk : Nat} {m t : Value} (I : Inv X pins σ H s) : Inv X pins σ (upd H s.heap.objs.size (LmO s.heap.objs.size F b)) { s with heap := s.heap.push (PySem.W.kla_obj "<lambda>" F.qual F.params b F.scope F.cl m F.c t), toks := tk } := by
  have e : (s.heap.push (PySem.W.kla_obj "<lambda>" F.qual F.params b F.scope F.cl m F.c t)).get? s.heap.objs.size = some (PySem.W.kla_obj "<lambda>" F.qual F.params b F.scope F.cl m F.c t) := Heap.get?_push_size _ rfl
  exact I.laid (a := s.heap.objs.size) (fun _ _ z => Heap.get?_push_of_some _ z) (Nat.le_refl _) ⟨⟨m, t, e⟩, ⟨_, e⟩, fun g1 g2 ⟨m, t, z⟩ st => ⟨m, t, st _ z⟩⟩
abbrev lmF (X : Cx) (params : Arguments) (scope : Scope) (c' : Addr) : NF := ⟨"<lambda>", X.env.qual ++ "<lambda>", params, [], scope, cloFrom X.env.cells scope.names [], c'⟩
theorem lm_make {T : List (Addr × Str)} {c p0 : Addr} {params : Arguments} {b : Expr} {scope : Scope} {pos : Pos} {E : Value → Shared → Prop} {Q : Value → Shared → Prop} (I : Inv X pins σ H s) (B : TabB X.base X.mg c p0) (ec : X.env.code = .ref c)
    (hm : (p0, X.env.qual ++ "<lambda>") ∈ T) (hu : ∀ q ∈ T, q.1 = p0 → q.2 = X.env.qual ++ "<lambda>") (hT : Tabs T H) (hd : defaultsOf params X.env = ([], [])) (hf : ∀ y ∈ scope.names, y.2 = .free → ∃ c, X.env.cells.lookup y.1 = some c)
    (k : ∀ (f c' : Addr) (H1 : Hp) (s' : Shared), Inv X pins σ H1 s' → ExtN H H1 → Tabs T H1 → H f = none → H1 f = some (LmO f (lmF X params scope c') b) → H1 c' = some (CodeO c' (X.env.qual ++ "<lambda>")) → Q (.ref f) s') :
    wpAny (model X.prog X.w) X.A (eval (.Lambda params b scope pos) X.env) Q E s := by
  obtain ⟨ps, hP, ht, ha⟩ := hT _ hm
  have bb := B.bm.keeps I.bk
  have gP : s.heap.get? p0 = some { cls := .none, data := .fields ps } := I.hok p0 _ hP
  apply PySem.W.kla_eval hd
  cases hc : codeAmong pos ps.toList with
  | none =>
    apply PySem.W.kla_makeFunction (mg := X.mg) (c := c) (P := p0) (ps := ps) (closure_ok hf) I.ok.glob (I.mod.glob.keeps I.bk) ec (B.code.keeps I.bk) gP ht hc B.gP bb
    intro c' ctv g tk hx hge hlt hrec htb
    obtain ⟨c2, oc, us, t, e2, h1, h2, h3⟩ := hrec
    cases e2
    have nC : H c' = none := I.hok.fresh hge
    have J := inv_table (t' := tk) (more := #[rawInt pos.line, rawInt pos.col, .ref c']) (h' := g) I hP (fun b o hb e => hx b o hb e) htb hge ⟨oc, us, t, h1, h2, h3⟩
    have hE : ExtN H (upd (upd H p0 (.tbl (ps ++ #[rawInt pos.line, rawInt pos.col, .ref c']))) c' (CodeO c' (X.env.qual ++ "<lambda>"))) := by
      intro a o e n
      have n1 : a ≠ c' := ne_of_none e nC
      have n2 : a ≠ p0 := by
        intro z
        rw [z, hP] at e
        exact n ps (Option.some.inj e).symm
      rw [upd_ne n1, upd_ne n2]
      exact e
    have eL : (ps ++ #[rawInt pos.line, rawInt pos.col, .ref c']).toList = ps.toList ++ [rawInt pos.line, rawInt pos.col, .ref c'] := by simp
    have T1 : Tabs T (upd (upd H p0 (.tbl (ps ++ #[rawInt pos.line, rawInt pos.col, .ref c']))) c' (CodeO c' (X.env.qual ++ "<lambda>"))) := by
      intro q hq
      by_cases hb : q.1 = p0
      · have h0 := hu q hq hb
        rw [h0, hb]
        refine ⟨ps ++ #[rawInt pos.line, rawInt pos.col, .ref c'], ?_, ?_, ?_⟩
        · rw [upd_ne (ne_of_none hP nC), upd_same]
        · rw [eL]
          exact PySem.TriplesOk_snoc _ _ _ _ ht
        · intro p' cv hcv
          rw [eL] at hcv
          cases among_app _ ht hcv with
          | inl z =>
            obtain ⟨c0, z1, z2⟩ := ha p' cv z
            exact ⟨c0, z1, hE _ _ z2 codeO_ne⟩
          | inr z => exact ⟨c', z, upd_same⟩
      · obtain ⟨qs, z1, z2, z3⟩ := hT q hq
        refine ⟨qs, ?_, z2, ?_⟩
        · rw [upd_ne (ne_of_none z1 nC), upd_ne hb]
          exact z1
        · intro p' cv hcv
          obtain ⟨c0, y1, y2⟩ := z3 p' cv hcv
          exact ⟨c0, y1, hE _ _ y2 codeO_ne⟩
    have nF := J.hok.fresh (Nat.le_refl _)
    have J2 := inv_lm (F := lmF X params scope c') (b := b) (tk := tk) (m := (X.mg "__name__").getD .none) (t := ctv) J
    refine k g.objs.size c' _ _ J2 ?_ ?_ (I.hok.fresh (Nat.le_trans hge (Nat.le_of_lt hlt))) upd_same ?_
    · intro a o e n
      have e1 := hE a o e n
      have n1 := ne_of_none e1 nF
      exact (upd_ne n1).trans e1
    · exact T1.ext fun a o e => (upd_ne (ne_of_none e nF)).trans e
    · have n1 : c' ≠ g.objs.size := Nat.ne_of_lt hlt
      exact (upd_ne n1).trans upd_same
  | some cv =>
    obtain ⟨c', e, hco⟩ := ha pos cv hc
    subst e
    apply PySem.W.kla_makeFunctionHit (mg := X.mg) (c := c) (P := p0) (ps := ps) (closure_ok hf) I.ok.glob (I.mod.glob.keeps I.bk) ec (B.code.keeps I.bk) gP ht hc bb
    intro ctv g tk hx hz
    have J : Inv X pins σ H { s with heap := g, toks := tk } := I.kept hx
    have nF : H g.objs.size = none := J.hok.fresh (Nat.le_refl _)
    have J2 := inv_lm (F := lmF X params scope c') (b := b) (tk := tk) (m := (X.mg "__name__").getD .none) (t := ctv) J
    have up : ∀ a o, H a = some o → upd H g.objs.size (LmO g.objs.size (lmF X params scope c') b) a = some o := fun a o e => (upd_ne (ne_of_none e nF)).trans e
    exact k g.objs.size c' _ _ J2 (fun a o e _ => up a o e) (hT.ext up) nF upd_same (up _ _ hco)
end
/-- a lambda as an expression -/
def tLm (T : List (Addr × Str)) (mk : Addr → NF) (b : Expr) : TE := fun _ H Q => Tabs T H ∧ ∀ (f c' : Addr) (H1 : Hp), ExtN H H1 → Tabs T H1 → H f = none → H1 f = some (LmO f (mk c') b) → H1 c' = some (CodeO c' (mk c').qual) → Q (.ref f) H1
theorem pe_lam {X : Cx} {T : List (Addr × Str)} {c p0 : Addr} {params : Arguments} {b : Expr} {scope : Scope} {pos : Pos} (B : TabB X.base X.mg c p0) (ec : X.env.code = .ref c) (hm : (p0, X.env.qual ++ "<lambda>") ∈ T) (hu : ∀ q ∈ T, q.1 = p0 → q.2 = X.env.qual ++ "<lambda>")
    (hd : defaultsOf params X.env = ([], [])) (hf : X.Ok → ∀ y ∈ scope.names, y.2 = .free → ∃ c, X.env.cells.lookup y.1 = some c) : PE X (.Lambda params b scope pos) (tLm T (lmF X params scope) b) := by
  constructor
  intro pins s σ H Q I h
  exact lm_make I B ec hm hu h.1 hd (hf I.ok) fun f c' H1 s' J e1 t1 n1 f1 c1 => ⟨.ref f, H1, J, rfl, h.2 f c' H1 e1 t1 n1 f1 c1⟩
/-! a lambda is asked -/
section
variable {C : CXT} {P : Program} {w : World} {K : PySem.W.Frag} {mg : Str → Option Value} {B : Heap} {N fr : List Str} {F : NF} {b : Expr} {f : Addr} {k : Nat} {x : Str}
theorem lm_run (S : NScope N [x] fr F.scope) (hb : ∀ (m t u : Value), bindArgs (PySem.W.kla_fn "<lambda>" F.qual F.params b F.scope F.cl m (.ref F.c) t) ⟨[u], []⟩ = pure [(x, u)]) {A : Around} {out : List Env} {s : Shared} {H : Hp} {u : Value} {v : V} {ws : List (Option V)} {Q : VK} {E : XK}
    (hr : Room (k + 1) A) (e0 : Env0 P w K mg B A out s H) (hf : H f = some (LmO f F b)) (hc : H F.c = some (CodeO F.c F.qual)) (cs : CellsAt F.cl fr ws s.heap H) (r : L2.RelV v u)
    (body : Room k (A.deeper (envF F f s.heap.objs.size)) → ∃ t, PE (ncx C P w K mg B N F f A out s H E) b t ∧ t (startF N [v] ws) H Q) : codeAny (model P w) A (.call (.ref f) ⟨[u], []⟩) (CR C out P w H s Q E) s := by
  have nol : s.heap.NoLimit := e0.mod.nolimit.keeps fun a o e => (e0.bs a o e).1
  obtain ⟨m, t, ho⟩ := lmO_at e0.hok hf
  apply PySem.W.kla_callFunE hr.depth ho rfl S.co S.gen rfl (codeO_at e0.hok hc)
  rw [hb m t u]
  apply wpAny_pure
  refine wpAny_newFunctionEnv S.nocell (fun y hy => ?_) (fun g hns hsb => ⟨nol.fresh _ hsb, ?_⟩) S.kind
  · rw [List.mem_singleton.mp hy]
    exact S.par x (List.mem_singleton.mpr rfl)
  · show codeAny _ _ (.expr b (envF F f s.heap.objs.size)) _ _
    have kp : ∀ a o, s.heap.get? a = some o → g.get? a = some o := by
      intro a o e
      have n1 := Nat.ne_of_lt (Heap.lt_size e)
      exact hsb.extBut a o n1 (Heap.get?_push_of_some _ e)
    obtain ⟨tt, ht, hq⟩ := body (hr.deeper _)
    have J : Inv (ncx C P w K mg B N F f A out s H E) [] (startF N [v] ws) H { s with heap := g, toks := s.toks + ([(x, u)] : List (Str × Value)).length } := inv_startN (ps := [x]) (us := [u]) S hr.hd e0 rfl (Paired.cons r .nil) cs hns kp
    apply PySem.W.kla_codeExpr
    refine wpAny_mono (ht.run [] _ _ H Q J hq) (fun y s' z => ?_) (fun _ _ z => z)
    obtain ⟨v', H', J', rv, q⟩ := z
    exact ⟨v', H', J'.os, J'.bare, J'.base, J'.hok, rv, q⟩
end
/-- what is asked of the lambda at f, handed v, in every heap that holds what H holds: R; Z: what is known of the state -/
def AskR (P : Program) (w : World) (K : PySem.W.Frag) (mg : Str → Option Value) (B : Heap) (k : Nat) (Z : Shared → Hp → List Env → Prop) (f : Addr) (v : V) (H : Hp) (R : Hp → VK → XK → Prop) : Prop :=
  (∃ F b, H f = some (LmO f F b)) ∧ ∀ (A : Around) (out : List Env) (s : Shared) (H1 : Hp) (u : Value) (Q : VK) (E : XK), Ex H H1 → Room k A → Env0 P w K mg B A out s H1 → Z s H1 out → L2.RelV v u → R H1 Q E → codeAny (model P w) A (.call (.ref f) ⟨[u], []⟩) (CR (L2.CX P w) out P w H1 s Q E) s
theorem AskR.mono {P : Program} {w : World} {K : PySem.W.Frag} {mg : Str → Option Value} {B : Heap} {k : Nat} {Z : Shared → Hp → List Env → Prop} {f : Addr} {v : V} {H H' : Hp} {R : Hp → VK → XK → Prop} (e : Ex H H') (a : AskR P w K mg B k Z f v H R) : AskR P w K mg B k Z f v H' R := by
  obtain ⟨⟨F, b, h⟩, g⟩ := a
  exact ⟨⟨F, b, e _ _ h⟩, fun A out s H1 u Q E e1 => g A out s H1 u Q E (e.trans e1)⟩
def tAsk (P : Program) (w : World) (K : PySem.W.Frag) (mg : Str → Option Value) (B : Heap) (k : Nat) (Z : Shared → Hp → List Env → Prop) (i : Nat) (E : L2.St → XK) (ta : TA) : TE := fun σ H Q =>
  ∃ f, σ[i]? = some (some (.ref f)) ∧ (∃ F b, H f = some (LmO f F b)) ∧ ta σ H fun vs H1 => ∃ v R, vs = [v] ∧ AskR P w K mg B k Z f v H1 R ∧ R H1 Q (E σ)
theorem lm_fnAt {X : Cx} {pins : List (Addr × Obj)} {σ : L2.St} {H : Hp} {s : Shared} {f : Addr} (I : Inv X pins σ H s) (e : ∃ F b, H f = some (LmO f F b)) : PySem.W.FnAt f s.heap := by
  obtain ⟨F, b, h⟩ := e
  obtain ⟨m, t, ho⟩ := lmO_at I.hok h
  exact ⟨_, _, _, _, ho⟩
theorem pe_ask {X : Cx} {k i : Nat} {Z : Shared → Hp → List Env → Prop} {a : Str} {E : L2.St → XK} {e : Expr} {p1 p2 : Pos} {ta : TA} (hr : Room k X.A) (hz : ∀ pins s σ H, Inv X pins σ H s → Z s H X.stack) (hN : X.N[i]? = some a) (hv : Vis X.env.scope a) (hx : ∀ σ, PassesAt (L2.CX X.prog X.w) X σ (E σ)) (ha : PA X [e] ta)
    (hd : (a == ("__debug__" : Str)) = false := by decide) (hcd : (a == ("__classdict__" : Str)) = false := by decide) (he : starEach [e] X.env = (false, eval e X.env) :: starEach [] X.env := by rfl) (hpl : (backTo p2 (starEach [] X.env)).any (·.1) = false := by rfl) :
    PE X (.Call (.Name a p1) [e] [] p2) (tAsk X.prog X.w X.K X.mg X.base k Z i E ta) := by
  constructor
  intro pins s σ H Q I h
  obtain ⟨f, hs, hF, ht⟩ := h
  apply wpAny_Call_Name_kw
  refine thn ((pe_var (pos := p1) hN hv hd hcd).run pins s σ H (fun v H1 => v = .ref f ∧ H1 = H) I ⟨.ref f, hs, rfl, rfl⟩) fun u s1 z => ?_
  obtain ⟨v, H1, I1, r1, ev, eH⟩ := z
  subst ev eH
  cases (show u = Value.ref f from r1)
  apply PySem.W.callWith_F (first := []) (lm_fnAt I1 hF) ?_ he hpl
  refine thn (ha.run p2 pins s1 σ H1 _ I1 ht) fun us s2 z => ?_
  obtain ⟨vs, H2, I2, r, v, R, ev, ask, q⟩ := z
  subst ev
  refine ⟨lm_fnAt I2 ask.1, ?_⟩
  cases r with
  | cons r0 rr =>
    cases rr
    rename_i u0
    show wpAny _ _ (call (.ref f) [u0]) _ _ _
    refine wpAny_call (codeAny_mono (ask.2 X.A X.stack s2 H2 u0 Q (E σ) (Ex.refl H2) hr I2.env0 (hz pins s2 σ H2 I2) r0 q) fun r' s' hq => ?_)
    cases r' with
    | error ex => exact hx σ pins H2 s2 ex s' I2 hq
    | ok fl =>
      cases fl with
      | ret y => exact I2.after hq
      | next => cases hq
      | brk => cases hq
      | cont => cases hq
end Bt
namespace Bt
open PySem PySem.Spec PyProof.Rows L2 Evl LamX NdefX
/-! defs that hold lambdas: their code object is known -/
structure LDef (K : PySem.W.Frag) (x : Str) (st : Stmt) (f : Addr) (fd : FuncData) (c : Addr) : Prop where
  ex : ∃ (oc : Value) (od : Option Addr) (kV dc pm : Value) (an : Option Addr) (ct : Value) (os : Array (Option Value)), fd = PySem.W.fnOf x x (defArgs st) (defBody st) (defScope st) .none kV dc pm an (.ref c) ct ∧ K.lookup f = some ⟨oc, od, .func fd, os⟩
  cd : PySem.W.codeIn K (.ref c) x = true
section
variable {P : Program} {w : World} {K : PySem.W.Frag} {mg : Str → Option Value} {B : Heap}
theorem LDef.ok {x : Str} {st : Stmt} {f c : Addr} {fd : FuncData} {N ps : List Str} {k : Nat} {sp : Sp} (L : LDef K x st f fd c) (S : FnScope N ps (defScope st)) (len : ∀ vs H Q E, sp vs H Q E → vs.length = ps.length)
    (body : ∀ (A : Around) (out : List Env) (s : Shared) (H : Hp) (vs : List V) (Q : VK) (E : XK), Room k (A.deeper (envOfC x (defScope st) s.heap.objs.size f (.ref c))) → sp vs H Q E →
      ∃ t, PSs (cxOf CX0 P w K mg B N x (defScope st) f (.ref c) A out s H E).nox (defBody st) t ∧ t { nx := fun _ H' => Q .non H', rt := Q } (start N vs) H) : FnOk P w K mg B CX0 (k + 1) f fd ps sp := by
  obtain ⟨oc, od, kV, dc, pm, an, ct, os, rfl, lk⟩ := L.ex
  refine fn_of lk L.cd S len fun A out s H vs Q E hr hsp => ?_
  obtain ⟨t, h, q⟩ := body A out s H vs Q E hr hsp
  exact ⟨t, h.nox, q⟩
theorem LDef.okG {x : Str} {st : Stmt} {f c : Addr} {fd : FuncData} {N ps : List Str} {k : Nat} {sp : Sp} (L : LDef K x st f fd c) (S : FnScope N ps (defScope st)) (len : ∀ vs H Q E, sp vs H Q E → vs.length = ps.length)
    (body : ∀ (A : Around) (out : List Env) (s : Shared) (H : Hp) (vs : List V) (Q : VK) (E : XK), A.guards = some [] → Room k (A.deeper (envOfC x (defScope st) s.heap.objs.size f (.ref c))) → sp vs H Q E →
      ∃ t, PSs (cxOf CX0 P w K mg B N x (defScope st) f (.ref c) A out s H E).nox (defBody st) t ∧ t { nx := fun _ H' => Q .non H', rt := Q } (start N vs) H) : FnG P w K mg B CX0 (k + 1) f fd ps sp := by
  obtain ⟨oc, od, kV, dc, pm, an, ct, os, rfl, lk⟩ := L.ex
  refine fnG_of lk L.cd S len fun A out s H vs Q E hG hr hsp => ?_
  obtain ⟨t, h, q⟩ := body A out s H vs Q E hG hr hsp
  exact ⟨t, h.nox, q⟩
end
theorem lam_nofree {cells : List (Str × Addr)} {sc : Scope} (h : sc.names.all (fun y => !decide (y.2 = .free)) = true) : ∀ y ∈ sc.names, y.2 = .free → ∃ c, cells.lookup y.1 = some c := by
  intro y hy e
  have := List.all_eq_true.mp h y hy
  rw [e] at this
  cases this
/-- a lambda that holds no names of its maker's -/
theorem ask_of {P : Program} {w : World} {K : PySem.W.Frag} {mg : Str → Option Value} {B : Heap} {N : List Str} {F : NF} {b : Expr} {f : Addr} {k : Nat} {x : Str} {v : V} {H : Hp} {R : Hp → VK → XK → Prop} (S : NScope N [x] [] F.scope)
    (hb : ∀ (m t u : Value), bindArgs (PySem.W.kla_fn "<lambda>" F.qual F.params b F.scope F.cl m (.ref F.c) t) ⟨[u], []⟩ = pure [(x, u)]) (hcl : F.cl = []) (hf : H f = some (LmO f F b)) (hc : H F.c = some (CodeO F.c F.qual))
    (body : ∀ (A : Around) (out : List Env) (s : Shared) (H1 : Hp) (Q : VK) (E : XK), Ex H H1 → Room k (A.deeper (envF F f s.heap.objs.size)) → R H1 Q E → ∃ t, PE (ncx (L2.CX P w) P w K mg B N F f A out s H1 E) b t ∧ t (startF N [v] []) H1 Q) :
    AskR P w K mg B (k + 1) (fun _ _ _ => True) f v H R := by
  refine ⟨⟨F, b, hf⟩, fun A out s H1 u Q E e1 hr e0 _ r q => ?_⟩
  refine lm_run S hb hr e0 (e1 _ _ hf) (e1 _ _ hc) (ws := []) ?_ r fun hr' => body A out s H1 Q E e1 hr' q
  rw [hcl]
  exact ⟨rfl, fun y c z => (by cases z), fun _ _ _ z => (by cases z), fun i y z => (by simp at z)⟩
/-! readings where tables may grow -/
def EvN (T : List (Addr × Str)) (te : TE) (σ : L2.St) (H : Hp) (v : V) : Prop := ∀ H1, ExtN H H1 → Tabs T H1 → ∀ Q : VK, (∀ H2, ExtN H1 H2 → Tabs T H2 → Q v H2) → te σ H1 Q
def EvTN (T : List (Addr × Str)) (tt : TT) (σ : L2.St) (H : Hp) (b : Bool) : Prop := ∀ H1, ExtN H H1 → Tabs T H1 → ∀ Q : Bool → Hp → Prop, (∀ H2, ExtN H1 H2 → Tabs T H2 → Q b H2) → tt σ H1 Q
def RetN (T : List (Addr × Str)) (v : V) (H : Hp) (Q : VK) : Prop := ∀ H2, ExtN H H2 → Tabs T H2 → Q v H2
theorem Ex.xn {H H' : Hp} (e : Ex H H') : ExtN H H' := fun b o h _ => e b o h
section
variable {T : List (Addr × Str)} {K : PySem.W.Frag} {σ : L2.St} {H H' : Hp} {ta tb te tx : TE} {t u : TT} {x y z v w : V} {D : Ends} {tu tw tz : TS} {E : XK} {sp : Sp} {mk : Addr → NF} {b : Expr}
theorem en_of (h : ∀ H1, ExtN H H1 → Ev te σ H1 v) : EvN T te σ H v := fun H1 e t1 Q q => h H1 e H1 (Ex.refl H1) Q fun H2 e2 => q H2 (Ex.xn e2) (t1.ext e2)
theorem en_c : EvN T (tC v) σ H v := en_of fun _ _ => ev_c
theorem etn_of {b : Bool} (h : ∀ H1, ExtN H H1 → EvT t σ H1 b) : EvTN T t σ H b := fun H1 e t1 Q q => h H1 e H1 (Ex.refl H1) Q fun H2 e2 => q H2 (Ex.xn e2) (t1.ext e2)
theorem en_op {r : R2} (ha : EvN T ta σ H x) (hb : EvN T tb σ H y) (hr : ∀ H1, RV r x y H1 z) : EvN T (tOp r ta tb) σ H z := fun H1 e t1 Q q =>
  ha H1 e t1 _ fun H2 e2 t2 => hb H2 (e.trans e2) t2 _ fun H3 e3 t3 => hr H3 H3 (Ex.refl H3) Q fun H4 e4 => q H4 ((e2.trans e3).trans (Ex.xn e4)) (t3.ext e4)
theorem en_is (h : EvN T te σ H v) (e : v = w) : EvN T te σ H w := by
  rw [← e]
  exact h
theorem etn_test {b : Bool} (h : EvN T te σ H (.bl b)) : EvTN T (tTest te) σ H b := fun H1 e t1 Q q => h H1 e t1 _ fun H2 e2 t2 => ⟨b, rfl, q H2 e2 t2⟩
theorem etn_B {b : Bool} (h : EvN T te σ H (.bl b)) : EvTN T (tB te) σ H b := fun H1 e t1 Q q => h H1 e t1 _ fun H2 e2 t2 => ⟨b, rfl, q H2 e2 t2⟩
theorem etn_not {b : Bool} (h : EvTN T t σ H b) : EvTN T (tNot t) σ H (!b) := fun H1 e t1 Q q => h H1 e t1 _ fun H2 e2 t2 => q H2 e2 t2
theorem etn_orF {a b : Bool} (h1 : EvTN T t σ H a) (ha : a = false) (h2 : EvTN T u σ H b) : EvTN T (tOr t u) σ H b := fun H1 e t1 Q q => h1 H1 e t1 _ fun H2 e2 t2 => by
  rw [ha]
  exact h2 H2 (e.trans e2) t2 _ fun H3 e3 t3 => q H3 (e2.trans e3) t3
theorem en_andT {a b : Bool} (h1 : EvN T ta σ H (.bl a)) (ha : a = true) (h2 : EvN T tb σ H (.bl b)) : EvN T (tAndV ta tb) σ H (.bl b) := fun H1 e t1 Q q => h1 H1 e t1 _ fun H2 e2 t2 => ⟨a, rfl, by
  rw [ha]
  show tb σ H2 _
  exact h2 H2 (e.trans e2) t2 _ fun H3 e3 t3 => q H3 (e2.trans e3) t3⟩
/-- g(lambda x: .., e) -/
theorem en_lam (hy : ∀ H1, ExtN H H1 → Ev te σ H1 y) (hs : ∀ f c' H1, ExtN H H1 → H1 f = some (LmO f (mk c') b) → H1 c' = some (CodeO c' (mk c').qual) → SpV sp [.ref f, y] H1 z) : EvN T (tCall sp [] E (tCons (tLm T mk b) (tCons te tNil))) σ H z := fun H1 e t1 Q q =>
  ⟨t1, fun f c' H2 e2 t2 hn hf hc => hy H2 (e.trans e2) H2 (Ex.refl H2) _ fun H3 e3 => hs f c' H2 (e.trans e2) hf hc H3 e3 Q (fun H4 e4 => q H4 (e2.trans (Ex.xn (e3.trans e4))) (t2.ext (e3.trans e4))) E⟩
theorem q_noN {b : Bool} (ht : Tabs T H) (h : EvTN T t σ H b) (e : b = false) (k : ∀ H1, ExtN H H1 → Tabs T H1 → tz D σ H1) : tSeq (tIfS t tu tNext) tz D σ H := by
  subst e
  exact h H (ExtN.refl H) ht _ fun H2 e2 t2 => k H2 e2 t2
theorem s_noN {b : Bool} (ht : Tabs T H) (h : EvTN T t σ H b) (e : b = false) (k : ∀ H1, ExtN H H1 → Tabs T H1 → D.nx σ H1) : tIfS t tu tNext D σ H := by
  subst e
  exact h H (ExtN.refl H) ht _ fun H2 e2 t2 => k H2 e2 t2
theorem s_retN (ht : Tabs T H) (h : EvN T te σ H v) (k : ∀ H1, ExtN H H1 → Tabs T H1 → D.rt v H1) : tRet te D σ H := h H (ExtN.refl H) ht _ k
theorem xn_l {a : Addr} {xs : List V} (e : ExtN H H') (h : H a = some (.lst xs)) : H' a = some (.lst xs) := e a _ h fun _ z => by cases z
theorem xn_t {a : Addr} {xs : List V} (e : ExtN H H') (h : H a = some (.tup xs)) : H' a = some (.tup xs) := e a _ h fun _ z => by cases z
end
mutual
theorem Dh.xn {H H' : Hp} (e : ExtN H H') : ∀ (d : PyData) (v : V), Dh H v d → Dh H' v d
  | .none, _, h => by cases h; exact .non
  | .bool b, _, h => by cases h; exact .bl b
  | .int i, _, h => by cases h; exact .int i
  | .str x, _, h => by cases h; exact .str x
  | .list ds, _, h => by
    cases h with
    | lst hs ha => exact .lst (xn_l e hs) (DhAll.xn e ds _ ha)
  | .tuple ds, _, h => by
    cases h with
    | tup hs ha => exact .tup (xn_t e hs) (DhAll.xn e ds _ ha)
  | .dict _, _, h => by cases h
theorem DhAll.xn {H H' : Hp} (e : ExtN H H') : ∀ (ds : List PyData) (vs : List V), DhAll H vs ds → DhAll H' vs ds
  | [], _, h => by cases h; exact .nil
  | d :: ds, _, h => by
    cases h with
    | cons h1 h2 => exact .cons (Dh.xn e d _ h1) (DhAll.xn e ds _ h2)
end
/-! the end -/
def OwnT (K : PySem.W.Frag) (y : Str) (g : Heap) : Prop := ∀ (f c p0 : Addr) (o : Obj) (fd : FuncData) (e : Value) (dd : Option Addr) (us : Array Value) (sl : Array (Option Value)), PySem.W.nsIn K mainGlobals y = some (some (.ref f)) → K.lookup f = some o → o.data = .func fd → fd.code = .ref c →
  K.lookup c = some ⟨e, dd, .fields us, sl⟩ → us[11]? = some (.ref p0) → PySem.W.CodeHd g c p0 ∧ g.get? p0 = some { cls := .none, data := .fields #[] }
theorem walk_lam {l : PySem.W.OpenLaw} {n k : Nat} {q : Program} {loose : List Str} {XP : (Str → Option Value) → Heap → Prop} {YP : World → Heap → Prop} {d : DefRec} {K : Params → PySem.W.Frag} {C : World → CXT} {x : Str} (ys : List Str)
    (hn : l.most = some n) (hn2 : n ≤ sizeLine) (hdf : d.params.defaults = []) (hr : Room k callerA) (hrec : ∀ y ∈ ys, ((recsOf q).any fun e => e.name == y) = true) (hY : ∀ (w : World) (h : Heap), YP w h → (K w.params).In h)
    (F : ∀ (w : World) (mg : Str → Option Value) (fa : Addr) (h : Heap), (K w.params).In h → h.Ns mainGlobals mg → mg d.name = some (.ref fa) → (∀ y ∈ ys, OwnT (K w.params) y h) → LawAtS l w (K w.params) (C w) k n x mg fa h)
    (hC : ∀ (w : World) (H : Hp) (s : Shared) (e : Value) (s' : Shared), C w [] H s (fun _ _ _ => False) e s' → False) : PySem.W.WalkO q loose XP YP l.row.toRowW d [] (fun f vs => PySem.call f vs) := by
  apply Att.attach_callB hn hdf
  intro w s0 s1 mg mb fa o pm cd doc a vs ns G Y ho hd hcd hmg hobj hints hlen hbits hg
  have kin := hY w _ Y
  have own : ∀ y ∈ ys, OwnT (K w.params) y s1.heap := by
    intro y hy f c p0 o1 fd1 e dd us sl k0 k1 k2 k3 k4 k5
    obtain ⟨dL, hmem, hname⟩ := List.any_eq_true.mp (hrec y hy)
    have hnm : dL.name = y := beq_iff_eq.mp hname
    obtain ⟨a', o', fd', c', p', z1, z2, z3, z4, z5, z6⟩ := G.T.tab dL hmem
    have m0 := PySem.W.mg_of kin G.T.g k0
    rw [hnm, m0] at z1
    cases z1
    have g1 := kin _ _ k1
    rw [g1] at z2
    cases z2
    rw [k2] at z3
    cases z3
    rw [k3] at z4
    cases z4
    have z7 := z6
    obtain ⟨⟨oc, vc, e1, _, e3, e4⟩, hP⟩ := z7
    have g2 := kin _ _ k4
    rw [g2] at e1
    cases e1
    cases e3
    rw [k5] at e4
    cases e4
    exact ⟨PySem.W.CodeHd.of z5 z6, hP⟩
  obtain ⟨fd, cs, sp, hT, nT, Cd, hb, hsp, hF⟩ := F w mg fa _ kin G.T.g hmg own
  exact law_callTs kin G.T.g G.T.b G.T.builtins G.T.nolimit hg hT nT Cd G.T.bmain hobj hints (Nat.le_trans hlen hn2) hr hF hb (fun H hH hS => hsp H a ns hlen hbits hH hS) fun H e s' => hC w H s1 e s'
end Bt
namespace Bt
open PySem PySem.Spec PyProof.Rows L2 Evl
/-! what is no whole number -/
inductive NW (H : Hp) : V → Prop
  | non : NW H .non
  | bl (b : Bool) : NW H (.bl b)
  | str (x : Str) : NW H (.str x)
  | lst {a : Addr} {xs : List V} : H a = some (.lst xs) → NW H (.ref a)
  | tup {a : Addr} {xs : List V} : H a = some (.tup xs) → NW H (.ref a)
  | dct {a : Addr} {kvs : List (Key × V)} : H a = some (.dK kvs) → NW H (.ref a)
theorem NW.mono {H H' : Hp} (e : Ex H H') {v : V} (h : NW H v) : NW H' v := by
  cases h with
  | non => exact .non
  | bl b => exact .bl b
  | str x => exact .str x
  | lst h => exact .lst (e _ _ h)
  | tup h => exact .tup (e _ _ h)
  | dct h => exact .dct (e _ _ h)
def BadN (H : Hp) (v : V) : Prop := NW H v ∨ ∃ i : Int, v = .int i ∧ i < 0
def BadB (H : Hp) (v : V) : Prop := NW H v ∨ ∃ i : Int, v = .int i ∧ ¬ (2 ≤ i ∧ i ≤ 1000)
/-- a number from lo to hi is due -/
def BadIn (lo hi : Int) (H : Hp) (v : V) : Prop := NW H v ∨ ∃ i : Int, v = .int i ∧ ¬ (lo ≤ i ∧ i ≤ hi)
theorem BadN.mono {H H' : Hp} (e : Ex H H') {v : V} (h : BadN H v) : BadN H' v := h.elim (fun z => .inl (z.mono e)) .inr
theorem BadIn.mono {lo hi : Int} {H H' : Hp} (e : Ex H H') {v : V} (h : BadIn lo hi H v) : BadIn lo hi H' v := h.elim (fun z => .inl (z.mono e)) .inr
theorem RaX.mono {c : Addr} {H H' : Hp} {E : XK} (e : Ex H H') (h : RaX c H E) : RaX c H' E := fun H2 e2 => h H2 (e.trans e2)
/-! texts -/
def rMulS : R2 := fun x y H Q => ∃ a n, x = .str a ∧ y = .int n ∧ MulOk a n ∧ Q (.str (Txt.mul a n)) H
def rIntS : List V → Hp → VK → Prop := fun xs H Q => ∃ a n, xs = [.str a] ∧ PySem.intText? a = some n ∧ a.length ≤ 640 ∧ Q (.int n) H
section
variable {X : Cx}
theorem op_mulS : OpR X (binaryOp .Mult) rMulS := by
  intro pins s σ H x y u v Q I rx ry h
  obtain ⟨a, n, rfl, rfl, ok, q⟩ := h
  obtain ⟨t, rfl⟩ := (show ∃ t, u = Value.str a t from rx)
  obtain ⟨t2, rfl⟩ := (show ∃ t, v = Value.int n t from ry)
  exact SB.mul ok fun t' k => ⟨.str (Txt.mul a n), H, I.tok k, ⟨t', rfl⟩, q⟩
theorem call_intS : CallR X (.type "int") rIntS := call_int_str
end
section
variable {K : PySem.W.Frag} {σ : L2.St} {H H' : Hp} {ta tb te tx tl : TE} {t : TT} {x y z v w : V} {D : Ends} {tu tw tz : TS} {E : XK} {sp : Sp}
theorem ev_mulS {a : Str} {n : Int} (ha : Ev ta σ H (.str a)) (hb : Ev tb σ H (.int n)) (h : MulOk a n) : Ev (tOp rMulS ta tb) σ H (.str (Txt.mul a n)) := ev_op ha hb fun H1 _ Q q => ⟨a, n, rfl, rfl, h, q H1 (Ex.refl H1)⟩
theorem ev_addS {a b : Str} (ha : Ev ta σ H (.str a)) (hb : Ev tb σ H (.str b)) (h : a.length + b.length ≤ sizeLine) : Ev (tOp (fun x y H Q => ∃ i j, x = .str i ∧ y = .str j ∧ i.length + j.length ≤ sizeLine ∧ Q (.str (i ++ j)) H) ta tb) σ H (.str (a ++ b)) := ev_op ha hb fun H1 _ Q q => ⟨a, b, rfl, rfl, h, q H1 (Ex.refl H1)⟩
theorem ev_intS {a : Str} {n : Int} (ha : Ev ta σ H (.str a)) (h : PySem.intText? a = some n) (hl : a.length ≤ 640) : Ev (tCB rIntS (tCons ta tNil)) σ H (.int n) := fun H1 e Q q => ha H1 e _ fun H2 e2 => ⟨a, n, rfl, h, hl, q H2 e2⟩
/-- list(range(n)) -/
theorem el_listR {n : Int} (ha : Ev ta σ H (.int n)) (h : 0 ≤ n ∧ n ≤ 1000) : EvL (tLstRg (tRg1 ta)) σ H (rgV 0 n) := fun H1 e Q q =>
  ha H1 e _ fun H2 e2 => ⟨n, rfl, RgOk.of_le (by decide) (by omega) (by decide) (by omega), fun p hp => q p _ (fresh_back e2 hp) (e2.trans (Ex.new hp)) upd_same⟩
theorem ev_niL {xs : List V} (ha : Ev ta σ H x) (hb : EvL tb σ H xs) (hx : flatV x = true) (hf : xs.all flatV = true) : Ev (tOp (rIn K true) ta tb) σ H (.bl (!inV x xs)) := ev_opL ha hb fun _ _ h _ => rv_niL (sq_of h) hx hf
/-- bs.index(True), bools -/
theorem ev_idx {a : Addr} {bs : List Bool} {j : Nat} (ho : Ev ta σ H (.ref a)) (hl : H a = some (.lst (bs.map V.bl))) (hb : Ev tb σ H (.bl true)) (hj : bs[j]? = some true) (hn : (bs.take j).all (fun c => !c) = true) : Ev (tBM K "list" (rIndex K) ta (tCons tb tNil)) σ H (.int (j : Int)) := fun H1 e Q q =>
  ho H1 e _ fun H2 e2 => ⟨Or.inl ⟨rfl, _, sq_of (e2 _ _ (e _ _ hl))⟩, hb H2 (e.trans e2) _ fun H3 e3 => ⟨a, bs.map V.bl, .bl true, j, .bl true, rfl, rfl, sq_of (e3 _ _ (e2 _ _ (e _ _ hl))), rfl, by
    rw [List.all_map]
    exact List.all_eq_true.mpr fun _ _ => rfl, by rw [List.getElem?_map, hj]; rfl, by decide, fun m z hm hz => by
    rw [List.getElem?_map] at hz
    obtain ⟨c, hc, rfl⟩ := Option.map_eq_some_iff.mp hz
    have hm2 : c ∈ bs.take j := List.mem_of_getElem? (by rw [List.getElem?_take_of_lt hm]; exact hc)
    have hc2 := List.all_eq_true.mp hn c hm2
    cases c with
    | true => cases hc2
    | false => decide, q H3 (e2.trans e3)⟩⟩
/-- a call that raises ends what follows -/
theorem q_rx {ta : TA} {vs : List V} {C : Addr} (h : EvA ta σ H vs) (hs : ∀ H1, Ex H H1 → ∀ Q, sp vs H1 Q E) : tSeq (tDrop (tCall sp [] E ta)) tz D σ H := h H (Ex.refl H) _ fun H1 e1 => by
  show sp (vs ++ []) H1 _ E
  rw [List.append_nil]
  exact hs H1 e1 _
end
end Bt
namespace Bt
open PySem PySem.Spec PyProof.Rows L2 Evl
/-- try: a(e) except c as n: suite, what is asked raises C -/
theorem q_tryA {P : Program} {w : World} {K : PySem.W.Frag} {mg : Str → Option Value} {B : Heap} {k : Nat} {Z : Shared → Hp → List Env → Prop} {σ : L2.St} {H : Hp} {D : Ends} {tz : TS} {ta : TA} {v : V} {f C : Addr} {c : Value} {i i0 : Nat} {ts : Addr → Value → Option Addr → TS} {Wout : WX}
    (hs : σ[i0]? = some (some (.ref f))) (h : EvA ta σ H [v]) (ha : AskR P w K mg B k Z f v H fun H1 _ E => RaX C H1 E) (hm : PySem.W.exmOne K (.ref C) c = some true)
    (kk : ∀ a H1, Ex H H1 → H1 a = none → ts a (.ref C) none { nx := fun σ' H' => tz D (σ'.set i none) H', rt := D.rt, bk := fun σ' H' => D.bk (σ'.set i none) H', ct := fun σ' H' => D.ct (σ'.set i none) H' } (σ.set i (some (.ref a))) H1) :
    tSeq (fun D σ H => tDrop (tAsk P w K mg B k Z i0 (WE (wAs K c i ts Wout D)) ta) D σ H) tz D σ H :=
  ⟨f, hs, ha.1, h H (Ex.refl H) _ fun H1 e1 => ⟨v, _, rfl, ha.mono e1, fun H2 e2 => ⟨true, hm, fun _ a hn => kk a H2 (e1.trans e2) hn, fun z => by cases z⟩⟩⟩
end Bt
namespace Bt
open PySem PySem.Spec PyProof.Rows L2 Evl
/-! within an except suite: the frame's text named apart from the suite -/
theorem ix_tupK {X : Cx} {K : PySem.W.Frag} (hK : X.K = K) : IxR X (rIxT K) := by
  subst hK
  exact ix_tup
theorem pe_idxK {X : Cx} {K : PySem.W.Frag} {o e : Expr} {to : TE} {t : TA} {apos cpos : Pos} (hK : X.K = K) (ho : PE X o to) (ha : PA X [e] t) (hbase : attributeBase o "index" X.env (eval o X.env) = eval o X.env := by rfl)
    (hfew : ((backTo cpos (starEach [e] X.env)).all (fun x => !x.1) && (backToKw cpos (keywordEach [] X.env)).all (fun x => x.1.isSome) && decide ([e].length + ([] : List Keyword).length + (if ([] : List Keyword).isEmpty then 0 else 1) < 30)) = true := by rfl)
    (hline : (apos.endLine == cpos.line) = true := by rfl) (hs : starEach [e] X.env = (false, eval e X.env) :: starEach [] X.env := by rfl) (hplain : (backTo cpos (starEach [] X.env)).any (·.1) = false := by rfl) :
    PE X (.Call (.Attribute o "index" apos) [e] [] cpos) (tBM K "list" (rIndex K) to t) := by
  subst hK
  exact pe_bm PySem.F.plainAttrs_list PySem.F.slot_list_index PySem.F.type_list_index mt_index ho ha hbase hfew hline hs hplain
end Bt
namespace Bt
open PySem PySem.Spec PyProof.Rows L2 Evl
theorem pe_askK {X : Cx} {P : Program} {w : World} {K : PySem.W.Frag} {mg : Str → Option Value} {B : Heap} {k i : Nat} {Z : Shared → Hp → List Env → Prop} {a : Str} {E : L2.St → XK} {e : Expr} {p1 p2 : Pos} {ta : TA} (e1 : X.prog = P) (e2 : X.w = w) (e3 : X.K = K) (e4 : X.mg = mg) (e5 : X.base = B) (hr : Room k X.A)
    (hz : ∀ pins s σ H, Inv X pins σ H s → Z s H X.stack) (hN : X.N[i]? = some a) (hv : Vis X.env.scope a) (hx : ∀ σ, PassesAt (L2.CX X.prog X.w) X σ (E σ)) (ha : PA X [e] ta)
    (hd : (a == ("__debug__" : Str)) = false := by decide) (hcd : (a == ("__classdict__" : Str)) = false := by decide) (he : starEach [e] X.env = (false, eval e X.env) :: starEach [] X.env := by rfl) (hpl : (backTo p2 (starEach [] X.env)).any (·.1) = false := by rfl) :
    PE X (.Call (.Name a p1) [e] [] p2) (tAsk P w K mg B k Z i E ta) := by
  subst e1 e2 e3 e4 e5
  exact pe_ask hr hz hN hv hx ha hd hcd he hpl
end Bt
namespace Bt
open PySem PySem.Spec PyProof.Rows L2 Evl LamX
section
variable {T : List (Addr × Str)} {K : PySem.W.Frag} {σ : L2.St} {H H' : Hp} {ta tb te tx tl : TE} {t : TT} {x y z v w : V} {D : Ends} {tu tw tz : TS} {g : TG} {E : XK} {sp : Sp}
/-- a for over a written tuple in which tables may grow: the item a name, the body one test -/
theorem q_forDTN1 {ds : List PyData} {j : Nat} (ht : Tabs T H) (h : EvD tl σ H (.tuple ds)) (Pv : Nat → L2.St → Prop) (h0 : Pv 0 σ)
    (hs : ∀ i v d' σ' H', ExtN H H' → Tabs T H' → ds[i]? = some d' → Dh H' v d' → Pv i σ' → EvTN T t (σ'.set j (some v)) H' false ∧ Pv (i + 1) (σ'.set j (some v)))
    (hd : ∀ σ' H', ExtN H H' → Tabs T H' → Pv ds.length σ' → tz D σ' H') : tSeq (tFor (iTup K tl) (gName j) (tIfS t tu tNext)) tz D σ H :=
  h H (Ex.refl H) _ fun v H0 e0 hv => by
    cases hv with
    | @tup a xs ds hl ha =>
      refine ⟨a, rfl, ⟨xs, st_of hl⟩, for_tup (D := { D with nx := tz D }) (fun i σ' H' => Pv i σ' ∧ ExtN H0 H' ∧ Tabs T H') ⟨h0, ExtN.refl H0, ht.ext e0⟩ (fun i σ' H' _ q => st_of (xn_t q.2.1 hl)) (fun i x σ' H' hi q => ?_) (fun σ' H' q => ?_)⟩
      · obtain ⟨d', e', h'⟩ := DhAll.get ha hi
        obtain ⟨h1, h2⟩ := hs i x d' σ' H' ((Ex.xn e0).trans q.2.1) q.2.2 e' (Dh.xn q.2.1 _ _ h') q.1
        exact s_noN q.2.2 h1 rfl fun H2 e2 t2 => ⟨h2, q.2.1.trans e2, t2⟩
      · have := q.1
        rw [ha.length] at this
        exact hd σ' H' ((Ex.xn e0).trans q.2.1) q.2.2 this
/-- a comprehension over a list of pairs -/
theorem el_lcPairs {a : Addr} {xs : List V} {j l : Nat} {vs : List Nat} (f : Nat → V) (h : Ev tl σ H (.ref a)) (hx : SqL K H a xs) (hz : xs.length ≤ 40000)
    (hg : ∀ (i : Nat) (x : V) H1, Ex H H1 → xs[i]? = some x → ∃ p u w, x = .ref p ∧ SqT K H1 p [u, w] ∧ wipe (((wipe σ vs).set j (some u)).set l (some w)) vs = wipe σ vs ∧ Ev te (((wipe σ vs).set j (some u)).set l (some w)) H1 (f i)) :
    EvL (tLc (iList K tl) (gTup K 2 (gCons (gName j) (gCons (gName l) gNil))) tYes te vs) σ H ((List.range xs.length).map f) := fun H0 e Q q => h H0 e _ fun H1 e1 => ⟨a, rfl, ⟨xs, ex_l (e.trans e1) hx⟩, fun Dl hD =>
  lc_list (xs := xs) (Cw H1 (fun _ => true) f Dl) ⟨hD, Ex.new hD, upd_same⟩ (fun i H' _ p => ex_l ((e.trans e1).trans p.2.1) hx) (fun i x H' hi p => by
    obtain ⟨q, u, w, rfl, hq, hw, he⟩ := hg i x H1 (e.trans e1) hi
    refine ⟨q, [u, w], rfl, ex_t p.2.1 hq, rfl, u, [w], rfl, w, [], rfl, rfl, hw, ?_⟩
    have hlt := (List.getElem?_eq_some_iff.mp hi).1
    exact cw_turn p (by omega) et_yes fun _ => he) (fun H' p => q Dl H' (fresh_back e1 p.1) (e1.trans p.2.1) (by rw [← given_all]; exact p.2.2))⟩
theorem rv_isN {x : V} : RV (fun x y H Q => y = .non ∧ Q (.bl (decide (x = .non))) H) x .non H (.bl (decide (x = .non))) := fun H1 _ Q q => ⟨rfl, q H1 (Ex.refl H1)⟩
theorem en_call {ta : TA} {vs : List V} (h : ∀ H1, ExtN H H1 → EvA ta σ H1 vs) (hs : ∀ H1 Q, Tabs T H1 → RetN T z H1 Q → sp vs H1 Q E) : EvN T (tCall sp [] E ta) σ H z := fun H1 e t1 Q q =>
  h H1 e H1 (Ex.refl H1) _ fun H2 e2 => by
    rw [List.append_nil]
    exact hs H2 Q (t1.ext e2) fun H3 e3 t3 => q H3 ((Ex.xn e2).trans e3) t3
end
end Bt
namespace Bt
open PySem PySem.Spec PyProof.Rows L2 Evl
theorem pg_tupK {X : Cx} {K : PySem.W.Frag} {tg : Expr} {n : Nat} {gs : TGs} (hK : X.K = K) (h : PG X tg (gTup X.K n gs)) : PG X tg (gTup K n gs) := by
  subst hK
  exact h
end Bt
namespace Bt
open PySem PySem.Spec PyProof.Rows L2 Evl
theorem op_eqDK {X : Cx} {K : PySem.W.Frag} (hK : X.K = K) (hu : X.A.units + 64 < cLine) : OpR X (compareOp .Eq) (rEqD K) := by
  subst hK
  exact op_eqD hu
theorem op_neDK {X : Cx} {K : PySem.W.Frag} (hK : X.K = K) (hu : X.A.units + 64 < cLine) : OpR X (compareOp .NotEq) (rNeD K) := by
  subst hK
  exact op_neD hu
theorem pe_K {X : Cx} {K : PySem.W.Frag} {e : Expr} {F : PySem.W.Frag → TE} (hK : X.K = K) (h : PE X e (F X.K)) : PE X e (F K) := by
  subst hK
  exact h
end Bt
namespace Bt
open PySem PySem.Spec PyProof.Rows L2 Evl
theorem pe_revLK {X : Cx} {K : PySem.W.Frag} {e : Expr} {te : TE} {k : Nat} {p1 p2 p3 pos : Pos} (hK : X.K = K) (he : PE X e te) : PE X (.Subscript e (.Slice none none (some (.UnaryOp .USub (.Constant (.int 1) k p1) p2)) p3) pos) (tRevL K te) := by
  subst hK
  exact pe_revL he
theorem call_lenK {X : Cx} {K : PySem.W.Frag} (hK : X.K = K) : CallR X (.builtin "len") (rLenS K) := by
  subst hK
  exact call_len_seq
end Bt
namespace Bt
open PySem PySem.Spec PyProof.Rows L2 Evl
theorem etn_is {T : List (Addr × Str)} {t : TT} {σ : L2.St} {H : Hp} {a b : Bool} (h : EvTN T t σ H a) (e : a = b) : EvTN T t σ H b := by
  rw [← e]
  exact h
end Bt
namespace Bt
open PySem PySem.Spec PyProof.Rows L2 Evl LamX NdefX
/-! a def called within an except suite, handed the error -/
structure FnP (P : Program) (w : World) (K : PySem.W.Frag) (mg : Str → Option Value) (B : Heap) (k : Nat) (f : Addr) (fd : FuncData) (ps : List Str) (sp : Addr × Obj → Sp) : Prop where
  len : ∀ p vs H Q E, sp p vs H Q E → vs.length = ps.length
  go : ∀ (A : Around) (out : List Env) (s : Shared) (H : Hp) (args : Args) (us : List Value) (vs : List V) (Q : VK) (E : XK) (p : Addr × Obj), L2H.RoomH k A → L2H.PinOk out H s p → Env0 P w K mg B A out s H → BindsTo s fd args (ps.zip us) → Vals vs us → sp p vs H Q E →
    codeAny (model P w) A (.call (.ref f) args) (CR CX0 out P w H s Q E) s
section
variable {P : Program} {w : World} {K : PySem.W.Frag} {mg : Str → Option Value} {B : Heap}
theorem okP {x ql : Str} {st : Stmt} {f : Addr} {fd : FuncData} {N ps : List Str} {k : Nat} {sp : Addr × Obj → Sp} (F : Fun K x ql st f fd) (S : FnScope N ps (defScope st)) (len : ∀ p vs H Q E, sp p vs H Q E → vs.length = ps.length)
    (body : ∀ (cv : Value) (A : Around) (out : List Env) (s : Shared) (H : Hp) (vs : List V) (Q : VK) (E : XK) (p : Addr × Obj), L2H.RoomH k (A.deeper (envOfC ql (defScope st) s.heap.objs.size f cv)) → sp p vs H Q E →
      ∃ t, PSs (L2H.cxH CX0 P w K mg B N ql (defScope st) f cv A out s H E p) (defBody st) t ∧ t { nx := fun _ H' => Q .non H', rt := Q } (start N vs) H) : FnP P w K mg B (k + 1) f fd ps sp := by
  obtain ⟨oc, od, kV, dc, pm, an, cv, ct, os, rfl, lk, hcd⟩ := F.ex
  refine ⟨len, fun A out s H args us vs Q E p hr hpin e0 hb r hsp => ?_⟩
  have kin : K.In s.heap := e0.mod.kin.keeps fun b o e => (e0.bs b o e).1
  have nol : s.heap.NoLimit := e0.mod.nolimit.keeps fun b o e => (e0.bs b o e).1
  have kinds : ∀ y ∈ ps.zip us, (defScope st).names.lookup y.1 = some .local ∨ ((defScope st).names.lookup y.1 = some .cell ∧ ((cellsFrom (s.heap.objs.size + 1) (defScope st).names []).lookup y.1).isSome = true) := by
    rintro ⟨n, v⟩ hy
    cases S.par n (List.of_mem_zip hy).1 with
    | inl q => exact Or.inl q
    | inr q => exact Or.inr ⟨q, PySem.W.cellsFrom_some _ _ _ (Or.inl q)⟩
  apply codeAny_call_function hr.depth (kin _ _ lk) rfl S.co S.gen rfl (PySem.W.codeRec_of kin hcd)
  apply hb
  apply wpAny_newFunctionEnv_cells S.kind kinds
  intro env he s1 z
  subst he
  refine ⟨nol.keeps z.toInCall.keep, codeAny_func ?_⟩
  obtain ⟨t, ht, hq⟩ := body cv A out s H vs Q E p (hr.deeper _) hsp
  have J := L2H.inv_startH (CX := CX0) (E := E) (f := f) (cd := cv) S hpin e0 (len _ _ _ _ _ hsp) r z
  refine wpAny_mono (ht.run [] s1 (start N vs) H _ J hq) (fun fl s' hs => ?_) (fun _ _ hs => hs)
  cases fl with
  | ret u =>
    obtain ⟨v, σ', H', I2, rv, q⟩ := hs
    exact ⟨v, H', I2.os, I2.bare, I2.base, I2.hok, rv, q⟩
  | next =>
    obtain ⟨σ', H', I2, q⟩ := hs
    exact ⟨V.non, H', I2.os, I2.bare, I2.base, I2.hok, rfl, q⟩
  | brk =>
    obtain ⟨_, _, _, q⟩ := hs
    cases q
  | cont =>
    obtain ⟨_, _, _, q⟩ := hs
    cases q
end
theorem call_isP {X : Cx} {p : Addr × Obj} {cls : Value} {d : Option Addr} (hp : p ∈ X.pn) (hz : Zc cls d p.2) (hf : ∃ vs, p.2.data = .fields vs) {K : PySem.W.Frag} (hK : X.K = K) : CallR X (.builtin "isinstance") (rIsE2 K cls d p.1) := by
  subst hK
  intro pins s σ H xs us Q I r h
  obtain ⟨D, c, cv, b, rfl, rfl, C, rfl, hc, e, q⟩ := h
  cases r with
  | cons rx rr =>
    cases rr with
    | cons rt rr =>
      cases rr
      cases rx
      have ec := hc.eq rt
      subst ec
      have hget := (I.pin p (List.mem_append.mpr (Or.inl hp))).1
      obtain ⟨vs, hv⟩ := hf
      have J : PySem.W.InstAt s.heap p.1 p.2 D none := by
        obtain ⟨pa, ⟨oc, od, oda, osl⟩⟩ := p
        obtain ⟨h1, h2⟩ := hz
        dsimp only at h1 h2 hv hget
        subst h1 h2 hv
        exact ⟨hget, rfl, rfl, trivial⟩
      exact PySem.W.kia_one (PySem.W.handS_kitx_exc C.hg C.hk C.hs C.hd C.ha C.hn C.ht C.hm) I.kIn J e (fun z => nomatch z) fun tk => ⟨.bl b, H, I.kept (t' := tk) fun _ _ z => z, rfl, q⟩
/-- f(e, ..) there -/
theorem pe_callP {X : Cx} {P : Program} {w : World} {K : PySem.W.Frag} {mg : Str → Option Value} {B : Heap} {k : Nat} {f : Addr} {fd : FuncData} {ps : List Str} {sp : Addr × Obj → Sp} {x : Str} {p0 pos : Pos} {e : Expr} {es : List Expr} {t : TA} {p : Addr × Obj} (e1 : X.prog = P) (e2 : X.w = w) (e3 : X.K = K) (e4 : X.mg = mg) (e5 : X.base = B)
    (F : FnP P w K mg B k f fd ps sp) (hr : L2H.RoomH k X.A) (hp : p ∈ X.pn) (hg : Gl X x) (hm : mg x = some (.ref f)) (hk : PySem.W.keepIn K (.ref f) = true) (hb : Binds K fd ps []) (ha : PA X (e :: es) t) {spp : Sp} (hsp : ∀ vs H Q E, spp vs H Q E → sp p vs H Q E)
    (hdb : (x == ("__debug__" : Str)) = false := by decide) (he : starEach (e :: es) X.env = (false, eval e X.env) :: starEach es X.env := by rfl) (hpl : (backTo pos (starEach es X.env)).any (·.1) = false := by rfl) :
    PE X (.Call (.Name x p0) (e :: es) [] pos) (tCall spp [] (fun _ _ _ => False) t) := by
  subst e1 e2 e3 e4 e5
  constructor
  intro pins s σ H Q I h
  apply wpAny_Call_Name_kw
  apply ld_glob I hg hm ?_ hdb
  apply PySem.W.callWith_K (h₀ := X.base) I.ok.mod.kin hk ?_ he hpl
  refine thn (ha.run pos pins s σ H _ I h) fun us s1 ⟨vs, H1, I1, r, q⟩ => ⟨I1.kIn, ?_⟩
  have q' : sp p vs H1 Q (fun _ _ _ => False) := by
    have z := q
    dsimp only at z
    rw [List.append_nil] at z
    exact hsp _ _ _ _ z
  have hl : us.length = ps.length := by
    rw [← Paired.length r]
    exact F.len _ _ _ _ _ q'
  have hb' := hb s1 us I1.kIn (by rw [List.append_nil]; exact hl)
  rw [List.append_nil] at hb'
  have P1 := I1.pin p (List.mem_append_left _ hp)
  have hpin : L2H.PinOk X.stack H1 s1 p := ⟨P1.1, P1.2.1, fun hm => (List.mem_cons.mp (I1.stkSub p.1 hm)).elim P1.2.2.1 P1.2.2.2.1, P1.2.2.2.2⟩
  refine wpAny_call (codeAny_mono (F.go X.A X.stack s1 H1 ⟨us, []⟩ us vs Q _ p hr hpin I1.env0 hb' r q') fun r' s' hq => ?_)
  cases r' with
  | error ex => exact (show False from hq).elim
  | ok fl =>
    cases fl with
    | ret u => exact I1.after hq
    | next => cases hq
    | brk => cases hq
    | cont => cases hq
/-! lambdas in lists -/
def LamFor (P : Program) (w : World) (K : PySem.W.Frag) (mg : Str → Option Value) (B : Heap) (k : Nat) (Bd : Hp → V → Prop) (C : Addr) (H : Hp) (f : Addr) : Prop := ∃ F b, H f = some (LmO f F b) ∧ H F.c = some (CodeO F.c F.qual) ∧ ∀ H' v, H' f = some (LmO f F b) → H' F.c = some (CodeO F.c F.qual) → Bd H' v → AskR P w K mg B k (fun _ _ _ => True) f v H' fun H1 _ E => RaX C H1 E
theorem lmO_ne {f : Addr} {F : NF} {b : Expr} (ps : Array Value) : LmO f F b ≠ .tbl ps := fun z => by
  unfold LmO at z
  cases z
section
variable {P : Program} {w : World} {K : PySem.W.Frag} {mg : Str → Option Value} {B : Heap} {k : Nat} {Bd : Hp → V → Prop} {C : Addr} {H H' : Hp} {f : Addr} {T : List (Addr × Str)} {σ : L2.St} {ta : TA} {te tb : TE} {mk : Addr → NF} {b : Expr} {Pf : Hp → Addr → Prop} {D : Ends} {tz : TS}
theorem LamFor.xn (e : ExtN H H') (h : LamFor P w K mg B k Bd C H f) : LamFor P w K mg B k Bd C H' f := by
  obtain ⟨F, b, h1, h2, h3⟩ := h
  exact ⟨F, b, e _ _ h1 lmO_ne, e _ _ h2 codeO_ne, h3⟩
def EvFN (T : List (Addr × Str)) (ta : TA) (σ : L2.St) (H : Hp) (Pf : Hp → Addr → Prop) (n : Nat) : Prop := ∀ H1, ExtN H H1 → Tabs T H1 → ∀ Q : List V → Hp → Prop, (∀ (fs : List Addr) H2, ExtN H1 H2 → Tabs T H2 → fs.length = n → (∀ f ∈ fs, Pf H2 f) → Q (fs.map V.ref) H2) → ta σ H1 Q
theorem ef_nil : EvFN T tNil σ H Pf 0 := fun H1 _ t1 _ q => q [] H1 (ExtN.refl H1) t1 rfl (fun f hf => absurd hf List.not_mem_nil)
theorem ef_cons {n : Nat} {tr : TA} (hx : ∀ H H' f, ExtN H H' → Pf H f → Pf H' f) (h : ∀ f c' H1, H1 f = some (LmO f (mk c') b) → H1 c' = some (CodeO c' (mk c').qual) → Pf H1 f) (hr : EvFN T tr σ H Pf n) : EvFN T (tCons (tLm T mk b) tr) σ H Pf (n + 1) := fun H1 e t1 Q q =>
  ⟨t1, fun f c' H2 e2 t2 hn hf hc => hr H2 (e.trans e2) t2 _ fun fs H3 e3 t3 hl hfs => q (f :: fs) H3 (e2.trans e3) t3 (by rw [List.length_cons, hl]) (fun g hg => by
    cases hg with
    | head => exact hx _ _ _ e3 (h f c' H2 hf hc)
    | tail _ hg => exact hfs g hg)⟩
/-- free but for tables -/
def NFr (H : Hp) (p : Addr) : Prop := ∀ o, H p = some o → ∃ ps, o = .tbl ps
theorem NFr.of (h : H f = none) : NFr H f := fun o z => by
  rw [h] at z
  cases z
theorem NFr.back (e : ExtN H H') (h : NFr H' f) : NFr H f := fun o z => by
  cases o with
  | tbl ps => exact ⟨ps, rfl⟩
  | _ => exact h _ (e _ _ z fun _ y => by cases y)
theorem ExtN.mut {o : HO} (e : ExtN H H') (h : NFr H f) : ExtN H (upd H' f o) := fun a u z n => by
  have hne : a ≠ f := fun y => by
    rw [y] at z
    obtain ⟨ps, rfl⟩ := h _ z
    exact n ps rfl
  rw [upd_ne hne]
  exact e a u z n
theorem Tabs.mut {xs ys : List V} (t : Tabs T H) (h : H f = some (.lst xs)) : Tabs T (upd H f (.lst ys)) := fun q hq => by
  obtain ⟨ps, z1, z2, z3⟩ := t q hq
  have n1 : q.1 ≠ f := fun y => by
    rw [y, h] at z1
    cases z1
  refine ⟨ps, by rw [upd_ne n1]; exact z1, z2, fun pos cv hc => ?_⟩
  obtain ⟨c, y1, y2⟩ := z3 pos cv hc
  have n2 : c ≠ f := fun y => by
    rw [y, h] at y2
    cases y2
  exact ⟨c, y1, by rw [upd_ne n2]; exact y2⟩
theorem LamFor.mut {xs ys : List V} {g : Addr} (h : H g = some (.lst xs)) (a : LamFor P w K mg B k Bd C H f) : LamFor P w K mg B k Bd C (upd H g (.lst ys)) f := by
  obtain ⟨F, b, h1, h2, h3⟩ := a
  have n1 : f ≠ g := fun y => by
    rw [y, h] at h1
    cases h1
  have n2 : F.c ≠ g := fun y => by
    rw [y, h] at h2
    cases h2
  exact ⟨F, b, by rw [upd_ne n1]; exact h1, by rw [upd_ne n2]; exact h2, h3⟩
/-- a list of lambdas -/
def EvFL (T : List (Addr × Str)) (te : TE) (σ : L2.St) (H : Hp) (Pf : Hp → Addr → Prop) (n : Nat) : Prop := ∀ H1, ExtN H H1 → Tabs T H1 → ∀ Q : VK, (∀ (p : Addr) (fs : List Addr) H2, NFr H1 p → ExtN H1 H2 → Tabs T H2 → H2 p = some (.lst (fs.map V.ref)) → fs.length = n → (∀ f ∈ fs, Pf H2 f) → Q (.ref p) H2) → te σ H1 Q
theorem efl_lst {n : Nat} {ta : TA} (hx : ∀ H H' f, ExtN H H' → Pf H f → Pf H' f) (h : EvFN T ta σ H Pf n) (hn : n ≤ 100) : EvFL T (tLst ta) σ H Pf n := fun H1 e t1 Q q =>
  h H1 e t1 _ fun fs H2 e2 t2 hl hfs => ⟨sz_of (by rw [List.length_map]; omega), fun p hp => q p fs _ (NFr.back e2 (NFr.of hp)) (e2.trans (Ex.xn (Ex.new hp))) (t2.ext (Ex.new hp)) upd_same hl fun f hf => hx _ _ _ (Ex.xn (Ex.new hp)) (hfs f hf)⟩
/-- a variable's list and new ones -/
theorem efl_cat {n m : Nat} {p : Addr} {fs : List Addr} (hx : ∀ H H' f, ExtN H H' → Pf H f → Pf H' f) (h : ∀ H1, ExtN H H1 → Ev te σ H1 (.ref p)) (hp : H p = some (.lst (fs.map V.ref))) (hl : fs.length = n) (hf : ∀ f ∈ fs, Pf H f) (h2 : EvFL T tb σ H Pf m) (hn : n + m ≤ 100) : EvFL T (tOp rCat te tb) σ H Pf (n + m) := fun H1 e t1 Q q =>
  h H1 e H1 (Ex.refl H1) _ fun H2 e2 => h2 H2 (e.trans (Ex.xn e2)) (t1.ext e2) _ fun p2 gs H3 np e3 t3 l3 hl3 hgs => by
    have lp := xn_l e3 (e2 _ _ (xn_l e hp))
    refine ⟨p, p2, fs.map V.ref, gs.map V.ref, rfl, rfl, lp, l3, sz_of (by rw [List.length_map, List.length_map]; omega), fun p3 hp3 => ?_⟩
    rw [← List.map_append]
    refine q p3 (fs ++ gs) _ (NFr.back ((Ex.xn e2).trans e3) (NFr.of hp3)) (((Ex.xn e2).trans e3).trans (Ex.xn (Ex.new hp3))) (t3.ext (Ex.new hp3)) upd_same (by rw [List.length_append, hl, hl3]) fun f hf' => ?_
    rcases List.mem_append.mp hf' with z | z
    · exact hx _ _ _ (e.trans (((Ex.xn e2).trans e3).trans (Ex.xn (Ex.new hp3)))) (hf f z)
    · exact hx _ _ _ (Ex.xn (Ex.new hp3)) (hgs f z)
theorem q_asgF {n i : Nat} (ht : Tabs T H) (h : EvFL T te σ H Pf n) (kk : ∀ (p : Addr) (fs : List Addr) H1, NFr H p → ExtN H H1 → Tabs T H1 → H1 p = some (.lst (fs.map V.ref)) → fs.length = n → (∀ f ∈ fs, Pf H1 f) → tz D (σ.set i (some (.ref p))) H1) : tSeq (tAsg te (gName i)) tz D σ H := h H (ExtN.refl H) ht _ kk
/-- asks.append(lambda ..) -/
theorem q_appF {p : Addr} {fs : List Addr} (ht : Tabs T H) (hx : ∀ H H' f, ExtN H H' → Pf H f → Pf H' f) (hm : ∀ H (xs ys : List V) g f, H g = some (.lst xs) → Pf H f → Pf (upd H g (.lst ys)) f) (hp : H p = some (.lst (fs.map V.ref))) (hl : fs.length ≤ 100) (hf : ∀ f ∈ fs, Pf H f) (hv : Ev te σ H (.ref p))
    (h : ∀ f c' H1, H1 f = some (LmO f (mk c') b) → H1 c' = some (CodeO c' (mk c').qual) → Pf H1 f) (kk : ∀ f H1, ExtN H H1 → Tabs T (upd H1 p (.lst ((fs ++ [f]).map V.ref))) → (∀ g ∈ fs ++ [f], Pf (upd H1 p (.lst ((fs ++ [f]).map V.ref))) g) → tz D σ (upd H1 p (.lst ((fs ++ [f]).map V.ref)))) :
    tSeq (tDrop (tBM K "list" rAppend te (tCons (tLm T mk b) tNil))) tz D σ H := hv H (Ex.refl H) _ fun H1 e1 =>
  ⟨Or.inl ⟨rfl, _, sq_of (e1 p _ hp)⟩, ht.ext e1, fun f c' H2 e2 t2 hn hf2 hc2 => by
    have lp := xn_l e2 (e1 _ _ hp)
    refine ⟨p, fs.map V.ref, .ref f, rfl, rfl, lp, sz_lt (by rw [List.length_map]; omega), ?_⟩
    have e : fs.map V.ref ++ [V.ref f] = (fs ++ [f]).map V.ref := by rw [List.map_append]; rfl
    rw [e]
    refine kk f H2 ((Ex.xn e1).trans e2) (Tabs.mut t2 lp) fun g hg => hm _ _ _ _ _ lp ?_
    rcases List.mem_append.mp hg with z | z
    · exact hx _ _ _ ((Ex.xn e1).trans e2) (hf g z)
    · rw [List.mem_singleton.mp z]
      exact h f c' H2 hf2 hc2⟩
end
end Bt
namespace Bt
open PySem PySem.Spec PyProof.Rows L2 Evl LamX
theorem NW.xn {H H' : Hp} (e : ExtN H H') {v : V} (h : NW H v) : NW H' v := by
  cases h with
  | non => exact .non
  | bl b => exact .bl b
  | str x => exact .str x
  | lst h => exact .lst (xn_l e h)
  | tup h => exact .tup (xn_t e h)
  | dct h => exact .dct (e _ _ h fun _ z => by cases z)
theorem BadN.xn {H H' : Hp} (e : ExtN H H') {v : V} (h : BadN H v) : BadN H' v := h.elim (fun z => .inl (z.xn e)) .inr
theorem BadN.bin {lo hi : Int} (h0 : 0 ≤ lo) {H : Hp} {v : V} (h : BadN H v) : BadIn lo hi H v := h.elim .inl fun ⟨i, e, z⟩ => .inr ⟨i, e, fun y => by omega⟩
theorem bin_int {lo hi i : Int} (h : ¬ (lo ≤ i ∧ i ≤ hi)) {H : Hp} : BadIn lo hi H (.int i) := .inr ⟨i, rfl, h⟩
section
variable {T : List (Addr × Str)} {P : Program} {w : World} {K : PySem.W.Frag} {mg : Str → Option Value} {B : Heap} {k : Nat} {σ : L2.St} {H H' : Hp} {ta tb te tc : TE} {Pf : Hp → Addr → Prop} {D : Ends} {tz : TS} {sp : Sp} {E : XK} {y z v : V} {n : Nat}
/-- a list, new or not -/
def EvW (te : TE) (σ : L2.St) (H : Hp) (xs : List V) : Prop := ∀ H1, Ex H H1 → ∀ Q : VK, (∀ p H2, Ex H1 H2 → H2 p = some (.lst xs) → Q (.ref p) H2) → te σ H1 Q
theorem ew_new {xs : List V} (h : EvL te σ H xs) : EvW te σ H xs := fun H1 e Q q => h H1 e Q fun p H2 _ e2 l2 => q p H2 e2 l2
theorem ew_var {xs : List V} {p : Addr} (h : Ev te σ H (.ref p)) (hl : H p = some (.lst xs)) : EvW te σ H xs := fun H1 e Q q => h H1 e Q fun H2 e2 => q p H2 e2 (e2 _ _ (e _ _ hl))
/-- a list of lambdas, new or not -/
def EvFW (T : List (Addr × Str)) (te : TE) (σ : L2.St) (H : Hp) (Pf : Hp → Addr → Prop) : Prop := ∀ H1, ExtN H H1 → Tabs T H1 → ∀ Q : VK, (∀ (p : Addr) (fs : List Addr) H2, ExtN H1 H2 → Tabs T H2 → H2 p = some (.lst (fs.map V.ref)) → (∀ f ∈ fs, Pf H2 f) → Q (.ref p) H2) → te σ H1 Q
theorem fw_new (h : EvFL T te σ H Pf n) : EvFW T te σ H Pf := fun H1 e t1 Q q => h H1 e t1 Q fun p fs H2 _ e2 t2 l2 _ hf => q p fs H2 e2 t2 l2 hf
theorem fw_var {p : Addr} {fs : List Addr} (hx : ∀ H H' f, ExtN H H' → Pf H f → Pf H' f) (h : ∀ H1, ExtN H H1 → Ev te σ H1 (.ref p)) (hp : H p = some (.lst (fs.map V.ref))) (hf : ∀ f ∈ fs, Pf H f) : EvFW T te σ H Pf := fun H1 e t1 Q q =>
  h H1 e H1 (Ex.refl H1) Q fun H2 e2 => q p fs H2 (Ex.xn e2) (t1.ext e2) (e2 _ _ (xn_l e hp)) fun f z => hx _ _ _ (e.trans (Ex.xn e2)) (hf f z)
/-- g(asks, things, j) -/
theorem en_callF {xs : List V} (h : EvFW T ta σ H Pf) (hx : ∀ H H' f, ExtN H H' → Pf H f → Pf H' f) (hb : ∀ H1, ExtN H H1 → EvW tb σ H1 xs) (hs : ∀ (p : Addr) (fs : List Addr) (q : Addr) H1, ExtN H H1 → H1 p = some (.lst (fs.map V.ref)) → (∀ f ∈ fs, Pf H1 f) → H1 q = some (.lst xs) → SpV sp [.ref p, .ref q, z] H1 v) :
    EvN T (tCall sp [] E (tCons ta (tCons tb (tCons (tC z) tNil)))) σ H v := fun H1 e t1 Q q =>
  h H1 e t1 _ fun p fs H2 e2 t2 l2 hf => hb H2 (e.trans e2) H2 (Ex.refl H2) _ fun p3 H3 e3 l3 => hs p fs p3 H3 (e.trans (e2.trans (Ex.xn e3))) (e3 _ _ l2) (fun f z => hx _ _ _ (Ex.xn e3) (hf f z)) l3 H3 (Ex.refl H3) Q (fun H4 e4 => q H4 (e2.trans (Ex.xn (e3.trans e4))) (t2.ext (e3.trans e4))) E
/-! things -/
def EvB (ta : TA) (σ : L2.St) (H : Hp) (n : Nat) : Prop := ∀ H1, Ex H H1 → ∀ Q : List V → Hp → Prop, (∀ vs H2, Ex H1 H2 → vs.length = n → (∀ v ∈ vs, BadN H2 v) → Q vs H2) → ta σ H1 Q
theorem eb_nil : EvB tNil σ H 0 := fun H1 _ _ q => q [] H1 (Ex.refl H1) rfl (fun f hf => absurd hf List.not_mem_nil)
theorem eb_of {tr : TA} (h : ∀ H1, Ex H H1 → ∀ Q : VK, (∀ v H2, Ex H1 H2 → BadN H2 v → Q v H2) → te σ H1 Q) (hr : EvB tr σ H n) : EvB (tCons te tr) σ H (n + 1) := fun H1 e Q q =>
  h H1 e _ fun v H2 e2 hv => hr H2 (e.trans e2) _ fun vs H3 e3 hl hvs => q (v :: vs) H3 (e2.trans e3) (by rw [List.length_cons, hl]) (fun g hg => by
    cases hg with
    | head => exact hv.mono e3
    | tail _ hg => exact hvs g hg)
theorem eb_val {tr : TA} (h : Ev te σ H v) (hv : ∀ H1, BadN H1 v) (hr : EvB tr σ H n) : EvB (tCons te tr) σ H (n + 1) := eb_of (fun H1 e Q q => h H1 e _ fun H2 e2 => q v H2 e2 (hv H2)) hr
theorem eb_lst {tr : TA} {xs : List V} (h : EvL te σ H xs) (hr : EvB tr σ H n) : EvB (tCons te tr) σ H (n + 1) := eb_of (fun H1 e Q q => h H1 e _ fun p H2 _ e2 l2 => q _ H2 e2 (.inl (.lst l2))) hr
theorem eb_tup {tr : TA} {xs : List V} (h : EvU te σ H xs) (hr : EvB tr σ H n) : EvB (tCons te tr) σ H (n + 1) := eb_of (fun H1 e Q q => h H1 e _ fun p H2 _ e2 l2 => q _ H2 e2 (.inl (.tup l2))) hr
theorem eb_dct {tr : TA} (hr : EvB tr σ H n) : EvB (tCons tDNewK tr) σ H (n + 1) := eb_of (fun H1 e Q q p hp => q _ _ (Ex.new hp) (.inl (.dct upd_same))) hr
def RetB (n : Nat) (H : Hp) (Q : VK) : Prop := ∀ p xs H', H p = none → Ex H H' → H' p = some (.lst xs) → xs.length = n → (∀ v ∈ xs, BadN H' v) → Q (.ref p) H'
theorem s_retB {ta : TA} (h : EvB ta σ H n) (hn : n ≤ 100) (q : RetB n H D.rt) : tRet (tLst ta) D σ H := h H (Ex.refl H) _ fun vs H2 e2 hl hv => ⟨sz_of (by omega), fun p hp => q p vs _ (fresh_back e2 hp) (e2.trans (Ex.new hp)) upd_same hl fun v hv' => (hv v hv').mono (Ex.new hp)⟩
theorem q_asgB {ta : TA} {vs : List V} {i : Nat} (h : EvA ta σ H vs) (hs : ∀ H1 Q, Ex H H1 → RetB n H1 Q → sp vs H1 Q E) (kk : ∀ p xs H1, Ex H H1 → H1 p = some (.lst xs) → xs.length = n → (∀ v ∈ xs, BadN H1 v) → tz D (σ.set i (some (.ref p))) H1) : tSeq (tAsg (tCall sp [] E ta) (gName i)) tz D σ H := h H (Ex.refl H) _ fun H1 e1 => by
  rw [List.append_nil]
  exact hs H1 _ e1 fun p xs H2 hp e2 l2 hl hv => kk p xs H2 (e1.trans e2) l2 hl hv
theorem lamFor_of {N : List Str} {F : NdefX.NF} {b : Expr} {f C : Addr} {x : Str} {Bd : Hp → V → Prop} (S : NdefX.NScope N [x] [] F.scope) (hb : ∀ (m t u : Value), bindArgs (PySem.W.kla_fn "<lambda>" F.qual F.params b F.scope F.cl m (.ref F.c) t) ⟨[u], []⟩ = pure [(x, u)]) (hcl : F.cl = []) (hf : H f = some (LmO f F b)) (hc : H F.c = some (CodeO F.c F.qual))
    (body : ∀ (A : Around) (out : List Env) (s : Shared) (H0 H1 : Hp) (Q : VK) (E : XK) (v : V), Bd H0 v → Ex H0 H1 → Room k (A.deeper (NdefX.envF F f s.heap.objs.size)) → RaX C H1 E → ∃ t, PE (NdefX.ncx (L2.CX P w) P w K mg B N F f A out s H1 E) b t ∧ t (NdefX.startF N [v] []) H1 Q) : LamFor P w K mg B (k + 1) Bd C H f :=
  ⟨F, b, hf, hc, fun H' v hf' hc' hb' => ask_of S hb hcl hf' hc' fun A out s H1 Q E e1 hr q => body A out s H' H1 Q E v hb' e1 hr q⟩
theorem q_asgDL {ds : List PyData} {i : Nat} (h : EvD te σ H (.list ds)) (kk : ∀ p xs H1, Ex H H1 → H1 p = some (.lst xs) → DhAll H1 xs ds → tz D (σ.set i (some (.ref p))) H1) : tSeq (tAsg te (gName i)) tz D σ H := h H (Ex.refl H) _ fun v H1 e1 hv => by
  cases hv with
  | lst hs ha => exact kk _ _ H1 e1 hs ha
theorem en_callX {ta : TA} {vs : List V} (h : ∀ H1, ExtN H H1 → EvA ta σ H1 vs) (hs : ∀ H1 Q, ExtN H H1 → Tabs T H1 → RetN T z H1 Q → sp vs H1 Q E) : EvN T (tCall sp [] E ta) σ H z := fun H1 e t1 Q q =>
  h H1 e H1 (Ex.refl H1) _ fun H2 e2 => by
    rw [List.append_nil]
    exact hs H2 Q (e.trans (Ex.xn e2)) (t1.ext e2) fun H3 e3 t3 => q H3 ((Ex.xn e2).trans e3) t3
end
end Bt
namespace Bt
open PySem PySem.Spec PyProof.Rows L2 Evl LamX NdefX
/-! a def that is handed a lambda which looks at its maker's names -/
abbrev SpZ := List (Str × Addr) → List Str → List (Option V) → Sp
structure FnZ (P : Program) (w : World) (K : PySem.W.Frag) (mg : Str → Option Value) (B : Heap) (k : Nat) (f : Addr) (fd : FuncData) (ps : List Str) (sp : SpZ) : Prop where
  len : ∀ cl fr ws vs H Q E, sp cl fr ws vs H Q E → vs.length = ps.length
  go : ∀ (A : Around) (out : List Env) (s : Shared) (H : Hp) (args : Args) (us : List Value) (vs : List V) (cl : List (Str × Addr)) (fr : List Str) (ws : List (Option V)) (Q : VK) (E : XK), A.guards = some [] → Room k A → Env0 P w K mg B A out s H → BindsTo s fd args (ps.zip us) → Vals vs us →
    CellsAt cl fr ws s.heap H → (∀ y c, cl.lookup y = some c → c ∉ frs out) → sp cl fr ws vs H Q E → codeAny (model P w) A (.call (.ref f) args) (CR CX0 out P w H s Q E) s
section
variable {P : Program} {w : World} {K : PySem.W.Frag} {mg : Str → Option Value} {B : Heap}
theorem okZ {x ql : Str} {st : Stmt} {f : Addr} {fd : FuncData} {N ps : List Str} {k : Nat} {sp : SpZ} (F : Fun K x ql st f fd) (S : FnScope N ps (defScope st)) (len : ∀ cl fr ws vs H Q E, sp cl fr ws vs H Q E → vs.length = ps.length)
    (body : ∀ (cv : Value) (A : Around) (out : List Env) (s : Shared) (H : Hp) (vs : List V) (cl : List (Str × Addr)) (fr : List Str) (ws : List (Option V)) (Q : VK) (E : XK), A.guards = some [] → Room k (A.deeper (envOfC ql (defScope st) s.heap.objs.size f cv)) →
      (∀ pins s' σ H', Inv (cxOf CX0 P w K mg B N ql (defScope st) f cv A out s H E).nox pins σ H' s' → CellsAt cl fr ws s'.heap H') → sp cl fr ws vs H Q E →
      ∃ t, PSs (cxOf CX0 P w K mg B N ql (defScope st) f cv A out s H E).nox (defBody st) t ∧ t { nx := fun _ H' => Q .non H', rt := Q } (start N vs) H) : FnZ P w K mg B (k + 1) f fd ps sp := by
  obtain ⟨oc, od, kV, dc, pm, an, cv, ct, os, rfl, lk, hcd⟩ := F.ex
  refine ⟨len, fun A out s H args us vs cl fr ws Q E hG hr e0 hb r hcs hnf hsp => ?_⟩
  have kin : K.In s.heap := e0.mod.kin.keeps fun b o e => (e0.bs b o e).1
  have nol : s.heap.NoLimit := e0.mod.nolimit.keeps fun b o e => (e0.bs b o e).1
  have kinds : ∀ y ∈ ps.zip us, (defScope st).names.lookup y.1 = some .local ∨ ((defScope st).names.lookup y.1 = some .cell ∧ ((cellsFrom (s.heap.objs.size + 1) (defScope st).names []).lookup y.1).isSome = true) := by
    rintro ⟨n, v⟩ hy
    cases S.par n (List.of_mem_zip hy).1 with
    | inl q => exact Or.inl q
    | inr q => exact Or.inr ⟨q, PySem.W.cellsFrom_some _ _ _ (Or.inl q)⟩
  apply codeAny_call_function hr.depth (kin _ _ lk) rfl S.co S.gen rfl (PySem.W.codeRec_of kin hcd)
  apply hb
  apply wpAny_newFunctionEnv_cells S.kind kinds
  intro env he s1 z
  subst he
  refine ⟨nol.keeps z.toInCall.keep, codeAny_func ?_⟩
  obtain ⟨t, ht, hq⟩ := body cv A out s H vs cl fr ws Q E hG (hr.deeper _) (fun pins s' σ H' I => CellsAt.later (X := (cxOf CX0 P w K mg B N ql (defScope st) f cv A out s H E).nox) hcs hnf (fun _ _ _ y => absurd y List.not_mem_nil) I) hsp
  have J : Inv (cxOf CX0 P w K mg B N ql (defScope st) f cv A out s H E) [] (start N vs) H s1 := inv_start S hr.hd e0 (len _ _ _ _ _ _ _ hsp) r z
  refine wpAny_mono (ht.nox.run [] s1 (start N vs) H _ J hq) (fun fl s' hs => ?_) (fun _ _ hs => hs)
  cases fl with
  | ret u =>
    obtain ⟨v, σ', H', I2, rv, q⟩ := hs
    exact ⟨v, H', I2.os, I2.bare, I2.base, I2.hok, rv, q⟩
  | next =>
    obtain ⟨σ', H', I2, q⟩ := hs
    exact ⟨V.non, H', I2.os, I2.bare, I2.base, I2.hok, rfl, q⟩
  | brk =>
    obtain ⟨_, _, _, q⟩ := hs
    cases q
  | cont =>
    obtain ⟨_, _, _, q⟩ := hs
    cases q
end
theorem cell_apart {X : Cx} {pins : List (Addr × Obj)} {σ : L2.St} {H : Hp} {s : Shared} (I : Inv X pins σ H s) (hfn : ∀ y, X.fn y = true) {y : Str} {c : Addr} (h : X.env.cells.lookup y = some c) : c ∉ frs X.stack := fun hm => by
  rcases List.mem_cons.mp (I.stkSub c hm) with e | e
  · obtain ⟨m, ⟨o, es, ep, h1, h2, _⟩, _⟩ := I.loc
    obtain ⟨v, o', h3, h4⟩ := I.cell y c h
    rw [e, h1] at h3
    cases h3
    rw [h2] at h4
    cases h4
  · obtain ⟨_, o, ho, _⟩ := I.ok.funs.mem e
    have h1 := Heap.lt_size ho
    have h2 := I.ok.cab y c (hfn y) h
    exact absurd h1 (Nat.not_lt.mpr h2)
def tCallZ (sp : SpZ) (cl : List (Str × Addr)) (fr : List Str) (js : List Nat) (E : XK) (t : TA) : TE := fun σ H Q => t σ H fun vs H1 => sp cl fr (js.map (slotAt σ)) vs H1 Q E
theorem pe_callZ {X : Cx} {k : Nat} {f : Addr} {fd : FuncData} {ps : List Str} {sp : SpZ} {cl : List (Str × Addr)} {fr : List Str} {js : List Nat} {E : XK} {x : Str} {p pos : Pos} {e : Expr} {es : List Expr} {t : TA} (hG : X.A.guards = some []) (F : FnZ X.prog X.w X.K X.mg X.base k f fd ps sp) (hr : Room k X.A) (hg : Gl X x) (hm : X.mg x = some (.ref f)) (hk : PySem.W.keepIn X.K (.ref f) = true) (hb : Binds X.K fd ps [])
    (hx : Passes CX0 X E) (cp : X.Ok → Caps X cl fr js) (hfn : ∀ y, X.fn y = true) (ha : PA X (e :: es) t) (hdb : (x == ("__debug__" : Str)) = false := by decide) (he : starEach (e :: es) X.env = (false, eval e X.env) :: starEach es X.env := by rfl) (hpl : (backTo pos (starEach es X.env)).any (·.1) = false := by rfl) :
    PE X (.Call (.Name x p) (e :: es) [] pos) (tCallZ sp cl fr js E t) := by
  constructor
  intro pins s σ H Q I h
  apply wpAny_Call_Name_kw
  apply ld_glob I hg hm ?_ hdb
  apply PySem.W.callWith_K (h₀ := X.base) I.ok.mod.kin hk ?_ he hpl
  refine thn (ha.run pos pins s σ H _ I h) fun us s1 ⟨vs, H1, I1, r, q⟩ => ⟨I1.kIn, ?_⟩
  have hl : us.length = ps.length := by
    rw [← Paired.length r]
    exact F.len _ _ _ _ _ _ _ q
  have hb' := hb s1 us I1.kIn (by rw [List.append_nil]; exact hl)
  rw [List.append_nil] at hb'
  have c := cp I1.ok
  refine wpAny_call (codeAny_mono (F.go X.A X.stack s1 H1 ⟨us, []⟩ us vs cl fr _ Q E hG hr I1.env0 hb' r (cells_of I1 c) (fun y a ya => cell_apart I1 hfn (c.sub y a ya)) q) fun r' s' hq => ?_)
  cases r' with
  | error ex => exact hx pins σ H1 s1 ex s' I1 hq
  | ok fl =>
    cases fl with
    | ret u => exact I1.after hq
    | next => cases hq
    | brk => cases hq
    | cont => cases hq
/-- a lambda that looks at cells -/
theorem ask_ofC {P : Program} {w : World} {K : PySem.W.Frag} {mg : Str → Option Value} {B : Heap} {N fr : List Str} {F : NF} {b : Expr} {f : Addr} {k : Nat} {x : Str} {v : V} {H : Hp} {R : Hp → VK → XK → Prop} {ws : List (Option V)} (S : NScope N [x] fr F.scope)
    (hb : ∀ (m t u : Value), bindArgs (PySem.W.kla_fn "<lambda>" F.qual F.params b F.scope F.cl m (.ref F.c) t) ⟨[u], []⟩ = pure [(x, u)]) (hf : H f = some (LmO f F b)) (hc : H F.c = some (CodeO F.c F.qual))
    (body : ∀ (A : Around) (out : List Env) (s : Shared) (H1 : Hp) (Q : VK) (E : XK), Ex H H1 → Room k (A.deeper (envF F f s.heap.objs.size)) → R H1 Q E → ∃ t, PE (ncx (L2.CX P w) P w K mg B N F f A out s H1 E) b t ∧ t (startF N [v] ws) H1 Q) :
    AskR P w K mg B (k + 1) (fun s H1 _ => CellsAt F.cl fr ws s.heap H1) f v H R :=
  ⟨⟨F, b, hf⟩, fun A out s H1 u Q E e1 hr e0 cs r q => lm_run S hb hr e0 (e1 _ _ hf) (e1 _ _ hc) cs r fun hr' => body A out s H1 Q E e1 hr' q⟩
end Bt
namespace Bt
open PySem PySem.Spec PyProof.Rows L2 Evl TL
/-! an ask that raises nothing -/
theorem never_at {X : Cx} {σ : L2.St} : PassesAt (L2.CX X.prog X.w) X σ (fun _ _ _ => False) := fun _ _ _ _ _ _ z => by
  obtain ⟨_, _, _, _, _, _, _, _, _, _, _, _, h⟩ := z
  exact h.elim
/-! texts turned about -/
theorem numL_ds (n : Nat) : numL n = (Bm.ds 10 n).reverse.map (48 + ·) := by
  refine Bm.ds_ind (b := 10) (by decide) (P := fun n => numL n = (Bm.ds 10 n).reverse.map (48 + ·)) (fun n h => ?_) (fun n h ih => ?_) n
  · rw [numL_lt h, Bm.ds_lo h]
    rfl
  · rw [numL_step (by omega), ih, Bm.ds_hi (by decide) h, List.reverse_cons, List.map_append]
    rfl
theorem dv_go (l : List Nat) : ∀ a : Nat, (l.map (48 + ·)).foldl (fun acc c => acc * 10 + (c - 48)) a = l.foldl (fun acc d => acc * 10 + d) a := by
  induction l with
  | nil => exact fun _ => rfl
  | cons x l ih =>
    intro a
    rw [List.map_cons, List.foldl_cons, List.foldl_cons, ih, Nat.add_sub_cancel_left]
theorem dv_map (l : List Nat) : NumText.digitsVal (l.map (48 + ·)) = Bm.val 10 l := dv_go l 0
def turnT (z : Str) : Str := ⟨(tl z).reverse.toArray⟩
theorem int_rev {n : Nat} (h : (numL n).length ≤ 4300) : intText? (turnT (Str.ofString (toString ((n : Nat) : Int)))) = some ((Bm.val 10 (Bm.ds 10 n) : Nat) : Int) := by
  have e : (turnT (Str.ofString (toString ((n : Nat) : Int)))).cps.toList = (Bm.ds 10 n).map (48 + ·) := by
    show (tl (Str.ofString (toString ((n : Nat) : Int)))).reverse.toArray.toList = _
    rw [List.toList_toArray, tl_num, numL_ds, ← List.map_reverse, List.reverse_reverse]
  have e2 : (turnT (Str.ofString (toString ((n : Nat) : Int)))).length = (numL n).length := by
    show (turnT (Str.ofString (toString ((n : Nat) : Int)))).cps.size = _
    rw [← Array.length_toList, e, numL_ds, List.length_map, List.length_map, List.length_reverse]
  have d : NumText.AllDigits ((Bm.ds 10 n).map (48 + ·)) := fun c hc => by
    obtain ⟨x, hx, rfl⟩ := List.mem_map.mp hc
    have := Bm.ds_lt (b := 10) (by decide) n x hx
    exact ⟨by omega, by omega⟩
  have z := intText_digits (x := turnT (Str.ofString (toString ((n : Nat) : Int)))) (by rw [e]; exact d) (by rw [e]; simpa using Bm.ds_ne (b := 10) (by decide) n) (by rw [e2]; exact h)
  rw [e, dv_map] at z
  exact z
def tRevS (te : TE) : TE := fun σ H Q => te σ H fun x H1 => ∃ z, x = .str z ∧ z.length ≤ sizeLine ∧ Q (.str (turnT z)) H1
theorem rev_picked (z : Str) : (Builtin.Str.strSliceIndices none none (-1) z.length).filterMap (z.cps[·]?) = (tl z).reverse := by
  show (sliceRange ((z.length : Int) - 1) (-1) (-1)).filterMap (z.cps[·]?) = _
  rw [PySem.W.krv_sliceRange, PySem.W.krv_range, List.filterMap_reverse]
  exact congrArg List.reverse (PySem.W.krv_all z.cps)
theorem pe_revS {X : Cx} {e : Expr} {te : TE} {k : Nat} {p1 p2 p3 pos : Pos} (he : PE X e te) : PE X (.Subscript e (.Slice none none (some (.UnaryOp .USub (.Constant (.int 1) k p1) p2)) p3) pos) (tRevS te) := by
  refine ⟨fun pins s σ H Q I h => ?_⟩
  refine Subscript_ (thn (he.run pins s σ H _ I h) fun v s1 ⟨x, H1, I1, r1, q1⟩ => ?_)
  obtain ⟨z, rfl, hz, q⟩ := q1
  obtain ⟨t, rfl⟩ := (show ∃ t, v = Value.str z t from r1)
  have hst : PO X (some (.UnaryOp .USub (.Constant (.int 1) k p1) p2)) (tPart (tUn (rU fun i => .int (-i)) (tC (.int 1)))) := po_some (pe_un un_neg pe_int)
  refine wpAny_Slice (thn (po_none.run pins s1 σ H1 (fun o H2 => o = none ∧ H2 = H1) I1 ⟨rfl, rfl⟩) fun vl s2 ⟨l, H2, I2, pl, el, e2⟩ => ?_)
  subst el e2
  refine thn (po_none.run pins s2 σ H2 (fun o H3 => o = none ∧ H3 = H2) I2 ⟨rfl, rfl⟩) fun vu s3 ⟨u, H3, I3, pu, eu, e3⟩ => ?_
  subst eu e3
  refine thn (hst.run pins s3 σ H3 (fun o H4 => o = some (-1) ∧ H4 = H3) I3 ⟨1, rfl, -1, rfl, rfl, rfl⟩) fun vs s4 ⟨o, H4, I4, ps, eo, e4⟩ => ?_
  subst eo e4
  have I5 : Inv X pins σ H4 { s4 with heap := s4.heap.push { cls := .type "slice", data := .fields #[vl, vu, vs] } } := I4.kept (t' := s4.toks) fun b ob q => Heap.get?_push_of_some _ q
  refine tail_any (typeIs_str _ z t) F.slot_str_getitem.lookup ?_ (by with_unfolding_all rfl)
  obtain ⟨l1, rfl, h1⟩ := IsPart.raw pl
  obtain ⟨u1, rfl, h2⟩ := IsPart.raw pu
  obtain ⟨t1, rfl, h3⟩ := IsPart.raw ps
  refine wpAny_getItem_str_slice (l := l1) (u := u1) (st := t1) ⟨_, Heap.get?_push_size _ rfl, rfl, rfl⟩ (by rw [h3]; rfl) ?_
  have e5 : sliceMade z t l1 u1 t1 = Made.str (turnT z) := by
    unfold sliceMade slicePicked
    rw [h1, h2, h3]
    have c : ¬ ((((some (-1 : Int)).getD 1) == 1 && (Builtin.Str.strSliceIndices none none ((some (-1 : Int)).getD 1) z.length).length == z.length) = true) := by
      rw [show (((some (-1 : Int)).getD 1) == 1) = false by decide, Bool.false_and]
      exact Bool.false_ne_true
    rw [if_neg c]
    show Made.str ⟨((Builtin.Str.strSliceIndices none none (-1) z.length).filterMap (z.cps[·]?)).toArray⟩ = _
    rw [rev_picked]
    rfl
  rw [e5]
  have hl : (turnT z).length ≤ sizeLine := by
    show (turnT z).cps.size ≤ _
    unfold turnT
    rw [List.size_toArray, List.length_reverse, ← len_tl]
    exact hz
  exact ⟨hl, .str _, H4, I5.tok _, ⟨_, rfl⟩, q⟩
/-! the text of a list of ints -/
abbrev SmI (ns : List Int) : Prop := ns.length ≤ 90000 ∧ ∀ n ∈ ns, n.natAbs < 10 ^ 100
theorem sh_all : ∀ {ns : List Int}, (∀ n ∈ ns, n.natAbs < 10 ^ 100) → PyData.showableAll (ns.map PyData.int) = true
  | [], _ => rfl
  | n :: ns, h => by
    simp only [List.map_cons, PyData.showable, PyData.showableAll, Bool.and_eq_true, decide_eq_true_eq]
    exact ⟨log_small (h n List.mem_cons_self), sh_all fun m hm => h m (List.mem_cons_of_mem _ hm)⟩
theorem nd_all : ∀ ns : List Int, PyData.hasDictAll (ns.map PyData.int) = false
  | [] => rfl
  | n :: ns => by
    show (PyData.hasDict (.int n) || PyData.hasDictAll (ns.map PyData.int)) = false
    rw [nd_all ns]
    rfl
theorem dp_all : ∀ ns : List Int, PyData.depthAll (ns.map PyData.int) ≤ 2
  | [] => by simp [PyData.depthAll]
  | n :: ns => by
    have := dp_all ns
    simp only [List.map_cons, PyData.depthAll, PyData.depth]
    omega
theorem ln_all : ∀ {ns : List Int}, (∀ n ∈ ns, n.natAbs < 10 ^ 100) → ((PyData.shownAll (ns.map PyData.int)).map (·.length)).sum ≤ 101 * ns.length ∧ (PyData.shownAll (ns.map PyData.int)).length = ns.length
  | [], _ => by simp [PyData.shownAll]
  | n :: ns, h => by
    have h1 := ln_all fun m hm => h m (List.mem_cons_of_mem _ hm)
    have h2 := int_len (h n List.mem_cons_self)
    simp only [List.map_cons, PyData.shownAll, List.sum_cons, List.length_cons]
    omega
abbrev txt (ns : List Int) : Str := (PyData.list (ns.map PyData.int)).shown
section
variable {K : PySem.W.Frag} {σ : L2.St} {H : Hp} {ta : TE} {ns : List Int}
theorem ev_strL (h : EvD ta σ H (.list (ns.map PyData.int))) (hs : SmI ns) : Ev (tCB (rStrD K) (tCons ta tNil)) σ H (.str (txt ns)) := by
  refine ev_strD h (fun H1 v hv => dh_ref hv) (sh_all hs.2) (nd_all ns) ?_ ?_
  · have := dp_all ns
    simp only [PyData.depth]
    omega
  · have h1 := listText_len_le (PyData.shownAll (ns.map PyData.int))
    have h2 := ln_all hs.2
    have h3 := hs.1
    have h4 : (16000000 : Nat) ≤ sizeLine := by decide
    simp only [txt, PyData.shown]
    omega
theorem ev_strLN (h : EvL ta σ H (ns.map V.int)) (hs : SmI ns) : Ev (tCB (rStrD K) (tCons ta tNil)) σ H (.str (txt ns)) := ev_strL (ed_ints h) hs
theorem ev_strLV {p : Addr} (h : Ev ta σ H (.ref p)) (hp : H p = some (.lst (ns.map V.int))) (hs : SmI ns) : Ev (tCB (rStrD K) (tCons ta tNil)) σ H (.str (txt ns)) := ev_strL (ed_val h (.lst hp (DhAll.ints H ns))) hs
theorem ev_revS {z : Str} (h : Ev ta σ H (.str z)) (hl : z.length ≤ sizeLine) : Ev (tRevS ta) σ H (.str (turnT z)) := fun H1 e Q q => h H1 e _ fun H2 e2 => ⟨z, rfl, hl, q H2 e2⟩
theorem ev_strI {i : Int} (h : Ev ta σ H (.int i)) (hi : i.natAbs.log2 < 1920) : Ev (tCB (fun xs H Q => ∃ i, xs = [.int i] ∧ i.natAbs.log2 < 1920 ∧ Q (.str (Str.ofString (toString i))) H) (tCons ta tNil)) σ H (.str (Str.ofString (toString i))) := fun H1 e Q q => h H1 e _ fun H2 e2 => ⟨i, rfl, hi, q H2 e2⟩
end
/-! lists that were told -/
section
variable {P : Program} {w : World} {K : PySem.W.Frag} {mg : Str → Option Value} {B : Heap} {k : Nat} {Z : Shared → Hp → List Env → Prop} {σ : L2.St} {H : Hp} {D : Ends} {tl' te : TE} {v : V} {xs : List V}
theorem el_ask {i : Nat} {f : Addr} {ta : TA} {E : L2.St → XK} (hs : σ[i]? = some (some (.ref f))) (h : EvA ta σ H [v]) (ha : AskR P w K mg B k Z f v H fun H1 Q _ => RetL xs H1 Q) : EvL (tAsk P w K mg B k Z i E ta) σ H xs := fun H1 e Q q =>
  ⟨f, hs, (ha.mono e).1, h H1 e _ fun H2 e2 => ⟨v, _, rfl, ha.mono (e.trans e2), fun p H3 hp e3 l3 => q p H3 (fresh_back e2 hp) (e2.trans e3) l3⟩⟩
theorem s_appN (h : EvL tl' σ H xs) (hv : Ev te σ H v) (hz : xs.length ≤ 100000) (q : ∀ H1, Ex H H1 → D.nx σ H1) : tDrop (tBM K "list" rAppend tl' (tCons te tNil)) D σ H := h H (Ex.refl H) _ fun p H1 hp e1 l1 =>
  ⟨Or.inl ⟨rfl, xs, sq_of l1⟩, hv H1 e1 _ fun H2 e2 => ⟨p, xs, v, rfl, rfl, e2 _ _ l1, by
    have : (200000 : Nat) ≤ sizeLine := by decide
    omega, q _ (Ex.mut (e1.trans e2) hp)⟩⟩
theorem s_pop {p : Addr} {y : V} (hl : H p = some (.lst xs)) (h : Ev tl' σ H (.ref p)) (hy : xs[xs.length - 1]? = some y) (q : ∀ H1, Ex H H1 → D.nx σ (upd H1 p (.lst xs.dropLast))) : tDrop (tBM0 K "list" rPop tl') D σ H := h H (Ex.refl H) _ fun H1 e1 =>
  ⟨Or.inl ⟨rfl, xs, sq_of (e1 _ _ hl)⟩, p, xs, y, rfl, rfl, e1 _ _ hl, hy, q H1 e1⟩
end
/-! tuples taken apart -/
section
variable {K : PySem.W.Frag} {σ : L2.St} {H : Hp} {D : Ends} {te ta tb tl' : TE} {tz tu : TS}
theorem q_asg2 {i j : Nat} {u w : V} (h : EvU te σ H [u, w]) (kk : ∀ H1, Ex H H1 → tz D ((σ.set i (some u)).set j (some w)) H1) : tSeq (tAsg te (gTup K 2 (gCons (gName i) (gCons (gName j) gNil)))) tz D σ H := h H (Ex.refl H) _ fun p H1 hp e1 l1 =>
  ⟨p, [u, w], rfl, st_of l1, rfl, u, [w], rfl, w, [], rfl, rfl, kk H1 e1⟩
def EvUU (te : TE) (σ : L2.St) (H : Hp) (xss : List (List V)) : Prop := ∀ H1, Ex H H1 → ∀ Q : VK, (∀ (p : Addr) (ps : List Addr) H2, Ex H1 H2 → H2 p = some (.tup (ps.map V.ref)) → ps.length = xss.length → (∀ (i : Nat) (q : Addr), ps[i]? = some q → ∃ xs, xss[i]? = some xs ∧ H2 q = some (.tup xs)) → Q (.ref p) H2) → te σ H1 Q
theorem euu2 {xs ys : List V} (h1 : EvU ta σ H xs) (h2 : EvU tb σ H ys) : EvUU (tTup (tCons ta (tCons tb tNil))) σ H [xs, ys] := fun H1 e Q q =>
  h1 H1 e _ fun p1 H2 hp1 e2 l2 => h2 H2 (e.trans e2) _ fun p2 H3 hp2 e3 l3 => ⟨sz_of (by simp), fun p hp => q p [p1, p2] _ ((e2.trans e3).trans (Ex.new hp)) upd_same rfl (fun i x hi => by
    match i, hi with
    | 0, hi =>
      cases hi
      exact ⟨xs, rfl, Ex.new hp _ _ (e3 _ _ l2)⟩
    | 1, hi =>
      cases hi
      exact ⟨ys, rfl, Ex.new hp _ _ l3⟩
    | i + 2, hi => simp at hi)⟩
theorem q_forTT {xss : List (List V)} {a b c d : Nat} (h : EvUU tl' σ H xss) (Pv : Nat → L2.St → Hp → Prop) (h0 : ∀ H1, Ex H H1 → Pv 0 σ H1)
    (hs : ∀ i xs σ' H', xss[i]? = some xs → Ex H H' → Pv i σ' H' → ∃ x1 x2 x3 x4, xs = [x1, x2, x3, x4] ∧ ∀ D' : Ends, (∀ σ3 H3, Ex H' H3 → Pv (i + 1) σ3 H3 → D'.nx σ3 H3) → tu D' ((((σ'.set a (some x1)).set b (some x2)).set c (some x3)).set d (some x4)) H')
    (hd : ∀ σ' H', Ex H H' → Pv xss.length σ' H' → tz D σ' H') : tSeq (tFor (iTup K tl') (gTup K 4 (gCons (gName a) (gCons (gName b) (gCons (gName c) (gCons (gName d) gNil))))) tu) tz D σ H :=
  h H (Ex.refl H) _ fun p ps H0 e0 l0 hl hq => ⟨p, rfl, ⟨_, st_of l0⟩, for_tup (D := { D with nx := tz D }) (fun i σ' H' => Pv i σ' H' ∧ Ex H0 H') ⟨h0 H0 e0, Ex.refl H0⟩ (fun i σ' H' _ q => st_of (q.2 p _ l0)) (fun i x σ' H' hi q => by
    rw [List.getElem?_map] at hi
    obtain ⟨r, hr, rfl⟩ := Option.map_eq_some_iff.mp hi
    obtain ⟨xs, h1, h2⟩ := hq i r hr
    obtain ⟨x1, x2, x3, x4, rfl, hu⟩ := hs i xs σ' H' h1 (e0.trans q.2) q.1
    exact ⟨r, _, rfl, st_of (q.2 _ _ h2), rfl, x1, _, rfl, x2, _, rfl, x3, _, rfl, x4, _, rfl, rfl, hu _ fun σ3 H3 e3 p3 => ⟨p3, q.2.trans e3⟩⟩) (fun σ' H' q => by
    have := q.1
    rw [List.length_map, hl] at this
    exact hd σ' H' (e0.trans q.2) this)⟩
theorem ev_isOT {C a dx c1 c2 : Addr} {fs : List (Str × V)} {b : Bool} (hc : ClsC K C) (h : Ev ta σ H (.ref a)) (ha : H a = some (.ins C dx fs)) (hk : PySem.W.kitAny K (.ref C) [.ref c1, .ref c2] = some b) : Ev (tCB (rIsiT K) (tCons ta (tCons (tTup (tCons (tC (.ref c1)) (tCons (tC (.ref c2)) tNil))) tNil))) σ H (.bl b) := fun H1 e Q q =>
  h H1 e _ fun H2 e2 => (eu_tup (H := H) (σ := σ) (ea_cons ev_c (ea_cons ev_c ea_nil)) (by simp)) H2 (e.trans e2) _ fun p H3 hp e3 l3 => ⟨.ref a, p, [.ref c1, .ref c2], .ref C, [.ref c1, .ref c2], b, rfl, l3, .cons (.own c1) (.cons (.own c2) .nil), .base (.ins (e3 _ _ (e2 _ _ (e _ _ ha))) hc.cl hc.ha hc.hn hc.ht hc.hm), hk, q H3 (e2.trans e3)⟩
end
/-! a lambda that looks at its maker's names, handed on -/
open NdefX LamX in
theorem lam_free {X : Cx} {scope : Scope} {fr : List Str} (h : ndefB X.env.scope scope fr = true) (ok : X.Ok) : ∀ y ∈ scope.names, y.2 = .free → ∃ c, X.env.cells.lookup y.1 = some c := fun y hy e => (ndef_free h y hy e).elim (fun z => ok.has _ (.inl z)) fun z => ok.has _ (.inr z)
open NdefX LamX in
theorem pe_callZL {X : Cx} {k : Nat} {f : Addr} {fd : FuncData} {ps : List Str} {sp : SpZ} {fr : List Str} {js : List Nat} {E : XK} {x : Str} {p pos lp : Pos} {params : Arguments} {b : Expr} {scope : Scope} {es : List Expr} {t : TA} (hG : X.A.guards = some []) (F : FnZ X.prog X.w X.K X.mg X.base k f fd ps sp) (hr : Room k X.A) (hg : Gl X x) (hm : X.mg x = some (.ref f)) (hk : PySem.W.keepIn X.K (.ref f) = true) (hb : Binds X.K fd ps [])
    (hx : Passes CX0 X E) (hnd : ndefB X.env.scope scope fr = true) (hjs : js.map (fun j => X.N[j]?) = fr.map some) (hfn : ∀ y, X.fn y = true) (ha : PA X (.Lambda params b scope lp :: es) t) (hdb : (x == ("__debug__" : Str)) = false := by decide) (he : starEach (.Lambda params b scope lp :: es) X.env = (false, eval (.Lambda params b scope lp) X.env) :: starEach es X.env := by rfl) (hpl : (backTo pos (starEach es X.env)).any (·.1) = false := by rfl) :
    PE X (.Call (.Name x p) (.Lambda params b scope lp :: es) [] pos) (tCallZ sp (cloFrom X.env.cells scope.names []) fr js E t) := pe_callZ hG F hr hg hm hk hb hx (fun ok => Caps.made ok (ndef_free hnd) (ndef_fr hnd) hjs) hfn ha hdb he hpl
open NdefX LamX in
theorem en_callZ {T : List (Addr × Str)} {σ : L2.St} {H : Hp} {ta tb : TE} {mk : Addr → NF} {b : Expr} {sp : SpZ} {cl : List (Str × Addr)} {fr : List Str} {js : List Nat} {E : XK} {v : V} {xs ys : List V} (h1 : ∀ H1, ExtN H H1 → EvU ta σ H1 xs) (h2 : ∀ H1, ExtN H H1 → EvU tb σ H1 ys)
    (hs : ∀ f c' pa po H1 Q, ExtN H H1 → H1 f = some (LmO f (mk c') b) → H1 c' = some (CodeO c' (mk c').qual) → H1 pa = some (.tup xs) → H1 po = some (.tup ys) → RetV v H1 Q → sp cl fr (js.map (slotAt σ)) [.ref f, .ref pa, .ref po] H1 Q E) : EvN T (tCallZ sp cl fr js E (tCons (tLm T mk b) (tCons ta (tCons tb tNil)))) σ H v := fun H1 e t1 Q q =>
  ⟨t1, fun f c' H2 e2 t2 hn hf hc => h1 H2 (e.trans e2) H2 (Ex.refl H2) _ fun pa H3 _ e3 l3 => h2 H3 (e.trans (e2.trans (Ex.xn e3))) H3 (Ex.refl H3) _ fun po H4 _ e4 l4 => hs f c' pa po H4 Q (e.trans (e2.trans (Ex.xn (e3.trans e4)))) (e4 _ _ (e3 _ _ hf)) (e4 _ _ (e3 _ _ hc)) (e4 _ _ l3) l4 fun H5 e5 => q H5 (e2.trans (Ex.xn ((e3.trans e4).trans e5))) (t2.ext ((e3.trans e4).trans e5))⟩
end Bt
namespace Bt
open PySem PySem.Spec PyProof.Rows L2
/-! the end of a law that makes lambdas, run where no guard stands -/
/-- what is tracked: the script (or not), and the tables, empty -/
def tabH (ts : List (Addr × Addr)) (a : Addr) (u : Option HO) : Hp := fun b => if b = a then u else if b ∈ ts.map Prod.snd then some (.tbl #[]) else none
section
variable {ts : List (Addr × Addr)} {a b : Addr} {u : Option HO} {x : HO}
theorem tabH_a : tabH ts a u a = u := if_pos rfl
theorem tabH_t (hn : a ∉ ts.map Prod.snd) {p : Addr × Addr} (hp : p ∈ ts) : tabH ts a u p.2 = some (.tbl #[]) := by
  have m : p.2 ∈ ts.map Prod.snd := List.mem_map.mpr ⟨p, hp, rfl⟩
  have ne : ¬ p.2 = a := fun z => by
    rw [z] at m
    exact hn m
  unfold tabH
  rw [if_neg ne, if_pos m]
theorem tabH_inv (h : tabH ts a u b = some x) : (b = a ∧ u = some x) ∨ (b ∈ ts.map Prod.snd ∧ x = .tbl #[]) := by
  unfold tabH at h
  by_cases z : b = a
  · rw [if_pos z] at h
    exact Or.inl ⟨z, h⟩
  · rw [if_neg z] at h
    by_cases m : b ∈ ts.map Prod.snd
    · rw [if_pos m] at h
      exact Or.inr ⟨m, (Option.some.inj h).symm⟩
    · rw [if_neg m] at h
      cases h
end
theorem law_callTg {P : Program} {w : World} {K : PySem.W.Frag} {mg mb : Str → Option Value} {C : CXT} {k : Nat} {fa a : Addr} {ts : List (Addr × Addr)} {fd : FuncData} {x : Str} {sp : Sp} {s : Shared} {vs : List Value} {ns : List Int}
    (kin : K.In s.heap) (gl : s.heap.Ns mainGlobals mg) (bl : s.heap.Ns builtinsNs mb) (boot : ∀ x : Str, x ≠ "__name__" → mb x = bootBuiltins x) (nol : s.heap.NoLimit) (gens : s.gens = #[])
    (te : ∀ p ∈ ts, s.heap.get? p.2 = some { cls := .none, data := .fields #[] }) (tk : ∀ p ∈ ts, K.lookup p.2 = none) (tc : ∀ p ∈ ts, PySem.W.CodeHd s.heap p.1 p.2)
    (hbm : ∃ (bm : Addr) (ob : Obj), mg "__builtins__" = some (.ref bm) ∧ bm ≠ builtinsNs ∧ s.heap.get? bm = some ob ∧ ob.cls = .type "module" ∧ ob.dict = some builtinsNs ∧ ob.data = .plain)
    (script : s.heap.get? a = some { cls := .type "list", data := .seq vs.toArray }) (hi : IntsAre vs ns) (hl : ns.length ≤ sizeLine) (hr : Room k callerA)
    (F : ∀ B : Heap, K.In B → B.Ns mainGlobals mg → (∀ p ∈ ts, LamX.TabB B mg p.1 p.2) → FnG P w K mg B C k fa fd [x] sp) (bd : ∀ (s : Shared) (u : Value), BindsTo s fd ⟨[u], []⟩ [(x, u)])
    (hsp : ∀ H : Hp, (∀ p ∈ ts, H p.2 = some (.tbl #[])) → SqL K H a (ns.map V.int) → sp [.ref a] H (fun v _ => v = .bl true) fun _ _ _ => False) (hC : ∀ H e s', C [] H s (fun _ _ _ => False) e s' → False) :
    codeAny (model P w) callerA (.call (.ref fa) ⟨[.ref a], []⟩) (fun r s' => r = .ok (.ret (.bool true)) ∧ OldK s.heap s'.heap ∧ s'.os = s.os ∧ AllBare s'.gens) s := by
  have tab : ∀ b, b ∈ ts.map Prod.snd → ∃ p ∈ ts, p.2 = b := fun b m => by
    obtain ⟨p, h1, h2⟩ := List.mem_map.mp m
    exact ⟨p, h1, h2⟩
  have an : a ∉ ts.map Prod.snd := fun m => by
    obtain ⟨p, h1, h2⟩ := tab a m
    have e := te p h1
    rw [h2, script] at e
    cases e
  have rv := vals_ints hi
  have lv := hi.length
  obtain ⟨u, hu, hS⟩ : ∃ u : Option HO, (u = none ∨ (u = some (.frz { cls := .type "list", data := .seq vs.toArray } (.lst (ns.map V.int))) ∧ K.lookup a = none)) ∧ SqL K (tabH ts a u) a (ns.map V.int) := by
    cases q : K.lookup a with
    | none => exact ⟨_, Or.inr ⟨rfl, rfl⟩, Or.inl (Or.inr ⟨_, tabH_a⟩)⟩
    | some o =>
      have e := kin a o q
      rw [script] at e
      cases e
      refine ⟨none, Or.inl rfl, Or.inr ⟨_, vs.toArray, _, q, rfl, rfl, rfl, ?_, ?_⟩⟩
      · rw [List.size_toArray, lv]
        exact hl
      · simpa using rv
  have hT : ∀ p ∈ ts, tabH ts a u p.2 = some (.tbl #[]) := fun p hp => tabH_t an hp
  have inv : ∀ {b : Addr} {y : HO}, tabH ts a u b = some y → (b = a ∧ u = some y) ∨ (b ∈ ts.map Prod.snd ∧ y = .tbl #[]) := fun h => tabH_inv h
  generalize tabH ts a u = H at *
  have free : ∀ {b : Addr} {o : Obj}, s.heap.get? b = some o → (∀ v n, o.data ≠ .seq v n) → o.data ≠ .fields #[] → H b = none := by
    intro b o e h1 h2
    cases q : H b with
    | none => rfl
    | some y =>
      rcases inv q with ⟨z, _⟩ | ⟨m, _⟩
      · rw [z, script] at e
        cases e
        exact absurd rfl (h1 _ _)
      · obtain ⟨p, g1, g2⟩ := tab b m
        rw [← g2, te p g1] at e
        cases e
        exact absurd rfl h2
  have ns2 : ∀ {b : Addr} {m : Str → Option Value}, s.heap.Ns b m → (hidT s.heap H).Ns b m := by
    rintro b m ⟨o, es, ep, e, d, r⟩
    exact ⟨o, es, ep, hidT_get e (free e (fun v n z => by rw [d] at z; cases z) fun z => by rw [d] at z; cases z), d, r⟩
  have kin2 : K.In (hidT s.heap H) := fun b o e => hidT_get (kin b o e) (by
    cases q : H b with
    | none => rfl
    | some y =>
      rcases inv q with ⟨z, z2⟩ | ⟨m, _⟩
      · rcases hu with g | ⟨_, g⟩
        · rw [g] at z2
          cases z2
        · rw [z, g] at e
          cases e
      · obtain ⟨p, g1, g2⟩ := tab b m
        rw [← g2, tk p g1] at e
        cases e)
  have mod2 : Mod K mg (hidT s.heap H) := by
    obtain ⟨mc, n1, n2⟩ := nol
    exact ⟨kin2, ns2 gl, ⟨mb, ns2 bl, boot⟩, ⟨mc, ns2 n1, n2⟩⟩
  have hok : HOk P w H s.heap := by
    intro b y q
    rcases inv q with ⟨z, z2⟩ | ⟨m, z2⟩
    · rcases hu with g | ⟨g, _⟩
      · rw [g] at z2
        cases z2
      · rw [g] at z2
        cases z2
        rw [z]
        exact ⟨script, by rw [List.length_map]; exact hl, vs, _, rv, script⟩
    · obtain ⟨p, g1, g2⟩ := tab b m
      rw [z2, ← g2]
      exact te p g1
  have tb2 : ∀ p ∈ ts, LamX.TabB (hidT s.heap H) mg p.1 p.2 := by
    intro p hp
    refine ⟨?_, ?_, fun z => ?_⟩
    · obtain ⟨o, us, fi, tf, fl, tg, inF, tx, tt, q1, r1, r2, r3, r4, r5, r6, r7, r8, r9⟩ := tc p hp
      refine ⟨o, us, fi, tf, fl, tg, inF, tx, tt, hidT_get q1 (free q1 (fun v n z => by rw [r2] at z; cases z) fun z => ?_), r1, r2, r3, r4, r5, r6, r7, r8, r9⟩
      rw [r2] at z
      cases z
      simp at r3
    · obtain ⟨bm, ob, b1, b2, b3, b4, b5, b6⟩ := hbm
      have n1 : bm ≠ mainGlobals := fun z => by
        obtain ⟨o, es, ep, e, d, _⟩ := gl
        rw [z, e] at b3
        cases b3
        rw [d] at b6
        cases b6
      have n2 : bm ≠ p.2 := fun z => by
        rw [z, te p hp] at b3
        cases b3
        cases b6
      exact ⟨bm, ob, b1, b2, n1, n2, hidT_get b3 (free b3 (fun v n z => by rw [b6] at z; cases z) fun z => by rw [b6] at z; cases z), b4, b5, b6⟩
    · obtain ⟨o, es, ep, e, d, _⟩ := gl
      rw [z, te p hp] at e
      cases e
      cases d
  have e0 : Env0 P w K mg (hidT s.heap H) callerA [] s H := by
    refine ⟨rfl, mod2, fun b o e => of_hidT e, Nat.le_of_eq (hidT_size _ _), trivial, fun b hb => ?_, hok, AllBare.of_eq gens⟩
    cases (show b ∈ ([] : List Addr) from hb)
  refine codeAny_mono ((F _ kin2 (ns2 gl) tb2).go callerA [] s H ⟨[.ref a], []⟩ [.ref a] [.ref a] _ _ rfl hr e0 (bd s (.ref a)) (Paired.cons rfl .nil) (hsp H hT hS)) fun r s' h => ?_
  cases r with
  | error e => exact (hC H e s' h).elim
  | ok fl =>
    cases fl with
    | ret y =>
      obtain ⟨v, H', os, bare, un, hok', ry, q⟩ := h
      obtain rfl : v = .bl true := q
      obtain rfl : y = Value.bool true := ry
      have same : ∀ b o, b ∉ ts.map Prod.snd → s.heap.get? b = some o → s'.heap.get? b = some o := by
        intro b o nb e
        cases q : H b with
        | none =>
          refine un.keep b o e q (fun z => ?_) (fun z => ?_)
          · cases (show b ∈ ([] : List Addr) from z)
          · cases z
        | some y =>
          rcases inv q with ⟨z, z2⟩ | ⟨m, _⟩
          · rcases hu with g | ⟨g, _⟩
            · rw [g] at z2
              cases z2
            · rw [g] at z2
              cases z2
              have e1 := (hok b _ q).1
              have e2 := (hok' b _ (un.frzs b _ _ q)).1
              rw [e] at e1
              cases e1
              exact e2
          · exact absurd m nb
      have more : ∀ p ∈ ts, ∃ m : Array Value, s'.heap.get? p.2 = some { cls := .none, data := .fields m } := fun p hp => by
        obtain ⟨m, z⟩ := un.tbls p.2 #[] (hT p hp)
        exact ⟨_, hok' p.2 _ z⟩
      refine ⟨rfl, ⟨fun b o e => ?_, fun b o e => ?_⟩, os, bare⟩
      · by_cases m : b ∈ ts.map Prod.snd
        · obtain ⟨p, g1, g2⟩ := tab b m
          obtain ⟨us, hm⟩ := more p g1
          subst g2
          rw [te p g1] at e
          cases e
          exact Or.inr (Or.inl ⟨((tc p g1).tab (te p g1)).isCodeTable, rfl, #[], us, rfl, (by rw [Array.empty_append]; exact hm)⟩)
        · exact Or.inl (same b o m e)
      · by_cases m : b ∈ ts.map Prod.snd
        · obtain ⟨p, g1, g2⟩ := tab b m
          obtain ⟨us, hm⟩ := more p g1
          subst g2
          exact ⟨_, hm⟩
        · exact ⟨o, same b o m e⟩
    | next => cases h
    | brk => cases h
    | cont => cases h
/-- what is known of the law's promise at the head's heap -/
def LawAtG (l : PySem.W.OpenLaw) (w : World) (K : PySem.W.Frag) (C : CXT) (k n : Nat) (x : Str) (mg : Str → Option Value) (fa : Addr) (g : Heap) : Prop :=
  ∃ (fd : FuncData) (ts : List (Addr × Addr)) (sp : Sp), (∀ p ∈ ts, g.get? p.2 = some { cls := .none, data := .fields #[] }) ∧ (∀ p ∈ ts, K.lookup p.2 = none) ∧ (∀ p ∈ ts, PySem.W.CodeHd g p.1 p.2) ∧ (∀ (s : Shared) (u : Value), BindsTo s fd ⟨[u], []⟩ [(x, u)]) ∧
    (∀ (H : Hp) (a : Addr) (ns : List Int), ns.length ≤ n → (∀ z ∈ ns, Builtin.Int.intBits z ≤ 1048576) → (∀ p ∈ ts, H p.2 = some (.tbl #[])) → SqL K H a (ns.map V.int) → sp [.ref a] H (fun v _ => v = .bl true) fun _ _ _ => False) ∧
    ∀ B : Heap, K.In B → B.Ns mainGlobals mg → (∀ p ∈ ts, LamX.TabB B mg p.1 p.2) → FnG l.prog w K mg B C k fa fd [x] sp
theorem walk_lamG {l : PySem.W.OpenLaw} {n k : Nat} {q : Program} {loose : List Str} {XP : (Str → Option Value) → Heap → Prop} {YP : World → Heap → Prop} {d : DefRec} {K : Params → PySem.W.Frag} {C : World → CXT} {x : Str} (ys : List Str)
    (hn : l.most = some n) (hn2 : n ≤ sizeLine) (hdf : d.params.defaults = []) (hr : Room k callerA) (hrec : ∀ y ∈ ys, ((recsOf q).any fun e => e.name == y) = true) (hY : ∀ (w : World) (h : Heap), YP w h → (K w.params).In h)
    (F : ∀ (w : World) (mg : Str → Option Value) (fa : Addr) (h : Heap), (K w.params).In h → h.Ns mainGlobals mg → mg d.name = some (.ref fa) → (∀ y ∈ ys, OwnT (K w.params) y h) → LawAtG l w (K w.params) (C w) k n x mg fa h)
    (hC : ∀ (w : World) (H : Hp) (s : Shared) (e : Value) (s' : Shared), C w [] H s (fun _ _ _ => False) e s' → False) : PySem.W.WalkO q loose XP YP l.row.toRowW d [] (fun f vs => PySem.call f vs) := by
  apply Att.attach_callB hn hdf
  intro w s0 s1 mg mb fa o pm cd doc a vs ns G Y ho hd hcd hmg hobj hints hlen hbits hg
  have kin := hY w _ Y
  have own : ∀ y ∈ ys, OwnT (K w.params) y s1.heap := by
    intro y hy f c p0 o1 fd1 e dd us sl k0 k1 k2 k3 k4 k5
    obtain ⟨dL, hmem, hname⟩ := List.any_eq_true.mp (hrec y hy)
    have hnm : dL.name = y := beq_iff_eq.mp hname
    obtain ⟨a', o', fd', c', p', z1, z2, z3, z4, z5, z6⟩ := G.T.tab dL hmem
    have m0 := PySem.W.mg_of kin G.T.g k0
    rw [hnm, m0] at z1
    cases z1
    have g1 := kin _ _ k1
    rw [g1] at z2
    cases z2
    rw [k2] at z3
    cases z3
    rw [k3] at z4
    cases z4
    have z7 := z6
    obtain ⟨⟨oc, vc, e1, _, e3, e4⟩, hP⟩ := z7
    have g2 := kin _ _ k4
    rw [g2] at e1
    cases e1
    cases e3
    rw [k5] at e4
    cases e4
    exact ⟨PySem.W.CodeHd.of z5 z6, hP⟩
  obtain ⟨fd, ts, sp, hT, nT, Cd, hb, hsp, hF⟩ := F w mg fa _ kin G.T.g hmg own
  exact law_callTg kin G.T.g G.T.b G.T.builtins G.T.nolimit hg hT nT Cd G.T.bmain hobj hints (Nat.le_trans hlen hn2) hr hF hb (fun H hH hS => hsp H a ns hlen hbits hH hS) fun H e s' => hC w H s1 e s'
end Bt
namespace Bt
open PySem PySem.Spec PyProof.Rows L2 Evl
def topS (i : Nat) : Stmt := PySem.Challenge.pw_bothread_k10_whole_anew.main.body.getD i (.Pass ⟨0, 0, 0, 0⟩)
abbrev s_is_whole : Stmt := (topS 8)
abbrev N_is_whole : List Str := ["thing"]
theorem sc_is_whole : FnScope N_is_whole ["thing"] (defScope s_is_whole) := ⟨rfl, rfl, rfl, by decide +kernel, rfl, by decide +kernel, by decide +kernel⟩

abbrev s_check_number : Stmt := (topS 9)
abbrev N_check_number : List Str := ["number"]
theorem sc_check_number : FnScope N_check_number ["number"] (defScope s_check_number) := ⟨rfl, rfl, rfl, by decide +kernel, rfl, by decide +kernel, by decide +kernel⟩

abbrev s_check_base : Stmt := (topS 10)
abbrev N_check_base : List Str := ["base"]
theorem sc_check_base : FnScope N_check_base ["base"] (defScope s_check_base) := ⟨rfl, rfl, rfl, by decide +kernel, rfl, by decide +kernel, by decide +kernel⟩

abbrev s_figures_of : Stmt := (topS 11)
abbrev N_figures_of : List Str := ["number", "base", "found"]
theorem sc_figures_of : FnScope N_figures_of ["number", "base"] (defScope s_figures_of) := ⟨rfl, rfl, rfl, by decide +kernel, rfl, by decide +kernel, by decide +kernel⟩

abbrev s_figures : Stmt := (topS 12)
abbrev N_figures : List Str := ["number", "base"]
theorem sc_figures : FnScope N_figures ["number", "base"] (defScope s_figures) := ⟨rfl, rfl, rfl, by decide +kernel, rfl, by decide +kernel, by decide +kernel⟩

abbrev s_number_from : Stmt := (topS 13)
abbrev N_number_from : List Str := ["row", "base", "found", "figure"]
theorem sc_number_from : FnScope N_number_from ["row", "base"] (defScope s_number_from) := ⟨rfl, rfl, rfl, by decide +kernel, rfl, by decide +kernel, by decide +kernel⟩

abbrev s_turned : Stmt := (topS 14)
abbrev N_turned : List Str := ["number", "base"]
theorem sc_turned : FnScope N_turned ["number", "base"] (defScope s_turned) := ⟨rfl, rfl, rfl, by decide +kernel, rfl, by decide +kernel, by decide +kernel⟩

abbrev s_first_wrong : Stmt := (topS 15)
abbrev N_first_wrong : List Str := ["number", "base", "row", "place", "figure"]
theorem sc_first_wrong : FnScope N_first_wrong ["number", "base"] (defScope s_first_wrong) := ⟨rfl, rfl, rfl, by decide +kernel, rfl, by decide +kernel, by decide +kernel⟩

abbrev s_Alike_shows : Stmt := (inClass (topS 18) 0)
abbrev N_Alike_shows : List Str := ["self", "number", "one", "other"]
theorem sc_Alike_shows : FnScope N_Alike_shows ["self", "number", "one", "other"] (defScope s_Alike_shows) := ⟨rfl, rfl, rfl, by decide +kernel, rfl, by decide +kernel, by decide +kernel⟩

abbrev s_Unlike___init__ : Stmt := (inClass (topS 19) 0)
abbrev N_Unlike___init__ : List Str := ["self", "base", "place"]
theorem sc_Unlike___init__ : FnScope N_Unlike___init__ ["self", "base", "place"] (defScope s_Unlike___init__) := ⟨rfl, rfl, rfl, by decide +kernel, rfl, by decide +kernel, by decide +kernel⟩

abbrev s_Unlike_shows : Stmt := (inClass (topS 19) 1)
abbrev N_Unlike_shows : List Str := ["self", "number", "one", "other"]
theorem sc_Unlike_shows : FnScope N_Unlike_shows ["self", "number", "one", "other"] (defScope s_Unlike_shows) := ⟨rfl, rfl, rfl, by decide +kernel, rfl, by decide +kernel, by decide +kernel⟩

abbrev s_power : Stmt := (topS 21)
abbrev N_power : List Str := ["base", "times", "found", "turn"]
theorem sc_power : FnScope N_power ["base", "times"] (defScope s_power) := ⟨rfl, rfl, rfl, by decide +kernel, rfl, by decide +kernel, by decide +kernel⟩

abbrev s_many_of : Stmt := (topS 22)
abbrev N_many_of : List Str := ["many", "base"]
theorem sc_many_of : FnScope N_many_of ["many", "base"] (defScope s_many_of) := ⟨rfl, rfl, rfl, by decide +kernel, rfl, by decide +kernel, by decide +kernel⟩

abbrev s_made_of : Stmt := (topS 23)
abbrev N_made_of : List Str := ["half", "many", "base", "row"]
theorem sc_made_of : FnScope N_made_of ["half", "many", "base"] (defScope s_made_of) := ⟨rfl, rfl, rfl, by decide +kernel, rfl, by decide +kernel, by decide +kernel⟩

abbrev s_number_by : Stmt := (topS 24)
abbrev N_number_by : List Str := ["at", "base", "many", "left"]
theorem sc_number_by : FnScope N_number_by ["at", "base"] (defScope s_number_by) := ⟨rfl, rfl, rfl, by decide +kernel, rfl, by decide +kernel, by decide +kernel⟩

abbrev s_below_of : Stmt := (topS 25)
abbrev N_below_of : List Str := ["number", "base", "row", "many", "found", "half", "few"]
theorem sc_below_of : FnScope N_below_of ["number", "base"] (defScope s_below_of) := ⟨rfl, rfl, rfl, by decide +kernel, rfl, by decide +kernel, by decide +kernel⟩

abbrev s_judged : Stmt := (topS 30)
abbrev N_judged : List Str := ["number", "one", "other", "base", "place"]
theorem sc_judged : FnScope N_judged ["number", "one", "other"] (defScope s_judged) := ⟨rfl, rfl, rfl, by decide +kernel, rfl, by decide +kernel, by decide +kernel⟩

abbrev s_check_bounds : Stmt := (topS 31)
abbrev N_check_bounds : List Str := ["low", "high"]
theorem sc_check_bounds : FnScope N_check_bounds ["low", "high"] (defScope s_check_bounds) := ⟨rfl, rfl, rfl, by decide +kernel, rfl, by decide +kernel, by decide +kernel⟩

abbrev s_between : Stmt := (topS 32)
abbrev N_between : List Str := ["low", "high", "one", "other", "base", "found", "at", "number"]
theorem sc_between : FnScope N_between ["low", "high", "one", "other"] (defScope s_between) := ⟨rfl, rfl, rfl, by decide +kernel, rfl, by decide +kernel, by decide +kernel⟩

abbrev s_crossed : Stmt := (topS 33)
abbrev N_crossed : List Str := ["many", "one", "other", "base", "rows", "least", "turn", "longer", "row", "found", "figure"]
theorem sc_crossed : FnScope N_crossed ["many", "one", "other"] (defScope s_crossed) := ⟨rfl, rfl, rfl, by decide +kernel, rfl, by decide +kernel, by decide +kernel⟩

abbrev s__law_cell_at : Stmt := (topS 35)
abbrev N__law_cell_at : List Str := ["_law_script", "_law_k"]
theorem sc__law_cell_at : FnScope N__law_cell_at ["_law_script", "_law_k"] (defScope s__law_cell_at) := ⟨rfl, rfl, rfl, by decide +kernel, rfl, by decide +kernel, by decide +kernel⟩

abbrev s__law_draw : Stmt := (topS 36)
abbrev N__law_draw : List Str := ["_law_cell", "_law_k", "_law_most", "_law_primes"]
theorem sc__law_draw : FnScope N__law_draw ["_law_cell", "_law_k", "_law_most"] (defScope s__law_draw) := ⟨rfl, rfl, rfl, by decide +kernel, rfl, by decide +kernel, by decide +kernel⟩

abbrev s__law_number : Stmt := (topS 37)
abbrev N__law_number : List Str := ["_law_cell", "_law_k", "_law_limit", "_law_small"]
theorem sc__law_number : FnScope N__law_number ["_law_cell", "_law_k", "_law_limit"] (defScope s__law_number) := ⟨rfl, rfl, rfl, by decide +kernel, rfl, by decide +kernel, by decide +kernel⟩

abbrev s__law_anew : Stmt := (topS 38)
abbrev N__law_anew : List Str := ["_law_ask", "_law_args", "_law_others", "_law_found", "_law_text", "_law_turn", "_law_told"]
theorem sc__law_anew : FnScope N__law_anew ["_law_ask", "_law_args", "_law_others"] (defScope s__law_anew) := ⟨rfl, rfl, rfl, by decide +kernel, rfl, by decide +kernel, by decide +kernel⟩

abbrev s__law_judged_right : Stmt := (topS 39)
abbrev N__law_judged_right : List Str := ["_law_number_here", "_law_one", "_law_other", "_law_first", "_law_second", "_law_found", "_law_asked", "_law_low", "_law_high", "_law_again"]
theorem sc__law_judged_right : FnScope N__law_judged_right ["_law_number_here", "_law_one", "_law_other"] (defScope s__law_judged_right) := ⟨rfl, rfl, rfl, by decide +kernel, rfl, by decide +kernel, by decide +kernel⟩

abbrev s_law : Stmt := (topS 40)
abbrev N_law : List Str := ["_law_script", "_law_by", "_law_cell", "_law_far", "_law_one", "_law_many", "_law_crossing", "_law_low", "_law_other", "_law_width"]
theorem sc_law : FnScope N_law ["_law_script"] (defScope s_law) := ⟨rfl, rfl, rfl, by decide +kernel, rfl, by decide +kernel, by decide +kernel⟩

structure Tx (K : PySem.W.Frag) (mg : Str → Option Value) where
  a_is_whole : Addr
  d_is_whole : FuncData
  F_is_whole : Fun K "is_whole" "is_whole" s_is_whole a_is_whole d_is_whole
  b_is_whole : Binds K d_is_whole ["thing"] []
  g_is_whole : mg "is_whole" = some (.ref a_is_whole)
  a_check_number : Addr
  d_check_number : FuncData
  F_check_number : Fun K "check_number" "check_number" s_check_number a_check_number d_check_number
  b_check_number : Binds K d_check_number ["number"] []
  g_check_number : mg "check_number" = some (.ref a_check_number)
  a_check_base : Addr
  d_check_base : FuncData
  F_check_base : Fun K "check_base" "check_base" s_check_base a_check_base d_check_base
  b_check_base : Binds K d_check_base ["base"] []
  g_check_base : mg "check_base" = some (.ref a_check_base)
  a_figures_of : Addr
  d_figures_of : FuncData
  F_figures_of : Fun K "figures_of" "figures_of" s_figures_of a_figures_of d_figures_of
  b_figures_of : Binds K d_figures_of ["number", "base"] []
  g_figures_of : mg "figures_of" = some (.ref a_figures_of)
  a_figures : Addr
  d_figures : FuncData
  F_figures : Fun K "figures" "figures" s_figures a_figures d_figures
  b_figures : Binds K d_figures ["number", "base"] []
  g_figures : mg "figures" = some (.ref a_figures)
  a_number_from : Addr
  d_number_from : FuncData
  F_number_from : Fun K "number_from" "number_from" s_number_from a_number_from d_number_from
  b_number_from : Binds K d_number_from ["row", "base"] []
  g_number_from : mg "number_from" = some (.ref a_number_from)
  a_turned : Addr
  d_turned : FuncData
  F_turned : Fun K "turned" "turned" s_turned a_turned d_turned
  b_turned : Binds K d_turned ["number", "base"] []
  g_turned : mg "turned" = some (.ref a_turned)
  a_first_wrong : Addr
  d_first_wrong : FuncData
  F_first_wrong : Fun K "first_wrong" "first_wrong" s_first_wrong a_first_wrong d_first_wrong
  b_first_wrong : Binds K d_first_wrong ["number", "base"] []
  g_first_wrong : mg "first_wrong" = some (.ref a_first_wrong)
  a_power : Addr
  d_power : FuncData
  F_power : Fun K "power" "power" s_power a_power d_power
  b_power : Binds K d_power ["base", "times"] []
  g_power : mg "power" = some (.ref a_power)
  a_many_of : Addr
  d_many_of : FuncData
  F_many_of : Fun K "many_of" "many_of" s_many_of a_many_of d_many_of
  b_many_of : Binds K d_many_of ["many", "base"] []
  g_many_of : mg "many_of" = some (.ref a_many_of)
  a_made_of : Addr
  d_made_of : FuncData
  F_made_of : Fun K "made_of" "made_of" s_made_of a_made_of d_made_of
  b_made_of : Binds K d_made_of ["half", "many", "base"] []
  g_made_of : mg "made_of" = some (.ref a_made_of)
  a_number_by : Addr
  d_number_by : FuncData
  F_number_by : Fun K "number_by" "number_by" s_number_by a_number_by d_number_by
  b_number_by : Binds K d_number_by ["at", "base"] []
  g_number_by : mg "number_by" = some (.ref a_number_by)
  a_below_of : Addr
  d_below_of : FuncData
  F_below_of : Fun K "below_of" "below_of" s_below_of a_below_of d_below_of
  b_below_of : Binds K d_below_of ["number", "base"] []
  g_below_of : mg "below_of" = some (.ref a_below_of)
  a_judged : Addr
  d_judged : FuncData
  F_judged : Fun K "judged" "judged" s_judged a_judged d_judged
  b_judged : Binds K d_judged ["number", "one", "other"] []
  g_judged : mg "judged" = some (.ref a_judged)
  a_check_bounds : Addr
  d_check_bounds : FuncData
  F_check_bounds : Fun K "check_bounds" "check_bounds" s_check_bounds a_check_bounds d_check_bounds
  b_check_bounds : Binds K d_check_bounds ["low", "high"] []
  g_check_bounds : mg "check_bounds" = some (.ref a_check_bounds)
  a_between : Addr
  d_between : FuncData
  F_between : Fun K "between" "between" s_between a_between d_between
  b_between : Binds K d_between ["low", "high", "one", "other"] []
  g_between : mg "between" = some (.ref a_between)
  a_crossed : Addr
  d_crossed : FuncData
  F_crossed : Fun K "crossed" "crossed" s_crossed a_crossed d_crossed
  b_crossed : Binds K d_crossed ["many", "one", "other"] []
  g_crossed : mg "crossed" = some (.ref a_crossed)
  a__law_cell_at : Addr
  d__law_cell_at : FuncData
  F__law_cell_at : Fun K "_law_cell_at" "_law_cell_at" s__law_cell_at a__law_cell_at d__law_cell_at
  b__law_cell_at : Binds K d__law_cell_at ["_law_script", "_law_k"] []
  g__law_cell_at : mg "_law_cell_at" = some (.ref a__law_cell_at)
  a__law_draw : Addr
  d__law_draw : FuncData
  F__law_draw : Fun K "_law_draw" "_law_draw" s__law_draw a__law_draw d__law_draw
  b__law_draw : Binds K d__law_draw ["_law_cell", "_law_k", "_law_most"] []
  g__law_draw : mg "_law_draw" = some (.ref a__law_draw)
  a__law_number : Addr
  d__law_number : FuncData
  F__law_number : Fun K "_law_number" "_law_number" s__law_number a__law_number d__law_number
  b__law_number : Binds K d__law_number ["_law_cell", "_law_k", "_law_limit"] []
  g__law_number : mg "_law_number" = some (.ref a__law_number)
  a__law_anew : Addr
  d__law_anew : FuncData
  F__law_anew : Fun K "_law_anew" "_law_anew" s__law_anew a__law_anew d__law_anew
  b__law_anew : Binds K d__law_anew ["_law_ask", "_law_args", "_law_others"] []
  g__law_anew : mg "_law_anew" = some (.ref a__law_anew)
  a__law_judged_right : Addr
  d__law_judged_right : FuncData
  F__law_judged_right : Fun K "_law_judged_right" "_law_judged_right" s__law_judged_right a__law_judged_right d__law_judged_right
  b__law_judged_right : Binds K d__law_judged_right ["_law_number_here", "_law_one", "_law_other"] []
  g__law_judged_right : mg "_law_judged_right" = some (.ref a__law_judged_right)
  a_law : Addr
  d_law : FuncData
  F_law : Fun K "law" "law" s_law a_law d_law
  b_law : Binds K d_law ["_law_script"] []
  g_law : mg "law" = some (.ref a_law)
  c_law : Addr
  p_law : Addr
  L_law : LDef K "law" s_law a_law d_law c_law
  a_Answer : Addr
  g_Answer : mg "Answer" = some (.ref a_Answer)
  k_Answer : PySem.W.keepIn K (.ref a_Answer) = true
  C_Answer : ClsC K a_Answer
  mk0_Answer : PySem.W.makesIn K a_Answer = true
  i0_Answer : PySem.W.findIn K (.ref a_Answer) "__init__" = some (some (.builtin "object.__init__"))
  a_Alike : Addr
  g_Alike : mg "Alike" = some (.ref a_Alike)
  k_Alike : PySem.W.keepIn K (.ref a_Alike) = true
  C_Alike : ClsC K a_Alike
  a_Alike_shows : Addr
  d_Alike_shows : FuncData
  F_Alike_shows : Fun K "shows" "Alike.shows" s_Alike_shows a_Alike_shows d_Alike_shows
  b_Alike_shows : Binds K d_Alike_shows ["self", "number", "one", "other"] []
  M_Alike_shows : Meth K a_Alike "shows" a_Alike_shows
  mk0_Alike : PySem.W.makesIn K a_Alike = true
  i0_Alike : PySem.W.findIn K (.ref a_Alike) "__init__" = some (some (.builtin "object.__init__"))
  a_Unlike : Addr
  g_Unlike : mg "Unlike" = some (.ref a_Unlike)
  k_Unlike : PySem.W.keepIn K (.ref a_Unlike) = true
  C_Unlike : ClsC K a_Unlike
  a_Unlike___init__ : Addr
  d_Unlike___init__ : FuncData
  F_Unlike___init__ : Fun K "__init__" "Unlike.__init__" s_Unlike___init__ a_Unlike___init__ d_Unlike___init__
  b_Unlike___init__ : Binds K d_Unlike___init__ ["self", "base", "place"] []
  Mk_Unlike : Mk K a_Unlike a_Unlike___init__
  a_Unlike_shows : Addr
  d_Unlike_shows : FuncData
  F_Unlike_shows : Fun K "shows" "Unlike.shows" s_Unlike_shows a_Unlike_shows d_Unlike_shows
  b_Unlike_shows : Binds K d_Unlike_shows ["self", "number", "one", "other"] []
  M_Unlike_shows : Meth K a_Unlike "shows" a_Unlike_shows
  n_Unlike_base : NoAttr K a_Unlike "base"
  n_Unlike_place : NoAttr K a_Unlike "place"
  i_Alike_Answer : PySem.W.kitOne K (.ref a_Alike) (.ref a_Answer) = some true
  i_Alike_Alike : PySem.W.kitOne K (.ref a_Alike) (.ref a_Alike) = some true
  i_Alike_Unlike : PySem.W.kitOne K (.ref a_Alike) (.ref a_Unlike) = some false
  i_Unlike_Answer : PySem.W.kitOne K (.ref a_Unlike) (.ref a_Answer) = some true
  i_Unlike_Alike : PySem.W.kitOne K (.ref a_Unlike) (.ref a_Alike) = some false
  i_Unlike_Unlike : PySem.W.kitOne K (.ref a_Unlike) (.ref a_Unlike) = some true
  m_abs : mg "abs" = none
  m_bool : mg "bool" = none
  m_enumerate : mg "enumerate" = none
  m_int : mg "int" = none
  m_isinstance : mg "isinstance" = none
  m_len : mg "len" = none
  m_list : mg "list" = none
  m_max : mg "max" = none
  m_min : mg "min" = none
  m_range : mg "range" = none
  m_sorted : mg "sorted" = none
  m_str : mg "str" = none
  m_sum : mg "sum" = none
  k_GREATEST_BASE : Tok
  c_GREATEST_BASE : mg "GREATEST_BASE" = some (.int 1000 k_GREATEST_BASE)
  k_WIDEST : Tok
  c_WIDEST : mg "WIDEST" = some (.int 120 k_WIDEST)
  k_MOST_TURNED : Tok
  c_MOST_TURNED : mg "MOST_TURNED" = some (.int 3 k_MOST_TURNED)
  k_CROSSED_BASE : Tok
  c_CROSSED_BASE : mg "CROSSED_BASE" = some (.int 12 k_CROSSED_BASE)
def tbs {K : PySem.W.Frag} {mg : Str → Option Value} (T : Tx K mg) : List (Addr × Str) := [(T.p_law, (("law" : Str) ++ ".<locals>.") ++ "<lambda>")]
structure TBs {K : PySem.W.Frag} {mg : Str → Option Value} (T : Tx K mg) (B : Heap) : Prop where
  b_law : LamX.TabB B mg T.c_law T.p_law
theorem mem_law {K : PySem.W.Frag} {mg : Str → Option Value} (T : Tx K mg) : (T.p_law, (("law" : Str) ++ ".<locals>.") ++ "<lambda>") ∈ tbs T := by simp [tbs]
theorem hu_law {K : PySem.W.Frag} {mg : Str → Option Value} (T : Tx K mg) : ∀ q ∈ tbs T, q.1 = T.p_law → q.2 = (("law" : Str) ++ ".<locals>.") ++ "<lambda>" := by
  intro q hq e
  simp only [tbs, List.mem_cons, List.not_mem_nil, or_false] at hq
  rw [hq]

local macro_rules | `(tactic| walk_at "Mod") => `(tactic| first | assumption | omega)
local macro_rules | `(tactic| walk_at "FloorDiv") => `(tactic| first | assumption | exact ⟨by omega, by omega⟩)
local macro_rules | `(tactic| walk_at "Mult") => `(tactic| first | assumption | exact mulL (by omega) (by omega) | exact mulR (by omega) (by omega))
local macro_rules | `(tactic| walk_at "Pow") => `(tactic| first | assumption | exact ⟨by omega, by omega, by decide⟩ | exact ⟨by omega, by omega, by omega⟩)
/-! ### the mirrors over ints -/
def Big : Int := 2 ^ 20000
def figI (n b : Int) : List Int := (Bm.fig b.toNat n.toNat).map fun d : Nat => (d : Int)
def figV (n b : Int) : List V := (figI n b).map V.int
def valI (xs : List Int) (b : Int) : Int := xs.foldl (fun a d => a * b + d) 0
abbrev CNum (n b : Int) : Prop := 0 ≤ n ∧ n < Big ∧ 2 ≤ b ∧ b ≤ 1000
theorem ds_len_big {b n : Nat} (hb : 2 ≤ b) (h : (n : Int) < Big) : (Bm.ds b n).length ≤ 20000 := by
  rcases Nat.eq_zero_or_pos n with z | z
  · subst z
    rw [Bm.ds_lo (by omega)]
    decide
  · have d := Bm.ds_dn hb n z
    have h2 : n < 2 ^ 20000 := by
      have : ((2 ^ 20000 : Nat) : Int) = Big := by
        unfold Big
        rw [Int.natCast_pow]
        rfl
      omega
    have h3 : 2 ^ ((Bm.ds b n).length - 1) ≤ b ^ ((Bm.ds b n).length - 1) := Nat.pow_le_pow_left hb _
    have h4 : (2 : Nat) ^ ((Bm.ds b n).length - 1) < 2 ^ 20000 := Nat.lt_of_le_of_lt (Nat.le_trans h3 d) h2
    have := Bm.pow_lt (b := 2) (by omega) h4
    omega
theorem figI_nat (n b : Nat) : figI (n : Int) (b : Int) = (Bm.fig b n).map fun d : Nat => (d : Int) := by
  unfold figI
  rw [Int.toNat_natCast, Int.toNat_natCast]
theorem valI_nat (b : Nat) (l : List Nat) : valI (l.map fun d : Nat => (d : Int)) (b : Int) = ((Bm.val b l : Nat) : Int) := by
  have h : ∀ (l : List Nat) (a : Nat), (l.map fun d : Nat => (d : Int)).foldl (fun a d => a * (b : Int) + d) (a : Int) = ((l.foldl (fun a d => a * b + d) a : Nat) : Int) := by
    intro l
    induction l with
    | nil => intro a; rfl
    | cons d r ih =>
      intro a
      show (r.map fun d : Nat => (d : Int)).foldl (fun a d => a * (b : Int) + d) ((a : Int) * (b : Int) + (d : Int)) = _
      rw [← Int.natCast_mul, ← Int.natCast_add, ih]
      rfl
  exact h l 0
theorem figI_len {n b : Int} (h : CNum n b) : (figI n b).length ≤ 20000 ∧ 0 < (figI n b).length := by
  obtain ⟨h0, h1, h2, h3⟩ := h
  obtain ⟨k, rfl⟩ := Int.eq_ofNat_of_zero_le h0
  obtain ⟨c, rfl⟩ := Int.eq_ofNat_of_zero_le (show 0 ≤ b by omega)
  rw [figI_nat, List.length_map]
  unfold Bm.fig
  rw [List.length_reverse]
  exact ⟨ds_len_big (by omega) h1, Bm.ds_pos (by omega) k⟩
/-! ### the law's draws -/
def CellOk (c : Int) : Prop := c.natAbs < 2 ^ 1048576
theorem cell_bits {c : Int} (h : Builtin.Int.intBits c ≤ 1048576) : CellOk c := by
  unfold CellOk
  unfold Builtin.Int.intBits at h
  by_cases z : c.natAbs = 0
  · rw [z]
    exact Nat.pow_pos (by decide)
  · have h2 : c.natAbs.log2 + 1 ≤ 1048576 := by
      split at h
      · rename_i e
        first
          | exact absurd e z
          | exact absurd (by simpa using e) z
      · exact h
    exact Nat.lt_of_lt_of_le Nat.lt_log2_self (Nat.pow_le_pow_right (by decide) h2)
theorem pow_two_le {a b : Nat} (h : a ≤ b) : 2 ^ a ≤ 2 ^ b := Nat.pow_le_pow_right (by decide) h
theorem cell_add {c d : Int} (h : CellOk c) (hd : d.natAbs < 2 ^ 1000) : (c + d).natAbs < 2 ^ 1048577 := by
  have h1 : d.natAbs < 2 ^ 1048576 := Nat.lt_of_lt_of_le hd (pow_two_le (by decide))
  have h2 : c.natAbs < 2 ^ 1048576 := h
  have e : (2 : Nat) ^ 1048577 = 2 ^ 1048576 + 2 ^ 1048576 := by
    rw [show 1048577 = 1048576 + 1 from rfl, Nat.pow_succ, Nat.mul_two]
  have : (c + d).natAbs ≤ c.natAbs + d.natAbs := Int.natAbs_add_le c d
  generalize (2 : Nat) ^ 1048576 = q at *
  omega
theorem small_bits {d : Int} (h0 : 0 ≤ d) (h : d < 10 ^ 100) : d.natAbs < 2 ^ 1000 := by
  have h1 : d.natAbs < 10 ^ 100 := by omega
  have h2 : (10 : Nat) ^ 100 ≤ 2 ^ 400 := by decide
  exact Nat.lt_of_lt_of_le (Nat.lt_of_lt_of_le h1 h2) (pow_two_le (by decide))
theorem cell_mul {a b : Int} (ha : a.natAbs < 2 ^ 1048577) (hb : b.natAbs < 2 ^ 1048577) : IntMulOk a b := by
  have l1 := PySem.Flt.log2_lt_of (by decide) ha
  have l2 := PySem.Flt.log2_lt_of (by decide) hb
  have b1 : ∀ x : Int, Builtin.Int.intBits x ≤ x.natAbs.log2 + 1 := fun x => by
    unfold Builtin.Int.intBits
    split <;> omega
  have h1 := b1 a
  have h2 := b1 b
  have e : bitsLine = 134217728 := by decide
  unfold IntMulOk
  intro z
  rw [Bool.and_eq_true] at z
  have z2 := z.2
  unfold Builtin.Int.intTooBig at z2
  have z3 := of_decide_eq_true z2
  rw [e] at z3
  omega
def primes : List Int := [1000003, 1000033, 1000037, 1000039, 1000081, 1000099, 1000117, 1000121, 1000133, 1000151, 1000159, 1000171, 1000183, 1000187, 1000193, 1000199]
def cellI (ns : List Int) (k : Int) : Int := ns.getD k.toNat 0
def drawI (c k m : Int) : Int := (c * 48271 + k * 69621) % (primes.getD (k % 16).toNat 0) % m
def numI (c k l : Int) : Int := if 10 ^ 18 ≤ c then (c - 10 ^ 18) / (([1, 7, 49, 343, 2401] : List Int).getD (k % 5).toNat 0) % l else drawI ((c + 977 * k) * (c + 31 * k + 5)) (k % 9 + 1) 999983 % l
def greatI (ns : List Int) (k : Int) : Int := numI (cellI ns k) (k + 2) (([20, 2000, 10 ^ 9, 10 ^ 40] : List Int).getD (numI (cellI ns k) (k + 1) 4).toNat 0)
def baseI (ns : List Int) (k : Int) : Int := if numI (cellI ns k) (k + 8) 3 = 0 then 2 + numI (cellI ns k) (k + 9) 999 else ([2, 3, 10, 16, 7, 1000] : List Int).getD (numI (cellI ns k) (k + 3) 6).toNat 0
theorem atI_ints {xs : List Int} {i : Int} (h0 : 0 ≤ i) (h1 : i < xs.length) : atI (xs.map V.int) i = some (.int (xs.getD i.toNat 0)) := by
  obtain ⟨j, rfl⟩ := Int.eq_ofNat_of_zero_le h0
  have hj : j < xs.length := by omega
  refine atI_nat (j := j) ?_
  rw [List.getElem?_map, List.getElem?_eq_getElem hj, Int.toNat_natCast, List.getD_eq_getElem?_getD, List.getElem?_eq_getElem hj]
  rfl
theorem getD_all {xs : List Int} {P : Int → Prop} (h : ∀ x ∈ xs, P x) {i : Nat} (hi : i < xs.length) : P (xs.getD i 0) := by
  rw [List.getD_eq_getElem?_getD, List.getElem?_eq_getElem hi]
  exact h _ (List.getElem_mem hi)
theorem primes_pos {k : Int} : 0 < primes.getD (k % 16).toNat 0 := by
  have : (k % 16).toNat < primes.length := by
    show (k % 16).toNat < 16
    omega
  exact getD_all (P := fun x => 0 < x) (by decide) this
theorem fives_pos {k : Int} : 0 < ([1, 7, 49, 343, 2401] : List Int).getD (k % 5).toNat 0 ∧ ([1, 7, 49, 343, 2401] : List Int).getD (k % 5).toNat 0 < 1073741824 := by
  have : (k % 5).toNat < ([1, 7, 49, 343, 2401] : List Int).length := by
    show (k % 5).toNat < 5
    omega
  exact getD_all (P := fun x => 0 < x ∧ x < 1073741824) (by decide) this
theorem numI_bd {c k l : Int} (h : 0 < l) : 0 ≤ numI c k l ∧ numI c k l < l := by
  unfold numI
  split
  · exact ⟨Int.emod_nonneg _ (by omega), Int.emod_lt_of_pos _ h⟩
  · exact ⟨Int.emod_nonneg _ (by omega), Int.emod_lt_of_pos _ h⟩
theorem wides_pos {i : Int} (h0 : 0 ≤ i) (h : i < 4) : 0 < ([20, 2000, 10 ^ 9, 10 ^ 40] : List Int).getD i.toNat 0 ∧ ([20, 2000, 10 ^ 9, 10 ^ 40] : List Int).getD i.toNat 0 ≤ 10 ^ 40 := by
  have : i.toNat < ([20, 2000, 10 ^ 9, 10 ^ 40] : List Int).length := by
    show i.toNat < 4
    omega
  exact getD_all (P := fun x => 0 < x ∧ x ≤ 10 ^ 40) (by decide) this
theorem greatI_bd (ns : List Int) (k : Int) : 0 ≤ greatI ns k ∧ greatI ns k < 10 ^ 40 := by
  have a := numI_bd (c := cellI ns k) (k := k + 1) (l := 4) (by decide)
  have b := wides_pos a.1 a.2
  have c := numI_bd (c := cellI ns k) (k := k + 2) b.1
  exact ⟨c.1, Int.lt_of_lt_of_le c.2 b.2⟩
theorem baseI_bd (ns : List Int) (k : Int) : 2 ≤ baseI ns k ∧ baseI ns k ≤ 1000 := by
  unfold baseI
  split
  · have a := numI_bd (c := cellI ns k) (k := k + 9) (l := 999) (by decide)
    omega
  · have a := numI_bd (c := cellI ns k) (k := k + 3) (l := 6) (by decide)
    have : (numI (cellI ns k) (k + 3) 6).toNat < ([2, 3, 10, 16, 7, 1000] : List Int).length := by
      show _ < 6
      omega
    exact getD_all (P := fun x => 2 ≤ x ∧ x ≤ 1000) (by decide) this
abbrev CellsOk (ns : List Int) : Prop := ∀ n ∈ ns, CellOk n
theorem cellI_ok {ns : List Int} (h : CellsOk ns) (k : Int) : CellOk (cellI ns k) := by
  unfold cellI
  rw [List.getD_eq_getElem?_getD]
  cases e : ns[k.toNat]? with
  | none =>
    show CellOk 0
    exact Nat.pow_pos (by decide)
  | some x => exact h x (List.mem_of_getElem? e)
theorem big_of {n : Int} (h : n < 10 ^ 600) : n < Big := by
  have e : (10 : Nat) ^ 600 ≤ 2 ^ 20000 := by
    have h1 : (10 : Nat) ^ 600 ≤ 16 ^ 600 := Nat.pow_le_pow_left (by decide) _
    have h2 : (16 : Nat) ^ 600 = 2 ^ (4 * 600) := by
      rw [Nat.pow_mul]
    rw [h2] at h1
    exact Nat.le_trans h1 (pow_two_le (by decide))
  have e2 : (10 : Int) ^ 600 ≤ Big := by
    unfold Big
    have := Int.ofNat_le.mpr e
    rw [Int.natCast_pow, Int.natCast_pow] at this
    exact this
  exact Int.lt_of_lt_of_le h e2
theorem big_40 {n : Int} (h : n < 10 ^ 100) : n < Big := big_of (Int.lt_trans h (by
  have h1 : (10 : Int) ^ 100 * 1 < 10 ^ 100 * 10 ^ 500 := Int.mul_lt_mul_of_pos_left (by
    have : ((1 : Nat) : Int) < ((10 ^ 500 : Nat) : Int) := Int.ofNat_lt.mpr (Nat.one_lt_pow (by decide) (by decide))
    rw [Int.natCast_pow] at this
    exact this) (Int.pow_pos (by decide))
  rw [Int.mul_one, ← Int.pow_add] at h1
  exact h1))
/-! ### counted: the mirrors over ints -/
def Mid : Int := 2 ^ 700
def cntI (m b : Int) : Int := ((Bm.cnt b.toNat m.toNat : Nat) : Int)
def madeI (h m b : Int) : Int := ((Bm.made b.toNat h.toNat m.toNat : Nat) : Int)
def nbI (a b : Int) : Int := ((Bm.nb b.toNat a.toNat : Nat) : Int)
def blI (n b : Int) : Int := ((Bm.bl b.toNat n.toNat : Nat) : Int)
abbrev CB (b : Int) : Prop := 2 ≤ b ∧ b ≤ 1000
abbrev CAt (a b : Int) : Prop := 0 ≤ a ∧ a < Mid ∧ CB b
theorem mid_nat {n : Nat} (h : (n : Int) < Mid) : n < 2 ^ 700 := by
  have : ((2 ^ 700 : Nat) : Int) = Mid := by
    unfold Mid
    rw [Int.natCast_pow]
    rfl
  omega
theorem nat_mid {n : Nat} (h : n < 2 ^ 700) : (n : Int) < Mid := by
  have : ((2 ^ 700 : Nat) : Int) = Mid := by
    unfold Mid
    rw [Int.natCast_pow]
    rfl
  omega
theorem nat_big {n : Nat} (h : n < 2 ^ 20000) : (n : Int) < Big := by
  have : ((2 ^ 20000 : Nat) : Int) = Big := by
    unfold Big
    rw [Int.natCast_pow]
    rfl
  omega
theorem mid_of {n : Int} (h : n < 10 ^ 200) : n < Mid := by
  have e : (10 : Nat) ^ 200 ≤ 2 ^ 700 := by decide +kernel
  have e2 : (10 : Int) ^ 200 ≤ Mid := by
    unfold Mid
    have := Int.ofNat_le.mpr e
    rw [Int.natCast_pow, Int.natCast_pow] at this
    exact this
  exact Int.lt_of_lt_of_le h e2
theorem nb_cn {a b : Int} (h : CAt a b) : CNum (nbI a b) b := by
  obtain ⟨h0, h1, h2, h3⟩ := h
  obtain ⟨k, rfl⟩ := Int.eq_ofNat_of_zero_le h0
  obtain ⟨c, rfl⟩ := Int.eq_ofNat_of_zero_le (show 0 ≤ b by omega)
  refine ⟨by unfold nbI; omega, ?_, h2, h3⟩
  unfold nbI
  rw [Int.toNat_natCast, Int.toNat_natCast]
  refine nat_big (Nat.lt_of_lt_of_le (Bm.size_of_bl (b := c) (by omega) (by omega) ?_) (pow_two_le (by decide)))
  rw [(Bm.nb_ok (by omega) k).1]
  exact mid_nat h1
section
variable {P : Program} {w : World} {K : PySem.W.Frag} {mg : Str → Option Value} {base : Heap}
def sp_is_whole : Sp := spI1 (fun _ => True) fun _ => .bl true
theorem ok_is_whole (T : Tx K mg) : FnOk P w K mg base CX0 1 T.a_is_whole T.d_is_whole ["thing"] sp_is_whole := by
  refine T.F_is_whole.ok sc_is_whole (fun vs H Q E h => ?_) (fun cdv A outer s H vs Q E hr h => ?_)
  · obtain ⟨a, rfl, _⟩ := h
    rfl
  · obtain ⟨a, rfl, _, q⟩ := h
    refine ⟨_, (pss_one (ps_ret (pe_and (pe_callB call_isi (by rfl) T.m_isinstance (by decide +kernel) (pa_cons (pv 0) (pa_cons (pe_bltn (v := .ty "int") (by rfl) T.m_int (by decide +kernel) rfl) pa_nil))) (pe_one (pe_not (pe_callB call_isi (by rfl) T.m_isinstance (by decide +kernel) (pa_cons (pv 0) (pa_cons (pe_bltn (v := .ty "bool") (by rfl) T.m_bool (by decide +kernel) rfl) pa_nil)))))))), ?_⟩
    exact s_ret (ev_andV (ev_isI (b := true) (ev_var rfl) (by decide +kernel)) fun _ => ev_notV (ev_isI (b := false) (ev_var rfl) (by decide +kernel))) q

def sp_check_number : Sp := spI1 (fun n => 0 ≤ n) fun _ => .non
theorem ok_check_number (T : Tx K mg) : FnOk P w K mg base CX0 2 T.a_check_number T.d_check_number ["number"] sp_check_number := by
  refine T.F_check_number.ok sc_check_number (fun vs H Q E h => ?_) (fun cdv A outer s H vs Q E hr h => ?_)
  · obtain ⟨a, rfl, _⟩ := h
    rfl
  · obtain ⟨a, rfl, h0, q⟩ := h
    refine ⟨_, (pss_one (ps_if (PW.pt (pw_or (pt_not (pt_val (pe_call (ok_is_whole T) (hr.mono (by decide)) (by rfl) T.g_is_whole T.F_is_whole.kp T.b_is_whole .nil pass0 (pa_cons (pv 0) pa_nil)))) (pw_or1 (pt_cmpR op_lt (pv 0) pe_int (nomark _))))) (pss_one ps_never) pss_nil)), ?_⟩
    refine s_no (et_or (et_not (et_B (ec1 (ev_var rfl) trivial))) fun _ => et_test (ev_op (ev_var rfl) ev_c rv_I0)) ?_ q
    simp only [Bool.not_true, Bool.false_or, decide_eq_false_iff_not]
    omega

def sp_check_base : Sp := spI1 (fun n => 2 ≤ n ∧ n ≤ 1000) fun _ => .non
theorem ok_check_base (T : Tx K mg) : FnOk P w K mg base CX0 2 T.a_check_base T.d_check_base ["base"] sp_check_base := by
  refine T.F_check_base.ok sc_check_base (fun vs H Q E h => ?_) (fun cdv A outer s H vs Q E hr h => ?_)
  · obtain ⟨a, rfl, _⟩ := h
    rfl
  · obtain ⟨a, rfl, h0, q⟩ := h
    refine ⟨_, (pss_one (ps_if (PW.pt (pw_or (pt_not (pt_val (pe_call (ok_is_whole T) (hr.mono (by decide)) (by rfl) T.g_is_whole T.F_is_whole.kp T.b_is_whole .nil pass0 (pa_cons (pv 0) pa_nil)))) (pw_or1 (pt_not (pt_chain op_le op_le pe_int (pv 0) (pe_glob (v := .int 1000) (by rfl) T.c_GREATEST_BASE ⟨_, rfl⟩)))))) (pss_one ps_never) pss_nil)), ?_⟩
    refine s_no (et_or (et_not (et_B (ec1 (ev_var rfl) trivial))) fun _ => et_not (et_test (ev_chain ev_c (ev_var rfl) ev_c rv_I0 fun _ => rv_I0))) ?_ q
    have h1 := h0.1
    have h2 := h0.2
    simp only [Bool.not_true, Bool.false_or, Bool.not_eq_false', Bool.and_eq_true, decide_eq_true_eq]
    omega

def sp_figures_of : Sp := spL2 CNum figV
set_option maxHeartbeats 1000000 in
theorem ok_figures_of (T : Tx K mg) : FnOk P w K mg base CX0 1 T.a_figures_of T.d_figures_of ["number", "base"] sp_figures_of := by
  refine T.F_figures_of.ok sc_figures_of (fun vs H Q E h => ?_) (fun cdv A outer s H vs Q E hr h => ?_)
  · obtain ⟨a, b, rfl, _⟩ := h
    rfl
  · obtain ⟨n, b, rfl, ⟨h0, h1, h2, h3⟩, q⟩ := h
    obtain ⟨k, rfl⟩ := Int.eq_ofNat_of_zero_le h0
    obtain ⟨c, rfl⟩ := Int.eq_ofNat_of_zero_le (show 0 ≤ b by omega)
    have hc : 2 ≤ c := by omega
    have hlen := ds_len_big hc h1
    refine ⟨_, (pss_cons (ps_set (i := 2) sc_figures_of.nd rfl (Or.inl rfl) (pe_lst (pa_cons (pe_op op_mod (pv 0) (pv 1)) pa_nil)))
      (pss_cons (ps_while PassesOwn.never (pt_cmpR op_ge (pv 0) (pv 1) (nomark _))
      (pss_cons (ps_set (i := 0) sc_figures_of.nd rfl (Or.inl rfl) (pe_op op_fdiv (pv 0) (pv 1)))
      (pss_one (ps_expr (pe_bm PySem.F.plainAttrs_list PySem.F.slot_list_append PySem.F.type_list_append mt_append (pv 2) (pa_cons (pe_op op_mod (pv 0) (pv 1)) pa_nil))))))
      (pss_one (ps_ret (pe_revL (pv 2)))))), ?_⟩
    refine q_asgL (el_lst (ea_cons (ev_op (ev_var rfl) (ev_var rfl) (rv_I (by omega))) ea_nil) (by simp)) fun p H1 hp e1 l1 => ?_
    refine q_while (fun m σ' H' => ∃ (pre : List Nat), σ' = [some (.int (m : Int)), some (.int (c : Int)), some (.ref p)] ∧ Ex H H' ∧ H' p = some (.lst ((pre ++ [m % c]).map fun d : Nat => V.int (d : Int))) ∧ pre ++ Bm.ds c m = Bm.ds c k) k ⟨[], rfl, e1, ?_, rfl⟩ fun j σ' H' hW => ?_
    · rw [l1]
      show _ = some (HO.lst [V.int ((k % c : Nat) : Int)])
      rw [Int.natCast_emod]
    · obtain ⟨pre, rfl, ex, lp, hd⟩ := hW
      refine ⟨decide ((c : Int) ≤ (j : Int)), et_test (ev_op (ev_var rfl) (ev_var rfl) rv_I0), fun hb H2 e2 => ?_, fun hb H2 e2 => ?_⟩
      · have hb2 := of_decide_eq_true hb
        have hj : ¬ j < c := by omega
        have hjl : j / c < j := Nat.div_lt_self (by omega) (by omega)
        have hpl : pre.length + 1 < 100000 := by
          have := congrArg List.length hd
          rw [List.length_append] at this
          have := Bm.ds_pos hc j
          omega
        refine ⟨fun σ2 H3 => ∃ (j' : Nat) (pre' : List Nat), j' = j / c ∧ σ2 = [some (.int (j' : Int)), some (.int (c : Int)), some (.ref p)] ∧ Ex H H3 ∧ H3 p = some (.lst ((pre' ++ [j' % c]).map fun d : Nat => V.int (d : Int))) ∧ pre' ++ Bm.ds c j' = Bm.ds c k, fun σ2 H3 hN => ?_, ?_⟩
        · obtain ⟨j', pre', rfl, a1, a2, a3, a4⟩ := hN
          exact ⟨j / c, hjl, pre', a1, a2, a3, a4⟩
        · refine q_asg (ev_op (ev_var rfl) (ev_var rfl) (rv_I ⟨by omega, by omega⟩)) fun H3 e3 => ?_
          refine s_app (l := p) (xs := (pre ++ [j % c]).map fun d : Nat => V.int (d : Int)) (e3 p _ (e2 p _ lp)) (ev_var rfl) (ev_op (ev_var rfl) (ev_var rfl) (rv_I (by omega))) ?_ fun H4 e4 => ?_
          · rw [List.length_map, List.length_append]
            simpa using hpl
          · refine ⟨j / c, pre ++ [j % c], rfl, ?_, ?_, ?_, ?_⟩
            · rw [Int.natCast_ediv]
              rfl
            · exact Ex.mut ((ex.trans e2).trans (e3.trans e4)) hp
            · rw [upd_same, List.map_append (l₂ := [j / c % c]), List.map_singleton, Int.natCast_emod, Int.natCast_ediv]
            · rw [List.append_assoc, ← hd, Bm.ds_hi hc hj]
              rfl
      · have hb2 := of_decide_eq_false hb
        have hj : j < c := by omega
        refine s_retL (el_rev (ev_var rfl) (sq_of (e2 p _ lp))) fun r H3 hr3 e3 l3 => ?_
        refine q r H3 (fresh_back (ex.trans e2) hr3) ((ex.trans e2).trans e3) ?_
        rw [l3, Nat.mod_eq_of_lt hj]
        rw [Bm.ds_lo hj] at hd
        rw [hd]
        unfold figV figI Bm.fig
        rw [Int.toNat_natCast, Int.toNat_natCast, List.map_map, List.map_reverse]
        rfl

def sp_figures : Sp := spL2 CNum figV
theorem ok_figures (T : Tx K mg) : FnOk P w K mg base CX0 3 T.a_figures T.d_figures ["number", "base"] sp_figures := by
  refine T.F_figures.ok sc_figures (fun vs H Q E h => ?_) (fun cdv A outer s H vs Q E hr h => ?_)
  · obtain ⟨a, b, rfl, _⟩ := h
    rfl
  · obtain ⟨n, b, rfl, c, q⟩ := h
    refine ⟨_, (pss_cons (ps_expr (pe_call (ok_check_number T) (hr.mono (by decide)) (by rfl) T.g_check_number T.F_check_number.kp T.b_check_number .nil pass0 (pa_cons (pv 0) pa_nil)))
      (pss_cons (ps_expr (pe_call (ok_check_base T) (hr.mono (by decide)) (by rfl) T.g_check_base T.F_check_base.kp T.b_check_base .nil pass0 (pa_cons (pv 1) pa_nil)))
      (pss_one (ps_ret (pe_call (ok_figures_of T) (hr.mono (by decide)) (by rfl) T.g_figures_of T.F_figures_of.kp T.b_figures_of .nil pass0 (pa_cons (pv 0) (pa_cons (pv 1) pa_nil))))))), ?_⟩
    exact q_drop (ec1 (ev_var rfl) c.1) fun H1 e1 => q_drop (ec1 (ev_var rfl) c.2.2) fun H2 e2 => s_retL (el2 (ev_var rfl) (ev_var rfl) c) fun p H3 hp e3 h3 => q p H3 (fresh_back (e1.trans e2) hp) ((e1.trans e2).trans e3) h3

def sp_number_from (K : PySem.W.Frag) : Sp := spR K (fun _ b => 2 ≤ b ∧ b ≤ 1000) fun xs b => .int (valI xs b)
theorem ok_number_from (T : Tx K mg) : FnOk P w K mg base CX0 1 T.a_number_from T.d_number_from ["row", "base"] (sp_number_from K) := by
  refine T.F_number_from.ok sc_number_from (fun vs H Q E h => ?_) (fun cdv A outer s H vs Q E hr h => ?_)
  · obtain ⟨p, xs, b, rfl, _⟩ := h
    rfl
  · obtain ⟨p, xs, b, rfl, hs, hb, q⟩ := h
    refine ⟨_, (pss_cons (ps_set (i := 2) sc_number_from.nd rfl (Or.inl rfl) pe_int)
      (pss_cons (ps_for PassesOwn.never rfl (pi_list (pv 0)) (pg_name (i := 3) sc_number_from.nd rfl (Or.inl rfl))
      (pss_one (ps_set (i := 2) sc_number_from.nd rfl (Or.inl rfl) (pe_op op_add (pe_op op_mulX (pv 2) (pv 1)) (pv 3)))))
      (pss_one (ps_ret (pv 2))))), ?_⟩
    refine q_asg ev_c fun H1 e1 => ?_
    refine q_forLn (ev_var rfl) (ex_l e1 hs) (fun i σ' H' => (∃ y, σ' = [some (.ref p), some (.int b), some (.int (valI (xs.take i) b)), y]) ∧ Ex H H') (fun H2 e2 => ⟨⟨_, rfl⟩, e1.trans e2⟩) (fun i σ' H' _ w => ex_l w.2 hs) (fun i x σ' H' hx w => ?_) (fun σ' H' w => ?_)
    · obtain ⟨⟨y, rfl⟩, ex⟩ := w
      rw [List.getElem?_map] at hx
      obtain ⟨d, hd, rfl⟩ := Option.map_eq_some_iff.mp hx
      refine s_asg (ev_op (ev_op (ev_var rfl) (ev_var rfl) (rv_I (mulR (by omega) (by omega)))) (ev_var rfl) rv_I0) fun H2 e2 => ⟨⟨some (.int d), ?_⟩, ex.trans e2⟩
      have : valI (xs.take (i + 1)) b = valI (xs.take i) b * b + d := by
        unfold valI
        rw [List.take_add_one, hd, List.foldl_append]
        rfl
      rw [this]
      rfl
    · obtain ⟨⟨y, rfl⟩, ex⟩ := w
      rw [List.length_map, List.take_length]
      exact s_ret (ev_var rfl) fun H2 e2 => q H2 (ex.trans e2)

def turnI (n b : Int) : Int := valI (figI n b).reverse b
def sp_turned : Sp := spI2 CNum fun n b => .int (turnI n b)
theorem ok_turned (T : Tx K mg) : FnOk P w K mg base CX0 3 T.a_turned T.d_turned ["number", "base"] sp_turned := by
  refine T.F_turned.ok sc_turned (fun vs H Q E h => ?_) (fun cdv A outer s H vs Q E hr h => ?_)
  · obtain ⟨a, b, rfl, _⟩ := h
    rfl
  · obtain ⟨n, b, rfl, c, q⟩ := h
    refine ⟨_, (pss_cons (ps_expr (pe_call (ok_check_number T) (hr.mono (by decide)) (by rfl) T.g_check_number T.F_check_number.kp T.b_check_number .nil pass0 (pa_cons (pv 0) pa_nil)))
      (pss_cons (ps_expr (pe_call (ok_check_base T) (hr.mono (by decide)) (by rfl) T.g_check_base T.F_check_base.kp T.b_check_base .nil pass0 (pa_cons (pv 1) pa_nil)))
      (pss_one (ps_ret (pe_call (ok_number_from T) (hr.mono (by decide)) (by rfl) T.g_number_from T.F_number_from.kp T.b_number_from .nil pass0 (pa_cons (pe_revL (pe_call (ok_figures_of T) (hr.mono (by decide)) (by rfl) T.g_figures_of T.F_figures_of.kp T.b_figures_of .nil pass0 (pa_cons (pv 0) (pa_cons (pv 1) pa_nil)))) (pa_cons (pv 1) pa_nil))))))), ?_⟩
    refine q_drop (ec1 (ev_var rfl) c.1) fun H1 e1 => q_drop (ec1 (ev_var rfl) c.2.2) fun H2 e2 => s_ret (ecRN (elI (el_revN (el2 (ev_var rfl) (ev_var rfl) c)) ?_) (ev_var rfl) c.2.2) fun H3 e3 => q H3 ((e1.trans e2).trans e3)
    unfold figV
    rw [← List.map_reverse]

/-- the first place whose figure isn't that as far from the end -/
def fwL (l : List Int) : Int := match (List.range l.length).find? (fun i => decide (l.getD i 0 ≠ l.getD (l.length - 1 - i) 0)) with
  | some i => (i : Int)
  | none => -1
def fwI (n b : Int) : Int := fwL (figI n b)
theorem fw_some {l : List Int} {i : Nat} (hi : i < l.length) (h : l.getD i 0 ≠ l.getD (l.length - 1 - i) 0) (hb : ∀ j, j < i → l.getD j 0 = l.getD (l.length - 1 - j) 0) : fwL l = (i : Int) := by
  have e : (List.range l.length).find? (fun i => decide (l.getD i 0 ≠ l.getD (l.length - 1 - i) 0)) = some i := by
    rw [List.find?_range_eq_some]
    exact ⟨decide_eq_true h, List.mem_range.mpr hi, fun j hj => by rw [hb j hj]; simp⟩
  unfold fwL
  rw [e]
theorem fw_none {l : List Int} (hb : ∀ j, j < l.length → l.getD j 0 = l.getD (l.length - 1 - j) 0) : fwL l = -1 := by
  have e : (List.range l.length).find? (fun i => decide (l.getD i 0 ≠ l.getD (l.length - 1 - i) 0)) = none := by
    rw [List.find?_range_eq_none]
    intro j hj
    rw [hb j hj]
    simp
  unfold fwL
  rw [e]
def sp_first_wrong : Sp := spI2 CNum fun n b => .int (fwI n b)
set_option maxHeartbeats 1000000 in
theorem ok_first_wrong (T : Tx K mg) : FnOk P w K mg base CX0 2 T.a_first_wrong T.d_first_wrong ["number", "base"] sp_first_wrong := by
  refine T.F_first_wrong.ok sc_first_wrong (fun vs H Q E h => ?_) (fun cdv A outer s H vs Q E hr h => ?_)
  · obtain ⟨a, b, rfl, _⟩ := h
    rfl
  · obtain ⟨n, b, rfl, c, q⟩ := h
    refine ⟨_, (pss_cons (ps_set (i := 2) sc_first_wrong.nd rfl (Or.inl rfl) (pe_call (ok_figures_of T) (hr.mono (by decide)) (by rfl) T.g_figures_of T.F_figures_of.kp T.b_figures_of .nil pass0 (pa_cons (pv 0) (pa_cons (pv 1) pa_nil))))
      (pss_cons (ps_for PassesOwn.never rfl (pi_enum (by rfl) T.m_enumerate (pa_cons (pv 2) pa_nil)) (pg_tup rfl (pgs_cons (pg_name (i := 3) sc_first_wrong.nd rfl (Or.inl rfl)) (pgs_cons (pg_name (i := 4) sc_first_wrong.nd rfl (Or.inl rfl)) pgs_nil)))
      (pss_one (ps_if (pt_cmpR op_ne (pv 4) (pe_ix ix_list (pv 2) (pe_op op_sub (pe_op op_sub (pe_callB (r := rLenS _) call_len_seq (by rfl) T.m_len PySem.boot_len (pa_cons (pv 2) pa_nil)) pe_int) (pv 3)) (fun _ _ => rfl)) (nomark _)) (pss_one (ps_ret (pv 3))) pss_nil)))
      (pss_one (ps_ret (pe_un un_neg pe_int))))), ?_⟩
    refine q_asgL (el2 (ev_var rfl) (ev_var rfl) c) fun p H1 hp e1 l1 => ?_
    have hfl : (figV n b).length = (figI n b).length := List.length_map ..
    refine q_forEn (a := p) (xs := figV n b) (ea_cons (ev_var rfl) ea_nil) (sq_of l1) (fun i σ' H' => (∃ y3 y4, σ' = [some (.int n), some (.int b), some (.ref p), y3, y4]) ∧ Ex H1 H' ∧ ∀ j, j < i → (figI n b).getD j 0 = (figI n b).getD ((figI n b).length - 1 - j) 0) (fun H2 e2 => ⟨⟨_, _, rfl⟩, e2, fun j hj => absurd hj (Nat.not_lt_zero j)⟩) (fun i σ' H' w => sq_of (w.2.1 _ _ l1)) (fun i x σ' H' T' hx w nT => ?_) (fun σ' H' w => ?_)
    · obtain ⟨⟨y3, y4, rfl⟩, ex, hj⟩ := w
      have hi : i < (figI n b).length := by
        rw [← hfl]
        exact (List.getElem?_eq_some_iff.mp hx).1
      have ex' : x = .int ((figI n b).getD i 0) := by
        unfold figV at hx
        rw [List.getElem?_map, List.getElem?_eq_getElem hi] at hx
        rw [List.getD_eq_getElem?_getD, List.getElem?_eq_getElem hi]
        exact (Option.some.inj hx).symm
      subst ex'
      have exT : Ex H1 (upd H' T' (.tup [.int (i : Int), .int ((figI n b).getD i 0)])) := ex.trans (Ex.new nT)
      have lT := exT _ _ l1
      have eix : (figV n b).length - 1 - i < (figI n b).length := by omega
      refine s_when (b := !decide (V.int ((figI n b).getD i 0) = V.int ((figI n b).getD ((figI n b).length - 1 - i) 0))) (et_test (ev_op (ev_var rfl) (ev_ixV (ev_var rfl) (sq_of lT) (ev_op (ev_op (ev_len (ev_var rfl) (sq_of lT)) ev_c rv_I0) (ev_var rfl) rv_I0) ?ix) (rv_ne rfl))) (fun hb H2 e2 => ?_) (fun hb H2 e2 => ?_)
      case ix =>
        have a1 := atI_ints (xs := figI n b) (i := ((figV n b).length : Int) - 1 - (i : Int)) (by omega) (by omega)
        rw [show (((figV n b).length : Int) - 1 - (i : Int)).toNat = (figI n b).length - 1 - i by omega] at a1
        exact a1
      · have hne : (figI n b).getD i 0 ≠ (figI n b).getD ((figI n b).length - 1 - i) 0 := fun z => by
          rw [z, decide_eq_true rfl] at hb
          cases hb
        have efw : fwI n b = (i : Int) := fw_some hi hne hj
        dsimp only at q
        rw [efw] at q
        exact s_ret (ev_var rfl) fun H3 e3 => q H3 (e1.trans ((exT.trans e2).trans e3))
      · refine ⟨⟨_, _, rfl⟩, exT.trans e2, fun j hj' => ?_⟩
        rcases Nat.lt_or_ge j i with z | z
        · exact hj j z
        · have : j = i := by omega
          subst this
          have := of_decide_eq_true ((Bool.not_eq_false' ..).mp hb)
          exact V.int.inj this
    · obtain ⟨⟨y3, y4, rfl⟩, ex, hj⟩ := w
      rw [hfl] at hj
      have efw : fwI n b = -1 := fw_none hj
      dsimp only at q
      rw [efw] at q
      exact s_ret (ev_un ev_c ru_neg) fun H3 e3 => q H3 (e1.trans (ex.trans e3))

def uf (b p : Int) : List (Str × V) := putF "place" (.int p) (putF "base" (.int b) [])
theorem uf_place {b p : Int} : (uf b p).lookup ("place" : Str) = some (.int p) := by
  unfold uf
  rw [lookup_putF, if_pos rfl]
theorem uf_base {b p : Int} : (uf b p).lookup ("base" : Str) = some (.int b) := by
  unfold uf
  rw [lookup_putF, if_neg (by decide +kernel), lookup_putF, if_pos rfl]
theorem uf_shows {b p : Int} : (uf b p).lookup ("shows" : Str) = none := by
  unfold uf
  rw [lookup_putF, if_neg (by decide +kernel), lookup_putF, if_neg (by decide +kernel)]
  rfl
def sp_Unlike___init__ (C : Addr) : Sp := fun vs H Q _ => ∃ x dx b p, vs = [.ref x, .int b, .int p] ∧ H x = some (.ins C dx []) ∧ ∀ H' : Hp, (∀ a o, a ≠ x → H a = some o → H' a = some o) → H' x = some (.ins C dx (uf b p)) → Q .non H'
theorem ok_Unlike___init__ (T : Tx K mg) : FnOk P w K mg base CX0 1 T.a_Unlike___init__ T.d_Unlike___init__ ["self", "base", "place"] (sp_Unlike___init__ T.a_Unlike) := by
  refine T.F_Unlike___init__.ok sc_Unlike___init__ (fun vs H Q E h => ?_) (fun cdv A outer s H vs Q E hr h => ?_)
  · obtain ⟨x, dx, b, p, rfl, _⟩ := h
    rfl
  · obtain ⟨x, dx, b, p, rfl, hx, q⟩ := h
    refine ⟨_, (pss_cons (ps_fld (pv 0) (pv 1) rfl)
      (pss_one (ps_fld (pv 0) (pv 2) rfl))), ?_⟩
    refine ⟨_, rfl, _, rfl, x, T.a_Unlike, dx, [], rfl, hx, T.C_Unlike.cl, T.n_Unlike_base, by show 0 < 1000; decide, ?_⟩
    refine ⟨_, rfl, _, rfl, x, T.a_Unlike, dx, _, rfl, upd_same, T.C_Unlike.cl, T.n_Unlike_place, by show 1 < 1000; decide, ?_⟩
    exact q _ (fun a o ha h => by rw [upd_ne ha, upd_ne ha]; exact h) upd_same
theorem ei_unlike {σ : L2.St} {H : Hp} {ta tb : TE} {b p : Int} {C : Addr} {E : XK} (h1 : Ev ta σ H (.int b)) (h2 : Ev tb σ H (.int p)) : EvI (tMake C (sp_Unlike___init__ C) [] E (tCons ta (tCons tb tNil))) σ H C (uf b p) := fun H1 e Q q =>
  h1 H1 e _ fun H2 e2 => h2 H2 (e.trans e2) _ fun H3 e3 x dx hx hd hn => ⟨x, dx, b, p, rfl, upd_same, fun H' k l => ⟨rfl, q x dx H' (fresh_back (e2.trans e3) hx) (fun a o ha => by
    have h3 := e3 _ _ (e2 _ _ ha)
    have n1 : a ≠ x := fun z => by rw [z, hx] at h3; cases h3
    have n2 : a ≠ dx := fun z => by rw [z, hd] at h3; cases h3
    exact k a o n1 (by rw [upd_ne n1, upd_ne n2]; exact h3)) l⟩⟩

def ashI (n a b : Int) : Bool := decide (fwI n a < 0) && decide (fwI n b < 0)
def sp_Alike_shows : Sp := fun vs H Q _ => ∃ x n a b, vs = [x, .int n, .int a, .int b] ∧ (CNum n a ∧ CB b) ∧ RetV (.bl (ashI n a b)) H Q
theorem sv_Alike_shows {H : Hp} {x : V} {n a b : Int} (h : CNum n a ∧ CB b) : SpV sp_Alike_shows [x, .int n, .int a, .int b] H (.bl (ashI n a b)) := fun _ _ _ q _ => ⟨x, n, a, b, rfl, h, q⟩
theorem ok_Alike_shows (T : Tx K mg) : FnOk P w K mg base CX0 3 T.a_Alike_shows T.d_Alike_shows ["self", "number", "one", "other"] sp_Alike_shows := by
  refine T.F_Alike_shows.ok sc_Alike_shows (fun vs H Q E h => ?_) (fun cdv A outer s H vs Q E hr h => ?_)
  · obtain ⟨x, n, a, b, rfl, _⟩ := h
    rfl
  · obtain ⟨x, n, a, b, rfl, ⟨c1, c2⟩, q⟩ := h
    refine ⟨_, (pss_one (ps_ret (pe_and (pe_cmpR op_lt (pe_call (ok_first_wrong T) (hr.mono (by decide)) (by rfl) T.g_first_wrong T.F_first_wrong.kp T.b_first_wrong .nil pass0 (pa_cons (pv 1) (pa_cons (pv 2) pa_nil))) pe_int (nomark _)) (pe_one (pe_cmpR op_lt (pe_call (ok_first_wrong T) (hr.mono (by decide)) (by rfl) T.g_first_wrong T.F_first_wrong.kp T.b_first_wrong .nil pass0 (pa_cons (pv 1) (pa_cons (pv 3) pa_nil))) pe_int (nomark _)))))), ?_⟩
    have c3 : CNum n b := ⟨c1.1, c1.2.1, c2⟩
    exact s_ret (ev_andV (ev_op (ec2 (ev_var rfl) (ev_var rfl) (by first | exact c1 | exact c3)) ev_c rv_I0) fun _ => (ev_op (ec2 (ev_var rfl) (ev_var rfl) (by first | exact c1 | exact c3)) ev_c rv_I0)) q
theorem eqV_int (a b : Int) : eqV (.int a) (.int b) = decide (a = b) := by
  first
    | rfl
    | (unfold eqV; rfl)
    | simp [eqV]
theorem inV2 (x a b : Int) : inV (.int x) [.int a, .int b] = (decide (a = x) || decide (b = x)) := by
  unfold inV
  simp only [List.any_cons, List.any_nil, Bool.or_false, eqV_int]
def ushI (u p n a b : Int) : Bool := inV (.int u) [.int a, .int b] && (decide (0 ≤ p) && decide (V.int (fwI n u) = V.int p))
def sp_Unlike_shows (C : Addr) : Sp := fun vs H Q _ => ∃ x dx u p n a b, vs = [.ref x, .int n, .int a, .int b] ∧ H x = some (.ins C dx (uf u p)) ∧ (CNum n a ∧ CB b) ∧ RetV (.bl (ushI u p n a b)) H Q
theorem sv_Unlike_shows {H : Hp} {C x dx : Addr} {u p n a b : Int} (hx : H x = some (.ins C dx (uf u p))) (h : CNum n a ∧ CB b) : SpV (sp_Unlike_shows C) [.ref x, .int n, .int a, .int b] H (.bl (ushI u p n a b)) := fun _ e _ q _ => ⟨x, dx, u, p, n, a, b, rfl, e _ _ hx, h, q⟩
theorem ok_Unlike_shows (T : Tx K mg) : FnOk P w K mg base CX0 3 T.a_Unlike_shows T.d_Unlike_shows ["self", "number", "one", "other"] (sp_Unlike_shows T.a_Unlike) := by
  refine T.F_Unlike_shows.ok sc_Unlike_shows (fun vs H Q E h => ?_) (fun cdv A outer s H vs Q E hr h => ?_)
  · obtain ⟨x, dx, u, p, n, a, b, rfl, _⟩ := h
    rfl
  · obtain ⟨x, dx, u, p, n, a, b, rfl, hx, ⟨c1, c2⟩, q⟩ := h
    refine ⟨_, (pss_one (ps_ret (pe_and (pe_cmpR op_in_seq (pe_fld (pv 0) rfl) (pe_tup (pa_cons (pv 2) (pa_cons (pv 3) pa_nil))) (by rfl)) (pe_and (pe_cmpR op_ge (pe_fld (pv 0) rfl) pe_int (nomark _)) (pe_one (pe_cmpR op_eq (pe_call (ok_first_wrong T) (hr.mono (by decide)) (by rfl) T.g_first_wrong T.F_first_wrong.kp T.b_first_wrong .nil pass0 (pa_cons (pv 1) (pa_cons (pe_fld (pv 0) rfl) pa_nil))) (pe_fld (pv 0) rfl) (nomark _))))))), ?_⟩
    have hcn : inV (.int u) [.int a, .int b] = true → CNum n u := fun z => by
      rw [inV2, Bool.or_eq_true, decide_eq_true_eq, decide_eq_true_eq] at z
      rcases z with z | z
      · rw [← z]
        exact c1
      · rw [← z]
        exact ⟨c1.1, c1.2.1, c2⟩
    exact s_ret (ev_andV (ev_inU (ev_fld (ev_var rfl) hx T.C_Unlike.cl T.n_Unlike_base uf_base) (eu_tup (ea_cons (ev_var rfl) (ea_cons (ev_var rfl) ea_nil)) (by simp)) rfl rfl) fun _ => (ev_andV (ev_op (ev_fld (ev_var rfl) hx T.C_Unlike.cl T.n_Unlike_place uf_place) ev_c rv_I0) fun _ => (ev_op (ec2 (ev_var rfl) (ev_fld (ev_var rfl) hx T.C_Unlike.cl T.n_Unlike_base uf_base) (hcn (by assumption))) (ev_fld (ev_var rfl) hx T.C_Unlike.cl T.n_Unlike_place uf_place) (rv_eq rfl)))) q

def sp_power : Sp := spI2 (fun b t => CB b ∧ 0 ≤ t ∧ t ≤ 100000) fun b t => .int (b ^ t.toNat)
theorem ok_power (T : Tx K mg) : FnOk P w K mg base CX0 1 T.a_power T.d_power ["base", "times"] sp_power := by
  refine T.F_power.ok sc_power (fun vs H Q E h => ?_) (fun cdv A outer s H vs Q E hr h => ?_)
  · obtain ⟨a, b, rfl, _⟩ := h
    rfl
  · obtain ⟨b, t, rfl, ⟨hb, h0, h1⟩, q⟩ := h
    refine ⟨_, (pss_cons (ps_set (i := 2) sc_power.nd rfl (Or.inl rfl) pe_int)
      (pss_cons (ps_for PassesOwn.never rfl (pi_range1 (by rfl) T.m_range (pa_cons (pv 1) pa_nil)) (pg_name (i := 3) sc_power.nd rfl (Or.inl rfl))
      (pss_one (ps_set (i := 2) sc_power.nd rfl (Or.inl rfl) (pe_op op_mulX (pv 2) (pv 0)))))
      (pss_one (ps_ret (pv 2))))), ?_⟩
    refine q_asg ev_c fun H1 e1 => ?_
    refine q_forR1 (n := t) (ea_cons (ev_var rfl) ea_nil) ⟨h0, h1⟩ (fun i σ' H' => (∃ y, σ' = [some (.int b), some (.int t), some (.int (b ^ i)), y]) ∧ Ex H H') (fun H2 e2 => ⟨⟨none, by rw [Int.pow_zero]; rfl⟩, e1.trans e2⟩) (fun i σ' H' hi w => ?_) (fun σ' H' w => ?_)
    · obtain ⟨⟨y, rfl⟩, ex⟩ := w
      refine s_asg (ev_op (ev_var rfl) (ev_var rfl) (rv_I (mulR (by omega) (by omega)))) fun H2 e2 => ⟨⟨some (.int (i : Int)), ?_⟩, ex.trans e2⟩
      rw [Int.pow_succ]
      rfl
    · obtain ⟨⟨y, rfl⟩, ex⟩ := w
      exact s_ret (ev_var rfl) fun H2 e2 => q H2 (ex.trans e2)

def sp_many_of : Sp := spI2 (fun m b => 1 ≤ m ∧ m ≤ 100000 ∧ CB b) fun m b => .int (cntI m b)
theorem ok_many_of (T : Tx K mg) : FnOk P w K mg base CX0 2 T.a_many_of T.d_many_of ["many", "base"] sp_many_of := by
  refine T.F_many_of.ok sc_many_of (fun vs H Q E h => ?_) (fun cdv A outer s H vs Q E hr h => ?_)
  · obtain ⟨a, b, rfl, _⟩ := h
    rfl
  · obtain ⟨m, b, rfl, ⟨h0, h1, hb⟩, q⟩ := h
    refine ⟨_, (pss_cons (ps_if (pt_cmpR op_eq (pv 0) pe_int (nomark _)) (pss_one (ps_ret (pv 1))) pss_nil)
      (pss_one (ps_ret (pe_op op_mulX (pe_op op_sub (pv 1) pe_int) (pe_call (ok_power T) (hr.mono (by decide)) (by rfl) T.g_power T.F_power.kp T.b_power .nil pass0 (pa_cons (pv 1) (pa_cons (pe_op op_fdiv (pe_op op_sub (pv 0) pe_int) pe_int) pa_nil))))))), ?_⟩
    refine q_when (et_test (ev_op (ev_var rfl) ev_c (rv_eq rfl))) (fun hb' H1 e1 => ?_) (fun hb' H1 e1 => ?_)
    · have e : m = 1 := V.int.inj (of_decide_eq_true hb')
      subst e
      have e2 : cntI 1 b = b := by
        show ((b.toNat : Nat) : Int) = b
        omega
      dsimp only at q
      rw [e2] at q
      exact s_ret (ev_var rfl) fun H2 e2 => q H2 (e1.trans e2)
    · have e : m ≠ 1 := fun z => of_decide_eq_false hb' (congrArg V.int z)
      have e2 : cntI m b = (b - 1) * b ^ ((m - 1) / 2).toNat := by
        obtain ⟨k, rfl⟩ := Int.eq_ofNat_of_zero_le (show 0 ≤ m by omega)
        obtain ⟨c, rfl⟩ := Int.eq_ofNat_of_zero_le (show 0 ≤ b by omega)
        unfold cntI Bm.cnt
        rw [Int.toNat_natCast, Int.toNat_natCast, if_neg (by omega), Int.natCast_mul, Int.natCast_pow, Int.natCast_sub (by omega)]
        congr 2
        omega
      dsimp only at q
      rw [e2] at q
      exact s_ret (ev_op (ev_op (ev_var rfl) ev_c rv_I0) (ec2 (ev_var rfl) (ev_op (ev_op (ev_var rfl) ev_c rv_I0) ev_c (rv_I (by walk_at "FloorDiv"))) ⟨hb, by omega, by omega⟩) (rv_I (by walk_at "Mult"))) fun H2 e2 => q H2 (e1.trans e2)

def sp_made_of : Sp := spI3 (fun h m b => CNum h b ∧ 0 ≤ m) fun h m b => .int (madeI h m b)
theorem ok_made_of (T : Tx K mg) : FnOk P w K mg base CX0 2 T.a_made_of T.d_made_of ["half", "many", "base"] sp_made_of := by
  refine T.F_made_of.ok sc_made_of (fun vs H Q E h => ?_) (fun cdv A outer s H vs Q E hr h => ?_)
  · obtain ⟨a, b, c, rfl, _⟩ := h
    rfl
  · obtain ⟨h, m, b, rfl, ⟨cn, hm⟩, q⟩ := h
    refine ⟨_, (pss_cons (ps_set (i := 3) sc_made_of.nd rfl (Or.inl rfl) (pe_call (ok_figures_of T) (hr.mono (by decide)) (by rfl) T.g_figures_of T.F_figures_of.kp T.b_figures_of .nil pass0 (pa_cons (pv 0) (pa_cons (pv 2) pa_nil))))
      (pss_one (ps_ret (pe_call (ok_number_from T) (hr.mono (by decide)) (by rfl) T.g_number_from T.F_number_from.kp T.b_number_from .nil pass0 (pa_cons (pe_op op_cat (pv 3) (pe_slice sl_list (pe_revL (pv 3)) (po_some (pe_op op_mod (pv 1) pe_int)) po_none)) (pa_cons (pv 2) pa_nil)))))), ?_⟩
    refine q_asgL (el2 (ev_var rfl) (ev_var rfl) cn) fun p H1 hp e1 l1 => ?_
    refine s_ret (ecRN (elI (ys := figI h b ++ (figI h b).reverse.drop (m % 2).toNat) (el_catN (ev_var rfl) l1 (el_slN (el_rev (ev_var rfl) (sq_of l1)) (eo_some (ev_op (ev_var rfl) ev_c (rv_I (by walk_at "Mod")))) eo_none) ?z) ?y) (ev_var rfl) cn.2.2) fun H2 e2 => ?q
    case z =>
      have := (figI_len cn).1
      have h2 := cutV_length (figV h b).reverse (some (m % 2)) none
      rw [List.length_reverse] at h2
      have h3 : (figV h b).length = (figI h b).length := List.length_map ..
      omega
    case y =>
      rw [cut_from _ (by omega)]
      unfold figV
      rw [List.map_append, List.map_drop, List.map_reverse]
    case q =>
      have e : valI (figI h b ++ (figI h b).reverse.drop (m % 2).toNat) b = madeI h m b := by
        obtain ⟨k, rfl⟩ := Int.eq_ofNat_of_zero_le cn.1
        obtain ⟨c, rfl⟩ := Int.eq_ofNat_of_zero_le (show 0 ≤ b from Int.le_trans (by decide) cn.2.2.1)
        obtain ⟨j, rfl⟩ := Int.eq_ofNat_of_zero_le hm
        unfold madeI Bm.made
        rw [Int.toNat_natCast, Int.toNat_natCast, Int.toNat_natCast, figI_nat, ← List.map_reverse, ← List.map_drop, ← List.map_append, valI_nat]
        congr 4
      rw [e]
      exact q H2 (e1.trans e2)

def sp_number_by : Sp := spI2 CAt fun a b => .int (nbI a b)
theorem nb_half {b m l : Nat} (hb2 : b ≤ 1000) (hm : m ≤ 1401) (hl : l < 2 ^ 700) : ((b ^ ((m - 1) / 2) + l : Nat) : Int) < Big := by
  refine nat_big ?_
  have h1 : b ^ ((m - 1) / 2) ≤ 2 ^ (10 * ((m - 1) / 2)) := Bm.pow_le_two hb2
  have h2 : (2 : Nat) ^ (10 * ((m - 1) / 2)) ≤ 2 ^ 7000 := pow_two_le (by omega)
  have h3 : (2 : Nat) ^ 700 ≤ 2 ^ 7000 := pow_two_le (by decide)
  have h4 : (2 : Nat) ^ 7000 + 2 ^ 7000 ≤ 2 ^ 20000 := by
    rw [← Nat.mul_two, ← Nat.pow_succ]
    exact pow_two_le (by decide)
  omega
set_option maxHeartbeats 1000000 in
theorem ok_number_by (T : Tx K mg) : FnOk P w K mg base CX0 3 T.a_number_by T.d_number_by ["at", "base"] sp_number_by := by
  refine T.F_number_by.ok sc_number_by (fun vs H Q E h => ?_) (fun cdv A outer s H vs Q E hr h => ?_)
  · obtain ⟨a, b, rfl, _⟩ := h
    rfl
  · obtain ⟨a, b, rfl, ⟨h0, h1, hb⟩, q⟩ := h
    refine ⟨_, (pss_cons (ps_expr (pe_call (ok_check_number T) (hr.mono (by decide)) (by rfl) T.g_check_number T.F_check_number.kp T.b_check_number .nil pass0 (pa_cons (pv 0) pa_nil)))
      (pss_cons (ps_expr (pe_call (ok_check_base T) (hr.mono (by decide)) (by rfl) T.g_check_base T.F_check_base.kp T.b_check_base .nil pass0 (pa_cons (pv 1) pa_nil)))
      (pss_cons (ps_if (pt_cmpR op_eq (pv 0) pe_int (nomark _)) (pss_one (ps_ret pe_int)) pss_nil)
      (pss_cons (ps_par (i := 2) (j := 3) (by rfl) sc_number_by.nd rfl rfl (by decide) rfl rfl (pa_cons pe_int (pa_cons (pe_op op_sub (pv 0) pe_int) pa_nil)) (by rfl))
      (pss_cons (ps_while PassesOwn.never (pt_cmpR op_ge (pv 3) (pe_op op_sub (pe_call (ok_many_of T) (hr.mono (by decide)) (by rfl) T.g_many_of T.F_many_of.kp T.b_many_of .nil pass0 (pa_cons (pv 2) (pa_cons (pv 1) pa_nil))) (pe_callTy (r := rInt1) call_int1 (by rfl) T.m_int (by decide +kernel) (pa_cons (pe_cmpR op_eq (pv 2) pe_int (nomark _)) pa_nil))) (nomark _))
      (pss_cons (ps_set (i := 3) sc_number_by.nd rfl (Or.inl rfl) (pe_op op_add (pe_op op_sub (pv 3) (pe_call (ok_many_of T) (hr.mono (by decide)) (by rfl) T.g_many_of T.F_many_of.kp T.b_many_of .nil pass0 (pa_cons (pv 2) (pa_cons (pv 1) pa_nil)))) (pe_callTy (r := rInt1) call_int1 (by rfl) T.m_int (by decide +kernel) (pa_cons (pe_cmpR op_eq (pv 2) pe_int (nomark _)) pa_nil))))
      (pss_one (ps_aug (i := 2) sc_number_by.nd rfl (Or.inl rfl) pe_int ip_add))))
      (pss_one (ps_ret (pe_call (ok_made_of T) (hr.mono (by decide)) (by rfl) T.g_made_of T.F_made_of.kp T.b_made_of .nil pass0 (pa_cons (pe_op op_add (pe_call (ok_power T) (hr.mono (by decide)) (by rfl) T.g_power T.F_power.kp T.b_power .nil pass0 (pa_cons (pv 1) (pa_cons (pe_op op_fdiv (pe_op op_sub (pv 2) pe_int) pe_int) pa_nil))) (pv 3)) (pa_cons (pv 2) (pa_cons (pv 1) pa_nil))))))))))), ?_⟩
    refine q_drop (ec1 (ev_var rfl) h0) fun H1 e1 => ?_
    refine q_drop (ec1 (ev_var rfl) hb) fun H2 e2 => ?_
    refine q_when (et_test (ev_op (ev_var rfl) ev_c (rv_eq rfl))) (fun hb' H3 e3 => ?_) (fun hb' H3 e3 => ?_)
    · have e : a = 0 := V.int.inj (of_decide_eq_true hb')
      subst e
      exact s_ret ev_c fun H4 e4 => q H4 ((e1.trans e2).trans (e3.trans e4))
    · have ha : a ≠ 0 := fun z => of_decide_eq_false hb' (congrArg V.int z)
      obtain ⟨k, rfl⟩ := Int.eq_ofNat_of_zero_le h0
      obtain ⟨c, rfl⟩ := Int.eq_ofNat_of_zero_le (show 0 ≤ b by omega)
      have hc : 2 ≤ c := by omega
      have hc2 : c ≤ 1000 := by omega
      have hk := mid_nat h1
      refine q_par (ea_cons ev_c (ea_cons (ev_op (ev_var rfl) ev_c rv_I0) ea_nil)) fun H4 e4 => ?_
      refine q_while (fun j σ' H' => ∃ m : Nat, σ' = [some (.int (k : Int)), some (.int (c : Int)), some (.int (m : Int)), some (.int (j : Int))] ∧ 1 ≤ m ∧ Bm.sm c m + j + (if m = 1 then 1 else 0) = k ∧ Bm.nbG c m j = Bm.nb c k ∧ Ex H H') (k - 1) ⟨1, ?_, Nat.le_refl 1, ?_, ?_, (e1.trans e2).trans (e3.trans e4)⟩ fun j σ' H' hW => ?_
      · rw [show ((k - 1 : Nat) : Int) = (k : Int) - 1 by omega]
        rfl
      · rw [if_pos rfl]
        show 0 + (if (0 : Nat) = 0 then 0 else Bm.cnt c 0) + (k - 1) + 1 = k
        rw [if_pos rfl]
        omega
      · rw [Bm.nb_G hc (by omega)]
      · obtain ⟨m, rfl, hm1, hinv, hval, ex⟩ := hW
        have hm2 : m ≤ 1401 := Bm.m_bound (e := 700) hc (by omega)
        have hcp := Bm.cnt_pos (m := m) hc
        have cm : 1 ≤ (m : Int) ∧ (m : Int) ≤ 100000 ∧ CB (c : Int) := ⟨by omega, by omega, hb⟩
        have ecnt : cntI (m : Int) (c : Int) = ((Bm.cnt c m : Nat) : Int) := by
          unfold cntI
          rw [Int.toNat_natCast, Int.toNat_natCast]
        have eif : (if decide (V.int (m : Int) = V.int 1) then (1 : Int) else 0) = ((if m = 1 then 1 else 0 : Nat) : Int) := by
          by_cases z : m = 1
          · rw [if_pos z, if_pos (by rw [z]; exact decide_eq_true rfl)]
            rfl
          · rw [if_neg z, if_neg (by rw [decide_eq_true_iff]; intro y; exact z (by have := V.int.inj y; omega))]
            rfl
        refine ⟨decide ((cntI (m : Int) (c : Int) - (if decide (V.int (m : Int) = V.int 1) then (1 : Int) else 0)) ≤ (j : Int)), (et_test (ev_op (ev_var rfl) (ev_op (ec2 (ev_var rfl) (ev_var rfl) cm) (ev_intB (ev_op (ev_var rfl) ev_c (rv_eq rfl))) rv_I0) rv_I0)), fun hb2 H5 e5 => ?_, fun hb2 H5 e5 => ?_⟩
        · have hb3 := of_decide_eq_true hb2
          rw [ecnt, eif] at hb3
          generalize hif : (if m = 1 then 1 else 0 : Nat) = d1 at *
          refine ⟨fun σ2 H6 => σ2 = [some (.int (k : Int)), some (.int (c : Int)), some (.int ((m + 1 : Nat) : Int)), some (.int ((j - (Bm.cnt c m - d1) : Nat) : Int))] ∧ Ex H H6, fun σ2 H6 hN => ⟨j - (Bm.cnt c m - d1), by omega, m + 1, hN.1, by omega, ?_, ?_, hN.2⟩, ?_⟩
          · rw [Bm.sm_succ (by omega), if_neg (by omega)]
            omega
          · rw [← hval, Bm.nbG_hi (m := m) (l := j) hc (by rw [hif]; omega), hif]
          · refine q_asg (ev_op (ev_op (ev_var rfl) (ec2 (ev_var rfl) (ev_var rfl) cm) rv_I0) (ev_intB (ev_op (ev_var rfl) ev_c (rv_eq rfl))) rv_I0) fun H6 e6 => ?_
            refine s_aug (a := (m : Int)) (b := 1) rfl ev_c fun H7 e7 => ⟨?_, (ex.trans e5).trans (e6.trans e7)⟩
            rw [ecnt, eif, show ((j - (Bm.cnt c m - d1) : Nat) : Int) = (j : Int) - ((Bm.cnt c m : Nat) : Int) + (d1 : Int) by omega, show ((m + 1 : Nat) : Int) = (m : Int) + 1 by omega]
            rfl
        · have hb3 := of_decide_eq_false hb2
          rw [ecnt, eif] at hb3
          have hlt : j < Bm.cnt c m - (if m = 1 then 1 else 0) := by
            generalize (if m = 1 then 1 else 0 : Nat) = d1 at *
            omega
          have epow : (c : Int) ^ (((m : Int) - 1) / 2).toNat + (j : Int) = ((c ^ ((m - 1) / 2) + j : Nat) : Int) := by
            rw [Int.natCast_add, Int.natCast_pow]
            congr 2
            omega
          have hj : j < 2 ^ 700 := by omega
          refine s_ret (ec3 (ev_is (ev_op (ec2 (ev_var rfl) (ev_op (ev_op (ev_var rfl) ev_c rv_I0) ev_c (rv_I (by walk_at "FloorDiv"))) ⟨hb, by omega, by omega⟩) (ev_var rfl) rv_I0) (congrArg V.int epow)) (ev_var rfl) (ev_var rfl) ⟨⟨by omega, nb_half hc2 hm2 hj, hb⟩, by omega⟩) fun H6 e6 => ?_
          have efin : madeI ((c ^ ((m - 1) / 2) + j : Nat) : Int) (m : Int) (c : Int) = nbI (k : Int) (c : Int) := by
            unfold madeI nbI
            rw [Int.toNat_natCast, Int.toNat_natCast, Int.toNat_natCast, Int.toNat_natCast, ← hval, Bm.nbG_lo hc hlt]
          rw [efin]
          exact q H6 ((ex.trans e5).trans e6)

def sp_below_of : Sp := spI2 CNum fun n b => .int (blI n b)
theorem sum_cnt (c : Nat) : ∀ m : Nat, ((List.range m).map fun i : Nat => cntI (1 + (i : Int)) (c : Int)).sum = ((Bm.sm c (m + 1) : Nat) : Int)
  | 0 => rfl
  | m + 1 => by
    rw [List.range_succ, List.map_append, List.sum_append, sum_cnt c m, Bm.sm_succ (b := c) (m := m + 1) (by omega)]
    show _ + (cntI (1 + (m : Int)) (c : Int) + 0) = _
    unfold cntI
    rw [Int.toNat_natCast, show (1 + (m : Int)).toNat = m + 1 by omega]
    omega
set_option maxHeartbeats 1000000 in
theorem ok_below_of (T : Tx K mg) : FnOk P w K mg base CX0 3 T.a_below_of T.d_below_of ["number", "base"] sp_below_of := by
  refine T.F_below_of.ok sc_below_of (fun vs H Q E h => ?_) (fun cdv A outer s H vs Q E hr h => ?_)
  · obtain ⟨a, b, rfl, _⟩ := h
    rfl
  · obtain ⟨n, b, rfl, cn, q⟩ := h
    have hb : CB b := cn.2.2
    refine ⟨_, (pss_cons (ps_if (pt_cmpR op_eq (pv 0) pe_int (nomark _)) (pss_one (ps_ret pe_int)) pss_nil)
      (pss_cons (ps_set (i := 2) sc_below_of.nd rfl (Or.inl rfl) (pe_call (ok_figures_of T) (hr.mono (by decide)) (by rfl) T.g_figures_of T.F_figures_of.kp T.b_figures_of .nil pass0 (pa_cons (pv 0) (pa_cons (pv 1) pa_nil))))
      (pss_cons (ps_set (i := 3) sc_below_of.nd rfl (Or.inl rfl) (pe_callB (r := rLenS _) call_len_seq (by rfl) T.m_len PySem.boot_len (pa_cons (pv 2) pa_nil)))
      (pss_cons (ps_set (i := 4) sc_below_of.nd rfl (Or.inl rfl) (pe_callB (cr_sum rfl) (by rfl) T.m_sum (by decide +kernel) (pa_cons (pe_lc (own := [("few", 6)]) (g := gName 6) (tt := tYes) (by rfl) sc_below_of.nd (pi_range2 (by rfl) T.m_range (pa_cons pe_int (pa_cons (pv 3) pa_nil))) (blkOk_by (own := [("few", 6)]) (N := N_below_of) (sc := defScope s_below_of) (by decide +kernel)) (fun _ _ _ _ _ => pg_name (i := 6) sc_below_of.nd rfl (Or.inl rfl)) (fun _ _ _ _ _ => pts_nil) (fun _ _ _ _ _ => (pe_call (ok_many_of T) (hr.mono (by decide)) (by rfl) T.g_many_of T.F_many_of.kp T.b_many_of .nil pass0 (pa_cons (pv 6) (pa_cons (pv 1) pa_nil))))) pa_nil)))
      (pss_cons (ps_set (i := 5) sc_below_of.nd rfl (Or.inl rfl) (pe_call (ok_number_from T) (hr.mono (by decide)) (by rfl) T.g_number_from T.F_number_from.kp T.b_number_from .nil pass0 (pa_cons (pe_slice sl_list (pv 2) po_none (po_some (pe_op op_fdiv (pe_op op_add (pv 3) pe_int) pe_int))) (pa_cons (pv 1) pa_nil))))
      (pss_cons (ps_aug (i := 4) sc_below_of.nd rfl (Or.inl rfl) (pe_op op_sub (pv 5) (pe_ifExp (pt_cmpR op_eq (pv 3) pe_int (nomark _)) pe_int (pe_call (ok_power T) (hr.mono (by decide)) (by rfl) T.g_power T.F_power.kp T.b_power .nil pass0 (pa_cons (pv 1) (pa_cons (pe_op op_fdiv (pe_op op_sub (pv 3) pe_int) pe_int) pa_nil))))) ip_add)
      (pss_one (ps_ret (pe_op op_add (pv 4) (pe_callTy (r := rInt1) call_int1 (by rfl) T.m_int (by decide +kernel) (pa_cons (pe_cmpR op_lt (pe_call (ok_made_of T) (hr.mono (by decide)) (by rfl) T.g_made_of T.F_made_of.kp T.b_made_of .nil pass0 (pa_cons (pv 5) (pa_cons (pv 3) (pa_cons (pv 1) pa_nil)))) (pv 0) (nomark _)) pa_nil))))))))))), ?_⟩
    refine q_when (et_test (ev_op (ev_var rfl) ev_c (rv_eq rfl))) (fun hb' H3 e3 => ?_) (fun hb' H3 e3 => ?_)
    · have e : n = 0 := V.int.inj (of_decide_eq_true hb')
      subst e
      exact s_ret ev_c fun H4 e4 => q H4 (e3.trans e4)
    · have hn0 : n ≠ 0 := fun z => of_decide_eq_false hb' (congrArg V.int z)
      have cn' := cn
      obtain ⟨h0, h1, _, _⟩ := cn
      obtain ⟨k, rfl⟩ := Int.eq_ofNat_of_zero_le h0
      obtain ⟨c, rfl⟩ := Int.eq_ofNat_of_zero_le (show 0 ≤ b from Int.le_trans (by decide) hb.1)
      have hc : 2 ≤ c := by omega
      have hk : 0 < k := by omega
      have hlen := ds_len_big hc h1
      have hpos := Bm.ds_pos hc k
      have hfl : (figV (k : Int) (c : Int)).length = (Bm.ds c k).length := by
        unfold figV
        rw [List.length_map, figI_nat, List.length_map]
        unfold Bm.fig
        rw [List.length_reverse]
      refine q_asgL (el2 (ev_var rfl) (ev_var rfl) cn') fun p H4 hp e4 l4 => ?_
      refine q_asg (ev_is (ev_len (ev_var rfl) (sq_of l4)) (w := .int ((Bm.ds c k).length : Int)) (by rw [hfl])) fun H5 e5 => ?_
      have l5 := e5 _ _ l4
      generalize hm : (Bm.ds c k).length = m at *
      refine q_asg (v := .int ((Bm.sm c m : Nat) : Int)) (ev_is (ev_sumN (elI (ys := (List.range (m - 1)).map fun i : Nat => cntI (1 + (i : Int)) (c : Int)) (el_lcR2 (lo := 1) (hi := (m : Int)) (fun _ => true) (fun i => .int (cntI (1 + (i : Int)) (c : Int))) (ea_cons ev_c (ea_cons (ev_var rfl) ea_nil)) (by decide) (by omega) (by omega) (fun _ => rfl) (fun _ _ _ _ => et_yes) (fun i H6 e6 hi _ => ec2 (ev_var rfl) (ev_var rfl) ⟨by omega, by omega, hb⟩)) ?ys)) ?sum) fun H6 e6 => ?_
      case ys =>
        rw [given_all, List.map_map, show ((m : Int) - 1).toNat = m - 1 by omega]
        rfl
      case sum =>
        rw [sum_cnt, show m - 1 + 1 = m by omega]
      have l6 := e6 _ _ l5
      refine q_asg (v := .int ((Bm.hf c k : Nat) : Int)) (ev_is (ecRN (xs := ((Bm.fig c k).take ((m + 1) / 2)).map fun d : Nat => (d : Int)) (elI (el_sl (ev_var rfl) eo_none (eo_some (ev_op (ev_op (ev_var rfl) ev_c rv_I0) ev_c (rv_I (by walk_at "FloorDiv")))) (sq_of l6)) ?ys) (ev_var rfl) hb) ?half) fun H7 e7 => ?_
      case ys =>
        rw [cut_to _ (by omega), List.map_take, List.map_take]
        unfold figV
        rw [figI_nat, show (((m : Int) + 1) / 2).toNat = (m + 1) / 2 by omega]
      case half =>
        rw [valI_nat, ← hm, Bm.hf_val hc]
      have elo : ((Bm.lo c m : Nat) : Int) = if m = 1 then 0 else (c : Int) ^ (((m : Int) - 1) / 2).toNat := by
        unfold Bm.lo
        by_cases z : m = 1
        · rw [if_pos z, if_pos z]
          rfl
        · rw [if_neg z, if_neg z, Int.natCast_pow]
          congr 1
          omega
      refine q_aug (a := ((Bm.sm c m : Nat) : Int)) (b := ((Bm.hf c k : Nat) : Int) - ((Bm.lo c m : Nat) : Int)) rfl (ev_op (ev_var rfl) (ev_if (v := .int ((Bm.lo c m : Nat) : Int)) (et_test (ev_op (ev_var rfl) ev_c (rv_eq rfl))) (fun z => ?lo1) (fun z => ?lo2)) rv_I0) fun H8 e8 => ?_
      case lo1 =>
        have z2 : m = 1 := by have := V.int.inj (of_decide_eq_true z); omega
        rw [elo, if_pos z2]
        exact ev_c
      case lo2 =>
        have z2 : ¬ m = 1 := fun y => of_decide_eq_false z (by rw [y]; rfl)
        rw [elo, if_neg z2]
        exact (ec2 (ev_var rfl) (ev_op (ev_op (ev_var rfl) ev_c rv_I0) ev_c (rv_I (by walk_at "FloorDiv"))) ⟨hb, by omega, by omega⟩)
      have hle := Bm.lo_le hc hk
      have hhb : ((Bm.hf c k : Nat) : Int) < Big := by
        have : Bm.hf c k ≤ k := Nat.div_le_self _ _
        omega
      refine s_ret (ev_op (ev_var rfl) (ev_intB (ev_op (ec3 (ev_var rfl) (ev_var rfl) (ev_var rfl) ⟨⟨by omega, hhb, hb⟩, by omega⟩) (ev_var rfl) rv_I0)) rv_I0) fun H9 e9 => ?_
      have efin : ((Bm.sm c m : Nat) : Int) + (((Bm.hf c k : Nat) : Int) - ((Bm.lo c m : Nat) : Int)) + (if decide (madeI ((Bm.hf c k : Nat) : Int) (m : Int) (c : Int) < (k : Int)) then 1 else 0) = blI (k : Int) (c : Int) := by
        unfold blI Bm.bl madeI
        rw [Int.toNat_natCast, Int.toNat_natCast, Int.toNat_natCast, Int.toNat_natCast, if_neg (show ¬ k = 0 by omega), hm]
        rw [hm] at hle
        by_cases z : Bm.made c (Bm.hf c k) m < k
        · rw [if_pos z, if_pos (decide_eq_true (by omega))]
          omega
        · rw [if_neg z, if_neg (by rw [decide_eq_true_iff]; omega)]
          omega
      have q2 := q H9 (e3.trans (e4.trans (e5.trans (e6.trans (e7.trans (e8.trans e9))))))
      dsimp only at q2
      rw [← efin] at q2
      exact q2

def jd (n a b : Int) : Option (Int × Int) := if 0 ≤ fwI n a then some (a, fwI n a) else if 0 ≤ fwI n b then some (b, fwI n b) else none
def anC (A U : Addr) : Option (Int × Int) → Addr
  | none => A
  | some _ => U
def anF : Option (Int × Int) → List (Str × V)
  | none => []
  | some (b, p) => uf b p
def shI (w : Option (Int × Int)) (n a b : Int) : Bool := match w with
  | none => ashI n a b
  | some (u, p) => ushI u p n a b
abbrev CJ (n a b : Int) : Prop := CNum n a ∧ CB b
def sp_judged (A U : Addr) : Sp := fun vs H Q _ => ∃ n a b, vs = [.int n, .int a, .int b] ∧ CJ n a b ∧ ∀ p dx H', H p = none → Ex H H' → H' p = some (.ins (anC A U (jd n a b)) dx (anF (jd n a b))) → Q (.ref p) H'
theorem ei_judged {σ : L2.St} {H : Hp} {ta tb tc : TE} {n a b : Int} {A U : Addr} {E : XK} (h1 : Ev ta σ H (.int n)) (h2 : Ev tb σ H (.int a)) (h3 : Ev tc σ H (.int b)) (h : CJ n a b) : EvI (tCall (sp_judged A U) [] E (tCons ta (tCons tb (tCons tc tNil)))) σ H (anC A U (jd n a b)) (anF (jd n a b)) := fun H1 e Q q =>
  h1 H1 e _ fun H2 e2 => h2 H2 (e.trans e2) _ fun H3 e3 => h3 H3 ((e.trans e2).trans e3) _ fun H4 e4 => ⟨n, a, b, rfl, h, fun p dx H' hp e5 h5 => q p dx H' (fresh_back ((e2.trans e3).trans e4) hp) (((e2.trans e3).trans e4).trans e5) h5⟩
/-- what was told is asked -/
theorem ev_shows {σ : L2.St} {H : Hp} {ta t1 t2 t3 : TE} {n a b : Int} {A U x dx : Addr} {E : XK} {w : Option (Int × Int)} (h : Ev ta σ H (.ref x)) (hx : H x = some (.ins (anC A U w) dx (anF w))) (h1 : Ev t1 σ H (.int n)) (h2 : Ev t2 σ H (.int a)) (h3 : Ev t3 σ H (.int b)) (hc : CJ n a b) :
    Ev (tMeth2 A U "shows" sp_Alike_shows (sp_Unlike_shows U) E ta (tCons t1 (tCons t2 (tCons t3 tNil)))) σ H (.bl (shI w n a b)) := by
  cases w with
  | none => exact ev_meth2a h hx rfl (ea_cons h1 (ea_cons h2 (ea_cons h3 ea_nil))) fun H1 e1 => sv_Alike_shows hc
  | some up =>
    obtain ⟨u, p⟩ := up
    exact ev_meth2b h hx uf_shows (ea_cons h1 (ea_cons h2 (ea_cons h3 ea_nil))) fun H1 e1 => sv_Unlike_shows (e1 _ _ hx) hc
theorem ok_judged (T : Tx K mg) : FnOk P w K mg base CX0 3 T.a_judged T.d_judged ["number", "one", "other"] (sp_judged T.a_Alike T.a_Unlike) := by
  refine T.F_judged.ok sc_judged (fun vs H Q E h => ?_) (fun cdv A outer s H vs Q E hr h => ?_)
  · obtain ⟨n, a, b, rfl, _⟩ := h
    rfl
  · obtain ⟨n, a, b, rfl, ⟨c1, c2⟩, q⟩ := h
    refine ⟨_, (pss_cons (ps_expr (pe_call (ok_check_number T) (hr.mono (by decide)) (by rfl) T.g_check_number T.F_check_number.kp T.b_check_number .nil pass0 (pa_cons (pv 0) pa_nil)))
      (pss_cons (ps_expr (pe_call (ok_check_base T) (hr.mono (by decide)) (by rfl) T.g_check_base T.F_check_base.kp T.b_check_base .nil pass0 (pa_cons (pv 1) pa_nil)))
      (pss_cons (ps_expr (pe_call (ok_check_base T) (hr.mono (by decide)) (by rfl) T.g_check_base T.F_check_base.kp T.b_check_base .nil pass0 (pa_cons (pv 2) pa_nil)))
      (pss_cons (ps_for PassesOwn.never rfl (pi_tup (pe_tup (pa_cons (pv 1) (pa_cons (pv 2) pa_nil)))) (pg_name (i := 3) sc_judged.nd rfl (Or.inl rfl))
      (pss_cons (ps_set (i := 4) sc_judged.nd rfl (Or.inl rfl) (pe_call (ok_first_wrong T) (hr.mono (by decide)) (by rfl) T.g_first_wrong T.F_first_wrong.kp T.b_first_wrong .nil pass0 (pa_cons (pv 0) (pa_cons (pv 3) pa_nil))))
      (pss_one (ps_if (pt_cmpR op_ge (pv 4) pe_int (nomark _)) (pss_one (ps_ret (pe_make T.Mk_Unlike (ok_Unlike___init__ T) (hr.mono (by decide)) (by rfl) T.g_Unlike T.b_Unlike___init__ .nil pass0 (pa_cons (pv 3) (pa_cons (pv 4) pa_nil))))) pss_nil))))
      (pss_one (ps_ret (pe_makeO T.mk0_Alike T.i0_Alike T.k_Alike (by rfl) T.g_Alike))))))), ?_⟩
    refine q_drop (ec1 (ev_var rfl) c1.1) fun H1 e1 => ?_
    refine q_drop (ec1 (ev_var rfl) c1.2.2) fun H2 e2 => ?_
    refine q_drop (ec1 (ev_var rfl) c2) fun H3 e3 => ?_
    have ex3 : Ex H H3 := e1.trans (e2.trans e3)
    refine q_forUX (ns := [a, b]) (eu_tup (ea_cons (ev_var rfl) (ea_cons (ev_var rfl) ea_nil)) (by simp)) (fun i σ' H' => (∃ y3 y4, σ' = [some (.int n), some (.int a), some (.int b), y3, y4]) ∧ Ex H H' ∧ ∀ j c, j < i → ([a, b] : List Int)[j]? = some c → fwI n c < 0) (fun H4 e4 => ⟨⟨_, _, rfl⟩, ex3.trans e4, fun j c hj => absurd hj (Nat.not_lt_zero j)⟩) (fun i c H0 σ' H4 e4 e5 hi w => ?_) (fun σ' H4 e4 w => ?_)
    · obtain ⟨⟨y3, y4, rfl⟩, ex4, hj⟩ := w
      have hic : (i = 0 ∧ c = a) ∨ (i = 1 ∧ c = b) := by
        match i, hi with
        | 0, hi => exact Or.inl ⟨rfl, (Option.some.inj hi).symm⟩
        | 1, hi => exact Or.inr ⟨rfl, (Option.some.inj hi).symm⟩
        | k + 2, hi => simp at hi
      have cn : CNum n c := by
        rcases hic with ⟨_, rfl⟩ | ⟨_, rfl⟩
        · exact c1
        · exact ⟨c1.1, c1.2.1, c2⟩
      refine q_asg (ec2 (ev_var rfl) (ev_var rfl) cn) fun H5 e6 => ?_
      refine s_when (et_test (ev_op (ev_var rfl) ev_c rv_I0)) (fun hb H6 e7 => ?_) (fun hb H6 e7 => ?_)
      · have hb2 := of_decide_eq_true hb
        have ej : jd n a b = some (c, fwI n c) := by
          unfold jd
          rcases hic with ⟨_, rfl⟩ | ⟨z, rfl⟩
          · rw [if_pos hb2]
          · have := hj 0 a (by omega) rfl
            rw [if_neg (by omega), if_pos hb2]
        rw [ej] at q
        exact s_retI (ei_unlike (ev_var rfl) (ev_var rfl)) fun p dx H7 hp e8 h8 => q p dx H7 (fresh_back (ex4.trans (e6.trans e7)) hp) ((ex4.trans (e6.trans e7)).trans e8) h8
      · have hb2 := of_decide_eq_false hb
        refine ⟨⟨⟨_, _, rfl⟩, ex4.trans (e6.trans e7), fun j c' hj' hc' => ?_⟩, e5.trans (e6.trans e7)⟩
        rcases Nat.lt_or_ge j i with z | z
        · exact hj j c' z hc'
        · have : j = i := by omega
          subst this
          rw [hi] at hc'
          have := Option.some.inj hc'
          subst this
          omega
    · obtain ⟨⟨y3, y4, rfl⟩, ex4, hj⟩ := w
      have ha := hj 0 a (by show 0 < 2; decide) rfl
      have hb := hj 1 b (by show 1 < 2; decide) rfl
      have ej : jd n a b = none := by
        unfold jd
        rw [if_neg (by omega), if_neg (by omega)]
      rw [ej] at q
      exact s_retI ei_makeO fun p dx H7 hp e8 h8 => q p dx H7 (fresh_back ex4 hp) (ex4.trans e8) h8

def palI (n b : Int) : Bool := Bm.pal b.toNat n.toNat
theorem figI_pal (n b : Int) : decide (figI n b = (figI n b).reverse) = palI n b := by
  unfold palI
  rw [Bm.pal_fig]
  unfold figI
  rw [← List.map_reverse]
  have inj : ∀ (l m : List Nat), (l.map fun d : Nat => (d : Int)) = (m.map fun d : Nat => (d : Int)) ↔ l = m := fun l m => by
    constructor
    · intro h
      exact (List.map_inj_right (fun a b h => Int.ofNat.inj h)).mp h
    · intro h
      rw [h]
  simp only [inj]

theorem palI_nat (n b : Nat) : palI (n : Int) (b : Int) = Bm.pal b n := by
  unfold palI
  rw [Int.toNat_natCast, Int.toNat_natCast]
theorem blI_nat (n b : Nat) : blI (n : Int) (b : Int) = ((Bm.bl b n : Nat) : Int) := by
  unfold blI
  rw [Int.toNat_natCast, Int.toNat_natCast]
theorem nbI_nat (n b : Nat) : nbI (n : Int) (b : Int) = ((Bm.nb b n : Nat) : Int) := by
  unfold nbI
  rw [Int.toNat_natCast, Int.toNat_natCast]
theorem cntI_nat (m b : Nat) : cntI (m : Int) (b : Int) = ((Bm.cnt b m : Nat) : Int) := by
  unfold cntI
  rw [Int.toNat_natCast, Int.toNat_natCast]
theorem figI_length (n b : Nat) : (figI (n : Int) (b : Int)).length = (Bm.ds b n).length := by
  rw [figI_nat, List.length_map]
  unfold Bm.fig
  rw [List.length_reverse]
theorem bl_le {b : Nat} (hb : 2 ≤ b) (n : Nat) : Bm.bl b n ≤ n := by
  rw [← Bm.pals_len hb n]
  unfold Bm.pals
  exact Nat.le_trans (List.length_filter_le _ _) (by rw [List.length_range]; exact Nat.le_refl n)

theorem getD_rev {l : List Int} {j : Nat} (hj : j < l.length) : l.reverse.getD j 0 = l.getD (l.length - 1 - j) 0 := by
  rw [List.getD_eq_getElem?_getD, List.getD_eq_getElem?_getD, List.getElem?_reverse hj]
theorem fw_pal (l : List Int) : fwL l < 0 ↔ l = l.reverse := by
  constructor
  · intro h
    have hb : ∀ j, j < l.length → l.getD j 0 = l.getD (l.length - 1 - j) 0 := by
      intro j hj
      unfold fwL at h
      cases e : (List.range l.length).find? (fun i => decide (l.getD i 0 ≠ l.getD (l.length - 1 - i) 0)) with
      | some i =>
        rw [e] at h
        exact absurd h (by show ¬ (i : Int) < 0; omega)
      | none =>
        rw [List.find?_range_eq_none] at e
        have := e j hj
        simpa using this
    refine List.ext_getElem (by rw [List.length_reverse]) fun i h1 h2 => ?_
    have := hb i h1
    rw [← getD_rev h1] at this
    rw [List.getD_eq_getElem?_getD, List.getElem?_eq_getElem h1, List.getD_eq_getElem?_getD, List.getElem?_eq_getElem h2] at this
    exact this
  · intro h
    have : fwL l = -1 := fw_none fun j hj => by rw [← getD_rev hj, ← h]
    rw [this]
    decide
theorem fwI_pal (n b : Int) : decide (fwI n b < 0) = palI n b := by
  rw [← figI_pal]
  unfold fwI
  exact decide_eq_decide.mpr (fw_pal _)
theorem fw_of_pal {n b : Int} (h : palI n b = true) : fwI n b < 0 := by
  rw [← fwI_pal] at h
  exact of_decide_eq_true h

abbrev CBd (l h : Int) : Prop := 0 ≤ l ∧ l ≤ h ∧ h ≤ l + 120
def sp_check_bounds : Sp := spI2 CBd fun _ _ => .non
theorem ok_check_bounds (T : Tx K mg) : FnOk P w K mg base CX0 2 T.a_check_bounds T.d_check_bounds ["low", "high"] sp_check_bounds := by
  refine T.F_check_bounds.ok sc_check_bounds (fun vs H Q E h => ?_) (fun cdv A outer s H vs Q E hr h => ?_)
  · obtain ⟨a, b, rfl, _⟩ := h
    rfl
  · obtain ⟨l, h, rfl, ⟨h0, h1, h2⟩, q⟩ := h
    refine ⟨_, (pss_one (ps_if (PW.pt (pw_or (pt_not (pt_val (pe_call (ok_is_whole T) (hr.mono (by decide)) (by rfl) T.g_is_whole T.F_is_whole.kp T.b_is_whole .nil pass0 (pa_cons (pv 0) pa_nil)))) (pw_or (pt_not (pt_val (pe_call (ok_is_whole T) (hr.mono (by decide)) (by rfl) T.g_is_whole T.F_is_whole.kp T.b_is_whole .nil pass0 (pa_cons (pv 1) pa_nil)))) (pw_or1 (pt_not (pt_chain3 op_le op_le op_le pe_int (pv 0) (pv 1) (pe_op op_add (pv 0) (pe_glob (v := .int 120) (by rfl) T.c_WIDEST ⟨_, rfl⟩)))))))) (pss_one ps_never) pss_nil)), ?_⟩
    refine s_no (et_or (et_not (et_B (ec1 (ev_var rfl) trivial))) fun _ => (et_or (et_not (et_B (ec1 (ev_var rfl) trivial))) fun _ => (et_not (et_chain3 ev_c (ev_var rfl) (ev_var rfl) (ev_op (ev_var rfl) ev_c rv_I0) rv_I0 (fun _ => rv_I0) fun _ => rv_I0)))) ?_ q
    rw [decide_eq_true h0, decide_eq_true h1, decide_eq_true h2]
    rfl

/-- all from l on, d of them, that read alike in both -/
def bt (l d a b : Nat) : List Nat := ((List.range d).map fun i => l + i).filter fun n => Bm.pal a n && Bm.pal b n
def btI (l h a b : Int) : List Int := (bt l.toNat (h - l).toNat a.toNat b.toNat).map fun d : Nat => (d : Int)
def btV (l h a b : Int) : List V := (btI l h a b).map V.int
theorem filter_one (p : Nat → Bool) (x : Nat) : List.filter p [x] = if p x = true then [x] else [] := by
  by_cases z : p x = true
  · rw [if_pos z, List.filter_cons_of_pos z]
    rfl
  · rw [if_neg z, List.filter_cons_of_neg z]
    rfl
theorem bt_succ (l d a b : Nat) : bt l (d + 1) a b = bt l d a b ++ (if (Bm.pal a (l + d) && Bm.pal b (l + d)) = true then [l + d] else []) := by
  unfold bt
  rw [List.range_succ, List.map_append, List.filter_append]
  congr 1
  exact filter_one _ _
theorem bt_swap (l d a b : Nat) : bt l d a b = bt l d b a := by
  unfold bt
  congr 1
  funext n
  rw [Bool.and_comm]
theorem bt_len (l d a b : Nat) : (bt l d a b).length ≤ d := by
  unfold bt
  refine Nat.le_trans (List.length_filter_le _ _) ?_
  rw [List.length_map, List.length_range]
  exact Nat.le_refl d
theorem pals_from {b : Nat} (hb : 2 ≤ b) (l : Nat) : ∀ d, ((List.range d).map fun i => l + i).filter (Bm.pal b) = (List.range (Bm.bl b (l + d) - Bm.bl b l)).map fun i => Bm.nb b (Bm.bl b l + i)
  | 0 => by
    rw [Nat.add_zero, Nat.sub_self]
    rfl
  | d + 1 => by
    have h1 := Bm.bl_succ hb (l + d)
    have h2 := Bm.bl_mono hb (show l ≤ l + d by omega)
    rw [List.range_succ, List.map_append, List.filter_append, pals_from hb l d, show l + (d + 1) = l + d + 1 by omega, h1]
    by_cases z : Bm.pal b (l + d) = true
    · rw [if_pos z, show Bm.bl b (l + d) + 1 - Bm.bl b l = (Bm.bl b (l + d) - Bm.bl b l) + 1 by omega, List.range_succ, List.map_append]
      congr 1
      show List.filter _ [l + d] = [Bm.nb b (Bm.bl b l + (Bm.bl b (l + d) - Bm.bl b l))]
      rw [List.filter_cons_of_pos z, show Bm.bl b l + (Bm.bl b (l + d) - Bm.bl b l) = Bm.bl b (l + d) by omega, Bm.nb_bl hb z]
      rfl
    · rw [if_neg z, Nat.add_zero]
      show _ ++ List.filter _ [l + d] = _
      rw [List.filter_cons_of_neg z, List.filter_nil, List.append_nil]
theorem bt_nb {a b B : Nat} (hB : 2 ≤ B) (h : B = a ∨ B = b) (l d : Nat) : ((List.range (Bm.bl B (l + d) - Bm.bl B l)).map fun i => Bm.nb B (Bm.bl B l + i)).filter (fun n => Bm.pal a n && Bm.pal b n) = bt l d a b := by
  rw [← pals_from hB, List.filter_filter]
  unfold bt
  congr 1
  funext n
  rcases h with z | z
  · rw [z]
    cases Bm.pal a n <;> cases Bm.pal b n <;> rfl
  · rw [z]
    cases Bm.pal a n <;> cases Bm.pal b n <;> rfl
abbrev CBt (l h a b : Int) : Prop := CBd l h ∧ h < 10 ^ 45 ∧ CB a ∧ CB b
def sp_between : Sp := spL4 CBt btV
set_option maxHeartbeats 1000000 in
theorem ok_between (T : Tx K mg) : FnOk P w K mg base CX0 4 T.a_between T.d_between ["low", "high", "one", "other"] sp_between := by
  refine T.F_between.ok sc_between (fun vs H Q E h => ?_) (fun cdv A outer s H vs Q E hr h => ?_)
  · obtain ⟨a, b, c, d, rfl, _⟩ := h
    rfl
  · obtain ⟨l, h, a, b, rfl, ⟨cd, hh, ca, cb⟩, q⟩ := h
    refine ⟨_, (pss_cons (ps_expr (pe_call (ok_check_bounds T) (hr.mono (by decide)) (by rfl) T.g_check_bounds T.F_check_bounds.kp T.b_check_bounds .nil pass0 (pa_cons (pv 0) (pa_cons (pv 1) pa_nil))))
      (pss_cons (ps_expr (pe_call (ok_check_base T) (hr.mono (by decide)) (by rfl) T.g_check_base T.F_check_base.kp T.b_check_base .nil pass0 (pa_cons (pv 2) pa_nil)))
      (pss_cons (ps_expr (pe_call (ok_check_base T) (hr.mono (by decide)) (by rfl) T.g_check_base T.F_check_base.kp T.b_check_base .nil pass0 (pa_cons (pv 3) pa_nil)))
      (pss_cons (ps_set (i := 4) sc_between.nd rfl (Or.inl rfl) (pe_callB (r := rMax2) (call_max2 rfl) (by rfl) T.m_max (by decide +kernel) (pa_cons (pv 2) (pa_cons (pv 3) pa_nil))))
      (pss_cons (ps_set (i := 5) sc_between.nd rfl (Or.inl rfl) (pe_lst pa_nil))
      (pss_cons (ps_for PassesOwn.never rfl (pi_rangeW (by rfl) T.m_range (pa_cons (pe_call (ok_below_of T) (hr.mono (by decide)) (by rfl) T.g_below_of T.F_below_of.kp T.b_below_of .nil pass0 (pa_cons (pv 0) (pa_cons (pv 4) pa_nil))) (pa_cons (pe_call (ok_below_of T) (hr.mono (by decide)) (by rfl) T.g_below_of T.F_below_of.kp T.b_below_of .nil pass0 (pa_cons (pv 1) (pa_cons (pv 4) pa_nil))) pa_nil))) (pg_name (i := 6) sc_between.nd rfl (Or.inl rfl))
      (pss_cons (ps_set (i := 7) sc_between.nd rfl (Or.inl rfl) (pe_call (ok_number_by T) (hr.mono (by decide)) (by rfl) T.g_number_by T.F_number_by.kp T.b_number_by .nil pass0 (pa_cons (pv 6) (pa_cons (pv 4) pa_nil))))
      (pss_one (ps_if (PW.pt (pw_and (pt_cmpR op_lt (pe_call (ok_first_wrong T) (hr.mono (by decide)) (by rfl) T.g_first_wrong T.F_first_wrong.kp T.b_first_wrong .nil pass0 (pa_cons (pv 7) (pa_cons (pv 2) pa_nil))) pe_int (nomark _)) (pw_and1 (pt_cmpR op_lt (pe_call (ok_first_wrong T) (hr.mono (by decide)) (by rfl) T.g_first_wrong T.F_first_wrong.kp T.b_first_wrong .nil pass0 (pa_cons (pv 7) (pa_cons (pv 3) pa_nil))) pe_int (nomark _))))) (pss_one (ps_expr (pe_bm PySem.F.plainAttrs_list PySem.F.slot_list_append PySem.F.type_list_append mt_append (pv 5) (pa_cons (pv 7) pa_nil)))) pss_nil))))
      (pss_one (ps_ret (pv 5))))))))), ?_⟩
    refine q_drop (ec2 (ev_var rfl) (ev_var rfl) cd) fun H1 e1 => ?_
    refine q_drop (ec1 (ev_var rfl) ca) fun H2 e2 => ?_
    refine q_drop (ec1 (ev_var rfl) cb) fun H3 e3 => ?_
    refine q_asg (ev_max2 (ev_var rfl) (ev_var rfl)) fun H4 e4 => ?_
    obtain ⟨l', rfl⟩ := Int.eq_ofNat_of_zero_le cd.1
    obtain ⟨d', hd'⟩ := Int.eq_ofNat_of_zero_le (show 0 ≤ h - (l' : Int) by omega)
    have eh : h = ((l' + d' : Nat) : Int) := by omega
    subst eh
    obtain ⟨a', rfl⟩ := Int.eq_ofNat_of_zero_le (show 0 ≤ a by omega)
    obtain ⟨b', rfl⟩ := Int.eq_ofNat_of_zero_le (show 0 ≤ b by omega)
    have eB : ∃ B : Nat, (if (b' : Int) > (a' : Int) then (b' : Int) else (a' : Int)) = (B : Int) ∧ (B = a' ∨ B = b') := by
      split
      · exact ⟨b', rfl, Or.inr rfl⟩
      · exact ⟨a', rfl, Or.inl rfl⟩
    obtain ⟨B, eB, hB⟩ := eB
    rw [eB]
    have hB2 : 2 ≤ B := by omega
    have cB : CB (B : Int) := ⟨by omega, by omega⟩
    refine q_asgL (el_lst ea_nil (by simp)) fun p H5 hp e5 l5 => ?_
    have cn1 : CNum (l' : Int) (B : Int) := ⟨by omega, big_40 (by omega), cB⟩
    have cn2 : CNum ((l' + d' : Nat) : Int) (B : Int) := ⟨by omega, big_40 (by omega), cB⟩
    have hle := bl_le hB2 (l' + d')
    have hmo := Bm.bl_mono hB2 (show l' ≤ l' + d' by omega)
    have hx : Ex H H4 := e1.trans (e2.trans (e3.trans e4))
    have hpf := fresh_back hx hp
    refine q_forW (lo := ((Bm.bl B l' : Nat) : Int)) (hi := ((Bm.bl B (l' + d') : Nat) : Int)) (ea_cons (ev_is (ec2 (ev_var rfl) (ev_var rfl) cn1) (congrArg V.int (blI_nat l' B))) (ea_cons (ev_is (ec2 (ev_var rfl) (ev_var rfl) cn2) (congrArg V.int (blI_nat (l' + d') B))) ea_nil)) (fun i σ' H' => (∃ y6 y7, σ' = [some (.int (l' : Int)), some (.int ((l' + d' : Nat) : Int)), some (.int (a' : Int)), some (.int (b' : Int)), some (.int (B : Int)), some (.ref p), y6, y7]) ∧ Ex H H' ∧ H' p = some (.lst (((((List.range i).map fun j => Bm.nb B (Bm.bl B l' + j)).filter fun n => Bm.pal a' n && Bm.pal b' n).map fun d : Nat => (d : Int)).map V.int))) (fun H6 e6 => ⟨⟨_, _, rfl⟩, hx.trans (e5.trans e6), e6 _ _ l5⟩) (fun i σ' H' hi w => ?_) (fun σ' H' w => ?_)
    · obtain ⟨⟨y6, y7, rfl⟩, ex, lp⟩ := w
      have eat : ((Bm.bl B l' : Nat) : Int) + (i : Int) = ((Bm.bl B l' + i : Nat) : Int) := by omega
      have cat : CAt ((Bm.bl B l' + i : Nat) : Int) (B : Int) := ⟨by omega, mid_of (by omega), cB⟩
      have cnb := nb_cn cat
      rw [nbI_nat] at cnb
      have hil : i < 200 := by
        have := pals_from hB2 l' d'
        have := congrArg List.length this
        rw [List.length_map, List.length_range] at this
        have h3 : (((List.range d').map fun i => l' + i).filter (Bm.pal B)).length ≤ d' := by
          refine Nat.le_trans (List.length_filter_le _ _) ?_
          rw [List.length_map, List.length_range]
          exact Nat.le_refl d'
        omega
      rw [eat]
      refine q_asg (ev_is (ec2 (ev_var rfl) (ev_var rfl) cat) (congrArg V.int (nbI_nat _ _))) fun H6 e6 => ?_
      have hst : ((List.range (i + 1)).map fun j => Bm.nb B (Bm.bl B l' + j)).filter (fun n => Bm.pal a' n && Bm.pal b' n) = ((List.range i).map fun j => Bm.nb B (Bm.bl B l' + j)).filter (fun n => Bm.pal a' n && Bm.pal b' n) ++ (if (Bm.pal a' (Bm.nb B (Bm.bl B l' + i)) && Bm.pal b' (Bm.nb B (Bm.bl B l' + i))) = true then [Bm.nb B (Bm.bl B l' + i)] else []) := by
        rw [List.range_succ, List.map_append, List.filter_append]
        congr 1
        exact filter_one _ _
      have hlen : (((List.range i).map fun j => Bm.nb B (Bm.bl B l' + j)).filter (fun n => Bm.pal a' n && Bm.pal b' n)).length ≤ i := by
        refine Nat.le_trans (List.length_filter_le _ _) ?_
        rw [List.length_map, List.length_range]
        exact Nat.le_refl i
      rw [hst]
      generalize Bm.nb B (Bm.bl B l' + i) = n at *
      have cna : CNum (n : Int) (a' : Int) := ⟨cnb.1, cnb.2.1, ca⟩
      have cnc : CNum (n : Int) (b' : Int) := ⟨cnb.1, cnb.2.1, cb⟩
      refine s_when (b := Bm.pal a' n && Bm.pal b' n) (et_is (et_and (et_test (ev_op (ec2 (ev_var rfl) (ev_var rfl) (by first | exact cna | exact cnc)) ev_c rv_I0)) fun _ => (et_test (ev_op (ec2 (ev_var rfl) (ev_var rfl) (by first | exact cna | exact cnc)) ev_c rv_I0))) ?_) (fun hb H7 e7 => ?_) (fun hb H7 e7 => ?_)
      · rw [fwI_pal, fwI_pal, palI_nat, palI_nat]
      · rw [if_pos hb, List.map_append, List.map_append]
        refine s_app (e7 _ _ (e6 _ _ lp)) (ev_var rfl) (ev_var rfl) ?_ fun H8 e8 => ⟨⟨_, _, rfl⟩, Ex.mut (ex.trans (e6.trans (e7.trans e8))) hpf, upd_same⟩
        rw [List.length_map, List.length_map]
        omega
      · rw [if_neg (by rw [hb]; decide), List.append_nil]
        exact ⟨⟨_, _, rfl⟩, ex.trans (e6.trans e7), e7 _ _ (e6 _ _ lp)⟩
    · obtain ⟨⟨y6, y7, rfl⟩, ex, lp⟩ := w
      refine s_ret (ev_var rfl) fun H6 e6 => q p H6 hpf (ex.trans e6) ?_
      rw [e6 _ _ lp]
      unfold btV btI
      rw [show (((Bm.bl B (l' + d') : Nat) : Int) - ((Bm.bl B l' : Nat) : Int)).toNat = Bm.bl B (l' + d') - Bm.bl B l' by omega, bt_nb hB2 hB l' d', Int.toNat_natCast, Int.toNat_natCast, Int.toNat_natCast, show (((l' + d' : Nat) : Int) - (l' : Int)).toNat = d' by omega]

def crI (m a b : Int) : List Int := (Bm.due m.toNat a.toNat b.toNat).map fun d : Nat => (d : Int)
def crV (m a b : Int) : List V := (crI m a b).map V.int
abbrev CC (b : Int) : Prop := 2 ≤ b ∧ b ≤ 12
abbrev CCr (m a b : Int) : Prop := (1 ≤ m ∧ m ≤ 3) ∧ CC a ∧ CC b
def ci (r : List Nat) : List Int := r.map fun d : Nat => (d : Int)
def sp_crossed : Sp := spL3 CCr crV
set_option maxHeartbeats 4000000 in
theorem ok_crossed (T : Tx K mg) : FnOk P w K mg base CX0 2 T.a_crossed T.d_crossed ["many", "one", "other"] sp_crossed := by
  refine T.F_crossed.ok sc_crossed (fun vs H Q E h => ?_) (fun cdv A outer s H vs Q E hr h => ?_)
  · obtain ⟨a, b, c, rfl, _⟩ := h
    rfl
  · obtain ⟨m, a, b, rfl, ⟨cm, ca, cb⟩, q⟩ := h
    refine ⟨_, (pss_cons (ps_if (PW.pt (pw_or (pt_not (pt_val (pe_call (ok_is_whole T) (hr.mono (by decide)) (by rfl) T.g_is_whole T.F_is_whole.kp T.b_is_whole .nil pass0 (pa_cons (pv 0) pa_nil)))) (pw_or1 (pt_not (pt_chain op_le op_le pe_int (pv 0) (pe_glob (v := .int 3) (by rfl) T.c_MOST_TURNED ⟨_, rfl⟩)))))) (pss_one ps_never) pss_nil)
      (pss_cons (ps_for PassesOwn.never rfl (pi_tup (pe_tup (pa_cons (pv 1) (pa_cons (pv 2) pa_nil)))) (pg_name (i := 3) sc_crossed.nd rfl (Or.inl rfl))
      (pss_one (ps_if (PW.pt (pw_or (pt_not (pt_val (pe_call (ok_is_whole T) (hr.mono (by decide)) (by rfl) T.g_is_whole T.F_is_whole.kp T.b_is_whole .nil pass0 (pa_cons (pv 3) pa_nil)))) (pw_or1 (pt_not (pt_chain op_le op_le pe_int (pv 3) (pe_glob (v := .int 12) (by rfl) T.c_CROSSED_BASE ⟨_, rfl⟩)))))) (pss_one ps_never) pss_nil)))
      (pss_cons (ps_par (i := 4) (j := 5) (by rfl) sc_crossed.nd rfl rfl (by decide) rfl rfl (pa_cons (pe_lst (pa_cons (pe_lst pa_nil) pa_nil)) (pa_cons (pe_callB (r := rMin2) (call_min2 rfl) (by rfl) T.m_min (by decide +kernel) (pa_cons (pv 1) (pa_cons (pv 2) pa_nil))) pa_nil)) (by rfl))
      (pss_cons (ps_for PassesOwn.never rfl (pi_range1 (by rfl) T.m_range (pa_cons (pv 0) pa_nil)) (pg_name (i := 6) sc_crossed.nd rfl (Or.inl rfl))
      (pss_cons (ps_set (i := 7) sc_crossed.nd rfl (Or.inl rfl) (pe_lst pa_nil))
      (pss_cons (ps_for PassesOwn.never rfl (pi_list (pv 4)) (pg_name (i := 8) sc_crossed.nd rfl (Or.inr rfl))
      (pss_one (ps_expr (pe_bm PySem.F.plainAttrs_list PySem.F.slot_list_extend PySem.F.type_list_extend mt_extend (pv 7) (pa_cons (pe_lc (own := [("figure", 10)]) (g := gName 10) (tt := tYes) (by rfl) sc_crossed.nd (pi_range1 (by rfl) T.m_range (pa_cons (pv 5) pa_nil)) (blkOk_by (own := [("figure", 10)]) (N := N_crossed) (sc := defScope s_crossed) (by decide +kernel)) (fun _ _ _ _ _ => pg_name (i := 10) sc_crossed.nd rfl (Or.inl rfl)) (fun _ _ _ _ _ => pts_nil) (fun _ _ _ _ _ => (pe_op op_cat (pv 8) (pe_lst (pa_cons (pv 10) pa_nil))))) pa_nil)))))
      (pss_one (ps_set (i := 4) sc_crossed.nd rfl (Or.inl rfl) (pv 7))))))
      (pss_cons (ps_set (i := 9) sc_crossed.nd rfl (Or.inl rfl) (pe_lst pa_nil))
      (pss_cons (ps_for PassesOwn.never rfl (pi_list (pv 4)) (pg_name (i := 8) sc_crossed.nd rfl (Or.inr rfl))
      (pss_one (ps_if (PW.pt (pw_and (PW.pt (pw_or (pt_cmpR op_eq (pv 0) pe_int (nomark _)) (pw_or1 (pt_cmpR op_gt (pe_op op_mulX (pe_ix ix_list (pv 8) pe_int (fun _ _ => rfl)) (pe_ix ix_list (pv 8) (pe_un un_neg pe_int) (fun _ _ => rfl))) pe_int (nomark _))))) (pw_and1 (pt_cmpR op_eq (pe_call (ok_number_from T) (hr.mono (by decide)) (by rfl) T.g_number_from T.F_number_from.kp T.b_number_from .nil pass0 (pa_cons (pv 8) (pa_cons (pv 1) pa_nil))) (pe_call (ok_number_from T) (hr.mono (by decide)) (by rfl) T.g_number_from T.F_number_from.kp T.b_number_from .nil pass0 (pa_cons (pe_revL (pv 8)) (pa_cons (pv 2) pa_nil))) (nomark _))))) (pss_one (ps_expr (pe_bm PySem.F.plainAttrs_list PySem.F.slot_list_append PySem.F.type_list_append mt_append (pv 9) (pa_cons (pe_call (ok_number_from T) (hr.mono (by decide)) (by rfl) T.g_number_from T.F_number_from.kp T.b_number_from .nil pass0 (pa_cons (pv 8) (pa_cons (pv 1) pa_nil))) pa_nil)))) pss_nil)))
      (pss_one (ps_ret (pe_callB cr_sortedI (by rfl) T.m_sorted (by decide +kernel) (pa_cons (pv 9) pa_nil)))))))))), ?_⟩
    refine q_no (et_or (et_not (et_B (ec1 (ev_var rfl) trivial))) fun _ => (et_not (et_test (ev_chain ev_c (ev_var rfl) ev_c rv_I0 fun _ => rv_I0)))) ?_ fun H1 e1 => ?_
    · rw [decide_eq_true cm.1, decide_eq_true cm.2]
      rfl
    refine q_forUI (ns := [a, b]) (eu_tup (ea_cons (ev_var rfl) (ea_cons (ev_var rfl) ea_nil)) (by simp)) (fun i σ' H' => (∃ y3, σ' = [some (.int m), some (.int a), some (.int b), y3, none, none, none, none, none, none, none]) ∧ Ex H H') (fun H2 e2 => ⟨⟨_, rfl⟩, e1.trans e2⟩) (fun i n H0 σ' H2 e2 e3 hn w => ?_) (fun σ' H2 e2 w => ?_)
    · obtain ⟨⟨y3, rfl⟩, ex⟩ := w
      have cn : CC n := by
        simp only [List.mem_cons, List.not_mem_nil, or_false] at hn
        rcases hn with rfl | rfl
        · exact ca
        · exact cb
      refine s_no (et_or (et_not (et_B (ec1 (ev_var rfl) trivial))) fun _ => (et_not (et_test (ev_chain ev_c (ev_var rfl) ev_c rv_I0 fun _ => rv_I0)))) ?_ fun H4 e4 => ⟨⟨⟨_, rfl⟩, ex.trans e4⟩, e3.trans e4⟩
      rw [decide_eq_true cn.1, decide_eq_true cn.2]
      rfl
    · obtain ⟨⟨y3, rfl⟩, ex2⟩ := w
      obtain ⟨m', rfl⟩ := Int.eq_ofNat_of_zero_le (show 0 ≤ m by omega)
      obtain ⟨a', rfl⟩ := Int.eq_ofNat_of_zero_le (show 0 ≤ a by omega)
      obtain ⟨b', rfl⟩ := Int.eq_ofNat_of_zero_le (show 0 ≤ b by omega)
      have hL : (if (b' : Int) < (a' : Int) then (b' : Int) else (a' : Int)) = ((Bm.mn a' b' : Nat) : Int) := by
        unfold Bm.mn
        by_cases z : b' < a'
        · rw [if_pos z, if_pos (by omega)]
        · rw [if_neg z, if_neg (by omega)]
      have hfn : (crI (m' : Int) (a' : Int) (b' : Int)) = (((Bm.rws (Bm.mn a' b') m').filter (Bm.cnd m' a' b')).map (Bm.val a')).map fun d : Nat => (d : Int) := by
        unfold crI
        rw [Int.toNat_natCast, Int.toNat_natCast, Int.toNat_natCast, ← Bm.cross_ok (by omega) (by omega) (by omega)]
        rfl
      have hL12 : Bm.mn a' b' ≤ 12 := by
        unfold Bm.mn
        split <;> omega
      generalize Bm.mn a' b' = L at *
      refine q_parR (w := .int (L : Int)) (ev_is (ev_min2 (ev_var rfl) (ev_var rfl)) (congrArg V.int hL)) fun p0 a0 H3 e3 l3 l3a => ?_
      have hpw : ∀ i, i ≤ 3 → L ^ i ≤ 1728 := fun i hi => Nat.le_trans (Nat.pow_le_pow_left hL12 i) (Nat.le_trans (Nat.pow_le_pow_right (by decide) hi) (by decide))
      refine q_forR1 (n := (m' : Int)) (ea_cons (ev_var rfl) ea_nil) (by omega) (fun i σ' H' => (∃ pr us y6 y7 y8, σ' = [some (.int (m' : Int)), some (.int (a' : Int)), some (.int (b' : Int)), y3, some (.ref pr), some (.int (L : Int)), y6, y7, y8, none, none] ∧ H' pr = some (.lst us) ∧ RowsP (fun _ => True) H' us ((Bm.rws L i).map ci)) ∧ Ex H H') (fun H4 e4 => ⟨⟨p0, _, _, _, _, rfl, e4 _ _ l3, .cons trivial (e4 _ _ l3a) .nil⟩, ex2.trans (e3.trans e4)⟩) (fun i σ' H4 hi w => ?_) (fun σ' H4 w => ?_)
      · obtain ⟨⟨pr, us, y6, y7, y8, rfl, lr, hrw⟩, ex4⟩ := w
        have hi3 : i < 3 := by omega
        have hrl := Bm.rws_len L i
        have hp1 := hpw i (by omega)
        have hp2 := hpw (i + 1) (by omega)
        refine q_asgL (el_lst ea_nil (by simp)) fun pl H5 hpl e5 l5 => ?_
        refine q_forLn (a := pr) (xs := us) (ev_var rfl) (sq_of (e5 _ _ lr)) (fun j σ' H' => (∃ y8, σ' = [some (.int (m' : Int)), some (.int (a' : Int)), some (.int (b' : Int)), y3, some (.ref pr), some (.int (L : Int)), some (.int (i : Int)), some (.ref pl), y8, none, none]) ∧ Ex H4 H' ∧ ∃ us2, H' pl = some (.lst us2) ∧ RowsP (fun a => a ≠ pl) H' us2 ((((Bm.rws L i).take j).flatMap fun r => (List.range L).map fun d => r ++ [d]).map ci)) (fun H6 e6 => ⟨⟨_, rfl⟩, e5.trans e6, [], e6 _ _ l5, .nil⟩) (fun j σ' H6 _ w => sq_of (w.2.1 _ _ lr)) (fun j x σ' H6 hx w => ?_) (fun σ' H6 w => ?_)
        · obtain ⟨⟨y8, rfl⟩, ex6, us2, l6, hr6⟩ := w
          obtain ⟨ar, r, rfl, hg, _, har⟩ := hrw.get hx
          rw [List.getElem?_map] at hg
          obtain ⟨rn, hrn, rfl⟩ := Option.map_eq_some_iff.mp hg
          have har6 := ex6 _ _ har
          have hmem := Bm.rws_mem (List.mem_of_getElem? hrn)
          have hst : ((Bm.rws L i).take (j + 1)).flatMap (fun r => (List.range L).map fun d => r ++ [d]) = ((Bm.rws L i).take j).flatMap (fun r => (List.range L).map fun d => r ++ [d]) ++ (List.range L).map fun d => rn ++ [d] := by
            rw [List.take_add_one, hrn, List.flatMap_append]
            congr 1
            show List.flatMap _ [rn] = _
            rw [List.flatMap_cons, List.flatMap_nil, List.append_nil]
          have hl1 : (((Bm.rws L i).take j).flatMap (fun r => (List.range L).map fun d => r ++ [d])).length ≤ 1728 * 12 := by
            rw [Bm.flat_len _ (L := L) (fun r => by rw [List.length_map, List.length_range]), List.length_take]
            exact Nat.mul_le_mul (by omega) hL12
          rw [hst, List.map_append]
          refine s_extR (rs2 := (List.range L).map fun d : Nat => ci rn ++ [(d : Int)]) l6 hr6 (ev_var rfl) (er_lcR1 (n := L) (fun d : Nat => ci rn ++ [(d : Int)]) (ea_cons (ev_var rfl) ea_nil) (by omega) (fun _ => rfl) (fun d H7 e7 hd => ?el)) ?sz (fun us3 H7 e7 hr7 => ⟨⟨_, rfl⟩, Ex.mut (ex6.trans e7) hpl, us3, upd_same, ?_⟩)
          case el =>
            have := el_catN (tb := tLst (tCons (tVar 10) tNil)) (zs := [V.int (d : Int)]) (ta := tVar 8) (σ := (wipe [some (.int (m' : Int)), some (.int (a' : Int)), some (.int (b' : Int)), y3, some (.ref pr), some (.int (L : Int)), some (.int (i : Int)), some (.ref pl), some (.ref ar), none, none] [10]).set 10 (some (.int (d : Int)))) (ev_var rfl) (e7 _ _ har6) (el_lst (ea_cons (ev_var rfl) ea_nil) (by simp)) (by unfold ci; rw [List.length_map, List.length_map, hmem.1, List.length_singleton]; omega)
            rw [List.map_append]
            exact this
          case sz =>
            rw [List.length_map, List.length_map, List.length_range]
            omega
          · have e : ((List.range L).map fun d => rn ++ [d]).map ci = (List.range L).map fun d : Nat => ci rn ++ [(d : Int)] := by
              rw [List.map_map]
              refine List.map_congr_left fun d _ => ?_
              show ci (rn ++ [d]) = _
              unfold ci
              rw [List.map_append]
              rfl
            rw [e]
            exact hr7
        · obtain ⟨⟨y8, rfl⟩, ex6, us2, l6, hr6⟩ := w
          have hlen := hrw.len
          rw [List.length_map] at hlen
          rw [hlen, List.take_length] at hr6
          exact s_asg (ev_var rfl) fun H7 e7 => ⟨⟨pl, us2, _, _, _, rfl, e7 _ _ l6, hr6.mono (fun _ _ => trivial) fun _ _ _ h => e7 _ _ h⟩, ex4.trans (ex6.trans e7)⟩
      · obtain ⟨⟨pr, us, y6, y7, y8, rfl, lr, hrw⟩, ex4⟩ := w
        rw [Int.toNat_natCast] at hrw
        have hp1 := hpw m' (by omega)
        have hrl := Bm.rws_len L m'
        refine q_asgL (el_lst ea_nil (by simp)) fun pf H5 hpf e5 l5 => ?_
        refine q_forLn (a := pr) (xs := us) (ev_var rfl) (sq_of (e5 _ _ lr)) (fun j σ' H' => (∃ y8, σ' = [some (.int (m' : Int)), some (.int (a' : Int)), some (.int (b' : Int)), y3, some (.ref pr), some (.int (L : Int)), y6, y7, y8, some (.ref pf), none]) ∧ Ex H4 H' ∧ H' pf = some (.lst ((((((Bm.rws L m').take j).filter (Bm.cnd m' a' b')).map (Bm.val a')).map fun d : Nat => (d : Int)).map V.int))) (fun H6 e6 => ⟨⟨_, rfl⟩, e5.trans e6, e6 _ _ l5⟩) (fun j σ' H6 _ w => sq_of (w.2.1 _ _ lr)) (fun j x σ' H6 hx w => ?_) (fun σ' H6 w => ?_)
        · obtain ⟨⟨y8, rfl⟩, ex6, l6⟩ := w
          obtain ⟨ar, r, rfl, hg, _, har⟩ := hrw.get hx
          rw [List.getElem?_map] at hg
          obtain ⟨rn, hrn, rfl⟩ := Option.map_eq_some_iff.mp hg
          have har6 := ex6 _ _ har
          have hmem := Bm.rws_mem (List.mem_of_getElem? hrn)
          have hst : (((Bm.rws L m').take (j + 1)).filter (Bm.cnd m' a' b')).map (Bm.val a') = (((Bm.rws L m').take j).filter (Bm.cnd m' a' b')).map (Bm.val a') ++ (if Bm.cnd m' a' b' rn = true then [Bm.val a' rn] else []) := by
            rw [List.take_add_one, hrn, List.filter_append, List.map_append]
            congr 1
            show List.map _ (List.filter _ [rn]) = _
            by_cases z : Bm.cnd m' a' b' rn = true
            · rw [if_pos z, List.filter_cons_of_pos z]
              rfl
            · rw [if_neg z, List.filter_cons_of_neg z]
              rfl
          have hl1 : ((((Bm.rws L m').take j).filter (Bm.cnd m' a' b')).map (Bm.val a')).length ≤ 1728 := by
            rw [List.length_map]
            refine Nat.le_trans (List.length_filter_le _ _) ?_
            rw [List.length_take]
            omega
          rw [hst]
          have cla : (ci rn).length = m' := by
            unfold ci
            rw [List.length_map]
            exact hmem.1
          have gd : ∀ i, (ci rn).getD i 0 = ((rn.getD i 0 : Nat) : Int) := fun i => by
            unfold ci
            rw [List.getD_eq_getElem?_getD, List.getD_eq_getElem?_getD, List.getElem?_map]
            cases rn[i]? <;> rfl
          have gb : ∀ i, 0 ≤ (ci rn).getD i 0 ∧ (ci rn).getD i 0 < 13 := fun i => by
            rw [gd, List.getD_eq_getElem?_getD]
            cases e : rn[i]? with
            | none => exact ⟨by decide, by decide⟩
            | some d =>
              have := hmem.2 d (List.mem_of_getElem? e)
              show (0 : Int) ≤ (d : Int) ∧ (d : Int) < 13
              omega
          have g0 := gb (Int.toNat 0)
          have cB1 : (2 : Int) ≤ (a' : Int) ∧ (a' : Int) ≤ 1000 := ⟨ca.1, by omega⟩
          have cB2 : (2 : Int) ≤ (b' : Int) ∧ (b' : Int) ≤ 1000 := ⟨cb.1, by omega⟩
          have rsq : SqL K H6 ar ((ci rn).map V.int) := sq_of har6
          have evv : valI (ci rn) (a' : Int) = ((Bm.val a' rn : Nat) : Int) := valI_nat a' rn
          have evw : valI (ci rn).reverse (b' : Int) = ((Bm.val b' rn.reverse : Nat) : Int) := by
            unfold ci
            rw [← List.map_reverse, valI_nat]
          refine s_when (b := Bm.cnd m' a' b' rn) (et_is (et_and (et_or (et_test (ev_op (ev_var rfl) ev_c (rv_eq rfl))) fun _ => (et_test (ev_op (ev_op (ev_ixV (ev_var rfl) rsq ev_c (by first | exact atI_ints (by decide) (by omega) | exact atI_neg1 (by omega))) (ev_ixV (ev_var rfl) rsq (ev_un ev_c ru_neg) (by first | exact atI_ints (by decide) (by omega) | exact atI_neg1 (by omega))) (rv_I (mulL (by omega) (by omega)))) ev_c rv_I0))) fun _ => (et_test (ev_op (ecR (ev_var rfl) rsq (ev_var rfl) cB1) (ecRN (elI (ys := (ci rn).reverse) (el_rev (ev_var rfl) rsq) (List.map_reverse).symm) (ev_var rfl) cB2) (rv_eq rfl)))) ?_) (fun hb H7 e7 => ?_) (fun hb H7 e7 => ?_)
          · unfold Bm.cnd
            rw [evv, evw, show Int.toNat 0 = 0 from rfl, gd, gd, cla, hmem.1]
            congr 1
            · congr 1
              · exact decide_eq_decide.mpr ⟨fun z => by have := V.int.inj z; omega, fun z => by rw [z]; rfl⟩
              · rw [← Int.natCast_mul]
                exact decide_eq_decide.mpr (by omega)
            · exact decide_eq_decide.mpr ⟨fun z => by have := V.int.inj z; omega, fun z => by rw [z]⟩
          · rw [if_pos hb, List.map_append, List.map_append]
            refine s_app (e7 _ _ l6) (ev_var rfl) (ev_is (ecR (ev_var rfl) (ex_l e7 rsq) (ev_var rfl) cB1) (congrArg V.int evv)) ?_ fun H8 e8 => ⟨⟨_, rfl⟩, Ex.mut (ex6.trans (e7.trans e8)) hpf, upd_same⟩
            rw [List.length_map, List.length_map]
            omega
          · rw [if_neg (by rw [hb]; decide), List.append_nil]
            exact ⟨⟨_, rfl⟩, ex6.trans e7, e7 _ _ l6⟩
        · obtain ⟨⟨y8, rfl⟩, ex6, l6⟩ := w
          have hlen := hrw.len
          rw [List.length_map] at hlen
          rw [hlen, List.take_length, ← hfn] at l6
          refine s_retS (ns := crI (m' : Int) (a' : Int) (b' : Int)) (ev_var rfl) (sq_of l6) ?_ fun p H7 hp e7 l7 => q p H7 (fresh_back (ex4.trans ex6) hp) ((ex4.trans ex6).trans e7) l7
          unfold crI
          exact List.pairwise_map.mpr ((Bm.due_sorted _ _ _).imp fun {x y} h => by omega)

theorem pow_cn {b m : Nat} (hb : 2 ≤ b) (hb2 : b ≤ 1000) (hm : m ≤ 200) (d : Nat) (hd : d ≤ 1) : CNum ((b ^ m + d : Nat) : Int) (b : Int) := by
  refine ⟨by omega, nat_big ?_, by omega, by omega⟩
  have h1 : b ^ m ≤ 2 ^ (10 * m) := Bm.pow_le_two hb2
  have h2 : (2 : Nat) ^ (10 * m) ≤ 2 ^ 2000 := pow_two_le (by omega)
  have h3 : (2 : Nat) ^ 2000 + 2 ^ 2000 ≤ 2 ^ 20000 := by
    rw [← Nat.mul_two, ← Nat.pow_succ]
    exact pow_two_le (by decide)
  have h4 : 1 ≤ (2 : Nat) ^ 2000 := Nat.pow_pos (by decide)
  omega
theorem tens {m d : Nat} (hm : m ≤ 300) (hd : d ≤ 1) : CNum ((10 ^ m + d : Nat) : Int) 10 := by
  refine ⟨Int.natCast_nonneg _, nat_big ?_, by decide, by decide⟩
  have h1 : 10 ^ m ≤ 2 ^ (10 * m) := Bm.pow_le_two (by decide)
  have h2 : (2 : Nat) ^ (10 * m) ≤ 2 ^ 3000 := pow_two_le (by omega)
  have h3 : (2 : Nat) ^ 3000 + 2 ^ 3000 ≤ 2 ^ 20000 := by
    rw [← Nat.mul_two, ← Nat.pow_succ]
    exact pow_two_le (by decide)
  have h4 : 1 ≤ (2 : Nat) ^ 3000 := Nat.pow_pos (by decide)
  omega
theorem pow_int (b : Int) (m : Nat) (h : b = 10) : b ^ m = ((10 ^ m : Nat) : Int) := by
  rw [h, Int.natCast_pow]
  rfl
theorem pow_nabs (m : Nat) (hm : m ≤ 1000) : ((10 : Int) ^ m).natAbs < 2 ^ 1048577 := by
  rw [pow_int 10 m rfl, Int.natAbs_natCast]
  have h1 : 10 ^ m ≤ 2 ^ (10 * m) := Bm.pow_le_two (by decide)
  exact Nat.lt_of_le_of_lt h1 (Nat.pow_lt_pow_right (by decide) (by omega))
theorem pow_nabs2 (m : Nat) (hm : m ≤ 1000) : (2 * (10 : Int) ^ m).natAbs < 2 ^ 1048577 := by
  rw [pow_int 10 m rfl, Int.natAbs_mul, Int.natAbs_natCast]
  have h1 : 10 ^ m ≤ 2 ^ (10 * m) := Bm.pow_le_two (by decide)
  have h2 : 2 * 2 ^ (10 * m) = 2 ^ (10 * m + 1) := by rw [Nat.pow_succ, Nat.mul_comm]
  have h3 : (2 : Nat) ^ (10 * m + 1) < 2 ^ 1048577 := Nat.pow_lt_pow_right (by decide) (by omega)
  show 2 * 10 ^ m < _
  omega
theorem gn_cn {b n d : Nat} (hb : 2 ≤ b) (hb3 : b ≤ 1000) (h : n < 2 ^ 15000) (hd : d ≤ 1) : CNum ((n : Int) + (d : Int)) (b : Int) := by
  refine ⟨by omega, ?_, by omega, by omega⟩
  rw [← Int.natCast_add]
  refine nat_big ?_
  have h4 : (2 : Nat) ^ 15000 + 2 ^ 15000 ≤ 2 ^ 20000 := by
    rw [← Nat.mul_two, ← Nat.pow_succ]
    exact pow_two_le (by decide)
  have h5 : 0 < (2 : Nat) ^ 15000 := Nat.pow_pos (by decide)
  omega
theorem gn_cn0 {b n : Nat} (hb : 2 ≤ b) (hb3 : b ≤ 1000) (h : n < 2 ^ 15000) : CNum (n : Int) (b : Int) := gn_cn (d := 0) hb hb3 h (by decide)
theorem gn_cn1 {b n : Nat} (hb : 2 ≤ b) (hb3 : b ≤ 1000) (h : n < 2 ^ 15000) : CNum ((n : Int) + 1) (b : Int) := gn_cn (d := 1) hb hb3 h (by decide)

/-! ### turned about -/
theorem map_cast_inj {l m : List Nat} (h : (l.map fun d : Nat => (d : Int)) = m.map fun d : Nat => (d : Int)) : l = m := (List.map_inj_right (fun a b h => Int.ofNat.inj h)).mp h
theorem vl_inj {b : Nat} : ∀ {l m : List Nat}, (∀ d ∈ l, d < b) → (∀ d ∈ m, d < b) → l.length = m.length → Bm.vl b l = Bm.vl b m → l = m
  | [], [], _, _, _, _ => rfl
  | [], _ :: _, _, _, h, _ => by cases h
  | _ :: _, [], _, _, h, _ => by cases h
  | x :: l, y :: m, h1, h2, hl, hv => by
    have a1 : x < b := h1 x List.mem_cons_self
    have a2 : y < b := h2 y List.mem_cons_self
    have hv' : x + b * Bm.vl b l = y + b * Bm.vl b m := hv
    have e1 : (x + b * Bm.vl b l) % b = (y + b * Bm.vl b m) % b := by rw [hv']
    rw [Nat.add_mul_mod_self_left, Nat.add_mul_mod_self_left, Nat.mod_eq_of_lt a1, Nat.mod_eq_of_lt a2] at e1
    subst e1
    have e2 : Bm.vl b l = Bm.vl b m := Nat.eq_of_mul_eq_mul_left (by omega) (Nat.add_left_cancel hv')
    rw [vl_inj (fun d hd => h1 d (List.mem_cons_of_mem _ hd)) (fun d hd => h2 d (List.mem_cons_of_mem _ hd)) (by simpa using hl) e2]
theorem turnI_eq (n b : Nat) : turnI (n : Int) (b : Int) = ((Bm.val b (Bm.ds b n) : Nat) : Int) := by
  unfold turnI
  rw [figI_nat, ← List.map_reverse, valI_nat]
  unfold Bm.fig
  rw [List.reverse_reverse]
theorem val_lt' {b : Nat} {l : List Nat} (h : ∀ d ∈ l, d < b) : Bm.val b l < b ^ l.length := by
  rw [Bm.val_eq]
  have := Bm.vl_lt (b := b) (l := l.reverse) fun d hd => h d (List.mem_reverse.mp hd)
  rw [List.length_reverse] at this
  exact this
theorem turn_bd {n b : Int} (h0 : 0 ≤ n) (h1 : n < 10 ^ 40) (h2 : 2 ≤ b) (h3 : b ≤ 1000) : CNum (turnI n b) b := by
  obtain ⟨k, rfl⟩ := Int.eq_ofNat_of_zero_le h0
  obtain ⟨c, rfl⟩ := Int.eq_ofNat_of_zero_le (show 0 ≤ b by omega)
  have hc : 2 ≤ c := by omega
  refine ⟨by rw [turnI_eq]; omega, big_40 ?_, h2, h3⟩
  rw [turnI_eq]
  have a1 := val_lt' (Bm.ds_lt hc k)
  rcases Nat.eq_zero_or_pos k with z | z
  · subst z
    rw [Bm.ds_lo (by omega)]
    show ((Bm.val c [0] : Nat) : Int) < _
    have : Bm.val c [0] = 0 := by simp [Bm.val]
    rw [this]
    exact Int.pow_pos (by decide)
  · have a2 := Bm.ds_dn hc k z
    have a3 := Bm.ds_pos hc k
    have e : c ^ (Bm.ds c k).length = c ^ ((Bm.ds c k).length - 1) * c := by
      rw [← Nat.pow_succ]
      congr 1
      omega
    rw [e] at a1
    have a4 : c ^ ((Bm.ds c k).length - 1) * c ≤ k * 1000 := Nat.mul_le_mul a2 (by omega)
    have a5 : k < 10 ^ 40 := by omega
    omega
theorem turn_turn {n b : Int} (h0 : 0 ≤ n) (h2 : 2 ≤ b) (h : 0 < n % b) : turnI (turnI n b) b = n := by
  obtain ⟨k, rfl⟩ := Int.eq_ofNat_of_zero_le h0
  obtain ⟨c, rfl⟩ := Int.eq_ofNat_of_zero_le (show 0 ≤ b by omega)
  have hc : 2 ≤ c := by omega
  have hm : 0 < k % c := by omega
  rw [turnI_eq, turnI_eq]
  have e : Bm.ds c (Bm.val c (Bm.ds c k)) = (Bm.ds c k).reverse := by
    rw [Bm.val_eq]
    refine Bm.ds_vl hc (fun d hd => Bm.ds_lt hc k d (List.mem_reverse.mp hd)) (Or.inr ⟨k % c, ?_, by omega⟩)
    rw [List.getLast?_reverse]
    by_cases hk : k < c
    · rw [Bm.ds_lo hk, Nat.mod_eq_of_lt hk]
      rfl
    · rw [Bm.ds_hi hc hk]
      rfl
  rw [e, Bm.val_vl, Bm.vl_ds hc]
theorem turn_pal {n b : Int} (h0 : 0 ≤ n) (h2 : 2 ≤ b) : decide (turnI n b = n) = palI n b := by
  obtain ⟨k, rfl⟩ := Int.eq_ofNat_of_zero_le h0
  obtain ⟨c, rfl⟩ := Int.eq_ofNat_of_zero_le (show 0 ≤ b by omega)
  have hc : 2 ≤ c := by omega
  unfold palI
  rw [turnI_eq, Int.toNat_natCast, Int.toNat_natCast]
  unfold Bm.pal
  apply Bool.eq_iff_iff.mpr
  rw [decide_eq_true_iff, decide_eq_true_iff]
  constructor
  · intro h
    have h' : Bm.val c (Bm.ds c k) = k := by omega
    rw [Bm.val_eq] at h'
    have l1 := vl_inj (b := c) (l := (Bm.ds c k).reverse) (m := Bm.ds c k) (fun d hd => Bm.ds_lt hc k d (List.mem_reverse.mp hd)) (Bm.ds_lt hc k) (by rw [List.length_reverse]) (by rw [h', Bm.vl_ds hc])
    exact l1
  · intro h
    rw [← h, Bm.val_vl, Bm.vl_ds hc]

theorem jd_right (n a b : Int) : shI (jd n a b) n a b = true := by
  unfold jd
  by_cases h1 : 0 ≤ fwI n a
  · rw [if_pos h1]
    show ushI a (fwI n a) n a b = true
    unfold ushI
    rw [inV2, decide_eq_true rfl, decide_eq_true h1, decide_eq_true rfl]
    rfl
  · rw [if_neg h1]
    by_cases h2 : 0 ≤ fwI n b
    · rw [if_pos h2]
      show ushI b (fwI n b) n a b = true
      unfold ushI
      rw [inV2, decide_eq_true (show b = b from rfl), decide_eq_true h2, decide_eq_true rfl, Bool.or_true]
      rfl
    · rw [if_neg h2]
      show ashI n a b = true
      unfold ashI
      rw [decide_eq_true (by omega), decide_eq_true (by omega)]
      rfl
theorem fw_bd {n b : Int} (h : CNum n b) : -1 ≤ fwI n b ∧ fwI n b < 20000 := by
  have hl := (figI_len h).1
  unfold fwI fwL
  cases e : (List.range (figI n b).length).find? (fun i => decide ((figI n b).getD i 0 ≠ (figI n b).getD ((figI n b).length - 1 - i) 0)) with
  | none => exact ⟨by decide, by decide⟩
  | some i =>
    have := List.mem_range.mp (List.mem_of_find?_eq_some e)
    show -1 ≤ (i : Int) ∧ (i : Int) < 20000
    omega

def sp__law_cell_at (K : PySem.W.Frag) : Sp := spR K (fun _ k => 0 ≤ k) fun ns k => .int (cellI ns k)
theorem ok__law_cell_at (T : Tx K mg) : FnOk P w K mg base CX0 1 T.a__law_cell_at T.d__law_cell_at ["_law_script", "_law_k"] (sp__law_cell_at K) := by
  refine T.F__law_cell_at.ok sc__law_cell_at (fun vs H Q E h => ?_) (fun cdv A outer s H vs Q E hr h => ?_)
  · obtain ⟨p, ns, k, rfl, _⟩ := h
    rfl
  · obtain ⟨p, ns, k, rfl, hs, h0, q⟩ := h
    refine ⟨_, (pss_cons (ps_if (pt_cmpR op_lt (pv 1) (pe_callB (r := rLenS _) call_len_seq (by rfl) T.m_len PySem.boot_len (pa_cons (pv 0) pa_nil)) (nomark _)) (pss_one (ps_ret (pe_ix ix_list (pv 0) (pv 1) (fun _ _ => rfl)))) pss_nil)
      (pss_one (ps_ret pe_int))), ?_⟩
    refine q_when (et_test (ev_op (ev_var rfl) (ev_len (ev_var rfl) hs) rv_I0)) (fun hb H1 e1 => ?_) (fun hb H1 e1 => ?_)
    · have hb2 := of_decide_eq_true hb
      rw [List.length_map] at hb2
      exact s_ret (ev_ixV (ev_var rfl) (ex_l e1 hs) (ev_var rfl) (atI_ints h0 hb2)) fun H2 e2 => q H2 (e1.trans e2)
    · have hb2 := of_decide_eq_false hb
      rw [List.length_map] at hb2
      have e : cellI ns k = 0 := by
        unfold cellI
        rw [List.getD_eq_getElem?_getD, List.getElem?_eq_none (by omega)]
        rfl
      dsimp only at q
      rw [e] at q
      exact s_ret ev_c fun H2 e2 => q H2 (e1.trans e2)

def sp__law_draw : Sp := spI3 (fun _ k m => 0 ≤ k ∧ k ≤ 1000 ∧ 0 < m) fun c k m => .int (drawI c k m)
theorem ok__law_draw (T : Tx K mg) : FnOk P w K mg base CX0 1 T.a__law_draw T.d__law_draw ["_law_cell", "_law_k", "_law_most"] sp__law_draw := by
  refine T.F__law_draw.ok sc__law_draw (fun vs H Q E h => ?_) (fun cdv A outer s H vs Q E hr h => ?_)
  · obtain ⟨a, b, c, rfl, _⟩ := h
    rfl
  · obtain ⟨c, k, m, rfl, ⟨h0, h1, h2⟩, q⟩ := h
    refine ⟨_, (pss_cons (ps_set (i := 3) sc__law_draw.nd rfl (Or.inl rfl) (pe_tup (pa_cons pe_int (pa_cons pe_int (pa_cons pe_int (pa_cons pe_int (pa_cons pe_int (pa_cons pe_int (pa_cons pe_int (pa_cons pe_int (pa_cons pe_int (pa_cons pe_int (pa_cons pe_int (pa_cons pe_int (pa_cons pe_int (pa_cons pe_int (pa_cons pe_int (pa_cons pe_int pa_nil))))))))))))))))))
      (pss_one (ps_ret (pe_op op_mod (pe_op op_mod (pe_op op_add (pe_op op_mulX (pv 0) pe_int) (pe_op op_mulX (pv 1) pe_int)) (pe_ix ix_tup (pv 3) (pe_op op_mod (pv 1) pe_int) (fun _ _ => rfl))) (pv 2))))), ?_⟩
    refine q_asgU (xs := primes.map V.int) (eu_tup (ea_cons ev_c (ea_cons ev_c (ea_cons ev_c (ea_cons ev_c (ea_cons ev_c (ea_cons ev_c (ea_cons ev_c (ea_cons ev_c (ea_cons ev_c (ea_cons ev_c (ea_cons ev_c (ea_cons ev_c (ea_cons ev_c (ea_cons ev_c (ea_cons ev_c (ea_cons ev_c ea_nil)))))))))))))))) (by decide)) fun p H1 hp e1 l1 => ?_
    exact s_ret (ev_op (ev_op (ev_op (ev_op (ev_var rfl) ev_c (rv_I (by walk_at "Mult"))) (ev_op (ev_var rfl) ev_c (rv_I (by walk_at "Mult"))) rv_I0) (ev_ixT (ev_var rfl) (st_of l1) (ev_op (ev_var rfl) ev_c (rv_I (by first | exact primes_pos | omega))) (atI_ints (xs := primes) (by omega) (by show _ < (16 : Int); omega))) (rv_I (by first | exact primes_pos | omega))) (ev_var rfl) (rv_I (by first | exact primes_pos | omega))) fun H2 e2 => q H2 (e1.trans e2)

theorem q_whenE {σ : L2.St} {H : Hp} {t : TT} {tu tz : TS} {D : Ends} {b : Bool} (h : EvT t σ H b) (h1 : ∀ H1, Ex H H1 → ∀ D' : Ends, (∀ H2, Ex H1 H2 → D'.nx σ H2) → tu D' σ H1) (h2 : ∀ H1, Ex H H1 → tz D σ H1) : tSeq (tIfS t tu tNext) tz D σ H :=
  q_when h (fun _ H1 e1 => h1 H1 e1 _ fun H2 e2 => h2 H2 (e1.trans e2)) fun _ H1 e1 => h2 H1 e1
def sp__law_anew (P : Program) (w : World) (base : Heap) (T : Tx K mg) : SpZ := fun cl fr ws vs H Q _ => ∃ (f pa po : Addr) (ns ms : List Int), vs = [.ref f, .ref pa, .ref po] ∧ SmI ns ∧ SmI ms ∧
  AskR P w K mg base 6 (fun s H _ => NdefX.CellsAt cl fr ws s.heap H) f (.ref pa) H (fun H1 Q _ => RetL (ns.map V.int) H1 Q) ∧ AskR P w K mg base 6 (fun s H _ => NdefX.CellsAt cl fr ws s.heap H) f (.ref po) H (fun H1 Q _ => RetL (ms.map V.int) H1 Q) ∧ RetV (.bl true) H Q
set_option maxHeartbeats 1000000 in
theorem ok__law_anew (T : Tx K mg) : FnZ P w K mg base 7 T.a__law_anew T.d__law_anew ["_law_ask", "_law_args", "_law_others"] (sp__law_anew P w base T) := by
  refine okZ T.F__law_anew sc__law_anew (fun cl fr ws vs H Q E h => ?_) (fun cdv A outer s H vs cl fr ws Q E hG hr hz h => ?_)
  · obtain ⟨f, pa, po, ns, ms, rfl, _⟩ := h
    rfl
  · obtain ⟨f, pa, po, ns, ms, rfl, sn, sm, a1, a2, q⟩ := h
    refine ⟨_, (pss_cons (ps_set (i := 3) sc__law_anew.nd rfl (Or.inl rfl) (pe_ask (k := 6) (Z := fun s H _ => NdefX.CellsAt cl fr ws s.heap H) (i := 0) (E := fun _ _ _ _ => False) (hr.mono (by decide)) hz rfl (Or.inl rfl) (fun σ => never_at) (pa_cons (pv 1) pa_nil)))
      (pss_cons (ps_set (i := 4) sc__law_anew.nd rfl (Or.inl rfl) (pe_callTy (r := rStrD _) (call_strD hG (hu100 hr)) (by rfl) T.m_str (by decide +kernel) (pa_cons (pv 3) pa_nil)))
      (pss_cons (ps_for PassesOwn.never rfl (pi_range1 (by rfl) T.m_range (pa_cons pe_int pa_nil)) (pg_name (i := 5) sc__law_anew.nd rfl (Or.inl rfl))
      (pss_cons (ps_set (i := 6) sc__law_anew.nd rfl (Or.inl rfl) (pe_ask (k := 6) (Z := fun s H _ => NdefX.CellsAt cl fr ws s.heap H) (i := 0) (E := fun _ _ _ _ => False) (hr.mono (by decide)) hz rfl (Or.inl rfl) (fun σ => never_at) (pa_cons (pv 1) pa_nil)))
      (pss_cons (ps_if (PW.pt (pw_or (pt_cmpR op_ne (pe_callTy (r := rStrD _) (call_strD hG (hu100 hr)) (by rfl) T.m_str (by decide +kernel) (pa_cons (pv 6) pa_nil)) (pv 4) (nomark _)) (pw_or1 (pt_not (pt_val (pe_callB call_isi (by rfl) T.m_isinstance (by decide +kernel) (pa_cons (pv 6) (pa_cons (pe_bltn (v := .ty "list") (by rfl) T.m_list (by decide +kernel) rfl) pa_nil)))))))) (pss_one (ps_ret pe_bl)) pss_nil)
      (pss_cons (ps_if (pt_cmpR op_eq (pv 5) pe_int (nomark _)) (pss_one (ps_expr (pe_bm PySem.F.plainAttrs_list PySem.F.slot_list_append PySem.F.type_list_append mt_append (pe_ask (k := 6) (Z := fun s H _ => NdefX.CellsAt cl fr ws s.heap H) (i := 0) (E := fun _ _ _ _ => False) (hr.mono (by decide)) hz rfl (Or.inl rfl) (fun σ => never_at) (pa_cons (pv 2) pa_nil)) (pa_cons (pe_un un_neg pe_int) pa_nil)))) pss_nil)
      (pss_cons (ps_while PassesOwn.never (pt_cmpR op_gt (pe_callB (r := rLenS _) call_len_seq (by rfl) T.m_len PySem.boot_len (pa_cons (pv 6) pa_nil)) (pv 5) (nomark _))
      (pss_one (ps_expr (pe_bm0 PySem.F.plainAttrs_list PySem.F.slot_list_pop PySem.F.type_list_pop mt_pop (pv 6)))))
      (pss_one (ps_expr (pe_bm PySem.F.plainAttrs_list PySem.F.slot_list_append PySem.F.type_list_append mt_append (pv 6) (pa_cons (pe_op op_add pe_int (pv 5)) pa_nil)))))))))
      (pss_one (ps_ret (pe_and (pe_cmpR op_eq (pe_callTy (r := rStrD _) (call_strD hG (hu100 hr)) (by rfl) T.m_str (by decide +kernel) (pa_cons (pe_ask (k := 6) (Z := fun s H _ => NdefX.CellsAt cl fr ws s.heap H) (i := 0) (E := fun _ _ _ _ => False) (hr.mono (by decide)) hz rfl (Or.inl rfl) (fun σ => never_at) (pa_cons (pv 1) pa_nil)) pa_nil)) (pv 4) (nomark _)) (pe_one (pe_cmpR op_eq (pe_callTy (r := rStrD _) (call_strD hG (hu100 hr)) (by rfl) T.m_str (by decide +kernel) (pa_cons (pv 3) pa_nil)) (pv 4) (nomark _))))))))), ?_⟩
    refine q_asgL (xs := ns.map V.int) (el_ask rfl (ea_cons (ev_var rfl) ea_nil) a1) fun p0 H1 hp1 e1 l1 => ?_
    refine q_asg (v := .str (txt ns)) (ev_strLV (ev_var rfl) l1 sn) fun H2 e2 => ?_
    have l2 := e2 _ _ l1
    have ex2 := e1.trans e2
    refine q_forR1 (n := 3) (ea_cons ev_c ea_nil) (by decide) (fun i σ' H' => (∃ y5 y6, σ' = [some (.ref f), some (.ref pa), some (.ref po), some (.ref p0), some (.str (txt ns)), y5, y6]) ∧ Ex H2 H') (fun H3 e3 => ⟨⟨_, _, rfl⟩, e3⟩) (fun i σ' H3 hi w => ?_) (fun σ' H3 w => ?_)
    · obtain ⟨⟨y5, y6, rfl⟩, ex3⟩ := w
      refine q_asgL (xs := ns.map V.int) (el_ask rfl (ea_cons (ev_var rfl) ea_nil) (a1.mono (ex2.trans ex3))) fun p4 H4 hp4 e4 l4 => ?_
      refine q_no (b := !decide (V.str (txt ns) = V.str (txt ns)) || !true) (et_or (et_test (ev_op (ev_strLV (ev_var rfl) l4 sn) (ev_var rfl) (rv_ne rfl))) fun _ => et_not (et_B (ev_isL (ev_var rfl) l4 (by decide +kernel)))) (by rw [decide_eq_true rfl]; rfl) fun H5 e5 => ?_
      have l5 := e5 _ _ l4
      refine q_whenE (et_test (ev_op (ev_var rfl) ev_c (rv_eq rfl))) (fun H6 e6 D' hD => s_appN (el_ask rfl (ea_cons (ev_var rfl) ea_nil) (a2.mono (((ex2.trans ex3).trans (e4.trans e5)).trans e6))) (ev_un ev_c ru_neg) (by rw [List.length_map]; have := sm.1; omega) hD) (fun H6 e6 => ?_)
      refine q_while (fun m σ' H' => ∃ xs : List Int, xs.length = m ∧ xs.length ≤ ns.length ∧ σ' = [some (.ref f), some (.ref pa), some (.ref po), some (.ref p0), some (.str (txt ns)), some (.int (i : Int)), some (.ref p4)] ∧ Ex H3 H' ∧ H' p4 = some (.lst (xs.map V.int))) ns.length ⟨ns, rfl, Nat.le_refl _, rfl, e4.trans (e5.trans e6), e6 _ _ l5⟩ fun m σ' H7 hW => ?_
      obtain ⟨xs, rfl, hle, rfl, ex7, l7⟩ := hW
      refine ⟨_, (et_test (ev_op (ev_len (ev_var rfl) (sq_of l7)) (ev_var rfl) rv_I0)), fun hb H8 e8 => ?_, fun hb H8 e8 => ?_⟩
      · have hb2 := of_decide_eq_true hb
        rw [List.length_map] at hb2
        have hn : xs.length - 1 < (xs.map V.int).length := by
          rw [List.length_map]
          omega
        refine ⟨fun σ2 H2 => ∃ ys : List Int, ys.length < xs.length ∧ σ2 = [some (.ref f), some (.ref pa), some (.ref po), some (.ref p0), some (.str (txt ns)), some (.int (i : Int)), some (.ref p4)] ∧ Ex H3 H2 ∧ H2 p4 = some (.lst (ys.map V.int)), fun σ2 H2 hN => ?_, ?_⟩
        · obtain ⟨ys, b1, b2, b3, b4⟩ := hN
          exact ⟨ys.length, b1, ys, rfl, by omega, b2, b3, b4⟩
        · refine s_pop (y := (xs.map V.int)[xs.length - 1]'hn) (e8 _ _ l7) (ev_var rfl) (by rw [List.length_map]; exact List.getElem?_eq_getElem hn) fun H9 e9 => ⟨xs.dropLast, ?_, rfl, Ex.mut ((ex7.trans e8).trans e9) hp4, ?_⟩
          · rw [List.length_dropLast]
            omega
          · rw [upd_same, List.map_dropLast]
      · refine s_app (e8 _ _ l7) (ev_var rfl) (ev_op ev_c (ev_var rfl) rv_I0) (by rw [List.length_map]; have := sn.1; omega) fun H9 e9 => ⟨⟨_, _, rfl⟩, ex3.trans (Ex.mut ((ex7.trans e8).trans e9) hp4)⟩
    · obtain ⟨⟨y5, y6, rfl⟩, ex3⟩ := w
      refine s_ret (ev_is (ev_andV (ev_op (ev_strLN (el_ask rfl (ea_cons (ev_var rfl) ea_nil) (a1.mono (ex2.trans ex3))) sn) (ev_var rfl) (rv_eq rfl)) fun _ => ev_op (ev_strLV (ev_var rfl) (ex3 _ _ l2) sn) (ev_var rfl) (rv_eq rfl)) (by rw [decide_eq_true rfl]; rfl)) fun H4 e4 => q H4 ((ex2.trans ex3).trans e4)

def numS (c k l : Int) : Int := if 10 ^ 18 ≤ c then (c - 10 ^ 18) / (([1, 7, 49, 343, 2401] : List Int).getD (k % 5).toNat 0) % l else drawI ((c % 1000003 + 977 * k) * (c % 1000003 + 31 * k + 5)) (k % 9 + 1) 999983 % l
theorem numS_bd {c k l : Int} (h : 0 < l) : 0 ≤ numS c k l ∧ numS c k l < l := by
  unfold numS
  split
  · exact ⟨Int.emod_nonneg _ (by omega), Int.emod_lt_of_pos _ h⟩
  · exact ⟨Int.emod_nonneg _ (by omega), Int.emod_lt_of_pos _ h⟩
def sp__law_number : Sp := spI3 (fun c k l => 0 ≤ k ∧ k ≤ 1000 ∧ 0 < l) fun c k l => .int (numS c k l)
theorem ok__law_number (T : Tx K mg) : FnOk P w K mg base CX0 2 T.a__law_number T.d__law_number ["_law_cell", "_law_k", "_law_limit"] sp__law_number := by
  refine T.F__law_number.ok sc__law_number (fun vs H Q E h => ?_) (fun cdv A outer s H vs Q E hr h => ?_)
  · obtain ⟨a, b, c, rfl, _⟩ := h
    rfl
  · obtain ⟨c, k, l, rfl, ⟨h0, h1, h2⟩, q⟩ := h
    refine ⟨_, (pss_cons (ps_if (pt_cmpR op_ge (pv 0) (pe_op op_pow pe_int pe_int) (nomark _)) (pss_one (ps_ret (pe_op op_mod (pe_op op_fdiv (pe_op op_sub (pv 0) (pe_op op_pow pe_int pe_int)) (pe_ix ix_tup (pe_tup (pa_cons pe_int (pa_cons pe_int (pa_cons pe_int (pa_cons pe_int (pa_cons pe_int pa_nil)))))) (pe_op op_mod (pv 1) pe_int) (fun _ _ => rfl))) (pv 2)))) pss_nil)
      (pss_cons (ps_set (i := 3) sc__law_number.nd rfl (Or.inl rfl) (pe_op op_mod (pv 0) pe_int))
      (pss_one (ps_ret (pe_op op_mod (pe_call (ok__law_draw T) (hr.mono (by decide)) (by rfl) T.g__law_draw T.F__law_draw.kp T.b__law_draw .nil pass0 (pa_cons (pe_op op_mulX (pe_op op_add (pv 3) (pe_op op_mulX pe_int (pv 1))) (pe_op op_add (pe_op op_add (pv 3) (pe_op op_mulX pe_int (pv 1))) pe_int)) (pa_cons (pe_op op_add (pe_op op_mod (pv 1) pe_int) pe_int) (pa_cons pe_int pa_nil)))) (pv 2)))))), ?_⟩
    refine q_when (et_test (ev_op (ev_var rfl) (ev_op ev_c ev_c (rv_I (by walk_at "Pow"))) rv_I0)) (fun hb H1 e1 => ?_) (fun hb H1 e1 => ?_)
    · have hb2 : (10 : Int) ^ 18 ≤ c := of_decide_eq_true hb
      unfold numS at q
      dsimp only at q
      rw [if_pos hb2] at q
      exact s_ret (ev_op (ev_op (ev_op (ev_var rfl) (ev_op ev_c ev_c (rv_I (by walk_at "Pow"))) rv_I0) (ev_ixU (eu_tup (ea_cons ev_c (ea_cons ev_c (ea_cons ev_c (ea_cons ev_c (ea_cons ev_c ea_nil))))) (by simp)) (ev_op (ev_var rfl) ev_c (rv_I (by walk_at "Mod"))) (atI_ints (xs := [1, 7, 49, 343, 2401]) (by omega) (by show _ < (5 : Int); omega))) (rv_I fives_pos)) (ev_var rfl) (rv_I (by walk_at "Mod"))) fun H2 e2 => q H2 (e1.trans e2)
    · have hb2 : ¬ (10 : Int) ^ 18 ≤ c := of_decide_eq_false hb
      unfold numS at q
      dsimp only at q
      rw [if_neg hb2] at q
      refine q_asg (ev_op (ev_var rfl) ev_c (rv_I (by walk_at "Mod"))) fun H2 e2 => ?_
      have m1 : 0 ≤ c % 1000003 := Int.emod_nonneg _ (by decide)
      have m2 : c % 1000003 < 1000003 := Int.emod_lt_of_pos _ (by decide)
      generalize c % 1000003 = m at *
      exact s_ret (ev_op (ec3 (ev_op (ev_op (ev_var rfl) (ev_op ev_c (ev_var rfl) (rv_I (by walk_at "Mult"))) rv_I0) (ev_op (ev_op (ev_var rfl) (ev_op ev_c (ev_var rfl) (rv_I (by walk_at "Mult"))) rv_I0) ev_c rv_I0) (rv_I (by walk_at "Mult"))) (ev_op (ev_op (ev_var rfl) ev_c (rv_I (by walk_at "Mod"))) ev_c rv_I0) ev_c ⟨by omega, by omega, by omega⟩) (ev_var rfl) (rv_I (by walk_at "Mod"))) fun H3 e3 => q H3 (e1.trans (e2.trans e3))

def sp__law_judged_right : Sp := spI3 (fun n a b => 0 ≤ n ∧ n < 10 ^ 40 ∧ CB a ∧ CB b) fun _ _ _ => .bl true
theorem cjs {n a b : Int} (h0 : 0 ≤ n) (h1 : n < 10 ^ 100) (ha : CB a) (hb : CB b) : CJ n a b := ⟨⟨h0, big_40 h1, ha⟩, hb⟩
theorem kit_two (T : Tx K mg) (w : Option (Int × Int)) : PySem.W.kitAny K (.ref (anC T.a_Alike T.a_Unlike w)) [.ref T.a_Alike, .ref T.a_Unlike] = some true := by
  cases w with
  | none =>
    show (match PySem.W.kitOne K (.ref T.a_Alike) (.ref T.a_Alike) with | some true => some true | some false => PySem.W.kitAny K (.ref T.a_Alike) [.ref T.a_Unlike] | none => none) = some true
    rw [T.i_Alike_Alike]
  | some u =>
    show (match PySem.W.kitOne K (.ref T.a_Unlike) (.ref T.a_Alike) with | some true => some true | some false => PySem.W.kitAny K (.ref T.a_Unlike) [.ref T.a_Unlike] | none => none) = some true
    rw [T.i_Unlike_Alike]
    show (match PySem.W.kitOne K (.ref T.a_Unlike) (.ref T.a_Unlike) with | some true => some true | some false => PySem.W.kitAny K (.ref T.a_Unlike) [] | none => none) = some true
    rw [T.i_Unlike_Unlike]
theorem cls_two (T : Tx K mg) (w : Option (Int × Int)) : ClsC K (anC T.a_Alike T.a_Unlike w) := by
  cases w with
  | none => exact T.C_Alike
  | some u => exact T.C_Unlike
def isA : Option (Int × Int) → Bool
  | none => true
  | some _ => false
theorem kit_isA (T : Tx K mg) (w : Option (Int × Int)) : PySem.W.kitOne K (.ref (anC T.a_Alike T.a_Unlike w)) (.ref T.a_Alike) = some (isA w) := by
  cases w with
  | none => exact T.i_Alike_Alike
  | some u => exact T.i_Unlike_Alike
set_option maxHeartbeats 2000000 in
theorem ok__law_judged_right (T : Tx K mg) : FnOk P w K mg base CX0 4 T.a__law_judged_right T.d__law_judged_right ["_law_number_here", "_law_one", "_law_other"] sp__law_judged_right := by
  refine T.F__law_judged_right.ok sc__law_judged_right (fun vs H Q E h => ?_) (fun cdv A outer s H vs Q E hr h => ?_)
  · obtain ⟨a, b, c, rfl, _⟩ := h
    rfl
  · obtain ⟨n, a, b, rfl, ⟨h0, h1, ha, hb⟩, q⟩ := h
    refine ⟨_, (pss_cons (ps_par (i := 3) (j := 4) (by rfl) sc__law_judged_right.nd rfl rfl (by decide) rfl rfl (pa_cons (pe_call (ok_judged T) (hr.mono (by decide)) (by rfl) T.g_judged T.F_judged.kp T.b_judged .nil pass0 (pa_cons (pv 0) (pa_cons (pv 1) (pa_cons (pv 2) pa_nil)))) (pa_cons (pe_call (ok_judged T) (hr.mono (by decide)) (by rfl) T.g_judged T.F_judged.kp T.b_judged .nil pass0 (pa_cons (pe_op op_add (pv 0) pe_int) (pa_cons (pv 2) (pa_cons (pv 1) pa_nil)))) pa_nil)) (by rfl))
      (pss_cons (ps_for PassesOwn.never rfl (pi_tup (pe_tup (pa_cons (pe_tup (pa_cons (pv 3) (pa_cons (pv 0) (pa_cons (pv 1) (pa_cons (pv 2) pa_nil))))) (pa_cons (pe_tup (pa_cons (pv 4) (pa_cons (pe_op op_add (pv 0) pe_int) (pa_cons (pv 2) (pa_cons (pv 1) pa_nil))))) pa_nil)))) (pg_tup rfl (pgs_cons (pg_name (i := 5) sc__law_judged_right.nd rfl (Or.inl rfl)) (pgs_cons (pg_name (i := 6) sc__law_judged_right.nd rfl (Or.inl rfl)) (pgs_cons (pg_name (i := 7) sc__law_judged_right.nd rfl (Or.inl rfl)) (pgs_cons (pg_name (i := 8) sc__law_judged_right.nd rfl (Or.inl rfl)) pgs_nil)))))
      (pss_one (ps_if (PW.pt (pw_or (pt_not (pt_val (pe_callB call_isiT (by rfl) T.m_isinstance (by decide +kernel) (pa_cons (pv 5) (pa_cons (pe_tup (pa_cons (pe_glob (v := .ref T.a_Alike) (by rfl) T.g_Alike rfl) (pa_cons (pe_glob (v := .ref T.a_Unlike) (by rfl) T.g_Unlike rfl) pa_nil))) pa_nil))))) (pw_or1 (pt_not (pt_val (pe_meth2 (pv 5) T.C_Alike.cl T.C_Unlike.cl T.M_Alike_shows T.M_Unlike_shows (ok_Alike_shows T) (ok_Unlike_shows T) (hr.mono (by decide)) (hr.mono (by decide)) T.b_Alike_shows T.b_Unlike_shows pass0 (pa_cons (pv 6) (pa_cons (pv 7) (pa_cons (pv 8) pa_nil))))))))) (pss_one (ps_ret pe_bl)) pss_nil)))
      (pss_cons (ps_set (i := 9) sc__law_judged_right.nd rfl (Or.inl rfl) (pe_call (ok_judged T) (hr.mono (by decide)) (by rfl) T.g_judged T.F_judged.kp T.b_judged .nil pass0 (pa_cons (pv 0) (pa_cons (pv 1) (pa_cons (pv 2) pa_nil)))))
      (pss_one (ps_ret (pe_and (pe_cmpR op_eq (pe_callB call_isi (by rfl) T.m_isinstance (by decide +kernel) (pa_cons (pv 9) (pa_cons (pe_glob (v := .ref T.a_Alike) (by rfl) T.g_Alike rfl) pa_nil))) (pe_callB call_isi (by rfl) T.m_isinstance (by decide +kernel) (pa_cons (pv 3) (pa_cons (pe_glob (v := .ref T.a_Alike) (by rfl) T.g_Alike rfl) pa_nil))) (nomark _)) (pe_one (pe_meth2 (pv 9) T.C_Alike.cl T.C_Unlike.cl T.M_Alike_shows T.M_Unlike_shows (ok_Alike_shows T) (ok_Unlike_shows T) (hr.mono (by decide)) (hr.mono (by decide)) T.b_Alike_shows T.b_Unlike_shows pass0 (pa_cons (pv 0) (pa_cons (pv 1) (pa_cons (pv 2) pa_nil))))))))))), ?_⟩
    have c1 : CJ n a b := cjs h0 (by omega) ha hb
    have c2 : CJ (n + 1) b a := cjs (by omega) (by omega) hb ha
    refine (ei_judged (ev_var rfl) (ev_var rfl) (ev_var rfl) c1) H (Ex.refl H) _ fun p1 d1 H1 hp1 e1 l1 => ?_
    refine (ei_judged (ev_op (ev_var rfl) ev_c rv_I0) (ev_var rfl) (ev_var rfl) c2) H1 (Ex.refl H1) _ fun p2 d2 H2 hp2 e2 l2 => ⟨_, _, rfl, ?_⟩
    have s1 := jd_right n a b
    have s2 := jd_right (n + 1) b a
    have l12 := e2 _ _ l1
    refine q_forTT (xss := [[.ref p1, .int n, .int a, .int b], [.ref p2, .int (n + 1), .int b, .int a]]) (euu2 (eu_tup (ea_cons (ev_var rfl) (ea_cons (ev_var rfl) (ea_cons (ev_var rfl) (ea_cons (ev_var rfl) ea_nil)))) (by simp)) (eu_tup (ea_cons (ev_var rfl) (ea_cons (ev_op (ev_var rfl) ev_c rv_I0) (ea_cons (ev_var rfl) (ea_cons (ev_var rfl) ea_nil)))) (by simp))) (fun i σ' H' => ∃ y5 y6 y7 y8, σ' = [some (.int n), some (.int a), some (.int b), some (.ref p1), some (.ref p2), y5, y6, y7, y8, none]) (fun _ _ => ⟨_, _, _, _, rfl⟩) (fun i xs σ' H3 hi e3 w => ?_) (fun σ' H3 e3 w => ?_)
    · obtain ⟨y5, y6, y7, y8, rfl⟩ := w
      match i, hi with
      | 0, hi =>
        cases hi
        refine ⟨_, _, _, _, rfl, fun D' hD => s_no (et_or (et_not (et_B (ev_isOT (cls_two T _) (ev_var rfl) (e3 _ _ l12) (kit_two T _)))) fun _ => et_not (et_B (ev_shows (ev_var rfl) (e3 _ _ l12) (ev_var rfl) (ev_var rfl) (ev_var rfl) c1))) (by rw [s1]; rfl) fun H4 e4 => hD _ H4 e4 ⟨_, _, _, _, rfl⟩⟩
      | 1, hi =>
        cases hi
        refine ⟨_, _, _, _, rfl, fun D' hD => s_no (et_or (et_not (et_B (ev_isOT (cls_two T _) (ev_var rfl) (e3 _ _ l2) (kit_two T _)))) fun _ => et_not (et_B (ev_shows (ev_var rfl) (e3 _ _ l2) (ev_var rfl) (ev_var rfl) (ev_var rfl) c2))) (by rw [s2]; rfl) fun H4 e4 => hD _ H4 e4 ⟨_, _, _, _, rfl⟩⟩
      | i + 2, hi => simp at hi
    · obtain ⟨y5, y6, y7, y8, rfl⟩ := w
      refine (ei_judged (ev_var rfl) (ev_var rfl) (ev_var rfl) c1) H3 (Ex.refl H3) _ fun p4 d4 H4 hp4 e4 l4 => ?_
      refine s_ret (ev_is (ev_andV (ev_op (ev_isO (cls_two T _) (ev_var rfl) l4 (kit_isA T _)) (ev_isO (cls_two T _) (ev_var rfl) (e4 _ _ (e3 _ _ l12)) (kit_isA T _)) (rv_eq rfl)) fun _ => ev_shows (ev_var rfl) l4 (ev_var rfl) (ev_var rfl) (ev_var rfl) c1) (by rw [s1, decide_eq_true rfl]; rfl)) fun H5 e5 => q H5 (e1.trans (e2.trans (e3.trans (e4.trans e5))))

theorem sm_of {l : List Nat} {c : Nat} (h1 : l.length ≤ 90000) (h2 : ∀ d ∈ l, d < c) (h3 : c ≤ 10 ^ 100) : SmI (l.map fun d : Nat => (d : Int)) := by
  refine ⟨by rw [List.length_map]; exact h1, fun n hn => ?_⟩
  obtain ⟨d, hd, rfl⟩ := List.mem_map.mp hn
  rw [Int.natAbs_natCast]
  exact Nat.lt_of_lt_of_le (h2 d hd) h3
theorem sm_fig {n b : Int} (h : CNum n b) : SmI (figI n b) := by
  have hl := figI_len h
  obtain ⟨h0, h1, h2, h3⟩ := h
  obtain ⟨k, rfl⟩ := Int.eq_ofNat_of_zero_le h0
  obtain ⟨c, rfl⟩ := Int.eq_ofNat_of_zero_le (show 0 ≤ b by omega)
  rw [figI_nat, List.length_map] at hl
  rw [figI_nat]
  refine sm_of (c := 1001) (by omega) (fun d hd => ?_) (by decide)
  unfold Bm.fig at hd
  have := Bm.ds_lt (b := c) (by omega) k d (List.mem_reverse.mp hd)
  omega
theorem sm_bt {l h a b : Int} (hb : CBd l h) (h1 : l < 10 ^ 40) : SmI (btI l h a b) := by
  unfold btI bt
  refine sm_of (c := 10 ^ 50) (Nat.le_trans (List.length_filter_le _ _) ?_) (fun d hd => ?_) (by decide)
  · rw [List.length_map, List.length_range]
    have := hb.1
    have := hb.2.2
    omega
  · obtain ⟨i, hi, rfl⟩ := List.mem_map.mp (List.mem_filter.mp hd).1
    have := List.mem_range.mp hi
    have := hb.1
    have := hb.2.2
    omega
theorem sm_cr {m a b : Int} (h : CCr m a b) : SmI (crI m a b) := by
  have hp : Bm.mn a.toNat b.toNat ^ m.toNat ≤ 1728 := by
    have hL : Bm.mn a.toNat b.toNat ≤ 12 := by
      unfold Bm.mn
      have := h.2.1
      have := h.2.2
      split <;> omega
    have := h.1
    exact Nat.le_trans (Nat.pow_le_pow_left hL _) (Nat.le_trans (Nat.pow_le_pow_right (by decide) (show m.toNat ≤ 3 by omega)) (by decide))
  unfold crI Bm.due
  refine sm_of (c := 1728) (Nat.le_trans (List.length_filter_le _ _) ?_) (fun d hd => ?_) (by decide)
  · rw [List.length_range]
    omega
  · have := List.mem_range.mp (List.mem_filter.mp hd).1
    omega
theorem sq_xn {K : PySem.W.Frag} {H H' : Hp} {a : Addr} {xs : List V} (e : LamX.ExtN H H') (h : SqL K H a xs) : SqL K H' a xs := by
  rcases h with h | h
  · refine Or.inl ?_
    rcases h with h | ⟨o, h⟩
    · exact Or.inl (e _ _ h fun _ z => by cases z)
    · exact Or.inr ⟨o, e _ _ h fun _ z => by cases z⟩
  · exact Or.inr h
def sp_law (T : Tx K mg) : Sp := fun vs H Q _ => ∃ (a : Addr) (ns : List Int), vs = [.ref a] ∧ SqL K H a (ns.map V.int) ∧ CellsOk ns ∧ LamX.Tabs (tbs T) H ∧ ∀ H', Q (.bl true) H'
theorem cn100 {n b : Int} (h0 : 0 ≤ n) (h1 : n < 10 ^ 100) (h2 : CB b) : CNum n b := ⟨h0, big_40 h1, h2⟩
def farM : List Int := [10 ^ Int.toNat 6, 10 ^ Int.toNat 36]
theorem farM_bd {i : Nat} (h : i < 2) : 0 < farM.getD i 0 ∧ farM.getD i 0 ≤ 10 ^ 36 := by
  have : i = 0 ∨ i = 1 := by omega
  rcases this with rfl | rfl <;> decide
set_option maxHeartbeats 4000000 in
theorem ok_law (T : Tx K mg) (HB : TBs T base) : FnG P w K mg base CX0 8 T.a_law T.d_law ["_law_script"] (sp_law T) := by
  refine T.L_law.okG sc_law (fun vs H Q E h => ?_) (fun A outer s H vs Q E hG hr h => ?_)
  · obtain ⟨a, ns, rfl, _⟩ := h
    rfl
  · obtain ⟨a, ns, rfl, hs, hc, tb, q⟩ := h
    refine ⟨_, (pss_cons (ps_for PassesOwn.never rfl (pi_range1 (by rfl) T.m_range (pa_cons pe_int pa_nil)) (pg_name (i := 1) sc_law.nd rfl (Or.inl rfl))
      (pss_cons (ps_set (i := 2) sc_law.nd rfl (Or.inl rfl) (pe_call (ok__law_cell_at T) (hr.mono (by decide)) (by rfl) T.g__law_cell_at T.F__law_cell_at.kp T.b__law_cell_at .nil pass0 (pa_cons (pv 0) (pa_cons (pv 1) pa_nil))))
      (pss_cons (ps_set (i := 3) sc_law.nd rfl (Or.inl rfl) (pe_op op_mod (pe_callB (r := rAbs1) call_abs (by rfl) T.m_abs (by decide +kernel) (pa_cons (pv 2) pa_nil)) (pe_ix ix_tup (pe_tup (pa_cons (pe_op op_pow pe_int pe_int) (pa_cons (pe_op op_pow pe_int pe_int) pa_nil))) (pe_op op_mod (pv 1) pe_int) (fun _ _ => rfl))))
      (pss_cons (ps_asg (pe_tup (pa_cons (pe_op op_add pe_int (pe_call (ok__law_number T) (hr.mono (by decide)) (by rfl) T.g__law_number T.F__law_number.kp T.b__law_number .nil pass0 (pa_cons (pv 2) (pa_cons pe_int (pa_cons pe_int pa_nil))))) (pa_cons (pe_op op_add pe_int (pe_call (ok__law_number T) (hr.mono (by decide)) (by rfl) T.g__law_number T.F__law_number.kp T.b__law_number .nil pass0 (pa_cons (pv 2) (pa_cons pe_int (pa_cons pe_int pa_nil))))) pa_nil))) (pg_tup rfl (pgs_cons (pg_name (i := 4) sc_law.nd rfl (Or.inl rfl)) (pgs_cons (pg_name (i := 8) sc_law.nd rfl (Or.inr rfl)) pgs_nil))))
      (pss_cons (ps_if (pt_not (pt_val (pe_callZL (fr := []) (js := []) hG (ok__law_anew (P := P) (w := w) (base := base) T) (hr.mono (by decide)) (by rfl) T.g__law_anew T.F__law_anew.kp T.b__law_anew pass0 (by show NdefX.ndefB (defScope s_law) _ _ = true; decide +kernel) rfl (fun _ => rfl) (pa_cons (pe_lam (T := tbs T) HB.b_law rfl (mem_law T) (hu_law T) rfl (fun _ => lam_nofree (by decide +kernel))) (pa_cons (pe_tup (pa_cons (pv 3) (pa_cons (pv 4) pa_nil))) (pa_cons (pe_tup (pa_cons (pv 3) (pa_cons (pv 8) pa_nil))) pa_nil)))))) (pss_one (ps_ret pe_bl)) pss_nil)
      (pss_cons (ps_asg (pe_tup (pa_cons (pe_op op_mod (pv 3) (pe_op op_pow pe_int pe_int)) (pa_cons (pe_call (ok__law_number T) (hr.mono (by decide)) (by rfl) T.g__law_number T.F__law_number.kp T.b__law_number .nil pass0 (pa_cons (pv 2) (pa_cons pe_int (pa_cons pe_int pa_nil)))) pa_nil))) (pg_tup rfl (pgs_cons (pg_name (i := 7) sc_law.nd rfl (Or.inr rfl)) (pgs_cons (pg_name (i := 5) sc_law.nd rfl (Or.inl rfl)) pgs_nil))))
      (pss_cons (ps_if (pt_not (pt_val (pe_callZL (fr := ["_law_low", "_law_other"]) (js := [7, 8]) hG (ok__law_anew (P := P) (w := w) (base := base) T) (hr.mono (by decide)) (by rfl) T.g__law_anew T.F__law_anew.kp T.b__law_anew pass0 (by show NdefX.ndefB (defScope s_law) _ _ = true; decide +kernel) rfl (fun _ => rfl) (pa_cons (pe_lam (T := tbs T) HB.b_law rfl (mem_law T) (hu_law T) rfl (fun ok => lam_free (fr := ["_law_low", "_law_other"]) (by show NdefX.ndefB (defScope s_law) _ _ = true; decide +kernel) ok)) (pa_cons (pe_tup (pa_cons (pe_op op_add (pv 7) (pv 5)) (pa_cons pe_int pa_nil))) (pa_cons (pe_tup (pa_cons (pe_op op_add (pv 7) pe_int) (pa_cons pe_int pa_nil))) pa_nil)))))) (pss_one (ps_ret pe_bl)) pss_nil)
      (pss_cons (ps_asg (pe_tup (pa_cons (pe_op op_add pe_int (pe_call (ok__law_number T) (hr.mono (by decide)) (by rfl) T.g__law_number T.F__law_number.kp T.b__law_number .nil pass0 (pa_cons (pv 2) (pa_cons pe_int (pa_cons pe_int pa_nil))))) (pa_cons (pe_op op_add pe_int (pe_call (ok__law_number T) (hr.mono (by decide)) (by rfl) T.g__law_number T.F__law_number.kp T.b__law_number .nil pass0 (pa_cons (pv 2) (pa_cons pe_int (pa_cons pe_int pa_nil))))) pa_nil))) (pg_tup rfl (pgs_cons (pg_name (i := 9) sc_law.nd rfl (Or.inr rfl)) (pgs_cons (pg_name (i := 6) sc_law.nd rfl (Or.inl rfl)) pgs_nil))))
      (pss_cons (ps_if (pt_not (pt_val (pe_callZL (fr := ["_law_width"]) (js := [9]) hG (ok__law_anew (P := P) (w := w) (base := base) T) (hr.mono (by decide)) (by rfl) T.g__law_anew T.F__law_anew.kp T.b__law_anew pass0 (by show NdefX.ndefB (defScope s_law) _ _ = true; decide +kernel) rfl (fun _ => rfl) (pa_cons (pe_lam (T := tbs T) HB.b_law rfl (mem_law T) (hu_law T) rfl (fun ok => lam_free (fr := ["_law_width"]) (by show NdefX.ndefB (defScope s_law) _ _ = true; decide +kernel) ok)) (pa_cons (pe_tup (pa_cons (pv 6) (pa_cons pe_int pa_nil))) (pa_cons (pe_tup (pa_cons pe_int (pa_cons pe_int pa_nil))) pa_nil)))))) (pss_one (ps_ret pe_bl)) pss_nil)
      (pss_one (ps_if (PW.pt (pw_or (pt_not (pt_val (pe_call (ok__law_judged_right T) (hr.mono (by decide)) (by rfl) T.g__law_judged_right T.F__law_judged_right.kp T.b__law_judged_right .nil pass0 (pa_cons (pv 3) (pa_cons (pv 4) (pa_cons (pv 8) pa_nil)))))) (pw_or1 (pt_cmpR op_ne (pe_call (ok_turned T) (hr.mono (by decide)) (by rfl) T.g_turned T.F_turned.kp T.b_turned .nil pass0 (pa_cons (pv 3) (pa_cons pe_int pa_nil))) (pe_callTy (r := rIntS) call_intS (by rfl) T.m_int (by decide +kernel) (pa_cons (pe_revS (pe_callTy call_str_int (by rfl) T.m_str (by decide +kernel) (pa_cons (pv 3) pa_nil))) pa_nil)) (nomark _))))) (pss_one (ps_ret pe_bl)) pss_nil)))))))))))
      (pss_one (ps_ret pe_bl))), ?_⟩
    refine q_forR1 (n := 4) (ea_cons ev_c ea_nil) (by decide) (fun i σ' H' => (∃ y1 y2 y3 y4 y5 y6 y7 y8 y9, σ' = [some (.ref a), y1, y2, y3, y4, y5, y6, y7, y8, y9]) ∧ LamX.Tabs (tbs T) H' ∧ SqL K H' a (ns.map V.int)) (fun H1 e1 => ⟨⟨_, _, _, _, _, _, _, _, _, rfl⟩, tb.ext e1, ex_l e1 hs⟩) (fun i σ' H0 hi w => ?_) (fun σ' H0 w => ?_)
    · obtain ⟨⟨y1, y2, y3, y4, y5, y6, y7, y8, y9, rfl⟩, t0, hs0⟩ := w
      refine q_asg (ecR (ev_var rfl) hs0 (ev_var rfl) (by omega)) fun H1 e1 => ?_
      generalize cellI ns (i : Int) = c
      have hi2 : (((i : Int) % 2).toNat) < 2 := by omega
      have fb := farM_bd hi2
      refine q_asg (v := .int ((if c < 0 then -c else c) % farM.getD ((i : Int) % 2).toNat 0)) (ev_op (ev_abs (ev_var rfl)) (ev_ixU (eu_tup (ea_cons (ev_op ev_c ev_c (rv_I (by walk_at "Pow"))) (ea_cons (ev_op ev_c ev_c (rv_I (by walk_at "Pow"))) ea_nil)) (by simp)) (ev_op (ev_var rfl) ev_c (rv_I (by walk_at "Mod"))) (atI_ints (xs := farM) (by omega) (by show _ < (2 : Int); omega))) (rv_I fb.1)) fun H2 e2 => ?_
      have f0 : 0 ≤ (if c < 0 then -c else c) % farM.getD ((i : Int) % 2).toNat 0 := Int.emod_nonneg _ (by omega)
      have f1 : (if c < 0 then -c else c) % farM.getD ((i : Int) % 2).toNat 0 < 10 ^ 36 := Int.lt_of_lt_of_le (Int.emod_lt_of_pos _ fb.1) fb.2
      generalize (if c < 0 then -c else c) % farM.getD ((i : Int) % 2).toNat 0 = f at *
      refine q_asg2 (u := .int (2 + numS c 1 999)) (w := .int (2 + numS c 2 15)) (eu_tup (ea_cons (ev_op ev_c (ec3 (ev_var rfl) ev_c ev_c (by decide)) rv_I0) (ea_cons (ev_op ev_c (ec3 (ev_var rfl) ev_c ev_c (by decide)) rv_I0) ea_nil)) (by simp)) fun H3 e3 => ?_
      have b1 := numS_bd (c := c) (k := 1) (l := 999) (by decide)
      have b2 := numS_bd (c := c) (k := 2) (l := 15) (by decide)
      generalize ho : 2 + numS c 1 999 = one
      generalize hp : 2 + numS c 2 15 = oth
      have c1 : CB one := by omega
      have c2 : CB oth := by omega
      have t3 := ((t0.ext e1).ext e2).ext e3
      have hs3 := ex_l (e1.trans (e2.trans e3)) hs0
      have cn1 : CNum f one := cn100 f0 (by omega) c1
      have cn2 : CNum f oth := cn100 f0 (by omega) c2
      refine q_noN t3 (etn_not (etn_B (en_callZ (v := .bl true) (xs := [.int f, .int one]) (ys := [.int f, .int oth]) (fun _ _ => eu_tup (ea_cons (ev_var rfl) (ea_cons (ev_var rfl) ea_nil)) (by simp)) (fun _ _ => eu_tup (ea_cons (ev_var rfl) (ea_cons (ev_var rfl) ea_nil)) (by simp)) fun g c' pa po H4 Q4 e4 hg hc lpa lpo q4 => ?s1))) rfl fun H4 e4 t4 => ?_
      case s1 =>
        refine ⟨g, pa, po, figI f one, figI f oth, rfl, sm_fig cn1, sm_fig cn2, ?_, ?_, q4⟩
        · refine ask_ofC (N := ["_law_two"]) (x := "_law_two") (fr := []) (NdefX.nscope_by (by rfl)) (fun _ _ _ => rfl) hg hc fun A out s H5 Q5 E5 e5 hr q5 => ⟨_, (pe_call (ok_figures T) (hr.mono (by decide)) (by rfl) T.g_figures T.F_figures.kp T.b_figures .nil pass0 (pa_cons (pe_ix ix_tup (pv 0) pe_int (fun _ _ => rfl)) (pa_cons (pe_ix ix_tup (pv 0) pe_int (fun _ _ => rfl)) pa_nil))), ?_⟩
          exact (el2 (ev_ixT (v := .int f) (ev_var rfl) (st_of (e5 _ _ lpa)) ev_c rfl) (ev_ixT (v := .int one) (ev_var rfl) (st_of (e5 _ _ lpa)) ev_c rfl) cn1) H5 (Ex.refl H5) _ q5
        · refine ask_ofC (N := ["_law_two"]) (x := "_law_two") (fr := []) (NdefX.nscope_by (by rfl)) (fun _ _ _ => rfl) hg hc fun A out s H5 Q5 E5 e5 hr q5 => ⟨_, (pe_call (ok_figures T) (hr.mono (by decide)) (by rfl) T.g_figures T.F_figures.kp T.b_figures .nil pass0 (pa_cons (pe_ix ix_tup (pv 0) pe_int (fun _ _ => rfl)) (pa_cons (pe_ix ix_tup (pv 0) pe_int (fun _ _ => rfl)) pa_nil))), ?_⟩
          exact (el2 (ev_ixT (v := .int f) (ev_var rfl) (st_of (e5 _ _ lpo)) ev_c rfl) (ev_ixT (v := .int oth) (ev_var rfl) (st_of (e5 _ _ lpo)) ev_c rfl) cn2) H5 (Ex.refl H5) _ q5
      refine q_asg2 (u := .int (f % 10 ^ Int.toNat 5)) (w := .int (numS c 3 121)) (eu_tup (ea_cons (ev_op (ev_var rfl) (ev_op ev_c ev_c (rv_I (by walk_at "Pow"))) (rv_I (by decide))) (ea_cons (ec3 (ev_var rfl) ev_c ev_c (by decide)) ea_nil)) (by simp)) fun H5 e5 => ?_
      have t5 := t4.ext e5
      have b3 := numS_bd (c := c) (k := 3) (l := 121) (by decide)
      have lw0 : 0 ≤ f % 10 ^ Int.toNat 5 := Int.emod_nonneg _ (by decide)
      have lw1 : f % 10 ^ Int.toNat 5 < 100000 := Int.emod_lt_of_pos _ (by decide)
      generalize f % 10 ^ Int.toNat 5 = low at *
      generalize numS c 3 121 = many at *
      have cb1 : CBt low (low + many) 2 oth := ⟨⟨lw0, by omega, by omega⟩, by omega, by decide, c2⟩
      have cb2 : CBt low (low + 120) 3 oth := ⟨⟨lw0, by omega, by omega⟩, by omega, by decide, c2⟩
      refine q_noN t5 (etn_not (etn_B (en_callZ (v := .bl true) (xs := [.int (low + many), .int 2]) (ys := [.int (low + 120), .int 3]) (fun _ _ => eu_tup (ea_cons (ev_op (ev_var rfl) (ev_var rfl) rv_I0) (ea_cons ev_c ea_nil)) (by simp)) (fun _ _ => eu_tup (ea_cons (ev_op (ev_var rfl) ev_c rv_I0) (ea_cons ev_c ea_nil)) (by simp)) fun g c' pa po H6 Q6 e6 hg hc lpa lpo q6 => ?s2))) rfl fun H6 e6 t6 => ?_
      case s2 =>
        refine ⟨g, pa, po, btI low (low + many) 2 oth, btI low (low + 120) 3 oth, rfl, sm_bt cb1.1 (by omega), sm_bt cb2.1 (by omega), ?_, ?_, q6⟩
        · refine ask_ofC (N := ["_law_pair", "_law_low", "_law_other"]) (x := "_law_pair") (fr := ["_law_low", "_law_other"]) (NdefX.nscope_by (by rfl)) (fun _ _ _ => rfl) hg hc fun A out s H7 Q7 E7 e7 hr q7 => ⟨_, (pe_call (ok_between T) (hr.mono (by decide)) (by rfl) T.g_between T.F_between.kp T.b_between .nil pass0 (pa_cons (pv 1) (pa_cons (pe_ix ix_tup (pv 0) pe_int (fun _ _ => rfl)) (pa_cons (pe_ix ix_tup (pv 0) pe_int (fun _ _ => rfl)) (pa_cons (pv 2) pa_nil))))), ?_⟩
          exact (el4 (ev_var rfl) (ev_ixT (v := .int (low + many)) (ev_var rfl) (st_of (e7 _ _ lpa)) ev_c rfl) (ev_ixT (v := .int 2) (ev_var rfl) (st_of (e7 _ _ lpa)) ev_c rfl) (ev_var rfl) cb1) H7 (Ex.refl H7) _ q7
        · refine ask_ofC (N := ["_law_pair", "_law_low", "_law_other"]) (x := "_law_pair") (fr := ["_law_low", "_law_other"]) (NdefX.nscope_by (by rfl)) (fun _ _ _ => rfl) hg hc fun A out s H7 Q7 E7 e7 hr q7 => ⟨_, (pe_call (ok_between T) (hr.mono (by decide)) (by rfl) T.g_between T.F_between.kp T.b_between .nil pass0 (pa_cons (pv 1) (pa_cons (pe_ix ix_tup (pv 0) pe_int (fun _ _ => rfl)) (pa_cons (pe_ix ix_tup (pv 0) pe_int (fun _ _ => rfl)) (pa_cons (pv 2) pa_nil))))), ?_⟩
          exact (el4 (ev_var rfl) (ev_ixT (v := .int (low + 120)) (ev_var rfl) (st_of (e7 _ _ lpo)) ev_c rfl) (ev_ixT (v := .int 3) (ev_var rfl) (st_of (e7 _ _ lpo)) ev_c rfl) (ev_var rfl) cb2) H7 (Ex.refl H7) _ q7
      refine q_asg2 (u := .int (1 + numS c 4 3)) (w := .int (2 + numS c 5 11)) (eu_tup (ea_cons (ev_op ev_c (ec3 (ev_var rfl) ev_c ev_c (by decide)) rv_I0) (ea_cons (ev_op ev_c (ec3 (ev_var rfl) ev_c ev_c (by decide)) rv_I0) ea_nil)) (by simp)) fun H7 e7 => ?_
      have t7 := t6.ext e7
      have b4 := numS_bd (c := c) (k := 4) (l := 3) (by decide)
      have b5 := numS_bd (c := c) (k := 5) (l := 11) (by decide)
      generalize hw : 1 + numS c 4 3 = wid
      generalize hcr : 2 + numS c 5 11 = crs
      have cc1 : CCr wid crs 10 := ⟨by omega, by omega, by decide⟩
      have cc2 : CCr wid 10 7 := ⟨by omega, by decide, by decide⟩
      refine q_noN t7 (etn_not (etn_B (en_callZ (v := .bl true) (xs := [.int crs, .int 10]) (ys := [.int 10, .int 7]) (fun _ _ => eu_tup (ea_cons (ev_var rfl) (ea_cons ev_c ea_nil)) (by simp)) (fun _ _ => eu_tup (ea_cons ev_c (ea_cons ev_c ea_nil)) (by simp)) fun g c' pa po H8 Q8 e8 hg hc lpa lpo q8 => ?s3))) rfl fun H8 e8 t8 => ?_
      case s3 =>
        refine ⟨g, pa, po, crI wid crs 10, crI wid 10 7, rfl, sm_cr cc1, sm_cr cc2, ?_, ?_, q8⟩
        · refine ask_ofC (N := ["_law_bases", "_law_width"]) (x := "_law_bases") (fr := ["_law_width"]) (NdefX.nscope_by (by rfl)) (fun _ _ _ => rfl) hg hc fun A out s H9 Q9 E9 e9 hr q9 => ⟨_, (pe_call (ok_crossed T) (hr.mono (by decide)) (by rfl) T.g_crossed T.F_crossed.kp T.b_crossed .nil pass0 (pa_cons (pv 1) (pa_cons (pe_ix ix_tup (pv 0) pe_int (fun _ _ => rfl)) (pa_cons (pe_ix ix_tup (pv 0) pe_int (fun _ _ => rfl)) pa_nil)))), ?_⟩
          exact (el3 (ev_var rfl) (ev_ixT (v := .int crs) (ev_var rfl) (st_of (e9 _ _ lpa)) ev_c rfl) (ev_ixT (v := .int 10) (ev_var rfl) (st_of (e9 _ _ lpa)) ev_c rfl) cc1) H9 (Ex.refl H9) _ q9
        · refine ask_ofC (N := ["_law_bases", "_law_width"]) (x := "_law_bases") (fr := ["_law_width"]) (NdefX.nscope_by (by rfl)) (fun _ _ _ => rfl) hg hc fun A out s H9 Q9 E9 e9 hr q9 => ⟨_, (pe_call (ok_crossed T) (hr.mono (by decide)) (by rfl) T.g_crossed T.F_crossed.kp T.b_crossed .nil pass0 (pa_cons (pv 1) (pa_cons (pe_ix ix_tup (pv 0) pe_int (fun _ _ => rfl)) (pa_cons (pe_ix ix_tup (pv 0) pe_int (fun _ _ => rfl)) pa_nil)))), ?_⟩
          exact (el3 (ev_var rfl) (ev_ixT (v := .int 10) (ev_var rfl) (st_of (e9 _ _ lpo)) ev_c rfl) (ev_ixT (v := .int 7) (ev_var rfl) (st_of (e9 _ _ lpo)) ev_c rfl) cc2) H9 (Ex.refl H9) _ q9
      have exn : LamX.ExtN H3 H8 := e4.trans ((Ex.xn e5).trans (e6.trans ((Ex.xn e7).trans e8)))
      have hs8 := sq_xn exn hs3
      obtain ⟨k, rfl⟩ := Int.eq_ofNat_of_zero_le f0
      have nl : (TL.numL k).length ≤ 40 := TL.numL_len (by decide) (by omega)
      have tl : ((Str.ofString (toString ((k : Nat) : Int))).length) = (TL.numL k).length := by rw [TL.len_tl, TL.tl_num]
      refine s_noN t8 (b := !true || !decide (V.int (turnI (k : Int) 10) = V.int (turnI (k : Int) 10))) (etn_of fun _ _ => et_or (et_not (et_B (ec3 (ev_var rfl) (ev_var rfl) (ev_var rfl) ⟨by omega, by omega, c1, c2⟩))) fun _ => et_test (ev_op (ec2 (ev_var rfl) ev_c (cn100 (by omega) (by omega) (by decide))) (ev_intS (n := turnI (k : Int) 10) (ev_revS (ev_strI (ev_var rfl) (log_small (by omega))) ?r1) ?r2 ?r3) (rv_ne rfl))) (by rw [decide_eq_true rfl]; rfl) fun H9 e9 t9 => ⟨⟨_, _, _, _, _, _, _, _, _, rfl⟩, t9, sq_xn e9 hs8⟩
      case r1 =>
        rw [tl]
        have : (100 : Nat) ≤ sizeLine := by decide
        omega
      case r2 =>
        exact (int_rev (by omega)).trans (congrArg some (turnI_eq k 10).symm)
      case r3 =>
        show (turnT (Str.ofString (toString ((k : Nat) : Int)))).cps.size ≤ 640
        unfold turnT
        rw [List.size_toArray, List.length_reverse, ← TL.len_tl, tl]
        omega
    · obtain ⟨⟨y1, y2, y3, y4, y5, y6, y7, y8, y9, rfl⟩, t0, hs0⟩ := w
      exact s_ret ev_c fun H2 e2 => q H2

end
theorem all_mk {l : PySem.W.OpenLaw} {w : World} {K : PySem.W.Frag} {h : Heap} {mg : Str → Option Value} {fa f0 f1 f2 f3 f4 f5 f6 f7 f8 f9 f10 f11 f12 f13 f14 f15 f16 f17 f18 f19 f20 f21 f22 cc_law pp_law c_Answer c_Alike f_Alike_shows c_Unlike f_Unlike___init__ f_Unlike_shows : Addr} (X : K.In h) (G : h.Ns mainGlobals mg) (hfa : mg "law" = some (.ref fa)) (hO : ∀ y ∈ (["law"] : List Str), OwnT K y h)
    {od0 an0 od1 an1 od2 an2 od3 an3 od4 an4 od5 an5 od6 an6 od7 an7 od8 an8 od9 an9 od10 an10 od11 an11 od12 an12 od13 an13 od14 an14 od15 an15 od16 an16 od17 an17 od18 an18 od19 an19 od20 an20 od21 an21 od22 an22 cdd_law od_Alike_shows an_Alike_shows od_Unlike___init__ an_Unlike___init__ od_Unlike_shows an_Unlike_shows : Option Addr} {sl0 sl1 sl2 sl3 sl4 sl5 sl6 sl7 sl8 sl9 sl10 sl11 sl12 sl13 sl14 sl15 sl16 sl17 sl18 sl19 sl20 sl21 sl22 csl_law sl_Alike_shows sl_Unlike___init__ sl_Unlike_shows : Array (Option Value)} {oc0 kV0 dc0 pm0 ct0 cd0 oc1 kV1 dc1 pm1 ct1 cd1 oc2 kV2 dc2 pm2 ct2 cd2 oc3 kV3 dc3 pm3 ct3 cd3 oc4 kV4 dc4 pm4 ct4 cd4 oc5 kV5 dc5 pm5 ct5 cd5 oc6 kV6 dc6 pm6 ct6 cd6 oc7 kV7 dc7 pm7 ct7 cd7 oc8 kV8 dc8 pm8 ct8 cd8 oc9 kV9 dc9 pm9 ct9 cd9 oc10 kV10 dc10 pm10 ct10 cd10 oc11 kV11 dc11 pm11 ct11 cd11 oc12 kV12 dc12 pm12 ct12 cd12 oc13 kV13 dc13 pm13 ct13 cd13 oc14 kV14 dc14 pm14 ct14 cd14 oc15 kV15 dc15 pm15 ct15 cd15 oc16 kV16 dc16 pm16 ct16 cd16 oc17 kV17 dc17 pm17 ct17 cd17 oc18 kV18 dc18 pm18 ct18 cd18 oc19 kV19 dc19 pm19 ct19 cd19 oc20 kV20 dc20 pm20 ct20 cd20 oc21 kV21 dc21 pm21 ct21 cd21 oc22 kV22 dc22 pm22 ct22 ce_law oc_Alike_shows kV_Alike_shows dc_Alike_shows pm_Alike_shows cd_Alike_shows ct_Alike_shows oc_Unlike___init__ kV_Unlike___init__ dc_Unlike___init__ pm_Unlike___init__ cd_Unlike___init__ ct_Unlike___init__ oc_Unlike_shows kV_Unlike_shows dc_Unlike_shows pm_Unlike_shows cd_Unlike_shows ct_Unlike_shows : Value} {cvs_law : Array Value} {t_GREATEST_BASE t_WIDEST t_MOST_TURNED t_CROSSED_BASE : Tok} 
    (a0 : PySem.W.nsIn K mainGlobals "is_whole" = some (some (.ref f0))) (l0 : K.lookup f0 = some ⟨oc0, od0, .func (PySem.W.fnOf "is_whole" "is_whole" (defArgs s_is_whole) (defBody s_is_whole) (defScope s_is_whole) .none kV0 dc0 pm0 an0 cd0 ct0), sl0⟩) (c0 : PySem.W.codeIn K cd0 "is_whole" = true) (k0 : PySem.W.keepIn K (.ref f0) = true)
    (a1 : PySem.W.nsIn K mainGlobals "check_number" = some (some (.ref f1))) (l1 : K.lookup f1 = some ⟨oc1, od1, .func (PySem.W.fnOf "check_number" "check_number" (defArgs s_check_number) (defBody s_check_number) (defScope s_check_number) .none kV1 dc1 pm1 an1 cd1 ct1), sl1⟩) (c1 : PySem.W.codeIn K cd1 "check_number" = true) (k1 : PySem.W.keepIn K (.ref f1) = true)
    (a2 : PySem.W.nsIn K mainGlobals "check_base" = some (some (.ref f2))) (l2 : K.lookup f2 = some ⟨oc2, od2, .func (PySem.W.fnOf "check_base" "check_base" (defArgs s_check_base) (defBody s_check_base) (defScope s_check_base) .none kV2 dc2 pm2 an2 cd2 ct2), sl2⟩) (c2 : PySem.W.codeIn K cd2 "check_base" = true) (k2 : PySem.W.keepIn K (.ref f2) = true)
    (a3 : PySem.W.nsIn K mainGlobals "figures_of" = some (some (.ref f3))) (l3 : K.lookup f3 = some ⟨oc3, od3, .func (PySem.W.fnOf "figures_of" "figures_of" (defArgs s_figures_of) (defBody s_figures_of) (defScope s_figures_of) .none kV3 dc3 pm3 an3 cd3 ct3), sl3⟩) (c3 : PySem.W.codeIn K cd3 "figures_of" = true) (k3 : PySem.W.keepIn K (.ref f3) = true)
    (a4 : PySem.W.nsIn K mainGlobals "figures" = some (some (.ref f4))) (l4 : K.lookup f4 = some ⟨oc4, od4, .func (PySem.W.fnOf "figures" "figures" (defArgs s_figures) (defBody s_figures) (defScope s_figures) .none kV4 dc4 pm4 an4 cd4 ct4), sl4⟩) (c4 : PySem.W.codeIn K cd4 "figures" = true) (k4 : PySem.W.keepIn K (.ref f4) = true)
    (a5 : PySem.W.nsIn K mainGlobals "number_from" = some (some (.ref f5))) (l5 : K.lookup f5 = some ⟨oc5, od5, .func (PySem.W.fnOf "number_from" "number_from" (defArgs s_number_from) (defBody s_number_from) (defScope s_number_from) .none kV5 dc5 pm5 an5 cd5 ct5), sl5⟩) (c5 : PySem.W.codeIn K cd5 "number_from" = true) (k5 : PySem.W.keepIn K (.ref f5) = true)
    (a6 : PySem.W.nsIn K mainGlobals "turned" = some (some (.ref f6))) (l6 : K.lookup f6 = some ⟨oc6, od6, .func (PySem.W.fnOf "turned" "turned" (defArgs s_turned) (defBody s_turned) (defScope s_turned) .none kV6 dc6 pm6 an6 cd6 ct6), sl6⟩) (c6 : PySem.W.codeIn K cd6 "turned" = true) (k6 : PySem.W.keepIn K (.ref f6) = true)
    (a7 : PySem.W.nsIn K mainGlobals "first_wrong" = some (some (.ref f7))) (l7 : K.lookup f7 = some ⟨oc7, od7, .func (PySem.W.fnOf "first_wrong" "first_wrong" (defArgs s_first_wrong) (defBody s_first_wrong) (defScope s_first_wrong) .none kV7 dc7 pm7 an7 cd7 ct7), sl7⟩) (c7 : PySem.W.codeIn K cd7 "first_wrong" = true) (k7 : PySem.W.keepIn K (.ref f7) = true)
    (a8 : PySem.W.nsIn K mainGlobals "power" = some (some (.ref f8))) (l8 : K.lookup f8 = some ⟨oc8, od8, .func (PySem.W.fnOf "power" "power" (defArgs s_power) (defBody s_power) (defScope s_power) .none kV8 dc8 pm8 an8 cd8 ct8), sl8⟩) (c8 : PySem.W.codeIn K cd8 "power" = true) (k8 : PySem.W.keepIn K (.ref f8) = true)
    (a9 : PySem.W.nsIn K mainGlobals "many_of" = some (some (.ref f9))) (l9 : K.lookup f9 = some ⟨oc9, od9, .func (PySem.W.fnOf "many_of" "many_of" (defArgs s_many_of) (defBody s_many_of) (defScope s_many_of) .none kV9 dc9 pm9 an9 cd9 ct9), sl9⟩) (c9 : PySem.W.codeIn K cd9 "many_of" = true) (k9 : PySem.W.keepIn K (.ref f9) = true)
    (a10 : PySem.W.nsIn K mainGlobals "made_of" = some (some (.ref f10))) (l10 : K.lookup f10 = some ⟨oc10, od10, .func (PySem.W.fnOf "made_of" "made_of" (defArgs s_made_of) (defBody s_made_of) (defScope s_made_of) .none kV10 dc10 pm10 an10 cd10 ct10), sl10⟩) (c10 : PySem.W.codeIn K cd10 "made_of" = true) (k10 : PySem.W.keepIn K (.ref f10) = true)
    (a11 : PySem.W.nsIn K mainGlobals "number_by" = some (some (.ref f11))) (l11 : K.lookup f11 = some ⟨oc11, od11, .func (PySem.W.fnOf "number_by" "number_by" (defArgs s_number_by) (defBody s_number_by) (defScope s_number_by) .none kV11 dc11 pm11 an11 cd11 ct11), sl11⟩) (c11 : PySem.W.codeIn K cd11 "number_by" = true) (k11 : PySem.W.keepIn K (.ref f11) = true)
    (a12 : PySem.W.nsIn K mainGlobals "below_of" = some (some (.ref f12))) (l12 : K.lookup f12 = some ⟨oc12, od12, .func (PySem.W.fnOf "below_of" "below_of" (defArgs s_below_of) (defBody s_below_of) (defScope s_below_of) .none kV12 dc12 pm12 an12 cd12 ct12), sl12⟩) (c12 : PySem.W.codeIn K cd12 "below_of" = true) (k12 : PySem.W.keepIn K (.ref f12) = true)
    (a13 : PySem.W.nsIn K mainGlobals "judged" = some (some (.ref f13))) (l13 : K.lookup f13 = some ⟨oc13, od13, .func (PySem.W.fnOf "judged" "judged" (defArgs s_judged) (defBody s_judged) (defScope s_judged) .none kV13 dc13 pm13 an13 cd13 ct13), sl13⟩) (c13 : PySem.W.codeIn K cd13 "judged" = true) (k13 : PySem.W.keepIn K (.ref f13) = true)
    (a14 : PySem.W.nsIn K mainGlobals "check_bounds" = some (some (.ref f14))) (l14 : K.lookup f14 = some ⟨oc14, od14, .func (PySem.W.fnOf "check_bounds" "check_bounds" (defArgs s_check_bounds) (defBody s_check_bounds) (defScope s_check_bounds) .none kV14 dc14 pm14 an14 cd14 ct14), sl14⟩) (c14 : PySem.W.codeIn K cd14 "check_bounds" = true) (k14 : PySem.W.keepIn K (.ref f14) = true)
    (a15 : PySem.W.nsIn K mainGlobals "between" = some (some (.ref f15))) (l15 : K.lookup f15 = some ⟨oc15, od15, .func (PySem.W.fnOf "between" "between" (defArgs s_between) (defBody s_between) (defScope s_between) .none kV15 dc15 pm15 an15 cd15 ct15), sl15⟩) (c15 : PySem.W.codeIn K cd15 "between" = true) (k15 : PySem.W.keepIn K (.ref f15) = true)
    (a16 : PySem.W.nsIn K mainGlobals "crossed" = some (some (.ref f16))) (l16 : K.lookup f16 = some ⟨oc16, od16, .func (PySem.W.fnOf "crossed" "crossed" (defArgs s_crossed) (defBody s_crossed) (defScope s_crossed) .none kV16 dc16 pm16 an16 cd16 ct16), sl16⟩) (c16 : PySem.W.codeIn K cd16 "crossed" = true) (k16 : PySem.W.keepIn K (.ref f16) = true)
    (a17 : PySem.W.nsIn K mainGlobals "_law_cell_at" = some (some (.ref f17))) (l17 : K.lookup f17 = some ⟨oc17, od17, .func (PySem.W.fnOf "_law_cell_at" "_law_cell_at" (defArgs s__law_cell_at) (defBody s__law_cell_at) (defScope s__law_cell_at) .none kV17 dc17 pm17 an17 cd17 ct17), sl17⟩) (c17 : PySem.W.codeIn K cd17 "_law_cell_at" = true) (k17 : PySem.W.keepIn K (.ref f17) = true)
    (a18 : PySem.W.nsIn K mainGlobals "_law_draw" = some (some (.ref f18))) (l18 : K.lookup f18 = some ⟨oc18, od18, .func (PySem.W.fnOf "_law_draw" "_law_draw" (defArgs s__law_draw) (defBody s__law_draw) (defScope s__law_draw) .none kV18 dc18 pm18 an18 cd18 ct18), sl18⟩) (c18 : PySem.W.codeIn K cd18 "_law_draw" = true) (k18 : PySem.W.keepIn K (.ref f18) = true)
    (a19 : PySem.W.nsIn K mainGlobals "_law_number" = some (some (.ref f19))) (l19 : K.lookup f19 = some ⟨oc19, od19, .func (PySem.W.fnOf "_law_number" "_law_number" (defArgs s__law_number) (defBody s__law_number) (defScope s__law_number) .none kV19 dc19 pm19 an19 cd19 ct19), sl19⟩) (c19 : PySem.W.codeIn K cd19 "_law_number" = true) (k19 : PySem.W.keepIn K (.ref f19) = true)
    (a20 : PySem.W.nsIn K mainGlobals "_law_anew" = some (some (.ref f20))) (l20 : K.lookup f20 = some ⟨oc20, od20, .func (PySem.W.fnOf "_law_anew" "_law_anew" (defArgs s__law_anew) (defBody s__law_anew) (defScope s__law_anew) .none kV20 dc20 pm20 an20 cd20 ct20), sl20⟩) (c20 : PySem.W.codeIn K cd20 "_law_anew" = true) (k20 : PySem.W.keepIn K (.ref f20) = true)
    (a21 : PySem.W.nsIn K mainGlobals "_law_judged_right" = some (some (.ref f21))) (l21 : K.lookup f21 = some ⟨oc21, od21, .func (PySem.W.fnOf "_law_judged_right" "_law_judged_right" (defArgs s__law_judged_right) (defBody s__law_judged_right) (defScope s__law_judged_right) .none kV21 dc21 pm21 an21 cd21 ct21), sl21⟩) (c21 : PySem.W.codeIn K cd21 "_law_judged_right" = true) (k21 : PySem.W.keepIn K (.ref f21) = true)
    (a22 : PySem.W.nsIn K mainGlobals "law" = some (some (.ref f22))) (l22 : K.lookup f22 = some ⟨oc22, od22, .func (PySem.W.fnOf "law" "law" (defArgs s_law) (defBody s_law) (defScope s_law) .none kV22 dc22 pm22 an22 (.ref cc_law) ct22), sl22⟩) (c22 : PySem.W.codeIn K (.ref cc_law) "law" = true) (k22 : PySem.W.keepIn K (.ref f22) = true)
    (cl_law : K.lookup cc_law = some ⟨ce_law, cdd_law, .fields cvs_law, csl_law⟩) (cp_law : cvs_law[11]? = some (.ref pp_law)) (cn_law : K.lookup pp_law = none)
    (z_abs : PySem.W.nsIn K mainGlobals "abs" = some none)
    (z_bool : PySem.W.nsIn K mainGlobals "bool" = some none)
    (z_enumerate : PySem.W.nsIn K mainGlobals "enumerate" = some none)
    (z_int : PySem.W.nsIn K mainGlobals "int" = some none)
    (z_isinstance : PySem.W.nsIn K mainGlobals "isinstance" = some none)
    (z_len : PySem.W.nsIn K mainGlobals "len" = some none)
    (z_list : PySem.W.nsIn K mainGlobals "list" = some none)
    (z_max : PySem.W.nsIn K mainGlobals "max" = some none)
    (z_min : PySem.W.nsIn K mainGlobals "min" = some none)
    (z_range : PySem.W.nsIn K mainGlobals "range" = some none)
    (z_sorted : PySem.W.nsIn K mainGlobals "sorted" = some none)
    (z_str : PySem.W.nsIn K mainGlobals "str" = some none)
    (z_sum : PySem.W.nsIn K mainGlobals "sum" = some none)
    (oa_Answer : PySem.W.nsIn K mainGlobals "Answer" = some (some (.ref c_Answer))) (ok_Answer : PySem.W.keepIn K (.ref c_Answer) = true) (op_Answer : PySem.W.plainGet K c_Answer Str.empty = true) (ed_Answer : PySem.W.hasDictIn K c_Answer = true) (oo_Answer : PySem.W.plainOver K c_Answer = true) (os_Answer : PySem.W.findIn K (.ref c_Answer) "__setattr__" = some (some (.builtin "object.__setattr__")))
    (el_Answer : PySem.W.findIn K (.ref c_Answer) "__class__" = some (some (.builtin "object.__class__"))) (em_Answer : PySem.W.mroIn K c_Answer (.type "object") = some true) (et_Answer : PySem.W.typeIn K (.ref c_Answer) = some (.type "type")) (om_Answer : PySem.W.makesIn K c_Answer = true)
    (oi_Answer : PySem.W.findIn K (.ref c_Answer) "__init__" = some (some (.builtin "object.__init__")))
    (oa_Alike : PySem.W.nsIn K mainGlobals "Alike" = some (some (.ref c_Alike))) (ok_Alike : PySem.W.keepIn K (.ref c_Alike) = true) (op_Alike : PySem.W.plainGet K c_Alike Str.empty = true) (ed_Alike : PySem.W.hasDictIn K c_Alike = true) (oo_Alike : PySem.W.plainOver K c_Alike = true) (os_Alike : PySem.W.findIn K (.ref c_Alike) "__setattr__" = some (some (.builtin "object.__setattr__")))
    (el_Alike : PySem.W.findIn K (.ref c_Alike) "__class__" = some (some (.builtin "object.__class__"))) (em_Alike : PySem.W.mroIn K c_Alike (.type "object") = some true) (et_Alike : PySem.W.typeIn K (.ref c_Alike) = some (.type "type")) (om_Alike : PySem.W.makesIn K c_Alike = true)
    (ma_Alike_shows : PySem.W.findIn K (.ref c_Alike) "shows" = some (some (.ref f_Alike_shows))) (mi_Alike_shows : PySem.W.isFn K (.ref f_Alike_shows) = true) (ml_Alike_shows : K.lookup f_Alike_shows = some ⟨oc_Alike_shows, od_Alike_shows, .func (PySem.W.fnOf "shows" "Alike.shows" (defArgs s_Alike_shows) (defBody s_Alike_shows) (defScope s_Alike_shows) .none kV_Alike_shows dc_Alike_shows pm_Alike_shows an_Alike_shows cd_Alike_shows ct_Alike_shows), sl_Alike_shows⟩) (mc_Alike_shows : PySem.W.codeIn K cd_Alike_shows "Alike.shows" = true) (mk_Alike_shows : PySem.W.keepIn K (.ref f_Alike_shows) = true)
    (oi_Alike : PySem.W.findIn K (.ref c_Alike) "__init__" = some (some (.builtin "object.__init__")))
    (oa_Unlike : PySem.W.nsIn K mainGlobals "Unlike" = some (some (.ref c_Unlike))) (ok_Unlike : PySem.W.keepIn K (.ref c_Unlike) = true) (op_Unlike : PySem.W.plainGet K c_Unlike Str.empty = true) (ed_Unlike : PySem.W.hasDictIn K c_Unlike = true) (oo_Unlike : PySem.W.plainOver K c_Unlike = true) (os_Unlike : PySem.W.findIn K (.ref c_Unlike) "__setattr__" = some (some (.builtin "object.__setattr__")))
    (el_Unlike : PySem.W.findIn K (.ref c_Unlike) "__class__" = some (some (.builtin "object.__class__"))) (em_Unlike : PySem.W.mroIn K c_Unlike (.type "object") = some true) (et_Unlike : PySem.W.typeIn K (.ref c_Unlike) = some (.type "type")) (om_Unlike : PySem.W.makesIn K c_Unlike = true)
    (ma_Unlike___init__ : PySem.W.findIn K (.ref c_Unlike) "__init__" = some (some (.ref f_Unlike___init__))) (mi_Unlike___init__ : PySem.W.isFn K (.ref f_Unlike___init__) = true) (ml_Unlike___init__ : K.lookup f_Unlike___init__ = some ⟨oc_Unlike___init__, od_Unlike___init__, .func (PySem.W.fnOf "__init__" "Unlike.__init__" (defArgs s_Unlike___init__) (defBody s_Unlike___init__) (defScope s_Unlike___init__) .none kV_Unlike___init__ dc_Unlike___init__ pm_Unlike___init__ an_Unlike___init__ cd_Unlike___init__ ct_Unlike___init__), sl_Unlike___init__⟩) (mc_Unlike___init__ : PySem.W.codeIn K cd_Unlike___init__ "Unlike.__init__" = true) (mk_Unlike___init__ : PySem.W.keepIn K (.ref f_Unlike___init__) = true)
    (ma_Unlike_shows : PySem.W.findIn K (.ref c_Unlike) "shows" = some (some (.ref f_Unlike_shows))) (mi_Unlike_shows : PySem.W.isFn K (.ref f_Unlike_shows) = true) (ml_Unlike_shows : K.lookup f_Unlike_shows = some ⟨oc_Unlike_shows, od_Unlike_shows, .func (PySem.W.fnOf "shows" "Unlike.shows" (defArgs s_Unlike_shows) (defBody s_Unlike_shows) (defScope s_Unlike_shows) .none kV_Unlike_shows dc_Unlike_shows pm_Unlike_shows an_Unlike_shows cd_Unlike_shows ct_Unlike_shows), sl_Unlike_shows⟩) (mc_Unlike_shows : PySem.W.codeIn K cd_Unlike_shows "Unlike.shows" = true) (mk_Unlike_shows : PySem.W.keepIn K (.ref f_Unlike_shows) = true)
    (on_Unlike_base : PySem.W.findIn K (.ref c_Unlike) "base" = some none)
    (on_Unlike_place : PySem.W.findIn K (.ref c_Unlike) "place" = some none)
    (esp : PySem.W.specialIn K (.builtin "object.__class__") "__get__" = some (some (.builtin "getset_descriptor.__get__"))) (etk : PySem.W.takesIn K (.builtin "object.__class__") = some true)
    (ei_Alike_Answer : PySem.W.subIn K (.ref c_Alike) (.ref c_Answer) = some true)
    (ei_Alike_Alike : PySem.W.subIn K (.ref c_Alike) (.ref c_Alike) = some true)
    (ei_Alike_Unlike : PySem.W.subIn K (.ref c_Alike) (.ref c_Unlike) = some false)
    (en_Alike_Unlike : (Value.ref c_Alike == Value.ref c_Unlike) = false)
    (ei_Unlike_Answer : PySem.W.subIn K (.ref c_Unlike) (.ref c_Answer) = some true)
    (ei_Unlike_Alike : PySem.W.subIn K (.ref c_Unlike) (.ref c_Alike) = some false)
    (en_Unlike_Alike : (Value.ref c_Unlike == Value.ref c_Alike) = false)
    (ei_Unlike_Unlike : PySem.W.subIn K (.ref c_Unlike) (.ref c_Unlike) = some true)
    (q_GREATEST_BASE : PySem.W.nsIn K mainGlobals "GREATEST_BASE" = some (some (.int 1000 t_GREATEST_BASE)))
    (q_WIDEST : PySem.W.nsIn K mainGlobals "WIDEST" = some (some (.int 120 t_WIDEST)))
    (q_MOST_TURNED : PySem.W.nsIn K mainGlobals "MOST_TURNED" = some (some (.int 3 t_MOST_TURNED)))
    (q_CROSSED_BASE : PySem.W.nsIn K mainGlobals "CROSSED_BASE" = some (some (.int 12 t_CROSSED_BASE))) :
    LawAtG l w K CX0 8 63 "_law_script" mg fa h := by
  have e : fa = f22 := Value.ref.inj (Option.some.inj (hfa.symm.trans (PySem.W.mg_of X G a22)))
  rw [e]
  let T : Tx K mg := {
      a_is_whole := f0, d_is_whole := _, F_is_whole := fun_mk (st := s_is_whole) l0 c0 k0, b_is_whole := (fun_mk (st := s_is_whole) l0 c0 k0).binds (ps := ["thing"]) fun _ _ _ _ _ _ us hl => match us, hl with | [_], _ => rfl, g_is_whole := PySem.W.mg_of X G a0,
      a_check_number := f1, d_check_number := _, F_check_number := fun_mk (st := s_check_number) l1 c1 k1, b_check_number := (fun_mk (st := s_check_number) l1 c1 k1).binds (ps := ["number"]) fun _ _ _ _ _ _ us hl => match us, hl with | [_], _ => rfl, g_check_number := PySem.W.mg_of X G a1,
      a_check_base := f2, d_check_base := _, F_check_base := fun_mk (st := s_check_base) l2 c2 k2, b_check_base := (fun_mk (st := s_check_base) l2 c2 k2).binds (ps := ["base"]) fun _ _ _ _ _ _ us hl => match us, hl with | [_], _ => rfl, g_check_base := PySem.W.mg_of X G a2,
      a_figures_of := f3, d_figures_of := _, F_figures_of := fun_mk (st := s_figures_of) l3 c3 k3, b_figures_of := (fun_mk (st := s_figures_of) l3 c3 k3).binds (ps := ["number", "base"]) fun _ _ _ _ _ _ us hl => match us, hl with | [_, _], _ => rfl, g_figures_of := PySem.W.mg_of X G a3,
      a_figures := f4, d_figures := _, F_figures := fun_mk (st := s_figures) l4 c4 k4, b_figures := (fun_mk (st := s_figures) l4 c4 k4).binds (ps := ["number", "base"]) fun _ _ _ _ _ _ us hl => match us, hl with | [_, _], _ => rfl, g_figures := PySem.W.mg_of X G a4,
      a_number_from := f5, d_number_from := _, F_number_from := fun_mk (st := s_number_from) l5 c5 k5, b_number_from := (fun_mk (st := s_number_from) l5 c5 k5).binds (ps := ["row", "base"]) fun _ _ _ _ _ _ us hl => match us, hl with | [_, _], _ => rfl, g_number_from := PySem.W.mg_of X G a5,
      a_turned := f6, d_turned := _, F_turned := fun_mk (st := s_turned) l6 c6 k6, b_turned := (fun_mk (st := s_turned) l6 c6 k6).binds (ps := ["number", "base"]) fun _ _ _ _ _ _ us hl => match us, hl with | [_, _], _ => rfl, g_turned := PySem.W.mg_of X G a6,
      a_first_wrong := f7, d_first_wrong := _, F_first_wrong := fun_mk (st := s_first_wrong) l7 c7 k7, b_first_wrong := (fun_mk (st := s_first_wrong) l7 c7 k7).binds (ps := ["number", "base"]) fun _ _ _ _ _ _ us hl => match us, hl with | [_, _], _ => rfl, g_first_wrong := PySem.W.mg_of X G a7,
      a_power := f8, d_power := _, F_power := fun_mk (st := s_power) l8 c8 k8, b_power := (fun_mk (st := s_power) l8 c8 k8).binds (ps := ["base", "times"]) fun _ _ _ _ _ _ us hl => match us, hl with | [_, _], _ => rfl, g_power := PySem.W.mg_of X G a8,
      a_many_of := f9, d_many_of := _, F_many_of := fun_mk (st := s_many_of) l9 c9 k9, b_many_of := (fun_mk (st := s_many_of) l9 c9 k9).binds (ps := ["many", "base"]) fun _ _ _ _ _ _ us hl => match us, hl with | [_, _], _ => rfl, g_many_of := PySem.W.mg_of X G a9,
      a_made_of := f10, d_made_of := _, F_made_of := fun_mk (st := s_made_of) l10 c10 k10, b_made_of := (fun_mk (st := s_made_of) l10 c10 k10).binds (ps := ["half", "many", "base"]) fun _ _ _ _ _ _ us hl => match us, hl with | [_, _, _], _ => rfl, g_made_of := PySem.W.mg_of X G a10,
      a_number_by := f11, d_number_by := _, F_number_by := fun_mk (st := s_number_by) l11 c11 k11, b_number_by := (fun_mk (st := s_number_by) l11 c11 k11).binds (ps := ["at", "base"]) fun _ _ _ _ _ _ us hl => match us, hl with | [_, _], _ => rfl, g_number_by := PySem.W.mg_of X G a11,
      a_below_of := f12, d_below_of := _, F_below_of := fun_mk (st := s_below_of) l12 c12 k12, b_below_of := (fun_mk (st := s_below_of) l12 c12 k12).binds (ps := ["number", "base"]) fun _ _ _ _ _ _ us hl => match us, hl with | [_, _], _ => rfl, g_below_of := PySem.W.mg_of X G a12,
      a_judged := f13, d_judged := _, F_judged := fun_mk (st := s_judged) l13 c13 k13, b_judged := (fun_mk (st := s_judged) l13 c13 k13).binds (ps := ["number", "one", "other"]) fun _ _ _ _ _ _ us hl => match us, hl with | [_, _, _], _ => rfl, g_judged := PySem.W.mg_of X G a13,
      a_check_bounds := f14, d_check_bounds := _, F_check_bounds := fun_mk (st := s_check_bounds) l14 c14 k14, b_check_bounds := (fun_mk (st := s_check_bounds) l14 c14 k14).binds (ps := ["low", "high"]) fun _ _ _ _ _ _ us hl => match us, hl with | [_, _], _ => rfl, g_check_bounds := PySem.W.mg_of X G a14,
      a_between := f15, d_between := _, F_between := fun_mk (st := s_between) l15 c15 k15, b_between := (fun_mk (st := s_between) l15 c15 k15).binds (ps := ["low", "high", "one", "other"]) fun _ _ _ _ _ _ us hl => match us, hl with | [_, _, _, _], _ => rfl, g_between := PySem.W.mg_of X G a15,
      a_crossed := f16, d_crossed := _, F_crossed := fun_mk (st := s_crossed) l16 c16 k16, b_crossed := (fun_mk (st := s_crossed) l16 c16 k16).binds (ps := ["many", "one", "other"]) fun _ _ _ _ _ _ us hl => match us, hl with | [_, _, _], _ => rfl, g_crossed := PySem.W.mg_of X G a16,
      a__law_cell_at := f17, d__law_cell_at := _, F__law_cell_at := fun_mk (st := s__law_cell_at) l17 c17 k17, b__law_cell_at := (fun_mk (st := s__law_cell_at) l17 c17 k17).binds (ps := ["_law_script", "_law_k"]) fun _ _ _ _ _ _ us hl => match us, hl with | [_, _], _ => rfl, g__law_cell_at := PySem.W.mg_of X G a17,
      a__law_draw := f18, d__law_draw := _, F__law_draw := fun_mk (st := s__law_draw) l18 c18 k18, b__law_draw := (fun_mk (st := s__law_draw) l18 c18 k18).binds (ps := ["_law_cell", "_law_k", "_law_most"]) fun _ _ _ _ _ _ us hl => match us, hl with | [_, _, _], _ => rfl, g__law_draw := PySem.W.mg_of X G a18,
      a__law_number := f19, d__law_number := _, F__law_number := fun_mk (st := s__law_number) l19 c19 k19, b__law_number := (fun_mk (st := s__law_number) l19 c19 k19).binds (ps := ["_law_cell", "_law_k", "_law_limit"]) fun _ _ _ _ _ _ us hl => match us, hl with | [_, _, _], _ => rfl, g__law_number := PySem.W.mg_of X G a19,
      a__law_anew := f20, d__law_anew := _, F__law_anew := fun_mk (st := s__law_anew) l20 c20 k20, b__law_anew := (fun_mk (st := s__law_anew) l20 c20 k20).binds (ps := ["_law_ask", "_law_args", "_law_others"]) fun _ _ _ _ _ _ us hl => match us, hl with | [_, _, _], _ => rfl, g__law_anew := PySem.W.mg_of X G a20,
      a__law_judged_right := f21, d__law_judged_right := _, F__law_judged_right := fun_mk (st := s__law_judged_right) l21 c21 k21, b__law_judged_right := (fun_mk (st := s__law_judged_right) l21 c21 k21).binds (ps := ["_law_number_here", "_law_one", "_law_other"]) fun _ _ _ _ _ _ us hl => match us, hl with | [_, _, _], _ => rfl, g__law_judged_right := PySem.W.mg_of X G a21,
      a_law := f22, d_law := _, F_law := fun_mk (st := s_law) l22 c22 k22, b_law := (fun_mk (st := s_law) l22 c22 k22).binds (ps := ["_law_script"]) fun _ _ _ _ _ _ us hl => match us, hl with | [_], _ => rfl, g_law := PySem.W.mg_of X G a22,
      a_Answer := c_Answer, g_Answer := PySem.W.mg_of X G oa_Answer, k_Answer := ok_Answer, C_Answer := ⟨⟨op_Answer, ed_Answer, oo_Answer, os_Answer⟩, el_Answer, esp, etk, em_Answer⟩,
      mk0_Answer := om_Answer, i0_Answer := oi_Answer,
      a_Alike := c_Alike, g_Alike := PySem.W.mg_of X G oa_Alike, k_Alike := ok_Alike, C_Alike := ⟨⟨op_Alike, ed_Alike, oo_Alike, os_Alike⟩, el_Alike, esp, etk, em_Alike⟩,
      a_Alike_shows := f_Alike_shows, d_Alike_shows := _, F_Alike_shows := fun_mk (st := s_Alike_shows) ml_Alike_shows mc_Alike_shows mk_Alike_shows, b_Alike_shows := (fun_mk (st := s_Alike_shows) ml_Alike_shows mc_Alike_shows mk_Alike_shows).binds (ps := ["self", "number", "one", "other"]) fun _ _ _ _ _ _ us hl => match us, hl with | [_, _, _, _], _ => rfl,
      M_Alike_shows := ⟨ma_Alike_shows, mi_Alike_shows, mk_Alike_shows⟩,
      mk0_Alike := om_Alike, i0_Alike := oi_Alike,
      a_Unlike := c_Unlike, g_Unlike := PySem.W.mg_of X G oa_Unlike, k_Unlike := ok_Unlike, C_Unlike := ⟨⟨op_Unlike, ed_Unlike, oo_Unlike, os_Unlike⟩, el_Unlike, esp, etk, em_Unlike⟩,
      a_Unlike___init__ := f_Unlike___init__, d_Unlike___init__ := _, F_Unlike___init__ := fun_mk (st := s_Unlike___init__) ml_Unlike___init__ mc_Unlike___init__ mk_Unlike___init__, b_Unlike___init__ := (fun_mk (st := s_Unlike___init__) ml_Unlike___init__ mc_Unlike___init__ mk_Unlike___init__).binds (ps := ["self", "base", "place"]) fun _ _ _ _ _ _ us hl => match us, hl with | [_, _, _], _ => rfl,
      Mk_Unlike := ⟨om_Unlike, ma_Unlike___init__, mi_Unlike___init__, ok_Unlike⟩,
      a_Unlike_shows := f_Unlike_shows, d_Unlike_shows := _, F_Unlike_shows := fun_mk (st := s_Unlike_shows) ml_Unlike_shows mc_Unlike_shows mk_Unlike_shows, b_Unlike_shows := (fun_mk (st := s_Unlike_shows) ml_Unlike_shows mc_Unlike_shows mk_Unlike_shows).binds (ps := ["self", "number", "one", "other"]) fun _ _ _ _ _ _ us hl => match us, hl with | [_, _, _, _], _ => rfl,
      M_Unlike_shows := ⟨ma_Unlike_shows, mi_Unlike_shows, mk_Unlike_shows⟩,
      n_Unlike_base := on_Unlike_base,
      n_Unlike_place := on_Unlike_place,
      i_Alike_Answer := kit_own (Or.inl rfl) ed_Answer et_Answer ei_Alike_Answer,
      i_Alike_Alike := kit_own (Or.inl rfl) ed_Alike et_Alike ei_Alike_Alike,
      i_Alike_Unlike := kit_own (Or.inr en_Alike_Unlike) ed_Unlike et_Unlike ei_Alike_Unlike,
      i_Unlike_Answer := kit_own (Or.inl rfl) ed_Answer et_Answer ei_Unlike_Answer,
      i_Unlike_Alike := kit_own (Or.inr en_Unlike_Alike) ed_Alike et_Alike ei_Unlike_Alike,
      i_Unlike_Unlike := kit_own (Or.inl rfl) ed_Unlike et_Unlike ei_Unlike_Unlike,
      c_law := cc_law, p_law := pp_law, L_law := ⟨⟨_, _, _, _, _, _, _, _, rfl, l22⟩, c22⟩,
      m_abs := PySem.W.mg_none_of X G z_abs,
      m_bool := PySem.W.mg_none_of X G z_bool,
      m_enumerate := PySem.W.mg_none_of X G z_enumerate,
      m_int := PySem.W.mg_none_of X G z_int,
      m_isinstance := PySem.W.mg_none_of X G z_isinstance,
      m_len := PySem.W.mg_none_of X G z_len,
      m_list := PySem.W.mg_none_of X G z_list,
      m_max := PySem.W.mg_none_of X G z_max,
      m_min := PySem.W.mg_none_of X G z_min,
      m_range := PySem.W.mg_none_of X G z_range,
      m_sorted := PySem.W.mg_none_of X G z_sorted,
      m_str := PySem.W.mg_none_of X G z_str,
      m_sum := PySem.W.mg_none_of X G z_sum,
      k_GREATEST_BASE := t_GREATEST_BASE, c_GREATEST_BASE := PySem.W.mg_of X G q_GREATEST_BASE,
      k_WIDEST := t_WIDEST, c_WIDEST := PySem.W.mg_of X G q_WIDEST,
      k_MOST_TURNED := t_MOST_TURNED, c_MOST_TURNED := PySem.W.mg_of X G q_MOST_TURNED,
      k_CROSSED_BASE := t_CROSSED_BASE, c_CROSSED_BASE := PySem.W.mg_of X G q_CROSSED_BASE }
  have o1 : ∀ p ∈ ([(cc_law, pp_law)] : List (Addr × Addr)), h.get? p.2 = some { cls := .none, data := .fields #[] } := by
    intro p hp
    obtain rfl := List.mem_singleton.mp hp
    exact (hO "law" (by simp) f22 cc_law pp_law _ _ _ _ _ _ a22 l22 rfl rfl cl_law cp_law).2
  have o2 : ∀ p ∈ ([(cc_law, pp_law)] : List (Addr × Addr)), K.lookup p.2 = none := by
    intro p hp
    obtain rfl := List.mem_singleton.mp hp
    exact cn_law
  have o3 : ∀ p ∈ ([(cc_law, pp_law)] : List (Addr × Addr)), PySem.W.CodeHd h p.1 p.2 := by
    intro p hp
    obtain rfl := List.mem_singleton.mp hp
    exact (hO "law" (by simp) f22 cc_law pp_law _ _ _ _ _ _ a22 l22 rfl rfl cl_law cp_law).1
  have o4 : ∀ H : Hp, (∀ p ∈ ([(cc_law, pp_law)] : List (Addr × Addr)), H p.2 = some (.tbl #[])) → LamX.Tabs (tbs T) H := fun H hT => by
    intro q hq
    simp only [tbs, List.mem_cons, List.not_mem_nil, or_false] at hq
    rw [hq]
    exact LamX.TabS.nil (hT (cc_law, pp_law) (by simp))
  exact ⟨_, [(cc_law, pp_law)], sp_law T, o1, o2, o3, fun s v => .of_eq rfl, fun H a ns hl hb hT hS => ⟨a, ns, rfl, hS, fun n hn => Bt.cell_bits (hb n hn), o4 H hT, fun _ => rfl⟩, fun base _ _ hB => ok_law T ⟨hB (cc_law, pp_law) (by simp)⟩⟩
end Bt
open PySem PySem.W PyProof.Rows
set_option maxHeartbeats 0 in
theorem PySem.Challenge.cw_bothread_k10_whole_anew_holds : PySem.Challenge.rw_bothread_k10_whole_anew.Holds := by
  w_on; o_law; k_head; (case hw => w_witness2)
  k_fill
  refine Bt.walk_lamG (l := PySem.Challenge.rw_bothread_k10_whole_anew) (n := 63) (k := 8) (x := "_law_script") (C := fun _ => L2.CX0) ["law"] rfl (by decide) rfl ⟨rfl, by decide, by decide⟩ (by decide +kernel) (fun w h Y => PySem.W.km_in_of Y) ?F (fun _ _ _ _ _ h => h)
  case F =>
    intro w mg fa h KX G hmg hO
    refine' Bt.all_mk KX G hmg hO ?a0 ?l0 ?c0 ?k0 ?a1 ?l1 ?c1 ?k1 ?a2 ?l2 ?c2 ?k2 ?a3 ?l3 ?c3 ?k3 ?a4 ?l4 ?c4 ?k4 ?a5 ?l5 ?c5 ?k5 ?a6 ?l6 ?c6 ?k6 ?a7 ?l7 ?c7 ?k7 ?a8 ?l8 ?c8 ?k8 ?a9 ?l9 ?c9 ?k9 ?a10 ?l10 ?c10 ?k10 ?a11 ?l11 ?c11 ?k11 ?a12 ?l12 ?c12 ?k12 ?a13 ?l13 ?c13 ?k13 ?a14 ?l14 ?c14 ?k14 ?a15 ?l15 ?c15 ?k15 ?a16 ?l16 ?c16 ?k16 ?a17 ?l17 ?c17 ?k17 ?a18 ?l18 ?c18 ?k18 ?a19 ?l19 ?c19 ?k19 ?a20 ?l20 ?c20 ?k20 ?a21 ?l21 ?c21 ?k21 ?a22 ?l22 ?c22 ?k22 ?cl_law ?cp_law ?cn_law ?z_abs ?z_bool ?z_enumerate ?z_int ?z_isinstance ?z_len ?z_list ?z_max ?z_min ?z_range ?z_sorted ?z_str ?z_sum ?oa_Answer ?ok_Answer ?op_Answer ?ed_Answer ?oo_Answer ?os_Answer ?el_Answer ?em_Answer ?et_Answer ?om_Answer ?oi_Answer ?oa_Alike ?ok_Alike ?op_Alike ?ed_Alike ?oo_Alike ?os_Alike ?el_Alike ?em_Alike ?et_Alike ?om_Alike ?ma_Alike_shows ?mi_Alike_shows ?ml_Alike_shows ?mc_Alike_shows ?mk_Alike_shows ?oi_Alike ?oa_Unlike ?ok_Unlike ?op_Unlike ?ed_Unlike ?oo_Unlike ?os_Unlike ?el_Unlike ?em_Unlike ?et_Unlike ?om_Unlike ?ma_Unlike___init__ ?mi_Unlike___init__ ?ml_Unlike___init__ ?mc_Unlike___init__ ?mk_Unlike___init__ ?ma_Unlike_shows ?mi_Unlike_shows ?ml_Unlike_shows ?mc_Unlike_shows ?mk_Unlike_shows ?on_Unlike_base ?on_Unlike_place ?esp ?etk ?ei_Alike_Answer ?ei_Alike_Alike ?ei_Alike_Unlike ?en_Alike_Unlike ?ei_Unlike_Answer ?ei_Unlike_Alike ?en_Unlike_Alike ?ei_Unlike_Unlike ?q_GREATEST_BASE ?q_WIDEST ?q_MOST_TURNED ?q_CROSSED_BASE
    (case a0 => k_is)
    (case l0 => k_is)
    (case c0 => k_is)
    (case k0 => k_is)
    (case a1 => k_is)
    (case l1 => k_is)
    (case c1 => k_is)
    (case k1 => k_is)
    (case a2 => k_is)
    (case l2 => k_is)
    (case c2 => k_is)
    (case k2 => k_is)
    (case a3 => k_is)
    (case l3 => k_is)
    (case c3 => k_is)
    (case k3 => k_is)
    (case a4 => k_is)
    (case l4 => k_is)
    (case c4 => k_is)
    (case k4 => k_is)
    (case a5 => k_is)
    (case l5 => k_is)
    (case c5 => k_is)
    (case k5 => k_is)
    (case a6 => k_is)
    (case l6 => k_is)
    (case c6 => k_is)
    (case k6 => k_is)
    (case a7 => k_is)
    (case l7 => k_is)
    (case c7 => k_is)
    (case k7 => k_is)
    (case a8 => k_is)
    (case l8 => k_is)
    (case c8 => k_is)
    (case k8 => k_is)
    (case a9 => k_is)
    (case l9 => k_is)
    (case c9 => k_is)
    (case k9 => k_is)
    (case a10 => k_is)
    (case l10 => k_is)
    (case c10 => k_is)
    (case k10 => k_is)
    (case a11 => k_is)
    (case l11 => k_is)
    (case c11 => k_is)
    (case k11 => k_is)
    (case a12 => k_is)
    (case l12 => k_is)
    (case c12 => k_is)
    (case k12 => k_is)
    (case a13 => k_is)
    (case l13 => k_is)
    (case c13 => k_is)
    (case k13 => k_is)
    (case a14 => k_is)
    (case l14 => k_is)
    (case c14 => k_is)
    (case k14 => k_is)
    (case a15 => k_is)
    (case l15 => k_is)
    (case c15 => k_is)
    (case k15 => k_is)
    (case a16 => k_is)
    (case l16 => k_is)
    (case c16 => k_is)
    (case k16 => k_is)
    (case a17 => k_is)
    (case l17 => k_is)
    (case c17 => k_is)
    (case k17 => k_is)
    (case a18 => k_is)
    (case l18 => k_is)
    (case c18 => k_is)
    (case k18 => k_is)
    (case a19 => k_is)
    (case l19 => k_is)
    (case c19 => k_is)
    (case k19 => k_is)
    (case a20 => k_is)
    (case l20 => k_is)
    (case c20 => k_is)
    (case k20 => k_is)
    (case a21 => k_is)
    (case l21 => k_is)
    (case c21 => k_is)
    (case k21 => k_is)
    (case a22 => k_is)
    (case l22 => k_is)
    (case c22 => k_is)
    (case k22 => k_is)
    (case cl_law => k_is)
    (case cp_law => rfl)
    (case cn_law => rfl)
    (case z_abs => k_is)
    (case z_bool => k_is)
    (case z_enumerate => k_is)
    (case z_int => k_is)
    (case z_isinstance => k_is)
    (case z_len => k_is)
    (case z_list => k_is)
    (case z_max => k_is)
    (case z_min => k_is)
    (case z_range => k_is)
    (case z_sorted => k_is)
    (case z_str => k_is)
    (case z_sum => k_is)
    (case oa_Answer => k_is)
    (case ok_Answer => k_is)
    (case op_Answer => k_is)
    (case ed_Answer => k_is)
    (case oo_Answer => k_is)
    (case os_Answer => k_is)
    (case el_Answer => k_is)
    (case em_Answer => k_is)
    (case et_Answer => k_is)
    (case om_Answer => k_is)
    (case oi_Answer => k_is)
    (case oa_Alike => k_is)
    (case ok_Alike => k_is)
    (case op_Alike => k_is)
    (case ed_Alike => k_is)
    (case oo_Alike => k_is)
    (case os_Alike => k_is)
    (case el_Alike => k_is)
    (case em_Alike => k_is)
    (case et_Alike => k_is)
    (case om_Alike => k_is)
    (case ma_Alike_shows => k_is)
    (case mi_Alike_shows => k_is)
    (case ml_Alike_shows => k_is)
    (case mc_Alike_shows => k_is)
    (case mk_Alike_shows => k_is)
    (case oi_Alike => k_is)
    (case oa_Unlike => k_is)
    (case ok_Unlike => k_is)
    (case op_Unlike => k_is)
    (case ed_Unlike => k_is)
    (case oo_Unlike => k_is)
    (case os_Unlike => k_is)
    (case el_Unlike => k_is)
    (case em_Unlike => k_is)
    (case et_Unlike => k_is)
    (case om_Unlike => k_is)
    (case ma_Unlike___init__ => k_is)
    (case mi_Unlike___init__ => k_is)
    (case ml_Unlike___init__ => k_is)
    (case mc_Unlike___init__ => k_is)
    (case mk_Unlike___init__ => k_is)
    (case ma_Unlike_shows => k_is)
    (case mi_Unlike_shows => k_is)
    (case ml_Unlike_shows => k_is)
    (case mc_Unlike_shows => k_is)
    (case mk_Unlike_shows => k_is)
    (case on_Unlike_base => k_is)
    (case on_Unlike_place => k_is)
    (case esp => k_is)
    (case etk => k_is)
    (case ei_Alike_Answer => k_is)
    (case ei_Alike_Alike => k_is)
    (case ei_Alike_Unlike => k_is)
    (case en_Alike_Unlike => rfl)
    (case ei_Unlike_Answer => k_is)
    (case ei_Unlike_Alike => k_is)
    (case en_Unlike_Alike => rfl)
    (case ei_Unlike_Unlike => k_is)
    (case q_GREATEST_BASE => k_is)
    (case q_WIDEST => k_is)
    (case q_MOST_TURNED => k_is)
    (case q_CROSSED_BASE => k_is)
