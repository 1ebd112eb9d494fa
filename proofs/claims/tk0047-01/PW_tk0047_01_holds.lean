import PyProof.Rows.All
import Wide.All
import OpenK.AllK
import Wide.FinOn
import PySem.Challenge.RW_tk0047_01
set_option Elab.async false
set_option linter.all false

namespace Mine
open PySem PySem.W PyProof.Rows
set_option maxRecDepth 100000 in
set_option maxHeartbeats 8000000 in
open_top hd for PySem.Challenge.rw_tk0047_01
end Mine

set_option Elab.async false
set_option linter.all false
namespace Mine
open PySem

-- operations of the model on naturals
theorem bitAnd_nat (x y : Nat) : Builtin.bitAnd x y = ((x &&& y : Nat) : Int) := by
  unfold Builtin.bitAnd
  simp
theorem bitOr_nat (x y : Nat) : Builtin.bitOr x y = ((x ||| y : Nat) : Int) := by
  have h1 : ∀ z : Nat, Builtin.bitNot (z : Int) = -(z : Int) - 1 := fun z => by unfold Builtin.bitNot; (simp; done)
  have h2 : ∀ z : Int, Builtin.bitNot z = -z - 1 := fun z => by unfold Builtin.bitNot; (simp; done)
  unfold Builtin.bitOr Builtin.bitAnd
  have hx : decide (0 ≤ Builtin.bitNot (x : Int)) = false := by rw [h1]; simp; lia
  have hy : decide (0 ≤ Builtin.bitNot (y : Int)) = false := by rw [h1]; simp; lia
  simp only [hx, hy]
  rw [h2 (Builtin.bitNot (x : Int)), h2 (Builtin.bitNot (y : Int)), h1, h1, h2, h2]
  have e1 : (-(-(x : Int) - 1) - 1).toNat = x := by lia
  have e2 : (-(-(y : Int) - 1) - 1).toNat = y := by lia
  rw [e1, e2]
  lia
theorem bitAnd_mask (x w : Nat) : Builtin.bitAnd x ((2 : Int) ^ w - 1) = ((x % 2 ^ w : Nat) : Int) := by
  have e : ((2 : Int) ^ w - 1) = ((2 ^ w - 1 : Nat) : Int) := by
    have : 0 < 2 ^ w := Nat.two_pow_pos w
    rw [Int.ofNat_sub (by (assumption))]
    simp
  rw [e, bitAnd_nat, Nat.and_two_pow_sub_one_eq_mod]
theorem bitOr_add (x y w : Nat) (h : y < 2 ^ w) : Builtin.bitOr ((x * 2 ^ w : Nat) : Int) y = ((x * 2 ^ w + y : Nat) : Int) := by
  rw [bitOr_nat]
  have := Nat.shiftLeft_add_eq_or_of_lt h x
  rw [Nat.shiftLeft_eq] at this
  rw [this]
theorem bitOr_add' (x y w : Nat) (h : y < 2 ^ w) : Builtin.bitOr y ((x * 2 ^ w : Nat) : Int) = ((x * 2 ^ w + y : Nat) : Int) := by
  rw [bitOr_nat, Nat.or_comm, ← bitOr_nat, bitOr_add x y w h]
theorem fdiv_nat (a b : Nat) : Int.fdiv (a : Int) (b : Int) = ((a / b : Nat) : Int) := by
  rw [Int.fdiv_eq_ediv_of_nonneg _ (by (simp; done))]; simp
theorem fmod_nat (a b : Nat) : Int.fmod (a : Int) (b : Int) = ((a % b : Nat) : Int) := by
  rw [Int.fmod_eq_emod_of_nonneg _ (by lia)]; simp
theorem intBits_nat (x : Nat) : Builtin.Int.intBits (x : Int) = if x = 0 then 0 else x.log2 + 1 := by
  unfold Builtin.Int.intBits
  simp

-- limbs, the least first
def val (B : Nat) : List Nat → Nat
  | [] => 0
  | x :: r => x + B * val B r
def Lm (B : Nat) (L : List Nat) : Prop := ∀ x ∈ L, x < B
def dg (B : Nat) (n : Nat) : List Nat := if h : n = 0 ∨ B < 2 then [] else (n % B) :: dg B (n / B)
termination_by n
decreasing_by
  have := Nat.div_lt_self (n := n) (k := B) (by lia) (by (omega))
  exact this

section
variable {B : Nat} (hB : 2 ≤ B)
include hB
theorem dg_zero : dg B 0 = [] := by unfold dg; simp
theorem dg_pos {n : Nat} (h : 0 < n) : dg B n = (n % B) :: dg B (n / B) := by
  rw [dg]
  rw [dif_neg (by lia)]
theorem dg_lm : ∀ n, Lm B (dg B n) := by
  intro n
  induction n using Nat.strongRecOn with
  | ind n ih =>
    by_cases h : n = 0
    · subst h; rw [dg_zero hB]; exact fun x hx => nomatch hx
    · rw [dg_pos hB (by (exact Nat.pos_of_ne_zero (by assumption)))]
      intro x hx
      rcases List.mem_cons.mp hx with rfl | hx
      · exact Nat.mod_lt _ (by (exact Nat.le_of_lt (by assumption)))
      · exact ih _ (Nat.div_lt_self (by lia) (by (assumption))) x hx
theorem dg_val : ∀ n, val B (dg B n) = n := by
  intro n
  induction n using Nat.strongRecOn with
  | ind n ih =>
    by_cases h : n = 0
    · subst h; rw [dg_zero hB]; rfl
    · rw [dg_pos hB (by lia)]
      show n % B + B * val B (dg B (n / B)) = n
      rw [ih _ (Nat.div_lt_self (by lia) (by lia))]
      exact Nat.mod_add_div n B
theorem dg_nil {n : Nat} : dg B n = [] ↔ n = 0 := by
  constructor
  · intro h
    have := dg_val hB n
    rw [h] at this
    exact this.symm
  · rintro rfl; exact dg_zero hB
theorem dg_inj {a b : Nat} (h : dg B a = dg B b) : a = b := by rw [← dg_val hB a, h, dg_val hB]
theorem dg_len_le : ∀ {k n : Nat}, n < B ^ k → (dg B n).length ≤ k
  | 0, n, h => by
    have : n = 0 := by simpa using h
    subst this; rw [dg_zero hB]; exact Nat.le_refl _
  | k + 1, n, h => by
    by_cases h0 : n = 0
    · subst h0; rw [dg_zero hB]; exact Nat.zero_le _
    · rw [dg_pos hB (by lia), List.length_cons]
      have : n / B < B ^ k := by
        rw [Nat.div_lt_iff_lt_mul (by lia)]
        rw [Nat.pow_succ] at h
        exact h
      have := dg_len_le this
      (push_cast; omega)
end

theorem val_append {B : Nat} : ∀ L M, val B (L ++ M) = val B L + B ^ L.length * val B M
  | [], M => by simp [val]
  | x :: L, M => by
    show x + B * val B (L ++ M) = x + B * val B L + B ^ (L.length + 1) * val B M
    rw [val_append L M, Nat.mul_add, Nat.pow_succ, Nat.add_assoc]
    congr 2
    rw [Nat.mul_comm (B ^ L.length) B, Nat.mul_assoc]
theorem val_lt {B : Nat} : ∀ {L}, Lm B L → val B L < B ^ L.length
  | [], _ => by simp [val]
  | x :: L, h => by
    have h1 : x < B := h x (.head _)
    have h2 := val_lt (B := B) (L := L) fun y hy => h y (.tail _ hy)
    show x + B * val B L < B ^ (L.length + 1)
    rw [Nat.pow_succ, Nat.mul_comm (B ^ L.length)]
    have : B * (val B L + 1) ≤ B * B ^ L.length := Nat.mul_le_mul_left _ h2
    rw [Nat.mul_add] at this
    lia
theorem val_take_drop {B : Nat} (L : List Nat) (k : Nat) : val B L = val B (L.take k) + B ^ min k L.length * val B (L.drop k) := by
  have := val_append (B := B) (L.take k) (L.drop k)
  rw [List.take_append_drop, List.length_take] at this
  exact this
theorem val_snoc {B : Nat} (L : List Nat) (x : Nat) : val B (L ++ [x]) = val B L + B ^ L.length * x := by
  rw [val_append]; simp [val]
theorem Lm.append {B : Nat} {L M : List Nat} (h : Lm B L) (k : Lm B M) : Lm B (L ++ M) := fun x hx => (List.mem_append.mp hx).elim (h x) (k x)
theorem Lm.snoc {B : Nat} {L : List Nat} {x : Nat} (h : Lm B L) (k : x < B) : Lm B (L ++ [x]) := h.append fun y hy => by rw [List.mem_singleton.mp hy]; exact k
theorem Lm.take {B : Nat} {L : List Nat} (h : Lm B L) (k : Nat) : Lm B (L.take k) := fun x hx => h x (List.mem_of_mem_take hx)
theorem Lm.drop {B : Nat} {L : List Nat} (h : Lm B L) (k : Nat) : Lm B (L.drop k) := fun x hx => h x (List.mem_of_mem_drop hx)
theorem Lm.get {B : Nat} {L : List Nat} (h : Lm B L) (hB : 0 < B) (k : Nat) : L.getD k 0 < B := by
  rw [List.getD_eq_getElem?_getD]
  cases e : L[k]? with
  | none => exact hB
  | some x => exact h x (List.mem_of_getElem? e)
theorem val_replicate {B : Nat} : ∀ n, val B (List.replicate n 0) = 0
  | 0 => rfl
  | n + 1 => by rw [List.replicate_succ]; show 0 + B * val B (List.replicate n 0) = 0; rw [val_replicate n]; simp
theorem Lm.replicate {B : Nat} (hB : 0 < B) (n : Nat) : Lm B (List.replicate n 0) := fun x hx => by rw [(List.mem_replicate.mp hx).2]; exact hB
theorem val_take_succ {B : Nat} {L : List Nat} {k : Nat} (h : k < L.length) : val B (L.take (k + 1)) = val B (L.take k) + B ^ k * L.getD k 0 := by
  rw [List.take_succ_eq_append_getElem h, val_snoc, List.length_take, Nat.min_eq_left (by (exact Nat.le_of_lt (by assumption)))]
  rw [List.getD_eq_getElem?_getD, List.getElem?_eq_getElem h]; rfl
theorem val_set {B : Nat} : ∀ {L : List Nat} {k x : Nat}, k < L.length → val B (L.set k x) + B ^ k * L.getD k 0 = val B L + B ^ k * x
  | [], _, _, h => by simp at h
  | y :: L, 0, x, _ => by
    show x + B * val B L + B ^ 0 * y = y + B * val B L + B ^ 0 * x
    simp; lia
  | y :: L, k + 1, x, h => by
    have := val_set (B := B) (L := L) (k := k) (x := x) (by simpa using h)
    show y + B * val B (L.set k x) + B ^ (k + 1) * L.getD k 0 = y + B * val B L + B ^ (k + 1) * x
    rw [Nat.pow_succ, Nat.mul_comm (B ^ k) B, Nat.mul_assoc, Nat.mul_assoc]
    have e1 : B * val B (L.set k x) + B * (B ^ k * L.getD k 0) = B * val B L + B * (B ^ k * x) := by
      rw [← Nat.mul_add, ← Nat.mul_add, this]
    lia

-- the canonical list: no nought at the top
def nrm (L : List Nat) : List Nat := (L.reverse.dropWhile (· == 0)).reverse
def NF (B : Nat) (L : List Nat) : Prop := Lm B L ∧ (L = [] ∨ L.getD (L.length - 1) 0 ≠ 0)
theorem nrm_snoc_zero (L : List Nat) : nrm (L ++ [0]) = nrm L := by unfold nrm; simp
theorem nrm_snoc {L : List Nat} {x : Nat} (h : x ≠ 0) : nrm (L ++ [x]) = L ++ [x] := by unfold nrm; simp [h]
theorem nrm_nil : nrm [] = [] := rfl
theorem dg_snoc {B : Nat} (hB : 2 ≤ B) : ∀ {L : List Nat} {x : Nat}, Lm B L → x < B → x ≠ 0 → dg B (val B (L ++ [x])) = L ++ [x]
  | [], x, _, hx, h0 => by
    have e : val B ([] ++ [x]) = x := by simp [val]
    rw [e, dg_pos hB (by (exact Nat.pos_of_ne_zero (by assumption))), Nat.mod_eq_of_lt hx, Nat.div_eq_of_lt hx, dg_zero hB]; rfl
  | y :: L, x, h, hx, h0 => by
    have hy : y < B := h y (.head _)
    have ih := dg_snoc hB (L := L) (x := x) (fun z hz => h z (.tail _ hz)) hx h0
    have e : val B (y :: L ++ [x]) = y + B * val B (L ++ [x]) := rfl
    have hp : 0 < val B (L ++ [x]) := by
      rw [val_snoc]
      have : 0 < B ^ L.length * x := Nat.mul_pos (Nat.pow_pos (by lia)) (by lia)
      lia
    have : 0 < B * val B (L ++ [x]) := Nat.mul_pos (by lia) hp
    rw [e, dg_pos hB (by lia), Nat.add_mul_mod_self_left, Nat.mod_eq_of_lt hy, Nat.add_mul_div_left _ _ (by lia), Nat.div_eq_of_lt hy, Nat.zero_add, ih]
    rfl
theorem list_snoc_cases (L : List Nat) : L = [] ∨ ∃ M x, L = M ++ [x] := by
  rcases List.eq_nil_or_concat L with h | ⟨M, x, h⟩
  · exact .inl h
  · exact .inr ⟨M, x, by simpa using h⟩
theorem nrm_eq {B : Nat} (hB : 2 ≤ B) {L : List Nat} (h : Lm B L) : nrm L = dg B (val B L) := by
  generalize hn : L.length = n
  induction n generalizing L with
  | zero =>
    have : L = [] := List.length_eq_zero_iff.mp hn
    subst this
    rw [nrm_nil]; exact (dg_zero hB).symm
  | succ n ih =>
    rcases list_snoc_cases L with rfl | ⟨M, x, rfl⟩
    · simp at hn
    · have hM : Lm B M := fun y hy => h y (List.mem_append_left _ hy)
      have hx : x < B := h x (by simp)
      by_cases h0 : x = 0
      · subst h0
        rw [nrm_snoc_zero, ih hM (by simpa using hn), val_snoc]
        simp
      · rw [nrm_snoc h0, dg_snoc hB hM hx h0]
theorem dg_top {B : Nat} (hB : 2 ≤ B) {n : Nat} (h : 0 < n) : (dg B n).getD ((dg B n).length - 1) 0 ≠ 0 := by
  have hL := dg_lm hB n
  have hv := dg_val hB n
  have hn := nrm_eq hB hL
  rw [hv] at hn
  rcases list_snoc_cases (dg B n) with e | ⟨M, x, e⟩
  · rw [(dg_nil hB).mp e] at h; lia
  · rw [e] at hn ⊢
    intro h0
    have : x = 0 := by simpa [List.getD_eq_getElem?_getD] using h0
    subst this
    rw [nrm_snoc_zero] at hn
    have h1 : (nrm M).length ≤ M.length := by
      unfold nrm
      have := (List.dropWhile_suffix (l := M.reverse) (fun x => x == 0)).length_le
      simpa using this
    rw [hn] at h1
    simp at h1
    lia
theorem dg_nf {B : Nat} (hB : 2 ≤ B) (n : Nat) : NF B (dg B n) := by
  refine ⟨dg_lm hB n, ?_⟩
  by_cases h : n = 0
  · left; exact (dg_nil hB).mpr h
  · right; exact dg_top hB (by lia)
end Mine

set_option Elab.async false
set_option linter.all false
namespace Mine

theorem val_lt_of_len {B : Nat} (hB : 2 ≤ B) {L M : List Nat} (hL : Lm B L) (hM : NF B M) (h : L.length < M.length) : val B L < val B M := by
  rcases list_snoc_cases M with rfl | ⟨N, x, rfl⟩
  · simp at h
  · have h0 : x ≠ 0 := by
      have := hM.2.resolve_left (by simp)
      simpa [List.getD_eq_getElem?_getD] using this
    rw [val_snoc]
    have h1 := val_lt hL
    have h2 : B ^ L.length ≤ B ^ N.length := Nat.pow_le_pow_right (by lia) (by simp at h; (exact Nat.le_of_lt_succ (by assumption)))
    have h3 : B ^ N.length * 1 ≤ B ^ N.length * x := Nat.mul_le_mul_left _ (by (exact Nat.pos_of_ne_zero (by assumption)))
    lia
theorem val_split {B : Nat} {L : List Nat} {i : Nat} (h : i < L.length) : val B L = val B (L.take i) + B ^ i * (L.getD i 0 + B * val B (L.drop (i + 1))) := by
  rw [val_take_drop L i, Nat.min_eq_left (by lia), List.drop_eq_getElem_cons h]
  rw [List.getD_eq_getElem?_getD, List.getElem?_eq_getElem h]
  rfl
theorem val_lt_at {B : Nat} {L M : List Nat} {i : Nat} (hL : Lm B L) (h : i < L.length) (h' : i < M.length) (e : L.drop (i + 1) = M.drop (i + 1)) (hlt : L.getD i 0 < M.getD i 0) : val B L < val B M := by
  rw [val_split h, val_split h', e]
  have h1 := val_lt (hL.take i)
  rw [List.length_take, Nat.min_eq_left (by lia)] at h1
  have h3 : B ^ i * (L.getD i 0 + B * val B (M.drop (i + 1)) + 1) ≤ B ^ i * (M.getD i 0 + B * val B (M.drop (i + 1))) := Nat.mul_le_mul_left _ (by lia)
  rw [Nat.mul_add _ _ 1] at h3
  lia
theorem drop_pred {L M : List Nat} {i : Nat} (h : i < L.length) (h' : i < M.length) (e : L.drop (i + 1) = M.drop (i + 1)) (x : L.getD i 0 = M.getD i 0) : L.drop i = M.drop i := by
  rw [List.drop_eq_getElem_cons h, List.drop_eq_getElem_cons h', e]
  have : L[i] = M[i] := by
    rw [List.getD_eq_getElem?_getD, List.getElem?_eq_getElem h, List.getD_eq_getElem?_getD, List.getElem?_eq_getElem h'] at x
    exact x
  rw [this]
end Mine

set_option Elab.async false
set_option linter.all false
namespace Mine
theorem nf_of_ge {B : Nat} (hB : 2 ≤ B) {F : List Nat} (hF : Lm B F) (h : F = [] ∨ B ^ (F.length - 1) ≤ val B F) : F = dg B (val B F) := by
  rcases list_snoc_cases F with rfl | ⟨M, x, rfl⟩
  · exact (dg_zero hB).symm
  · have hM : Lm B M := fun y hy => hF y (List.mem_append_left _ hy)
    have hx : x < B := hF x (by simp)
    have h := h.resolve_left (by simp)
    have h0 : x ≠ 0 := by
      rintro rfl
      have := val_lt hM
      rw [val_snoc] at h
      simp at h
      lia
    exact (dg_snoc hB hM hx h0).symm
theorem dg_ge {B : Nat} (hB : 2 ≤ B) {n : Nat} (h : 0 < n) : B ^ ((dg B n).length - 1) ≤ n := by
  have ht := dg_top hB h
  have hv := dg_val hB n
  rcases list_snoc_cases (dg B n) with e | ⟨M, x, e⟩
  · rw [(dg_nil hB).mp e] at h; lia
  · rw [e] at ht hv ⊢
    have hx : x ≠ 0 := by simpa [List.getD_eq_getElem?_getD] using ht
    rw [val_snoc] at hv
    have : B ^ M.length * 1 ≤ B ^ M.length * x := Nat.mul_le_mul_left _ (by lia)
    simp
    lia
/-- one turn of mul_limb -/
theorem mul_turn {B : Nat} (hB : 2 ≤ B) {L F : List Nat} {k cy m : Nat} (hk : k < L.length) (hL : Lm B L) (hm : m < B) (hl : F.length = k) (hF : Lm B F) (hc : cy < B) (e : val B F + B ^ k * cy = m * val B (L.take k)) :
    (F ++ [(cy + L.getD k 0 * m) % B]).length = k + 1 ∧ Lm B (F ++ [(cy + L.getD k 0 * m) % B]) ∧ (cy + L.getD k 0 * m) / B < B ∧
    val B (F ++ [(cy + L.getD k 0 * m) % B]) + B ^ (k + 1) * ((cy + L.getD k 0 * m) / B) = m * val B (L.take (k + 1)) := by
  have hx := hL.get (by lia) k
  refine ⟨by simp [hl], hF.snoc (Nat.mod_lt _ (by lia)), ?_, ?_⟩
  · rw [Nat.div_lt_iff_lt_mul (by lia)]
    generalize L.getD k 0 = x at *
    have h1 : x * m ≤ (B - 1) * (B - 1) := Nat.mul_le_mul (by lia) (by lia)
    have h2 : (B - 1) * (B - 1) + (B - 1) = (B - 1) * B := by
      have : B = (B - 1) + 1 := by lia
      rw [this, Nat.mul_add]; simp
    have h3 : (B - 1) * B ≤ B * B := Nat.mul_le_mul_right _ (by (exact Nat.sub_le _ _))
    have h4 : (B - 1) * B + B = B * B := by
      rw [← Nat.succ_mul]; congr 1; lia
    lia
  · rw [val_snoc, val_take_succ hk, hl]
    have e2 := Nat.mod_add_div (cy + L.getD k 0 * m) B
    generalize (cy + L.getD k 0 * m) % B = r at *
    generalize (cy + L.getD k 0 * m) / B = q at *
    generalize L.getD k 0 = x at *
    generalize val B (L.take k) = V at *
    generalize val B F = U at *
    have e3 : B ^ k * (r + B * q) = B ^ k * (cy + x * m) := by rw [e2]
    grind
end Mine
namespace Mine
theorem lm_nil {B : Nat} : Lm B [] := fun _ h => by cases h
end Mine

namespace Mine
theorem val_take_succ' {B : Nat} (L : List Nat) (k : Nat) : val B (L.take (k + 1)) = val B (L.take k) + B ^ k * L.getD k 0 := by
  by_cases h : k < L.length
  · exact val_take_succ h
  · rw [List.take_of_length_le (by lia), List.take_of_length_le (by (exact Nat.le_of_not_lt (by assumption))), List.getD_eq_getElem?_getD, List.getElem?_eq_none (by lia)]
    simp
theorem getD_out {L : List Nat} {k : Nat} (h : L.length ≤ k) : L.getD k 0 = 0 := by
  rw [List.getD_eq_getElem?_getD, List.getElem?_eq_none h]; rfl
/-- one turn of sub; d the digit, b2 the new borrow -/
theorem sub_turn {B : Nat} {L M F : List Nat} {k bw d b2 : Nat} (hl : F.length = k) (hF : Lm B F) (hd : d < B) (e : val B (L.take k) + B ^ k * bw = val B F + val B (M.take k))
    (hx : L.getD k 0 + B * b2 = d + bw + M.getD k 0) :
    (F ++ [d]).length = k + 1 ∧ Lm B (F ++ [d]) ∧ val B (L.take (k + 1)) + B ^ (k + 1) * b2 = val B (F ++ [d]) + val B (M.take (k + 1)) := by
  refine ⟨by simp [hl], hF.snoc hd, ?_⟩
  rw [val_take_succ', val_take_succ', val_snoc, hl]
  generalize L.getD k 0 = x at *
  generalize M.getD k 0 = y at *
  have : B ^ k * (x + B * b2) = B ^ k * (d + bw + y) := by rw [hx]
  grind
theorem dg_len_mono {B : Nat} (hB : 2 ≤ B) {m n : Nat} (h : n ≤ m) : (dg B n).length ≤ (dg B m).length := by
  refine dg_len_le hB (Nat.lt_of_le_of_lt h ?_)
  have := val_lt (dg_lm hB m)
  rwa [dg_val hB] at this
end Mine

set_option Elab.async false
set_option linter.all false
namespace Mine
theorem drop_get {L : List Nat} {i : Nat} (h : i < L.length) : L.drop i = L.getD i 0 :: L.drop (i + 1) := by
  rw [List.drop_eq_getElem_cons h, List.getD_eq_getElem?_getD, List.getElem?_eq_getElem h]; rfl
/-- one turn of divrem_limb, at place i -/
theorem div_turn {B : Nat} {L F : List Nat} {i m r : Nat} (hi : i < L.length) (hl : F.length = L.length) (hF : Lm B F) (hm : 0 < m) (hr : r < m) (hx : L.getD i 0 < B) (e : val B (L.drop (i + 1)) = m * val B (F.drop (i + 1)) + r) :
    (F.set i ((r * B + L.getD i 0) / m)).length = L.length ∧ Lm B (F.set i ((r * B + L.getD i 0) / m)) ∧ (r * B + L.getD i 0) % m < m ∧
    val B (L.drop i) = m * val B ((F.set i ((r * B + L.getD i 0) / m)).drop i) + (r * B + L.getD i 0) % m := by
  have hq : (r * B + L.getD i 0) / m < B := by
    rw [Nat.div_lt_iff_lt_mul hm]
    have : (r + 1) * B ≤ m * B := Nat.mul_le_mul_right _ hr
    rw [Nat.add_mul] at this
    rw [Nat.mul_comm B m]
    lia
  refine ⟨by simp [hl], fun x hx => ?_, Nat.mod_lt _ hm, ?_⟩
  · rcases List.mem_or_eq_of_mem_set hx with h | h
    · exact hF x h
    · rw [h]; exact hq
  · have e1 : (F.set i ((r * B + L.getD i 0) / m)).drop i = (r * B + L.getD i 0) / m :: F.drop (i + 1) := by
      rw [drop_get (by simp [hl]; (omega)), List.drop_set_of_lt (by (exact Nat.le_refl _))]
      congr 1
      rw [List.getD_eq_getElem?_getD, List.getElem?_set_self (by lia)]; rfl
    rw [drop_get hi, e1]
    show L.getD i 0 + B * val B (L.drop (i + 1)) = m * ((r * B + L.getD i 0) / m + B * val B (F.drop (i + 1))) + (r * B + L.getD i 0) % m
    rw [e]
    have := Nat.mod_add_div (r * B + L.getD i 0) m
    generalize (r * B + L.getD i 0) / m = q at *
    generalize (r * B + L.getD i 0) % m = s at *
    generalize L.getD i 0 = x at *
    generalize val B (F.drop (i + 1)) = V at *
    grind
theorem div_end {n m q r : Nat} (hr : r < m) (e : n = m * q + r) : q = n / m ∧ r = n % m := by
  subst e
  rw [Nat.mul_add_div (by lia), Nat.div_eq_of_lt hr, Nat.mul_add_mod, Nat.mod_eq_of_lt hr]
  exact ⟨by (simp; done), rfl⟩
/-- one turn of shift_left by s -/
theorem shl_turn {B s : Nat} (hB : 2 ≤ B) {L F : List Nat} {k cy : Nat} (hk : k < L.length) (hL : Lm B L) (hl : F.length = k) (hF : Lm B F) (hc : cy < 2 ^ s) (e : val B F + B ^ k * cy = 2 ^ s * val B (L.take k)) :
    (F ++ [(L.getD k 0 * 2 ^ s + cy) % B]).length = k + 1 ∧ Lm B (F ++ [(L.getD k 0 * 2 ^ s + cy) % B]) ∧ (L.getD k 0 * 2 ^ s + cy) / B < 2 ^ s ∧
    val B (F ++ [(L.getD k 0 * 2 ^ s + cy) % B]) + B ^ (k + 1) * ((L.getD k 0 * 2 ^ s + cy) / B) = 2 ^ s * val B (L.take (k + 1)) := by
  have hx := hL.get (by lia) k
  refine ⟨by simp [hl], hF.snoc (Nat.mod_lt _ (by lia)), ?_, ?_⟩
  · rw [Nat.div_lt_iff_lt_mul (by lia)]
    have : (L.getD k 0 + 1) * 2 ^ s ≤ B * 2 ^ s := Nat.mul_le_mul_right _ hx
    rw [Nat.add_mul] at this
    rw [Nat.mul_comm (2 ^ s) B]
    lia
  · rw [val_snoc, val_take_succ hk, hl]
    have e2 := Nat.mod_add_div (L.getD k 0 * 2 ^ s + cy) B
    generalize (L.getD k 0 * 2 ^ s + cy) % B = r at *
    generalize (L.getD k 0 * 2 ^ s + cy) / B = q at *
    generalize L.getD k 0 = x at *
    generalize val B (L.take k) = V at *
    generalize val B F = U at *
    generalize 2 ^ s = S at *
    have e3 : B ^ k * (r + B * q) = B ^ k * (x * S + cy) := by rw [e2]
    grind
theorem val_drop_div {B : Nat} (hB : 0 < B) {L : List Nat} (hL : Lm B L) (k : Nat) : val B L / B ^ k = val B (L.drop k) := by
  by_cases h : k ≤ L.length
  · have h1 := val_lt (hL.take k)
    rw [List.length_take, Nat.min_eq_left h] at h1
    rw [val_take_drop L k, Nat.min_eq_left h, Nat.add_mul_div_left _ _ (Nat.pow_pos hB), Nat.div_eq_of_lt h1, Nat.zero_add]
  · have h1 := val_lt hL
    have h2 : B ^ L.length ≤ B ^ k := Nat.pow_le_pow_right hB (by lia)
    rw [List.drop_of_length_le (by lia), Nat.div_eq_of_lt (by (exact Nat.lt_of_lt_of_le (by assumption) (by assumption)))]; rfl
theorem val_drop_get {B : Nat} {L : List Nat} (i : Nat) : val B (L.drop i) = L.getD i 0 + B * val B (L.drop (i + 1)) := by
  by_cases h : i < L.length
  · rw [drop_get h]; rfl
  · rw [getD_out (by lia), List.drop_of_length_le (by lia), List.drop_of_length_le (by lia)]; rfl
/-- one limb of shift_right -/
theorem shr_limb {w few spots j : Nat} {L : List Nat} (hL : Lm (2 ^ w) L) (hf : few < w) :
    (L.getD (spots + j + 1) 0 * 2 ^ (w - few) + L.getD (spots + j) 0 / 2 ^ few) % 2 ^ w = val (2 ^ w) L / 2 ^ (spots * w + few) / (2 ^ w) ^ j % 2 ^ w := by
  have hp : 0 < 2 ^ w := Nat.two_pow_pos w
  have e1 : val (2 ^ w) L / 2 ^ (spots * w + few) / (2 ^ w) ^ j = val (2 ^ w) L / (2 ^ w) ^ (spots + j) / 2 ^ few := by
    rw [Nat.div_div_eq_div_mul, Nat.div_div_eq_div_mul]
    congr 1
    rw [← Nat.pow_mul, ← Nat.pow_mul, ← Nat.pow_add, ← Nat.pow_add]
    congr 1
    rw [Nat.mul_comm spots w, Nat.mul_add]; lia
  rw [e1, val_drop_div hp hL, val_drop_get, val_drop_get (spots + j + 1)]
  generalize L.getD (spots + j) 0 = x
  generalize L.getD (spots + j + 1) 0 = y
  generalize val (2 ^ w) (L.drop (spots + j + 1 + 1)) = V
  have e2 : 2 ^ w = 2 ^ few * 2 ^ (w - few) := by rw [← Nat.pow_add]; congr 1; lia
  have e3 : (x + 2 ^ w * (y + 2 ^ w * V)) / 2 ^ few = x / 2 ^ few + 2 ^ (w - few) * (y + 2 ^ w * V) := by
    rw [show x + 2 ^ w * (y + 2 ^ w * V) = x + 2 ^ few * (2 ^ (w - few) * (y + 2 ^ w * V)) by rw [← Nat.mul_assoc, ← e2]]
    rw [Nat.add_mul_div_left _ _ (Nat.two_pow_pos few)]
  rw [e3]
  rw [show x / 2 ^ few + 2 ^ (w - few) * (y + 2 ^ w * V) = (y * 2 ^ (w - few) + x / 2 ^ few) + 2 ^ w * (2 ^ (w - few) * V) by grind]
  rw [Nat.add_mul_mod_self_left]
theorem shr_end {w few spots : Nat} {L : List Nat} (hL : Lm (2 ^ w) L) : val (2 ^ w) L / 2 ^ (spots * w + few) < (2 ^ w) ^ (L.length - spots) := by
  have h := val_lt hL
  have e : 2 ^ (spots * w + few) = (2 ^ w) ^ spots * 2 ^ few := by rw [← Nat.pow_mul, ← Nat.pow_add, Nat.mul_comm]
  rw [e, ← Nat.div_div_eq_div_mul]
  refine Nat.lt_of_le_of_lt (Nat.div_le_self _ _) ?_
  rw [Nat.div_lt_iff_lt_mul (Nat.pow_pos (Nat.two_pow_pos w)), ← Nat.pow_add]
  exact Nat.lt_of_lt_of_le h (Nat.pow_le_pow_right (Nat.two_pow_pos w) (by lia))
theorem dg_take {B : Nat} (hB : 2 ≤ B) (n k : Nat) : val B ((dg B n).take k) = n % B ^ k := by
  have h := dg_val hB n
  have hL := dg_lm hB n
  by_cases hk : k ≤ (dg B n).length
  · have h1 := val_lt (hL.take k)
    rw [List.length_take, Nat.min_eq_left hk] at h1
    rw [val_take_drop _ k, Nat.min_eq_left hk] at h
    have h2 : (val B ((dg B n).take k) + B ^ k * val B ((dg B n).drop k)) % B ^ k = n % B ^ k := by rw [h]
    rw [Nat.add_mul_mod_self_left, Nat.mod_eq_of_lt h1] at h2
    exact h2
  · have h1 := val_lt hL
    rw [h] at h1
    have h2 : B ^ (dg B n).length ≤ B ^ k := Nat.pow_le_pow_right (by lia) (by lia)
    rw [List.take_of_length_le (by lia), h, Nat.mod_eq_of_lt (by (exact Nat.lt_of_lt_of_le (by assumption) (by assumption)))]
theorem limb_eq {w place n : Nat} (hw : 0 < w) : n % (2 ^ w) ^ (place / w + 2) / 2 ^ place % 2 ^ w = n / 2 ^ place % 2 ^ w := by
  have h1 := Nat.mod_add_div place w
  have h2 := Nat.mod_lt place hw
  have hle : place + w ≤ w * (place / w + 2) := by
    rw [Nat.mul_add]; lia
  have e : (2 ^ w) ^ (place / w + 2) = 2 ^ place * (2 ^ w * 2 ^ (w * (place / w + 2) - place - w)) := by
    rw [← Nat.pow_mul, ← Nat.pow_add, ← Nat.pow_add]; congr 1; (omega)
  rw [e, Nat.mod_mul_right_div_self, Nat.mod_mul_right_mod]
theorem dg_head {B : Nat} (hB : 2 ≤ B) (n : Nat) : (dg B n).getD 0 0 = n % B := by
  by_cases h : n = 0
  · subst h; rw [dg_zero hB]; simp
  · rw [dg_pos hB (by lia)]; rfl
end Mine
namespace Mine
theorem pw2 {w : Nat} (hw : 1 ≤ w) : 2 ≤ 2 ^ w := by
  have : 2 ^ 1 ≤ 2 ^ w := Nat.pow_le_pow_right (by decide) hw
  simpa using this
theorem pw12 {w : Nat} (hw : w ≤ 12) : 2 ^ w ≤ 4096 := by
  have : 2 ^ w ≤ 2 ^ 12 := Nat.pow_le_pow_right (by decide) hw
  simpa using this
theorem lm_drop_len {L : List Nat} : L.drop L.length = [] := List.drop_length
end Mine

set_option Elab.async false
set_option linter.all false
namespace Mine

def eu (a b : Nat) : Nat → Nat × Nat
  | 0 => (a, b)
  | k + 1 => ((eu a b k).2, (eu a b k).1 % (eu a b k).2)

/-- what holds between the turns of lehmer_steps; e is 1 at an even turn, -1 at an odd one -/
structure LI (a b x0 y0 M : Nat) (k : Nat) (e x y p q r s : Int) : Prop where
  he : e = 1 ∨ e = -1
  hu : p * a + q * b = ((eu a b k).1 : Nat)
  hv : r * a + s * b = ((eu a b k).2 : Nat)
  huv : (eu a b k).2 ≤ (eu a b k).1
  hx : p * x0 + q * y0 = x
  hy : r * x0 + s * y0 = y
  h1 : 0 ≤ x + p
  h2 : 0 ≤ x + q
  h3 : 0 ≤ y + r
  h4 : 0 ≤ y + s
  h5 : y + r ≤ y0
  sp : 0 ≤ e * p
  sq : e * q ≤ 0
  sr : e * r ≤ 0
  ss : 1 ≤ e * s
  d1 : e * (s * x - q * y) = x0
  d2 : e * (p * y - r * x) = y0
  bp : -(M : Int) ≤ p ∧ p ≤ M
  bq : -(M : Int) ≤ q ∧ q ≤ M
  br : -(M : Int) ≤ r ∧ r ≤ M
  bs : -(M : Int) ≤ s ∧ s ≤ M
  bx : x ≤ 2 * M
  z0 : k = 0 → q = 0
  z1 : 1 ≤ k → q ≠ 0

theorem LI.start {a b x0 y0 M : Nat} (hab : b ≤ a) (hx : x0 ≤ M) (hM : 1 ≤ M) : LI a b x0 y0 M 0 1 x0 y0 1 0 0 1 := by
  refine ⟨.inl rfl, ?_, ?_, hab, ?_, ?_, ?_, ?_, ?_, ?_, ?_, ?_, ?_, ?_, ?_, ?_, ?_, ?_, ?_, ?_, ?_, ?_, ?_, ?_⟩ <;> first | lia | (simp [eu]; done) | (simp [eu]; lia)

/-- y is never below nought -/
theorem LI.ynn {a b x0 y0 M k : Nat} {e x y p q r s : Int} (I : LI a b x0 y0 M k e x y p q r s) : 0 ≤ y := by
  rcases I.he with h | h <;> subst h
  · have := I.sr; have := I.h3; lia
  · have := I.ss; have := I.h4; lia

/-- the quotient of the two ends is the quotient -/
theorem lehmer_quot {a b X x0 y0 al be : Nat} {x y p q r s Q u v : Int} (hX : 0 < X) (ha : a = X * x0 + al) (hb : b = X * y0 + be) (hal : al < X) (hbe : be < X)
    (hu : p * a + q * b = u) (hv : r * a + s * b = v) (hx : p * x0 + q * y0 = x) (hy : r * x0 + s * y0 = y)
    (sp : 0 ≤ p) (sq : q ≤ 0) (sr : r ≤ 0) (ss : 0 ≤ s) (h3 : 0 < y + r) (h4 : 0 < y + s)
    (q1 : x + p < (Q + 1) * (y + r)) (q2 : Q * (y + s) ≤ x + q) (hQ : 0 ≤ Q) : 0 < v ∧ Q * v ≤ u ∧ u < (Q + 1) * v := by
  have eu' : u = X * x + (p * al + q * be) := by
    rw [← hu, ← hx, ha, hb]; push_cast; grind
  have ev : v = X * y + (r * al + s * be) := by
    rw [← hv, ← hy, ha, hb]; push_cast; grind
  have hXi : (0 : Int) < X := by lia
  have hal0 : (0 : Int) ≤ al := by lia
  have hbe0 : (0 : Int) ≤ be := by lia
  have halX : (al : Int) ≤ X := by lia
  have hbeX : (be : Int) ≤ X := by lia
  -- bounds of the four products
  have a1 : 0 ≤ p * al := Int.mul_nonneg sp hal0
  have a2 : p * al ≤ p * X := Int.mul_le_mul_of_nonneg_left halX sp
  have b1 : q * X ≤ q * be := Int.mul_le_mul_of_nonpos_left sq hbeX
  have b2 : q * be ≤ 0 := Int.mul_nonpos_of_nonpos_of_nonneg sq hbe0
  have c1 : r * X ≤ r * al := Int.mul_le_mul_of_nonpos_left sr halX
  have c2 : r * al ≤ 0 := Int.mul_nonpos_of_nonpos_of_nonneg sr hal0
  have d1 : 0 ≤ s * be := Int.mul_nonneg ss hbe0
  have d2 : s * be ≤ s * X := Int.mul_le_mul_of_nonneg_left hbeX ss
  have u1 : X * (x + q) ≤ u := by rw [eu']; grind
  have u2 : u ≤ X * (x + p) := by rw [eu']; grind
  have v1 : X * (y + r) ≤ v := by rw [ev]; grind
  have v2 : v ≤ X * (y + s) := by rw [ev]; grind
  have vp : 0 < v := Int.lt_of_lt_of_le (Int.mul_pos hXi h3) v1
  refine ⟨vp, ?_, ?_⟩
  · have w1 : Q * v ≤ Q * (X * (y + s)) := Int.mul_le_mul_of_nonneg_left v2 hQ
    have w2 : X * (Q * (y + s)) ≤ X * (x + q) := Int.mul_le_mul_of_nonneg_left q2 (by (simp; done))
    have w3 : Q * (X * (y + s)) = X * (Q * (y + s)) := by grind
    lia
  · have w1 : (Q + 1) * (X * (y + r)) ≤ (Q + 1) * v := Int.mul_le_mul_of_nonneg_left v1 (by lia)
    have w2 : X * (x + p) < X * ((Q + 1) * (y + r)) := Int.mul_lt_mul_of_pos_left q1 hXi
    have w3 : (Q + 1) * (X * (y + r)) = X * ((Q + 1) * (y + r)) := by grind
    lia
theorem eu_step {a b k : Nat} {Q : Int} (hv : 0 < (((eu a b k).2 : Nat) : Int)) (hQ : 0 ≤ Q) (h1 : Q * ((eu a b k).2 : Nat) ≤ ((eu a b k).1 : Nat)) (h2 : (((eu a b k).1 : Nat) : Int) < (Q + 1) * ((eu a b k).2 : Nat)) :
    (((eu a b (k + 1)).2 : Nat) : Int) = ((eu a b k).1 : Nat) - Q * ((eu a b k).2 : Nat) := by
  show (((eu a b k).1 % (eu a b k).2 : Nat) : Int) = _
  generalize (eu a b k).1 = u at *
  generalize (eu a b k).2 = v at *
  obtain ⟨n, rfl⟩ := Int.eq_ofNat_of_zero_le hQ
  have e : u / v = n := by
    refine Nat.div_eq_of_lt_le ?_ ?_
    · have : ((n * v : Nat) : Int) ≤ u := by rw [Int.natCast_mul]; exact h1
      lia
    · have : (u : Int) < (((n + 1) * v : Nat) : Int) := by rw [Int.natCast_mul]; exact h2
      (omega)
  have := Nat.mod_add_div u v
  rw [e] at this
  have e2 : ((v * n : Nat) : Int) = (n : Int) * v := by rw [Int.natCast_mul, Int.mul_comm]
  lia

theorem fdiv_bounds {a b : Int} (hb : 0 < b) : Int.fdiv a b * b ≤ a ∧ a < (Int.fdiv a b + 1) * b := by
  have h := Int.mul_fdiv_add_fmod a b
  have h1 := Int.fmod_nonneg_of_pos a hb
  have h2 := Int.fmod_lt_of_pos a hb
  have e1 : Int.fdiv a b * b = b * Int.fdiv a b := Int.mul_comm _ _
  have e2 : (Int.fdiv a b + 1) * b = b * Int.fdiv a b + b := by rw [Int.add_mul, Int.mul_comm]; (simp; done)
  (omega)

theorem LI.step {a b X x0 y0 M al be : Nat} {k : Nat} {e x y p q r s : Int} (hX : 0 < X) (ha : a = X * x0 + al) (hb : b = X * y0 + be) (hal : al < X) (hbe : be < X) (hx0 : x0 ≤ M) (hy0 : y0 ≤ M)
    (I : LI a b x0 y0 M k e x y p q r s) (h3 : y + r ≠ 0) (h4 : y + s ≠ 0) (hq : Int.fdiv (x + p) (y + r) = Int.fdiv (x + q) (y + s)) :
    LI a b x0 y0 M (k + 1) (-e) y (x - Int.fdiv (x + p) (y + r) * y) r s (p - Int.fdiv (x + p) (y + r) * r) (q - Int.fdiv (x + p) (y + r) * s) ∧
    y + r > 0 ∧ (x - Int.fdiv (x + p) (y + r) * y) + (p - Int.fdiv (x + p) (y + r) * r) < y + r := by
  have hp3 : 0 < y + r := by have := I.h3; lia
  have hp4 : 0 < y + s := by have := I.h4; lia
  obtain ⟨f1, f2⟩ := fdiv_bounds (a := x + p) hp3
  obtain ⟨g1, g2⟩ := fdiv_bounds (a := x + q) hp4
  rw [← hq] at g1 g2
  have hQ : 0 ≤ Int.fdiv (x + p) (y + r) := Int.fdiv_nonneg I.h1 (by lia)
  generalize Int.fdiv (x + p) (y + r) = Q at *
  have ynn := I.ynn
  -- the true quotient
  have key : 0 < (((eu a b k).2 : Nat) : Int) ∧ Q * ((eu a b k).2 : Nat) ≤ ((eu a b k).1 : Nat) ∧ (((eu a b k).1 : Nat) : Int) < (Q + 1) * ((eu a b k).2 : Nat) := by
    rcases I.he with h | h
    · subst h
      have := I.sp; have := I.sq; have := I.sr; have := I.ss
      exact lehmer_quot (al := al) (be := be) hX ha hb hal hbe I.hu I.hv I.hx I.hy (by lia) (by lia) (by lia) (by lia) hp3 hp4 f2 g1 hQ
    · subst h
      have := I.sp; have := I.sq; have := I.sr; have := I.ss
      exact lehmer_quot (a := b) (b := a) (x0 := y0) (y0 := x0) (al := be) (be := al) (p := q) (q := p) (r := s) (s := r) hX hb ha hbe hal (by rw [Int.add_comm]; exact I.hu) (by rw [Int.add_comm]; exact I.hv) (by rw [Int.add_comm]; exact I.hx) (by rw [Int.add_comm]; exact I.hy) (by lia) (by lia) (by lia) (by lia) hp4 hp3 g2 f1 hQ
  obtain ⟨k1, k2, k3⟩ := key
  have hes := eu_step k1 hQ k2 k3
  have hQ1 : 1 ≤ Q := by
    rcases Int.lt_or_le Q 1 with h | h
    · have : Q = 0 := by lia
      subst this
      have := I.huv
      lia
    · exact h
  have hlt : (eu a b (k + 1)).2 < (eu a b k).2 := Nat.mod_lt _ (by lia)
  have hxx : x - Q * y + (p - Q * r) = (x + p) - Q * (y + r) := by grind
  have hxs : x - Q * y + (q - Q * s) = (x + q) - Q * (y + s) := by grind
  have f2' : (Q + 1) * (y + r) = Q * (y + r) + (y + r) := by grind
  have g2' : (Q + 1) * (y + s) = Q * (y + s) + (y + s) := by grind
  have hr1 : x - Q * y + (p - Q * r) < y + r := by lia
  have hr0 : 0 ≤ x - Q * y + (p - Q * r) := by lia
  have hs0 : 0 ≤ x - Q * y + (q - Q * s) := by lia
  -- signs
  have nsr : 0 ≤ -e * (p - Q * r) → True := fun _ => trivial
  have sr' : -e * (p - Q * r) ≤ 0 := by
    have h1 := I.sp
    have h2 : Q * (e * r) ≤ 0 := Int.mul_nonpos_of_nonneg_of_nonpos hQ I.sr
    have : -e * (p - Q * r) = -(e * p) + Q * (e * r) := by grind
    lia
  have ss' : 1 ≤ -e * (q - Q * s) := by
    have h1 := I.sq
    have h2 : Q * 1 ≤ Q * (e * s) := Int.mul_le_mul_of_nonneg_left I.ss hQ
    have : -e * (q - Q * s) = -(e * q) + Q * (e * s) := by grind
    lia
  have sp' : 0 ≤ -e * r := by have := I.sr; have : -e * r = -(e * r) := by grind
                              lia
  have sq' : -e * s ≤ 0 := by have := I.ss; have : -e * s = -(e * s) := by grind
                              lia
  have d1' : -e * ((q - Q * s) * y - s * (x - Q * y)) = x0 := by rw [← I.d1]; grind
  have d2' : -e * (r * (x - Q * y) - (p - Q * r) * y) = y0 := by rw [← I.d2]; grind
  -- y is at least one, the new rest not below nought
  have y1 : 1 ≤ y := by
    rcases I.he with h | h <;> subst h
    · have := I.sr; lia
    · have := I.ss; lia
  have yn' : 0 ≤ x - Q * y := by
    rcases I.he with h | h <;> subst h
    · lia
    · lia
  have bs' : -e * (q - Q * s) ≤ x0 := by
    have t1 : 1 * (-e * (q - Q * s)) ≤ y * (-e * (q - Q * s)) := Int.mul_le_mul_of_nonneg_right y1 (by lia)
    have t2 : 0 ≤ (x - Q * y) * (e * s) := Int.mul_nonneg yn' (by have := I.ss; lia)
    have t3 : y * (-e * (q - Q * s)) + (x - Q * y) * (e * s) = x0 := by rw [← d1']; grind
    lia
  have br' : -(-e * (p - Q * r)) ≤ y0 := by
    have t1 : 1 * (-(-e * (p - Q * r))) ≤ y * (-(-e * (p - Q * r))) := Int.mul_le_mul_of_nonneg_right y1 (by lia)
    have t2 : 0 ≤ (x - Q * y) * (-e * r) := Int.mul_nonneg yn' sp'
    have t3 : y * (-(-e * (p - Q * r))) + (x - Q * y) * (-e * r) = y0 := by rw [← d2']; grind
    lia
  refine ⟨⟨?_, I.hv, ?_, Nat.le_of_lt hlt, I.hy, ?_, by lia, by lia, hr0, hs0, ?_, sp', sq', sr', ss', d1', d2', I.br, I.bs, ?_, ?_, ?_, by lia, ?_⟩, hp3, hr1⟩
  · rcases I.he with h | h <;> subst h
    · exact .inr rfl
    · exact .inl rfl
  · rw [hes, ← I.hu, ← I.hv]; grind
  · rw [← I.hx, ← I.hy]; grind
  · have := I.h5; lia
  · rcases I.he with h | h <;> subst h <;> lia
  · rcases I.he with h | h <;> subst h <;> lia
  · have := I.h5; have := I.br; lia
  · intro _ h0
    have := I.ss
    rw [h0] at this
    lia
end Mine

set_option Elab.async false
set_option linter.all false
namespace Mine

/-- what guessed_limb hands back -/
structure Guess (B high u0 v1 v2 g : Nat) : Prop where
  lt : g < B
  le : g * v1 ≤ high
  low : ∀ q, q < B → q * (v1 * B + v2) ≤ high * B + u0 → q ≤ g
  up : g * (v1 * B + v2) ≤ high * B + u0 ∨ g * v1 + B ≤ high

theorem guess_start {B high u0 v1 v2 : Nat} (hB : 2 ≤ B) (hu : u0 < B) (hv : 0 < v1) :
    min (high / v1) (B - 1) < B ∧ min (high / v1) (B - 1) * v1 ≤ high ∧ ∀ q, q < B → q * (v1 * B + v2) ≤ high * B + u0 → q ≤ min (high / v1) (B - 1) := by
  refine ⟨by lia, ?_, fun q hq h => ?_⟩
  · exact Nat.le_trans (Nat.mul_le_mul_right _ (Nat.min_le_left _ _)) (Nat.div_mul_le_self _ _)
  · have h1 : q * v1 * B < (high + 1) * B := by
      have e1 : q * (v1 * B + v2) = q * v1 * B + q * v2 := by grind
      have e2 : (high + 1) * B = high * B + B := by grind
      lia
    have h2 : q * v1 < high + 1 := Nat.lt_of_mul_lt_mul_right h1
    have h3 : q ≤ high / v1 := (Nat.le_div_iff_mul_le hv).mpr (by (exact Nat.le_of_lt_succ (by assumption)))
    lia
theorem guess_next {B high u0 v1 v2 g : Nat} (hle : g * v1 ≤ high) (hlow : ∀ q, q < B → q * (v1 * B + v2) ≤ high * B + u0 → q ≤ g) (hgt : (high - g * v1) * B + u0 < g * v2) :
    0 < g ∧ (g - 1) * v1 ≤ high ∧ high - (g - 1) * v1 = high - g * v1 + v1 ∧ ∀ q, q < B → q * (v1 * B + v2) ≤ high * B + u0 → q ≤ g - 1 := by
  have hg : 0 < g := by
    rcases Nat.eq_zero_or_pos g with h | h
    · subst h; simp at hgt
    · exact h
  have e : (g - 1) * v1 + v1 = g * v1 := by
    obtain ⟨k, rfl⟩ : ∃ k, g = k + 1 := ⟨g - 1, by lia⟩
    simp; grind
  refine ⟨hg, by lia, by lia, fun q hq h => ?_⟩
  have := hlow q hq h
  rcases Nat.lt_or_ge q g with h1 | h1
  · lia
  · have : q = g := by (exact Nat.le_antisymm (by assumption) (by assumption))
    subst this
    exfalso
    have e1 : (high - q * v1) * B + q * v1 * B = high * B := by
      rw [← Nat.add_mul]; congr 1; lia
    have e2 : q * (v1 * B + v2) = q * v1 * B + q * v2 := by grind
    lia
/-- the guess beside the true quotient -/
theorem guess_true {B n U V high u0 v1 v2 lo vlo g : Nat} (hB : 2 ≤ B) (hU : U = (high * B + u0) * B ^ n + lo) (hV : V = (v1 * B + v2) * B ^ n + vlo) (hlo : lo < B ^ n) (hvlo : vlo < B ^ n) (hu0 : u0 < B) (hv1 : 0 < v1) (hv2 : v2 < B) (hq : U / V < B) (G : Guess B high u0 v1 v2 g) :
    U / V ≤ g ∧ g ≤ U / V + 1 := by
  have hVp : 0 < V := by
    rw [hV]
    have h1 : 0 < v1 * B := Nat.mul_pos hv1 (by lia)
    have : 0 < (v1 * B + v2) * B ^ n := Nat.mul_pos (by (subst_vars; lia)) (Nat.pow_pos (by lia))
    (subst_vars; omega)
  have hBn : 0 < B ^ n := Nat.pow_pos (by lia)
  constructor
  · have h1 : U / V * V ≤ U := Nat.div_mul_le_self _ _
    generalize U / V = qt at *
    refine G.low _ hq ?_
    have h2 : qt * (v1 * B + v2) * B ^ n < (high * B + u0 + 1) * B ^ n := by
      have e1 : qt * V = qt * (v1 * B + v2) * B ^ n + qt * vlo := by rw [hV]; grind
      have e2 : (high * B + u0 + 1) * B ^ n = (high * B + u0) * B ^ n + B ^ n := by grind
      (subst_vars; lia)
    have := Nat.lt_of_mul_lt_mul_right h2
    (exact Nat.le_of_lt_succ (by assumption))
  · rcases Nat.eq_zero_or_pos g with h0 | h0
    · rw [h0]; exact Nat.zero_le _
    · have hle : (g - 1) * V ≤ U := by
        obtain ⟨k, rfl⟩ : ∃ k, g = k + 1 := ⟨g - 1, by lia⟩
        simp only [Nat.add_sub_cancel]
        have hk : k < B := by have := G.lt; (exact Nat.le_of_lt (by assumption))
        rcases G.up with h | h
        · -- (k+1) V3 <= T3
          have e0 : (v1 * B + v2 + 1) * B ^ n = (v1 * B + v2) * B ^ n + B ^ n := by grind
          have e1 : k * V ≤ k * ((v1 * B + v2 + 1) * B ^ n) := Nat.mul_le_mul_left _ (by (subst_vars; lia))
          have e2 : k * (v1 * B + v2 + 1) ≤ high * B + u0 := by
            have : (k + 1) * (v1 * B + v2) = k * (v1 * B + v2 + 1) + (v1 * B + v2) - k := by
              have : (k + 1) * (v1 * B + v2) + k = k * (v1 * B + v2 + 1) + (v1 * B + v2) := by grind
              lia
            have h3 : B ≤ v1 * B := Nat.le_mul_of_pos_left _ hv1
            lia
          have e3 : k * (v1 * B + v2 + 1) * B ^ n ≤ (high * B + u0) * B ^ n := Nat.mul_le_mul_right _ e2
          have e4 : k * ((v1 * B + v2 + 1) * B ^ n) = k * (v1 * B + v2 + 1) * B ^ n := by grind
          (omega)
        · -- (k+1) v1 + B <= high
          have t0 : (v1 + 1) * B = v1 * B + B := by grind
          have t1 : (v1 * B + v2 + 1) * B ^ n ≤ (v1 + 1) * B * B ^ n := Nat.mul_le_mul_right _ (by lia)
          have t2 : (v1 * B + v2 + 1) * B ^ n = (v1 * B + v2) * B ^ n + B ^ n := by grind
          have e1 : k * V ≤ k * ((v1 + 1) * B * B ^ n) := Nat.mul_le_mul_left _ (by (subst_vars; lia))
          have e2 : k * (v1 + 1) ≤ high := by
            have : (k + 1) * v1 = k * (v1 + 1) + v1 - k := by
              have : (k + 1) * v1 + k = k * (v1 + 1) + v1 := by grind
              lia
            lia
          have e3 : k * (v1 + 1) * B * B ^ n ≤ high * B * B ^ n := Nat.mul_le_mul_right _ (Nat.mul_le_mul_right _ e2)
          have e4 : k * ((v1 + 1) * B * B ^ n) = k * (v1 + 1) * B * B ^ n := by grind
          have e5 : (high * B + u0) * B ^ n = high * B * B ^ n + u0 * B ^ n := by grind
          lia
      have : g - 1 ≤ U / V := (Nat.le_div_iff_mul_le hVp).mpr hle
      lia

/-- one turn of take_away: place i = at + k, d the digit, ng 1 where a borrow is taken -/
theorem take_turn {B : Nat} (hB : 2 ≤ B) {R0 R V : List Nat} {at' k g cy d ng : Nat} (hi : at' + k < R.length) (hR : Lm B R) (hd : d < B) (hg : g < B) (hcy : cy ≤ B) (hV : V.getD k 0 < B) (hng : ng ≤ 1)
    (e : val B R + B ^ at' * (g * val B (V.take k)) = val B R0 + B ^ (at' + k) * cy) (hx : d + (g * V.getD k 0 + cy) % B = R.getD (at' + k) 0 + B * ng) :
    (R.set (at' + k) d).length = R.length ∧ Lm B (R.set (at' + k) d) ∧ (g * V.getD k 0 + cy) / B + ng ≤ B ∧
    val B (R.set (at' + k) d) + B ^ at' * (g * val B (V.take (k + 1))) = val B R0 + B ^ (at' + (k + 1)) * ((g * V.getD k 0 + cy) / B + ng) := by
  refine ⟨by simp, fun x hx => ?_, ?_, ?_⟩
  · rcases List.mem_or_eq_of_mem_set hx with h | h
    · exact hR x h
    · rw [h]; exact hd
  · have h1 : g * V.getD k 0 ≤ (B - 1) * (B - 1) := Nat.mul_le_mul (by lia) (by lia)
    have h2 : (B - 1) * (B - 1) + 2 * B = B * B + 1 := by
      obtain ⟨c, rfl⟩ : ∃ c, B = c + 1 := ⟨B - 1, by lia⟩
      simp; grind
    have h3 : (g * V.getD k 0 + cy) / B < B := by
      rw [Nat.div_lt_iff_lt_mul (by lia)]
      lia
    lia
  · have hs := val_set (B := B) (L := R) (k := at' + k) (x := d) hi
    rw [val_take_succ', show at' + (k + 1) = at' + k + 1 by lia]
    have hm := Nat.mod_add_div (g * V.getD k 0 + cy) B
    generalize (g * V.getD k 0 + cy) % B = m at *
    generalize (g * V.getD k 0 + cy) / B = q at *
    generalize V.getD k 0 = v at *
    generalize R.getD (at' + k) 0 = r at *
    generalize val B (R.set (at' + k) d) = X at *
    generalize val B R = Y at *
    generalize val B (V.take k) = Z at *
    generalize val B R0 = A at *
    have e1 : B ^ (at' + k) * (d + m) = B ^ (at' + k) * (r + B * ng) := by rw [hx]
    have e2 : B ^ (at' + k) * (m + B * q) = B ^ (at' + k) * (g * v + cy) := by rw [hm]
    have e3 : B ^ (at' + k) = B ^ at' * B ^ k := Nat.pow_add _ _ _
    have e4 : B ^ (at' + k + 1) = B ^ (at' + k) * B := Nat.pow_succ _ _
    grind
theorem take_last {B : Nat} {R0 R : List Nat} {at' n gV cy d ng : Nat} (hi : at' + n < R.length) (hR : Lm B R) (hd : d < B)
    (e : val B R + B ^ at' * gV = val B R0 + B ^ (at' + n) * cy) (hx : d + cy = R.getD (at' + n) 0 + B * ng) :
    (R.set (at' + n) d).length = R.length ∧ Lm B (R.set (at' + n) d) ∧ val B (R.set (at' + n) d) + B ^ at' * gV = val B R0 + B ^ (at' + n + 1) * ng := by
  refine ⟨by simp, fun x hx => ?_, ?_⟩
  · rcases List.mem_or_eq_of_mem_set hx with h | h
    · exact hR x h
    · rw [h]; exact hd
  · have hs := val_set (B := B) (L := R) (k := at' + n) (x := d) hi
    generalize R.getD (at' + n) 0 = r at *
    generalize val B (R.set (at' + n) d) = X at *
    generalize val B R = Y at *
    generalize val B R0 = A at *
    have e1 : B ^ (at' + n) * (d + cy) = B ^ (at' + n) * (r + B * ng) := by rw [hx]
    have e4 : B ^ (at' + n + 1) = B ^ (at' + n) * B := Nat.pow_succ _ _
    grind
/-- one turn of put_back -/
theorem put_turn {B : Nat} (hB : 2 ≤ B) {R0 R V : List Nat} {at' k cy : Nat} (hi : at' + k < R.length) (hR : Lm B R) (hcy : cy ≤ 1) (hV : V.getD k 0 < B) (hr : R.getD (at' + k) 0 < B)
    (e : val B R + B ^ (at' + k) * cy = val B R0 + B ^ at' * val B (V.take k)) :
    (R.set (at' + k) ((cy + (R.getD (at' + k) 0 + V.getD k 0)) % B)).length = R.length ∧ Lm B (R.set (at' + k) ((cy + (R.getD (at' + k) 0 + V.getD k 0)) % B)) ∧ (cy + (R.getD (at' + k) 0 + V.getD k 0)) / B ≤ 1 ∧
    val B (R.set (at' + k) ((cy + (R.getD (at' + k) 0 + V.getD k 0)) % B)) + B ^ (at' + (k + 1)) * ((cy + (R.getD (at' + k) 0 + V.getD k 0)) / B) = val B R0 + B ^ at' * val B (V.take (k + 1)) := by
  refine ⟨by simp, fun x hx => ?_, ?_, ?_⟩
  · rcases List.mem_or_eq_of_mem_set hx with h | h
    · exact hR x h
    · rw [h]; exact Nat.mod_lt _ (by lia)
  · have : (cy + (R.getD (at' + k) 0 + V.getD k 0)) / B < 2 := by
      rw [Nat.div_lt_iff_lt_mul (by lia)]; lia
    (exact Nat.le_of_lt_succ (by assumption))
  · have hs := val_set (B := B) (L := R) (k := at' + k) (x := (cy + (R.getD (at' + k) 0 + V.getD k 0)) % B) hi
    rw [val_take_succ', show at' + (k + 1) = at' + k + 1 by lia]
    have hm := Nat.mod_add_div (cy + (R.getD (at' + k) 0 + V.getD k 0)) B
    generalize (cy + (R.getD (at' + k) 0 + V.getD k 0)) % B = m at *
    generalize (cy + (R.getD (at' + k) 0 + V.getD k 0)) / B = q at *
    generalize V.getD k 0 = v at *
    generalize R.getD (at' + k) 0 = r at *
    generalize val B (R.set (at' + k) m) = X at *
    generalize val B R = Y at *
    generalize val B (V.take k) = Z at *
    generalize val B R0 = A at *
    have e2 : B ^ (at' + k) * (m + B * q) = B ^ (at' + k) * (cy + (r + v)) := by rw [hm]
    have e3 : B ^ (at' + k) = B ^ at' * B ^ k := Nat.pow_add _ _ _
    have e4 : B ^ (at' + k + 1) = B ^ (at' + k) * B := Nat.pow_succ _ _
    grind
theorem put_last {B : Nat} (hB : 2 ≤ B) {R0 R : List Nat} {at' n V cy : Nat} (hi : at' + n < R.length) (hR : Lm B R)
    (e : val B R + B ^ (at' + n) * cy = val B R0 + B ^ at' * V) :
    (R.set (at' + n) ((R.getD (at' + n) 0 + cy) % B)).length = R.length ∧ Lm B (R.set (at' + n) ((R.getD (at' + n) 0 + cy) % B)) ∧
    val B (R.set (at' + n) ((R.getD (at' + n) 0 + cy) % B)) + B ^ (at' + n + 1) * ((R.getD (at' + n) 0 + cy) / B) = val B R0 + B ^ at' * V := by
  refine ⟨by simp, fun x hx => ?_, ?_⟩
  · rcases List.mem_or_eq_of_mem_set hx with h | h
    · exact hR x h
    · rw [h]; exact Nat.mod_lt _ (by lia)
  · have hs := val_set (B := B) (L := R) (k := at' + n) (x := (R.getD (at' + n) 0 + cy) % B) hi
    have hm := Nat.mod_add_div (R.getD (at' + n) 0 + cy) B
    generalize (R.getD (at' + n) 0 + cy) % B = m at *
    generalize (R.getD (at' + n) 0 + cy) / B = q at *
    generalize R.getD (at' + n) 0 = r at *
    generalize val B (R.set (at' + n) m) = X at *
    generalize val B R = Y at *
    generalize val B R0 = A at *
    have e2 : B ^ (at' + n) * (m + B * q) = B ^ (at' + n) * (r + cy) := by rw [hm]
    have e4 : B ^ (at' + n + 1) = B ^ (at' + n) * B := Nat.pow_succ _ _
    grind
end Mine

set_option Elab.async false
set_option linter.all false
namespace Mine
theorem val_zero_drop {B : Nat} {L : List Nat} {k : Nat} (h : val B (L.drop k) = 0) : val B L = val B (L.take k) := by
  rw [val_take_drop L k, h, Nat.mul_zero, Nat.add_zero]
/-- what is left of a division below place i+1 : the window at i and its three upper limbs -/
theorem window {B : Nat} (hB : 2 ≤ B) {R : List Nat} {V n i : Nat} (hR : Lm B R) (hn : 2 ≤ n) (hV : V < B ^ n) (hlt : val B R < B ^ (i + 1) * V) (hlen : i + n < R.length) :
    val B (R.drop (i + n + 1)) = 0 ∧ val B (R.drop i) < B * V ∧
    ∃ lo, lo < B ^ (n - 2) ∧ val B (R.drop i) = ((R.getD (i + n) 0 * B + R.getD (i + n - 1) 0) * B + R.getD (i + n - 2) 0) * B ^ (n - 2) + lo := by
  have hBi : 0 < B ^ i := Nat.pow_pos (by lia)
  have hU : val B (R.drop i) < B * V := by
    rw [← val_drop_div (by lia) hR, Nat.div_lt_iff_lt_mul hBi]
    have : B ^ (i + 1) * V = B * V * B ^ i := by rw [Nat.pow_succ]; grind
    (omega)
  have h0 : val B (R.drop (i + n + 1)) = 0 := by
    rw [← val_drop_div (by lia) hR]
    refine Nat.div_eq_of_lt (Nat.lt_of_lt_of_le hlt ?_)
    have : B ^ (i + n + 1) = B ^ (i + 1) * B ^ n := by rw [← Nat.pow_add]; congr 1; lia
    rw [this]
    exact Nat.mul_le_mul_left _ (Nat.le_of_lt hV)
  refine ⟨h0, hU, ?_⟩
  obtain ⟨m, rfl⟩ : ∃ m, n = m + 2 := ⟨n - 2, by lia⟩
  refine ⟨val B ((R.drop i).take m), ?_, ?_⟩
  · have := val_lt ((hR.drop i).take m)
    rw [List.length_take, List.length_drop, Nat.min_eq_left (by lia)] at this
    simpa using this
  · rw [val_take_drop (R.drop i) m, List.length_drop, Nat.min_eq_left (by lia), List.drop_drop]
    rw [val_drop_get, val_drop_get, val_drop_get, show i + m + 1 + 1 + 1 = i + (m + 2) + 1 by lia, h0]
    rw [show i + (m + 2) = i + m + 1 + 1 by lia, show i + m + 1 + 1 - 1 = i + m + 1 by (simp; done), show i + m + 1 + 1 - 2 = i + m by (simp; done), show m + 2 - 2 = m by (simp; done)]
    generalize R.getD (i + m) 0 = x
    generalize R.getD (i + m + 1) 0 = y
    generalize R.getD (i + m + 1 + 1) 0 = z
    grind
theorem divisor_top {B : Nat} (hB : 2 ≤ B) {L : List Nat} (hL : Lm B L) (hn : 2 ≤ L.length) :
    ∃ lo, lo < B ^ (L.length - 2) ∧ val B L = (L.getD (L.length - 1) 0 * B + L.getD (L.length - 2) 0) * B ^ (L.length - 2) + lo := by
  refine ⟨val B (L.take (L.length - 2)), ?_, ?_⟩
  · have := val_lt (hL.take (L.length - 2))
    rw [List.length_take, Nat.min_eq_left (by (exact Nat.sub_le _ _))] at this
    exact this
  · rw [val_take_drop L (L.length - 2), Nat.min_eq_left (by lia), val_drop_get, val_drop_get, show L.length - 2 + 1 = L.length - 1 by lia, show L.length - 1 + 1 = L.length by lia, List.drop_length]
    generalize L.getD (L.length - 2) 0 = x
    generalize L.getD (L.length - 1) 0 = y
    show _ = _ + _
    simp only [val]
    grind
/-- the whole of one turn of divide_rows: R1 behind take_away, R2 behind put_back -/
theorem rows_take {B : Nat} (hB : 2 ≤ B) {R R1 : List Nat} {V n i g ret : Nat} (hVp : 0 < V) (hR : Lm B R) (hR1 : Lm B R1) (hl : R1.length = R.length) (hlen : i + n < R.length) (hV : V < B ^ n) (h0 : val B (R.drop (i + n + 1)) = 0) (hU : val B (R.drop i) < B * V)
    (hk : R1.drop (i + n + 1) = R.drop (i + n + 1)) (hret : ret ≤ 1) (e : val B R1 + B ^ i * (g * V) = val B R + B ^ (i + n + 1) * ret) (g1 : val B (R.drop i) / V ≤ g) (g2 : g ≤ val B (R.drop i) / V + 1) :
    (ret = 0 → g = val B (R.drop i) / V) ∧ (ret = 1 → g = val B (R.drop i) / V + 1) := by
  have hBi : 0 < B ^ i := Nat.pow_pos (by lia)
  have w1 : val B R1 < B ^ (i + n + 1) := by
    rw [val_zero_drop (k := i + n + 1) (by rw [hk]; exact h0)]
    have := val_lt (hR1.take (i + n + 1))
    rw [List.length_take, Nat.min_eq_left (by lia)] at this
    exact this
  have hlow := val_lt (hR.take i)
  rw [List.length_take, Nat.min_eq_left (by lia)] at hlow
  have hv := val_take_drop (B := B) R i
  rw [Nat.min_eq_left (by lia)] at hv
  have hq1 : val B (R.drop i) / V * V ≤ val B (R.drop i) := Nat.div_mul_le_self _ _
  have hq2 : val B (R.drop i) < (val B (R.drop i) / V + 1) * V := by
    have := Nat.lt_div_mul_add (a := val B (R.drop i)) hVp
    rw [Nat.add_mul]; lia
  generalize val B (R.drop i) = U at *
  generalize U / V = q at *
  refine ⟨fun hr => ?_, fun hr => ?_⟩
  · subst hr
    rcases Nat.lt_or_ge q g with h | h
    · exfalso
      have hg : g = q + 1 := by (exact Nat.le_antisymm (by assumption) (by assumption))
      subst hg
      have t1 : B ^ i * (U + 1) ≤ B ^ i * ((q + 1) * V) := Nat.mul_le_mul_left _ (by (assumption))
      rw [Nat.mul_add] at t1
      lia
    · (exact Nat.le_antisymm (by assumption) (by assumption))
  · subst hr
    rcases Nat.lt_or_ge q g with h | h
    · lia
    · exfalso
      have hg : g = q := by lia
      subst hg
      have t1 : B ^ i * (g * V) ≤ B ^ i * U := Nat.mul_le_mul_left _ hq1
      lia
theorem rows_put {B : Nat} (hB : 2 ≤ B) {R R1 R2 : List Nat} {V n i q c2 : Nat} (hVp : 0 < V) (hR : Lm B R) (hR2 : Lm B R2) (hl : R2.length = R.length) (hlen : i + n < R.length) (hV : V < B ^ n) (h0 : val B (R.drop (i + n + 1)) = 0)
    (hk : R2.drop (i + n + 1) = R.drop (i + n + 1)) (hq : q = val B (R.drop i) / V) (e : val B R1 + B ^ i * ((q + 1) * V) = val B R + B ^ (i + n + 1)) (e2 : val B R2 + B ^ (i + n + 1) * c2 = val B R1 + B ^ i * V) :
    val B R2 + B ^ i * (q * V) = val B R := by
  have hBi : 0 < B ^ i := Nat.pow_pos (by lia)
  have w1 : val B R2 < B ^ (i + n + 1) := by
    rw [val_zero_drop (k := i + n + 1) (by rw [hk]; exact h0)]
    have := val_lt (hR2.take (i + n + 1))
    rw [List.length_take, Nat.min_eq_left (by lia)] at this
    exact this
  have hlow := val_lt (hR.take i)
  rw [List.length_take, Nat.min_eq_left (by lia)] at hlow
  have hv := val_take_drop (B := B) R i
  rw [Nat.min_eq_left (by lia)] at hv
  have hq1 : val B (R.drop i) / V * V ≤ val B (R.drop i) := Nat.div_mul_le_self _ _
  have hq2 : val B (R.drop i) < (val B (R.drop i) / V + 1) * V := by
    have := Nat.lt_div_mul_add (a := val B (R.drop i)) hVp
    rw [Nat.add_mul]; lia
  rw [← hq] at hq1 hq2
  generalize val B (R.drop i) = U at *
  have t1 : B ^ i * (q * V) ≤ B ^ i * U := Nat.mul_le_mul_left _ hq1
  have t2 : B ^ i * (U + 1) ≤ B ^ i * ((q + 1) * V) := Nat.mul_le_mul_left _ (by (assumption))
  have t3 : B ^ i * ((q + 1) * V) = B ^ i * (q * V) + B ^ i * V := by grind
  have t4 : B ^ i * V ≤ B ^ i * B ^ n := Nat.mul_le_mul_left _ (Nat.le_of_lt hV)
  have t5 : B ^ (i + n + 1) = B ^ i * B ^ n * B := by rw [Nat.pow_succ, Nat.pow_add]
  have t6 : B ^ i * B ^ n * 2 ≤ B ^ i * B ^ n * B := Nat.mul_le_mul_left _ hB
  rw [Nat.mul_add] at t2
  have hc : c2 = 1 := by
    rcases Nat.lt_trichotomy c2 1 with h | h | h
    · have : c2 = 0 := by lia
      subst this
      lia
    · exact h
    · exfalso
      have : B ^ (i + n + 1) * 2 ≤ B ^ (i + n + 1) * c2 := Nat.mul_le_mul_left _ h
      lia
  subst hc
  lia
/-- behind a turn: the rest is below the next place, and the sum stands -/
theorem rows_next {B : Nat} (hB : 2 ≤ B) {R R' F : List Nat} {A V i q : Nat} (hVp : 0 < V) (hR : Lm B R) (hi : i < F.length) (hlen : i < R.length) (hq : q = val B (R.drop i) / V) (e : val B R' + B ^ i * (q * V) = val B R)
    (hA : A = V * (B ^ (i + 1) * val B (F.drop (i + 1))) + val B R) :
    val B R' < B ^ i * V ∧ A = V * (B ^ i * val B ((F.set i q).drop i)) + val B R' := by
  have hlow := val_lt (hR.take i)
  rw [List.length_take, Nat.min_eq_left (by lia)] at hlow
  have hv := val_take_drop (B := B) R i
  rw [Nat.min_eq_left (by lia)] at hv
  have hq2 : val B (R.drop i) < (val B (R.drop i) / V + 1) * V := by
    have := Nat.lt_div_mul_add (a := val B (R.drop i)) hVp
    rw [Nat.add_mul]; lia
  rw [← hq] at hq2
  constructor
  · have t2 : B ^ i * (val B (R.drop i) + 1) ≤ B ^ i * ((q + 1) * V) := Nat.mul_le_mul_left _ (by (assumption))
    have t3 : B ^ i * ((q + 1) * V) = B ^ i * (q * V) + B ^ i * V := by grind
    rw [Nat.mul_add] at t2
    lia
  · have e1 : (F.set i q).drop i = q :: F.drop (i + 1) := by
      rw [drop_get (by simp; lia), List.drop_set_of_lt (by lia)]
      congr 1
      rw [List.getD_eq_getElem?_getD, List.getElem?_set_self (by lia)]; rfl
    rw [e1]
    show A = V * (B ^ i * (q + B * val B (F.drop (i + 1)))) + val B R'
    rw [hA, ← e, Nat.pow_succ]
    generalize val B (F.drop (i + 1)) = Z
    grind
end Mine

set_option Elab.async false
set_option linter.all false
namespace Mine
open PySem
theorem intBits_facts {x w : Nat} (h0 : 0 < x) (h : x < 2 ^ w) : 1 ≤ Builtin.Int.intBits (x : Int) ∧ Builtin.Int.intBits (x : Int) ≤ w ∧ 2 ^ (Builtin.Int.intBits (x : Int) - 1) ≤ x ∧ x < 2 ^ Builtin.Int.intBits (x : Int) := by
  rw [intBits_nat, if_neg (by (exact Nat.ne_of_gt (by assumption)))]
  refine ⟨by (exact Nat.succ_pos _), ?_, ?_, Nat.lt_log2_self⟩
  · have := (Nat.log2_lt (by lia)).mpr h
    (assumption)
  · rw [Nat.add_sub_cancel]; exact Nat.log2_self_le (by lia)
theorem val_top {B : Nat} {L : List Nat} (h : 1 ≤ L.length) : val B L = val B (L.take (L.length - 1)) + B ^ (L.length - 1) * L.getD (L.length - 1) 0 := by
  have := val_take_succ' (B := B) L (L.length - 1)
  rwa [show L.length - 1 + 1 = L.length by lia, List.take_length] at this
/-- the numbers of divrem_school: s the shift -/
theorem school_facts {w A Bn s : Nat} (hw : 1 ≤ w) (hB0 : 0 < Bn) (hAB : Bn ≤ A)
    (hs : s = w - Builtin.Int.intBits (((dg (2 ^ w) Bn).getD ((dg (2 ^ w) Bn).length - 1) 0 : Nat) : Int)) :
    s < w ∧ Bn * 2 ^ s < (2 ^ w) ^ (dg (2 ^ w) Bn).length ∧ A * 2 ^ s < (2 ^ w) ^ ((dg (2 ^ w) A).length + 1 - (dg (2 ^ w) (Bn * 2 ^ s)).length) * (Bn * 2 ^ s) ∧
    (dg (2 ^ w) (Bn * 2 ^ s)).length = (dg (2 ^ w) Bn).length := by
  have hB := pw2 hw
  have hL := dg_lm hB Bn
  have hV := dg_val hB Bn
  have ht := dg_top hB hB0
  have hn : 1 ≤ (dg (2 ^ w) Bn).length := by
    rcases Nat.eq_zero_or_pos (dg (2 ^ w) Bn).length with h | h
    · have := (dg_nil hB).mp (List.length_eq_zero_iff.mp h); lia
    · exact h
  have hx := hL.get (by (exact Nat.le_of_lt (by assumption))) ((dg (2 ^ w) Bn).length - 1)
  have hvt := val_top (B := 2 ^ w) hn
  have hlow := val_lt (hL.take ((dg (2 ^ w) Bn).length - 1))
  rw [List.length_take, Nat.min_eq_left (by (exact Nat.sub_le _ _))] at hlow
  obtain ⟨f1, f2, f3, f4⟩ := intBits_facts (x := (dg (2 ^ w) Bn).getD ((dg (2 ^ w) Bn).length - 1) 0) (by (exact Nat.pos_of_ne_zero (by assumption))) hx
  have hA := val_lt (dg_lm hB A)
  rw [dg_val hB] at hA
  have hlen := dg_len_mono hB hAB
  rw [hV] at hvt
  generalize Builtin.Int.intBits (((dg (2 ^ w) Bn).getD ((dg (2 ^ w) Bn).length - 1) 0 : Nat) : Int) = ib at *
  generalize (dg (2 ^ w) Bn).getD ((dg (2 ^ w) Bn).length - 1) 0 = x at *
  generalize val (2 ^ w) ((dg (2 ^ w) Bn).take ((dg (2 ^ w) Bn).length - 1)) = lo at *
  have hmono := dg_len_mono hB (m := Bn * 2 ^ s) (n := Bn) (Nat.le_mul_of_pos_right _ (Nat.two_pow_pos s))
  generalize hnn : (dg (2 ^ w) Bn).length = n at *
  generalize (dg (2 ^ w) A).length = la at *
  have e1 : 2 ^ ib * 2 ^ s = 2 ^ w := by rw [← Nat.pow_add]; congr 1; lia
  have e2 : 2 ^ (ib - 1) * 2 ^ s = 2 ^ (w - 1) := by rw [← Nat.pow_add]; congr 1; (subst_vars; lia)
  have e3 : 2 ^ w = 2 ^ (w - 1) * 2 := by rw [← Nat.pow_succ]; congr 1; lia
  have hs1 : s < w := by lia
  have hb1 : Bn * 2 ^ s < (2 ^ w) ^ n := by
    have t1 : Bn < (2 ^ w) ^ (n - 1) * (x + 1) := by rw [Nat.mul_add]; (subst_vars; lia)
    have t2 : Bn * 2 ^ s < (2 ^ w) ^ (n - 1) * (x + 1) * 2 ^ s := Nat.mul_lt_mul_of_pos_right t1 (Nat.two_pow_pos s)
    have t3 : (2 ^ w) ^ (n - 1) * (x + 1) * 2 ^ s ≤ (2 ^ w) ^ (n - 1) * (2 ^ ib * 2 ^ s) := by
      rw [Nat.mul_assoc]
      exact Nat.mul_le_mul_left _ (Nat.mul_le_mul_right _ f4)
    have t4 : (2 ^ w) ^ n = (2 ^ w) ^ (n - 1) * 2 ^ w := by rw [← Nat.pow_succ]; congr 1; lia
    rw [e1] at t3
    lia
  have hdl : (dg (2 ^ w) (Bn * 2 ^ s)).length = n := Nat.le_antisymm (dg_len_le hB hb1) hmono
  refine ⟨hs1, hb1, ?_, hdl⟩
  rw [hdl]
  have t1 : (2 ^ w) ^ (n - 1) * 2 ^ (ib - 1) ≤ Bn := by
    have : (2 ^ w) ^ (n - 1) * 2 ^ (ib - 1) ≤ (2 ^ w) ^ (n - 1) * x := Nat.mul_le_mul_left _ f3
    lia
  have t2 : (2 ^ w) ^ (n - 1) * 2 ^ (w - 1) ≤ Bn * 2 ^ s := by
    rw [← e2, ← Nat.mul_assoc]
    exact Nat.mul_le_mul_right _ t1
  have t3 : (2 ^ w) ^ (la + 1 - n) * ((2 ^ w) ^ (n - 1) * 2 ^ (w - 1)) ≤ (2 ^ w) ^ (la + 1 - n) * (Bn * 2 ^ s) := Nat.mul_le_mul_left _ t2
  have t4 : (2 ^ w) ^ (la + 1 - n) * ((2 ^ w) ^ (n - 1) * 2 ^ (w - 1)) = (2 ^ w) ^ la * 2 ^ (w - 1) := by
    rw [← Nat.mul_assoc, ← Nat.pow_add]; congr 2; lia
  have t5 : (2 ^ w) ^ la * 2 ^ s ≤ (2 ^ w) ^ la * 2 ^ (w - 1) := Nat.mul_le_mul_left _ (Nat.pow_le_pow_right (by (exact Nat.succ_pos _)) (by lia))
  have t6 : A * 2 ^ s < (2 ^ w) ^ la * 2 ^ s := Nat.mul_lt_mul_of_pos_right hA (Nat.two_pow_pos s)
  lia
theorem school_rest {A Bn s q r : Nat} (h : A * 2 ^ s = Bn * 2 ^ s * q + r) (hr : r < Bn * 2 ^ s) : r / 2 ^ s = A % Bn := by
  have h1 : r = A * 2 ^ s % (Bn * 2 ^ s) := by rw [h, Nat.mul_add_mod, Nat.mod_eq_of_lt hr]
  rw [h1, Nat.mul_mod_mul_right, Nat.mul_div_cancel _ (Nat.two_pow_pos s)]
theorem dg_single {B Bn : Nat} (hB : 2 ≤ B) (h : (dg B Bn).length = 1) : dg B Bn = [Bn] ∧ Bn < B := by
  have hL := dg_lm hB Bn
  have hV := dg_val hB Bn
  obtain ⟨y, hy⟩ := List.length_eq_one_iff.mp h
  rw [hy] at hV hL ⊢
  have : y = Bn := by simpa [val] using hV
  subst this
  exact ⟨rfl, hL y (.head _)⟩
end Mine

set_option Elab.async false
set_option linter.all false
namespace Mine
def rowL (a b K : Nat) : List Nat := (List.range (K + 2)).map fun i => (eu a b i).1
theorem rowL_len {a b K : Nat} : (rowL a b K).length = K + 2 := by simp [rowL]
theorem rowL_get {a b K i : Nat} (h : i < K + 2) : (rowL a b K).getD i 0 = (eu a b i).1 := by simp [rowL, List.getD, h]
theorem rowL_succ {a b K : Nat} : rowL a b (K + 1) = rowL a b K ++ [(eu a b (K + 2)).1] := by
  unfold rowL
  rw [show K + 1 + 2 = K + 2 + 1 by lia, List.range_succ, List.map_append]
  rfl
theorem rowL_zero {a b : Nat} : rowL a b 0 = [a, b] := rfl
theorem eu_lt {a b i : Nat} (h : 0 < (eu a b i).2) : (eu a b (i + 1)).2 < (eu a b i).2 := Nat.mod_lt _ h
theorem eu_le {a b : Nat} (hab : b ≤ a) : ∀ i, (∀ j, j < i → 0 < (eu a b j).2) → (eu a b i).2 ≤ (eu a b i).1
  | 0, _ => hab
  | i + 1, h => Nat.le_of_lt (eu_lt (h i (by lia)))
theorem eu_half {a b : Nat} (hab : b ≤ a) : ∀ n, (∀ j, j < 2 * n → 0 < (eu a b j).2) → 2 ^ n * (eu a b (2 * n)).1 ≤ a
  | 0, _ => by simp [eu]
  | n + 1, h => by
    have ih := eu_half hab n fun j hj => h j (by lia)
    have h0 := h (2 * n) (by (simp; done))
    have hl := eu_le hab (2 * n) fun j hj => h j (by lia)
    have e : (eu a b (2 * (n + 1))).1 = (eu a b (2 * n)).1 % (eu a b (2 * n)).2 := rfl
    have h1 := Nat.mod_lt (eu a b (2 * n)).1 h0
    have h2 := Nat.mod_add_div (eu a b (2 * n)).1 (eu a b (2 * n)).2
    have h3 : 1 ≤ (eu a b (2 * n)).1 / (eu a b (2 * n)).2 := (Nat.le_div_iff_mul_le h0).mpr (by lia)
    have h4 : (eu a b (2 * n)).2 * 1 ≤ (eu a b (2 * n)).2 * ((eu a b (2 * n)).1 / (eu a b (2 * n)).2) := Nat.mul_le_mul_left _ h3
    rw [e, Nat.pow_succ, Nat.mul_assoc]
    refine Nat.le_trans (Nat.mul_le_mul_left _ ?_) ih
    (generalize 2 ^ _ = D at *; lia)
theorem eu_short {a b : Nat} (hab : b ≤ a) (ha : a < 2 ^ 24) (h : ∀ j, j < 60 → 0 < (eu a b j).2) : False := by
  have h1 := eu_half hab 24 fun j hj => h j (by (exact Nat.lt_of_lt_of_le (by assumption) (by decide)))
  have h2 := h 47 (by (decide))
  have e : (eu a b (2 * 24)).1 = (eu a b 47).2 := rfl
  rw [e] at h1
  have : 2 ^ 24 * 1 ≤ 2 ^ 24 * (eu a b 47).2 := Nat.mul_le_mul_left _ h2
  lia
theorem eu_mono1 {a b : Nat} (hab : b ≤ a) : ∀ i, (∀ j, j < i → 0 < (eu a b j).2) → (eu a b i).1 ≤ a
  | 0, _ => Nat.le_refl _
  | i + 1, h => Nat.le_trans (eu_le hab i fun j hj => h j (by lia)) (eu_mono1 hab i fun j hj => h j (by lia))
theorem eu_add {a b : Nat} (i : Nat) : ∀ k, eu (eu a b i).1 (eu a b i).2 k = eu a b (i + k)
  | 0 => rfl
  | k + 1 => by
    show (_, _) = (_, _)
    rw [eu_add i k]; rfl
theorem eu_past {a b K : Nat} (h : (eu a b K).2 = 0) : ∀ n, eu a b (K + n) = ((eu a b K).1, 0) ∨ eu a b (K + n) = (0, (eu a b K).1)
  | 0 => .inl (Prod.ext rfl h)
  | n + 1 => by
    show ((eu a b (K + n)).2, (eu a b (K + n)).1 % (eu a b (K + n)).2) = _ ∨ ((eu a b (K + n)).2, (eu a b (K + n)).1 % (eu a b (K + n)).2) = _
    rcases eu_past h n with e | e
    · right; rw [e, Nat.mod_zero]
    · left; rw [e, Nat.zero_mod]
theorem eu_fold {a b K k : Nat} (h : (eu a b K).2 = 0) (hk : K ≤ k) (hv : (eu a b k).2 ≤ (eu a b k).1) : eu a b k = eu a b K := by
  have e0 : eu a b K = ((eu a b K).1, 0) := Prod.ext rfl h
  rcases eu_past h (k - K) with e | e
  · rw [show K + (k - K) = k by lia] at e
    rw [e, ← e0]
  · rw [show K + (k - K) = k by lia] at e
    rw [e] at hv ⊢
    have : (eu a b K).1 = 0 := Nat.le_zero.mp hv
    rw [e0, this]
end Mine

set_option maxRecDepth 100000
set_option Elab.async false
set_option linter.all false
namespace Mine
open PySem PySem.W PySem.Calls PyProof.Rows PySem.Spec

inductive AV where
  | int (i : Int)
  | bool (b : Bool)
  | none
  | ref (a : Addr)

inductive AO where
  | ints (ns : List Int)
  | vals (vs : List AV)
  | tup (vs : List AV)

def VR : AV → Value → Prop
  | .int i, v => ∃ t, v = .int i t
  | .bool b, v => v = .bool b
  | .none, v => v = .none
  | .ref a, v => v = .ref a

def VRs : List AV → List Value → Prop
  | [], vs => vs = []
  | a :: as, vs => ∃ v r, vs = v :: r ∧ VR a v ∧ VRs as r

def OR : AO → Obj → Prop
  | .ints ns, o => ∃ vs n, o = W.listOf vs.toArray n ∧ IntsAre vs ns
  | .vals as, o => ∃ vs n, o = W.listOf vs.toArray n ∧ VRs as vs
  | .tup as, o => ∃ vs, o = ({ cls := .type "tuple", data := .seq vs.toArray } : Obj) ∧ VRs as vs

abbrev AH := Addr → Option AO

structure AS where
  m : List (Option AV)
  H : AH

def slot : List (Str × NameKind) → Str → Option Nat
  | [], _ => none
  | (y, k) :: r, x => if x == y then (if k == .local then some 0 else none) else (slot r x).map (· + 1)

theorem slot_lookup : ∀ {names : List (Str × NameKind)} {x : Str} {i : Nat}, slot names x = some i → names.lookup x = some .local
  | [], _, _, h => by cases h
  | (y, k) :: r, x, i, h => by
    unfold slot at h
    rw [List.lookup_cons]
    by_cases e : (x == y) = true
    · rw [if_pos e] at h
      simp only [e]
      split at h
      · rename_i hk; rw [beq_iff_eq.mp hk]
      · cases h
    · rw [if_neg e] at h
      simp only [e]
      cases hs : slot r x with
      | none => rw [hs] at h; cases h
      | some j => exact slot_lookup hs

theorem slot_inj : ∀ {names : List (Str × NameKind)} {x y : Str} {i : Nat}, slot names x = some i → slot names y = some i → x = y
  | [], _, _, _, h, _ => by cases h
  | (z, k) :: r, x, y, i, h, h' => by
    unfold slot at h h'
    by_cases e : (x == z) = true
    · rw [if_pos e] at h
      by_cases e' : (y == z) = true
      · exact (beq_iff_eq.mp e).trans (beq_iff_eq.mp e').symm
      · rw [if_neg e'] at h'
        split at h
        · cases h
          cases hs : slot r y with
          | none => rw [hs] at h'; cases h'
          | some j => rw [hs] at h'; cases h'
        · cases h
    · rw [if_neg e] at h
      by_cases e' : (y == z) = true
      · rw [if_pos e'] at h'
        split at h'
        · cases h'
          cases hs : slot r x with
          | none => rw [hs] at h; cases h
          | some j => rw [hs] at h; cases h
        · cases h'
      · rw [if_neg e'] at h'
        cases hs : slot r x with
        | none => rw [hs] at h; cases h
        | some j =>
          cases hs' : slot r y with
          | none => rw [hs'] at h'; cases h'
          | some j' =>
            rw [hs] at h; rw [hs'] at h'
            have e1 : j + 1 = i := Option.some.inj h
            have e2 : j' + 1 = i := Option.some.inj h'
            have : j = j' := by lia
            subst this
            exact slot_inj hs hs'

structure Wd where
  prog : Program
  w : World
  K : Frag
  p : Program
  loose : List Str
  mean : ExcName → Option Value
  mg : Str → Option Value
  mb : Str → Option Value

structure Cx where
  A : Around
  h₀ : Heap
  L : Addr
  a : Addr
  cn : Str
  cs : Scope
  ccd : Value
  base : Heap
  outer : List Env
  A₀ : Around

abbrev Cx.env (c : Cx) : Env := envOf c.cn c.cs c.L c.a c.ccd

structure COk (W : Wd) (c : Cx) : Prop where
  hA : c.A.handled = none
  hB : Below c.A₀ c.base c.outer c.h₀
  hF : c.A.frames = some (c.env :: c.outer)
  hK : W.K.In c.h₀
  hT : Top W.p W.loose W.mean W.mg W.mb c.h₀
  hk : c.cs.kind = .function

def MR (names : List (Str × NameKind)) (m : List (Option AV)) (mm : Str → Option Value) : Prop :=
  ∀ x i av, slot names x = some i → m[i]? = some (some av) → ∃ v, mm x = some v ∧ VR av v

def HR (H : AH) (news : List (Addr × Obj)) : Prop := ∀ a o, H a = some o → ∃ ob, OR o ob ∧ (a, ob) ∈ news

structure RelAt (c : Cx) (σ : AS) (R : List (Addr × Obj)) (h : Heap) (m : Str → Option Value) (news : List (Addr × Obj)) : Prop where
  F : Fr c.h₀ c.L h m
  M : MR c.cs.names σ.m m
  N : News c.h₀ c.L h news
  H : HR σ.H news
  S : ∀ p ∈ R, p ∈ news
  D : ∀ p ∈ R, σ.H p.1 = none

inductive Rel (c : Cx) (σ : AS) (R : List (Addr × Obj)) (h : Heap) : Prop
  | intro (m : Str → Option Value) (news : List (Addr × Obj)) (r : RelAt c σ R h m news)

inductive Post (c : Cx) (R : List (Addr × Obj)) (s : Shared) (Q : AV → AS → Prop) (v : Value) (s' : Shared) : Prop
  | intro (av : AV) (σ' : AS) (h' : Heap) (tk' : Nat) (e : s' = { s with heap := h', toks := tk' }) (a : VR av v) (b : Rel c σ' R h') (d : Q av σ')

inductive PostB (c : Cx) (R : List (Addr × Obj)) (s : Shared) (Q : Bool → AS → Prop) (b : Bool) (s' : Shared) : Prop
  | intro (σ' : AS) (h' : Heap) (tk' : Nat) (e : s' = { s with heap := h', toks := tk' }) (r : Rel c σ' R h') (d : Q b σ')

inductive AF where
  | next
  | brk
  | ret (v : AV)

def FRel : AF → Flow → Prop
  | .next, f => f = .next
  | .brk, f => f = .brk
  | .ret a, f => ∃ v, f = .ret v ∧ VR a v

inductive PostF (c : Cx) (R : List (Addr × Obj)) (s : Shared) (Q : AF → AS → Prop) (f : Flow) (s' : Shared) : Prop
  | intro (af : AF) (σ' : AS) (h' : Heap) (tk' : Nat) (e : s' = { s with heap := h', toks := tk' }) (a : FRel af f) (b : Rel c σ' R h') (d : Q af σ')

abbrev NoE : Value → Shared → Prop := fun _ _ => False

variable (W : Wd) (c : Cx)

/-- a tree that hands back a value -/
def TV (t : Sem Value) (σ : AS) (Q : AV → AS → Prop) : Prop :=
  ∀ R s, Rel c σ R s.heap → wpAny (model W.prog W.w) c.A t (Post c R s Q) NoE s

def EV (e : Expr) (σ : AS) (Q : AV → AS → Prop) : Prop := TV W c (eval e c.env) σ Q

def TS (e : Expr) (σ : AS) (Q : Bool → AS → Prop) : Prop :=
  ∀ R s, Rel c σ R s.heap → wpAny (model W.prog W.w) c.A (PySem.isTrue e c.env (eval e c.env)) (PostB c R s Q) NoE s

def EX (st : List Stmt) (σ : AS) (Q : AF → AS → Prop) : Prop :=
  ∀ R s, Rel c σ R s.heap → wpAny (model W.prog W.w) c.A (execs st c.env) (PostF c R s Q) NoE s

def E1 (st : Stmt) (σ : AS) (Q : AF → AS → Prop) : Prop :=
  ∀ R s, Rel c σ R s.heap → wpAny (model W.prog W.w) c.A (exec st c.env) (PostF c R s Q) NoE s

def BIN (op : Operator) (a b : AV) (σ : AS) (Q : AV → AS → Prop) : Prop :=
  ∀ va vb, VR a va → VR b vb → TV W c (binaryOp op va vb) σ Q

def CMP (op : CmpOp) (a b : AV) (σ : AS) (Q : Bool → AS → Prop) : Prop :=
  ∀ va vb, VR a va → VR b vb → TV W c (compareOp op va vb) σ (fun v σ' => ∃ b, v = .bool b ∧ Q b σ')

def CALL (f : Value) (as : List AV) (σ : AS) (Q : AV → AS → Prop) : Prop :=
  ∀ vs, VRs as vs → TV W c (call f vs) σ Q

variable {W c}
variable {σ σ' : AS} {Q : AV → AS → Prop}

theorem Post.trans {R : List (Addr × Obj)} {s s₁ s' : Shared} {v : Value} {h₁ : Heap} {k₁ : Nat} (e : s₁ = { s with heap := h₁, toks := k₁ }) (h : Post c R s₁ Q v s') : Post c R s Q v s' := by
  obtain ⟨av, σ', h', tk', rfl, a, b, d⟩ := h
  subst e
  exact ⟨av, σ', h', tk', rfl, a, b, d⟩
theorem PostB.trans {R : List (Addr × Obj)} {s s₁ s' : Shared} {v : Bool} {Q : Bool → AS → Prop} {h₁ : Heap} {k₁ : Nat} (e : s₁ = { s with heap := h₁, toks := k₁ }) (h : PostB c R s₁ Q v s') : PostB c R s Q v s' := by
  obtain ⟨σ', h', tk', rfl, b, d⟩ := h
  subst e
  exact ⟨σ', h', tk', rfl, b, d⟩
theorem PostF.trans {R : List (Addr × Obj)} {s s₁ s' : Shared} {v : Flow} {Q : AF → AS → Prop} {h₁ : Heap} {k₁ : Nat} (e : s₁ = { s with heap := h₁, toks := k₁ }) (h : PostF c R s₁ Q v s') : PostF c R s Q v s' := by
  obtain ⟨av, σ', h', tk', rfl, a, b, d⟩ := h
  subst e
  exact ⟨av, σ', h', tk', rfl, a, b, d⟩

theorem TV.mono {t : Sem Value} {Q Q' : AV → AS → Prop} (h : TV W c t σ Q) (hq : ∀ v σ', Q v σ' → Q' v σ') : TV W c t σ Q' := fun R s r =>
  wpAny_mono (h R s r) (fun _ _ ⟨av, σ', h', tk', e, a, b, d⟩ => ⟨av, σ', h', tk', e, a, b, hq _ _ d⟩) fun _ _ x => x
theorem EV.mono {e : Expr} {Q Q' : AV → AS → Prop} (h : EV W c e σ Q) (hq : ∀ v σ', Q v σ' → Q' v σ') : EV W c e σ Q' := TV.mono h hq
theorem EX.mono {st : List Stmt} {Q Q' : AF → AS → Prop} (h : EX W c st σ Q) (hq : ∀ v σ', Q v σ' → Q' v σ') : EX W c st σ Q' := fun R s r =>
  wpAny_mono (h R s r) (fun _ _ ⟨av, σ', h', tk', e, a, b, d⟩ => ⟨av, σ', h', tk', e, a, b, hq _ _ d⟩) fun _ _ x => x
theorem TS.mono {e : Expr} {Q Q' : Bool → AS → Prop} (h : TS W c e σ Q) (hq : ∀ v σ', Q v σ' → Q' v σ') : TS W c e σ Q' := fun R s r =>
  wpAny_mono (h R s r) (fun _ _ ⟨σ', h', tk', e, b, d⟩ => ⟨σ', h', tk', e, b, hq _ _ d⟩) fun _ _ x => x

/-- sequencing of value trees inside one wpAny -/
theorem TV.then {t : Sem Value} {Q₁ : AV → AS → Prop} {R : List (Addr × Obj)} {s : Shared} {P : Value → Shared → Prop} (h : TV W c t σ Q₁) (r : Rel c σ R s.heap)
    (k : ∀ av v σ' h' tk', VR av v → Rel c σ' R h' → Q₁ av σ' → P v { s with heap := h', toks := tk' }) : wpAny (model W.prog W.w) c.A t P NoE s :=
  wpAny_mono (h R s r) (fun v s' ⟨av, σ', h', tk', e, a, b, d⟩ => by subst e; exact k av v σ' h' tk' a b d) fun _ _ x => x

theorem Post.mk0 {R : List (Addr × Obj)} {s : Shared} {v : Value} {av : AV} (a : VR av v) (b : Rel c σ R s.heap) (d : Q av σ) : Post c R s Q v s := ⟨av, σ, s.heap, s.toks, rfl, a, b, d⟩

-- atoms
theorem EV_loc {x : Str} {pos : Pos} {i : Nat} {av : AV} (C : COk W c) (hi : slot c.cs.names x = some i) (hv : σ.m[i]? = some (some av)) (hd : (x == ("__debug__" : Str)) = false) (h : Q av σ) :
    EV W c (.Name x pos) σ Q := fun R s ⟨m, news, r⟩ => by
  obtain ⟨v, e, hr⟩ := r.M x i av hi hv
  exact ld r.F e (Post.mk0 hr ⟨m, news, r⟩ h) C.hk (slot_lookup hi) hd

theorem EV_int {i : Int} {k : Nat} {pos : Pos} (h : Q (.int i) σ) : EV W c (.Constant (.int i) k pos) σ Q := fun R s r =>
  wpAny_Constant_int ⟨.int i, σ, s.heap, s.toks + 1, rfl, ⟨_, rfl⟩, r, h⟩

theorem EV_none {k : Nat} {pos : Pos} (h : Q .none σ) : EV W c (.Constant .none k pos) σ Q := fun R s r =>
  wpAny_pure (Post.mk0 (σ := σ) (av := .none) rfl r h)
theorem EV_glob {x : Str} {pos : Pos} {f : Addr} (C : COk W c) (hk : c.cs.names.lookup x = some .globalImplicit) (hn : nsIn W.K mainGlobals x = some (some (.ref f))) (hd : (x == ("__debug__" : Str)) = false) (h : Q (.ref f) σ) :
    EV W c (.Name x pos) σ Q := fun R s r => by
  obtain ⟨m, news, r'⟩ := id r
  exact name_K r'.F C.hK (topRead_of C.hT) hn (Post.mk0 (av := .ref f) rfl r h) C.hk hk hd

theorem EV_bin {l r : Expr} {op : Operator} {pos : Pos} (h : EV W c l σ fun a σ₁ => EV W c r σ₁ fun b σ₂ => BIN W c op a b σ₂ Q) : EV W c (.BinOp l op r pos) σ Q := fun R s rel =>
  wpAny_BinOp (TV.then h rel fun a va σ₁ h₁ k₁ ha r₁ q₁ => TV.then (Q₁ := fun b σ₂ => BIN W c op a b σ₂ Q) (s := { s with heap := h₁, toks := k₁ }) q₁ r₁ fun b vb σ₂ h₂ k₂ hb r₂ q₂ =>
    wpAny_mono (q₂ va vb ha hb R { s with heap := h₂, toks := k₂ } r₂) (fun _ _ x => x.trans rfl) fun _ _ x => x)
end Mine

set_option maxRecDepth 100000
set_option Elab.async false
set_option linter.all false
namespace Mine
open PySem PySem.W PySem.Calls PyProof.Rows PySem.Spec

variable {W : Wd} {c : Cx} {σ σ' : AS} {Q : AV → AS → Prop}

def Ext (H H' : AH) : Prop := ∀ b x, H b = some x → H' b = some x
theorem Ext.refl (H : AH) : Ext H H := fun _ _ e => e
theorem Ext.trans {H H' H'' : AH} (a : Ext H H') (b : Ext H' H'') : Ext H H'' := fun x y e => b x y (a x y e)

def MLe (m m' : List (Option AV)) : Prop := ∀ (i : Nat) (v : AV), m[i]? = some (some v) → m'[i]? = some (some v)
theorem MLe.refl (m : List (Option AV)) : MLe m m := fun _ _ e => e
theorem MLe.nil (m : List (Option AV)) : MLe [] m := fun i v e => by simp at e
theorem MLe.none {m m' : List (Option AV)} {o : Option AV} (h : MLe m m') : MLe (none :: m) (o :: m')
  | 0, v, e => by simp at e
  | i + 1, v, e => by simpa using h i v (by simpa using e)
theorem MLe.some {m m' : List (Option AV)} {o : Option AV} (h : MLe m m') : MLe (o :: m) (o :: m')
  | 0, v, e => by simpa using e
  | i + 1, v, e => by simpa using h i v (by simpa using e)

structure Wk (σ σ' : AS) : Prop where
  m : MLe σ'.m σ.m
  H : Ext σ'.H σ.H
theorem Wk.refl (σ : AS) : Wk σ σ := ⟨MLe.refl _, Ext.refl _⟩

theorem Rel.weak {R : List (Addr × Obj)} {h : Heap} (r : Rel c σ R h) (k : Wk σ σ') : Rel c σ' R h := by
  obtain ⟨m, news, r⟩ := r
  refine ⟨m, news, r.F, fun x i av hi e => r.M x i av hi (k.m _ _ e), r.N, fun a o e => r.H a o (k.H _ _ e), r.S, fun p hp => ?_⟩
  cases e : σ'.H p.1 with
  | none => rfl
  | some o => exact absurd (k.H _ _ e) (by rw [r.D p hp]; intro x; cases x)

def upd (H : AH) (a : Addr) (o : AO) : AH := fun x => if x = a then some o else H x
theorem upd_self {H : AH} {a : Addr} {o : AO} : upd H a o a = some o := if_pos rfl
theorem upd_ne {H : AH} {a b : Addr} {o : AO} (h : b ≠ a) : upd H a o b = H b := if_neg h
theorem ext_upd {H : AH} {a : Addr} {o : AO} (h : H a = none) : Ext H (upd H a o) := fun b x e => by
  rw [upd_ne]; exact e
  rintro rfl; rw [h] at e; cases e

theorem HR.weaken {H : AH} {n n' : List (Addr × Obj)} (h : HR H n) (k : ∀ p ∈ n, p ∈ n') : HR H n' := fun a o e => let ⟨ob, x, y⟩ := h a o e; ⟨ob, x, k _ y⟩

/-- a new object on top -/
theorem RelAt.alloc {R : List (Addr × Obj)} {h h' : Heap} {m : Str → Option Value} {news : List (Addr × Obj)} (r : RelAt c σ R h m news) {l : Addr} {ob : Obj} {o : AO} (F' : Fr c.h₀ c.L h' m) (N' : News c.h₀ c.L h' ((l, ob) :: news))
    (hl : ∀ p ∈ news, p.1 < l) (ho : OR o ob) : σ.H l = none ∧ RelAt c { σ with H := upd σ.H l o } R h' m ((l, ob) :: news) := by
  have hn : σ.H l = none := by
    cases e : σ.H l with
    | none => rfl
    | some x =>
      obtain ⟨ob', _, hm⟩ := r.H l x e
      exact absurd (hl _ hm) (Nat.lt_irrefl _)
  refine ⟨hn, F', r.M, N', fun a x e => ?_, fun p hp => .tail _ (r.S p hp), fun p hp => ?_⟩
  · by_cases q : a = l
    · subst q
      have e' : some o = some x := by rw [← e]; exact (upd_self).symm
      cases e'
      exact ⟨ob, ho, .head _⟩
    · have e' : σ.H a = some x := by rw [← e]; exact (upd_ne q).symm
      obtain ⟨ob', x1, x2⟩ := r.H a x e'
      exact ⟨ob', x1, .tail _ x2⟩
  · show upd σ.H l o p.1 = none
    rw [upd_ne (Nat.ne_of_lt (hl p (r.S p hp)))]
    exact r.D p hp

theorem RelAt.below {R : List (Addr × Obj)} {h : Heap} {m : Str → Option Value} {news : List (Addr × Obj)} (r : RelAt c σ R h m news) : ∀ p ∈ news, p.1 < h.objs.size := fun p hp => Heap.lt_size (r.N p hp).1

inductive Foc (c : Cx) (σ : AS) (R : List (Addr × Obj)) (h : Heap) (D : Addr) (o : AO) : Prop
  | intro (ob : Obj) (rest : List (Addr × Obj)) (h1 : OR o ob) (hN : News c.h₀ c.L h ((D, ob) :: rest)) (hD : ∀ p ∈ rest, p.1 ≠ D) (hH : ∀ a x, σ.H a = some x → a ≠ D → ∃ ob', OR x ob' ∧ (a, ob') ∈ rest) (hR : ∀ p ∈ R, p ∈ rest)
/-- an object of the heap brought to the head of the ledger -/
theorem RelAt.focus {R : List (Addr × Obj)} {h : Heap} {m : Str → Option Value} {news : List (Addr × Obj)} (r : RelAt c σ R h m news) {D : Addr} {o : AO} (ho : σ.H D = some o) :
    Foc c σ R h D o := by
  obtain ⟨ob, h1, h2⟩ := r.H D o ho
  refine ⟨ob, news.filter (fun p => p.1 != D), h1, fun p hp => ?_, fun p hp => ?_, fun a x e q => ?_, fun p hp => ?_⟩
  · rcases List.mem_cons.mp hp with rfl | hp
    · exact r.N _ h2
    · exact r.N _ (List.mem_filter.mp hp).1
  · simpa using (List.mem_filter.mp hp).2
  · obtain ⟨ob', x1, x2⟩ := r.H a x e
    exact ⟨ob', x1, List.mem_filter.mpr ⟨x2, by simpa using q⟩⟩
  · refine List.mem_filter.mpr ⟨r.S p hp, ?_⟩
    have : p.1 ≠ D := by
      intro e
      have := r.D p hp
      rw [e, ho] at this
      cases this
    simpa using this

theorem RelAt.change {R : List (Addr × Obj)} {h h' : Heap} {m : Str → Option Value} {news rest : List (Addr × Obj)} (r : RelAt c σ R h m news) {D : Addr} {o o' : AO} {ob' : Obj} (ho : σ.H D = some o)
    (ha : ∀ a x, σ.H a = some x → a ≠ D → ∃ ob', OR x ob' ∧ (a, ob') ∈ rest) (hR : ∀ p ∈ R, p ∈ rest) (F' : Fr c.h₀ c.L h' m) (N' : News c.h₀ c.L h' ((D, ob') :: rest)) (h2 : OR o' ob') :
    RelAt c { σ with H := upd σ.H D o' } R h' m ((D, ob') :: rest) := by
  refine ⟨F', r.M, N', fun a x e => ?_, fun p hp => .tail _ (hR p hp), fun p hp => ?_⟩
  · by_cases q : a = D
    · subst q
      have e' : some o' = some x := by rw [← e]; exact (upd_self).symm
      cases e'
      exact ⟨ob', h2, .head _⟩
    · have e' : σ.H a = some x := by rw [← e]; exact (upd_ne q).symm
      obtain ⟨ob1, x1, x2⟩ := ha a x e' q
      exact ⟨ob1, x1, .tail _ x2⟩
  · show upd σ.H D o' p.1 = none
    rw [upd_ne]
    · exact r.D p hp
    · intro e
      have := r.D p hp
      rw [e, ho] at this
      cases this

theorem Rel.of {R : List (Addr × Obj)} {h : Heap} {m : Str → Option Value} {news : List (Addr × Obj)} (r : RelAt c σ R h m news) : Rel c σ R h := ⟨m, news, r⟩

theorem vrs_len : ∀ {as : List AV} {vs : List Value}, VRs as vs → vs.length = as.length
  | [], _, h => by rw [h]; rfl
  | a :: as, _, ⟨v, r, e, _, h⟩ => by rw [e, List.length_cons, List.length_cons, vrs_len h]
theorem vrs_get : ∀ {as : List AV} {vs : List Value}, VRs as vs → ∀ {i : Nat} {a : AV}, as[i]? = some a → ∃ v, vs[i]? = some v ∧ VR a v
  | [], _, _, i, a, e => by simp at e
  | b :: as, _, ⟨v, r, rfl, hb, h⟩, 0, a, e => by
    simp at e; subst e; exact ⟨v, rfl, hb⟩
  | b :: as, _, ⟨v, r, rfl, hb, h⟩, i + 1, a, e => by
    obtain ⟨v', x, y⟩ := vrs_get h (i := i) (a := a) (by simpa using e)
    exact ⟨v', by simpa using x, y⟩
theorem ints_vrs : ∀ {vs : List Value} {ns : List Int}, IntsAre vs ns → VRs (ns.map .int) vs
  | _, _, .nil => rfl
  | _, _, .cons n t h => ⟨_, _, rfl, ⟨t, rfl⟩, ints_vrs h⟩
theorem vrs_ints : ∀ {vs : List Value} {ns : List Int}, VRs (ns.map .int) vs → IntsAre vs ns
  | _, [], h => by rw [show _ = [] from h]; exact .nil
  | _, n :: ns, ⟨v, r, e, ⟨t, e2⟩, h⟩ => by subst e; subst e2; exact .cons n t (vrs_ints h)

-- lists of arguments
inductive At1 (k : AV → Prop) : List AV → Prop
  | intro (a : AV) (h : k a) : At1 k [a]
inductive At2 (k : AV → AV → Prop) : List AV → Prop
  | intro (a b : AV) (h : k a b) : At2 k [a, b]
inductive At3 (k : AV → AV → AV → Prop) : List AV → Prop
  | intro (a b d : AV) (h : k a b d) : At3 k [a, b, d]
inductive At4 (k : AV → AV → AV → AV → Prop) : List AV → Prop
  | intro (a b d e : AV) (h : k a b d e) : At4 k [a, b, d, e]
inductive AtI (k : Int → Prop) : AV → Prop
  | intro (x : Int) (h : k x) : AtI k (.int x)
inductive AtN (k : Nat → Prop) : AV → Prop
  | intro (n : Nat) (h : k n) : AtN k (.int (n : Int))
inductive PostS (c : Cx) (R : List (Addr × Obj)) (s : Shared) (Q : List AV → AS → Prop) (vs : List Value) (s' : Shared) : Prop
  | intro (as : List AV) (σ' : AS) (h' : Heap) (tk' : Nat) (e : s' = { s with heap := h', toks := tk' }) (a : VRs as vs) (b : Rel c σ' R h') (d : Q as σ')
def SP (W : Wd) (c : Cx) (es : List Expr) (σ : AS) (Q : List AV → AS → Prop) : Prop :=
  ∀ pos R s, Rel c σ R s.heap → wpAny (model W.prog W.w) c.A (spliced (backTo pos (starEach es c.env))) (PostS c R s Q) NoE s

theorem SP_nil {Q : List AV → AS → Prop} (h : Q [] σ) : SP W c [] σ Q := fun pos R s r => spliced_nil ⟨[], σ, s.heap, s.toks, rfl, rfl, r, h⟩
theorem SP_cons {e : Expr} {es : List Expr} {Q : List AV → AS → Prop} (hs : starEach (e :: es) c.env = (false, eval e c.env) :: starEach es c.env)
    (h : EV W c e σ fun v σ₁ => SP W c es σ₁ fun vs σ₂ => Q (v :: vs) σ₂) : SP W c (e :: es) σ Q := fun pos R s r => by
  rw [hs]
  refine spliced_cons (TV.then (Q₁ := fun v σ₁ => SP W c es σ₁ fun vs σ₂ => Q (v :: vs) σ₂) h r fun a v σ₁ h₁ k₁ ha r₁ q₁ => ?_)
  refine wpAny_mono (q₁ pos R { s with heap := h₁, toks := k₁ } r₁) (fun vs s' ⟨as, σ', h', tk', e, x, y, z⟩ => ?_) fun _ _ x => x
  subst e
  exact ⟨a :: as, σ', h', tk', rfl, ⟨v, vs, rfl, ha, x⟩, y, z⟩

theorem SP.then {es : List Expr} {Q₁ : List AV → AS → Prop} {R : List (Addr × Obj)} {s : Shared} {pos : Pos} {P : List Value → Shared → Prop} (h : SP W c es σ Q₁) (r : Rel c σ R s.heap)
    (k : ∀ as vs σ' h' tk', VRs as vs → Rel c σ' R h' → Q₁ as σ' → P vs { s with heap := h', toks := tk' }) : wpAny (model W.prog W.w) c.A (spliced (backTo pos (starEach es c.env))) P NoE s :=
  wpAny_mono (h pos R s r) (fun v s' ⟨av, σ', h', tk', e, a, b, d⟩ => by subst e; exact k av v σ' h' tk' a b d) fun _ _ x => x

theorem EV_list {es : List Expr} {pos : Pos} (h : SP W c es σ fun vs σ₁ => ∃ ns, vs = ns.map AV.int ∧ ns.length ≤ sizeLine ∧ ∀ l H', Ext σ₁.H H' → σ₁.H l = none → H' l = some (.ints ns) → Q (.ref l) { σ₁ with H := H' }) : EV W c (.List es pos) σ Q := fun R s rel => by
  refine List_ (SP.then h rel fun as vs σ₁ h₁ k₁ ha r₁ ⟨ns, e, hz, q₁⟩ => ?_)
  subst e
  obtain ⟨m, news, r⟩ := r₁
  refine newList_K (s := { s with heap := h₁, toks := k₁ }) r.F r.N (fun l h' F' N' hl => ?_) (by rw [vrs_len ha, List.length_map]; exact hz)
  obtain ⟨hn, r'⟩ := r.alloc (o := .ints ns) F' N' hl ⟨vs, 0, rfl, vrs_ints ha⟩
  exact ⟨.ref l, _, h', k₁, rfl, rfl, .of r', q₁ l _ (ext_upd hn) hn upd_self⟩

theorem EV_tuple {es : List Expr} {k : Nat} {pos : Pos} (h : SP W c es σ fun vs σ₁ => vs.length ≤ sizeLine ∧ ∀ l H', Ext σ₁.H H' → σ₁.H l = none → H' l = some (.tup vs) → Q (.ref l) { σ₁ with H := H' }) : EV W c (.Tuple es k pos) σ Q := fun R s rel => by
  refine Tuple_ (SP.then h rel fun as vs σ₁ h₁ k₁ ha r₁ ⟨hz, q₁⟩ => ?_)
  obtain ⟨m, news, r⟩ := r₁
  refine newTuple_N (s := { s with heap := h₁, toks := k₁ }) r.F r.N (fun h' F' N' => ?_) (by rw [vrs_len ha]; exact hz)
  obtain ⟨hn, r'⟩ := r.alloc (o := .tup as) F' N' r.below ⟨vs, rfl, ha⟩
  exact ⟨.ref _, _, h', k₁, rfl, rfl, .of r', q₁ _ _ (ext_upd hn) hn upd_self⟩

theorem EV_neg {e : Expr} {pos : Pos} (h : EV W c e σ fun v σ₁ => AtI (fun i => Q (.int (-i)) σ₁) v) : EV W c (.UnaryOp .USub e pos) σ Q := fun R s r =>
  wpAny_UnaryOp (TV.then h r fun a v σ₁ h₁ k₁ ha r₁ q₁ => by
    obtain ⟨i, q₁⟩ := q₁
    obtain ⟨t, rfl⟩ := ha
    exact neg_int ⟨.int (-i), σ₁, h₁, k₁ + 1, rfl, ⟨_, rfl⟩, r₁, q₁⟩)

-- tests
theorem TS.then {e : Expr} {Q₁ : Bool → AS → Prop} {R : List (Addr × Obj)} {s : Shared} {P : Bool → Shared → Prop} (h : TS W c e σ Q₁) (r : Rel c σ R s.heap)
    (k : ∀ b σ' h' tk', Rel c σ' R h' → Q₁ b σ' → P b { s with heap := h', toks := tk' }) : wpAny (model W.prog W.w) c.A (PySem.isTrue e c.env (eval e c.env)) P NoE s :=
  wpAny_mono (h R s r) (fun v s' ⟨σ', h', tk', e, b, d⟩ => by subst e; exact k v σ' h' tk' b d) fun _ _ x => x

theorem TS_cmp {l r : Expr} {op : CmpOp} {pos : Pos} {Q : Bool → AS → Prop} (hm : behindInMarks op r = false) (h : EV W c l σ fun a σ₁ => EV W c r σ₁ fun b σ₂ => CMP W c op a b σ₂ Q) : TS W c (.Compare l [op] [r] pos) σ Q := fun R s rel =>
  wpAny_isTrue_Compare1 (TV.then h rel fun a va σ₁ h₁ k₁ ha r₁ q₁ => TV.then (Q₁ := fun b σ₂ => CMP W c op a b σ₂ Q) (s := { s with heap := h₁, toks := k₁ }) q₁ r₁ fun b vb σ₂ h₂ k₂ hb r₂ q₂ =>
    TV.then (s := { s with heap := h₂, toks := k₂ }) (q₂ va vb ha hb) r₂ fun x v σ₃ h₃ k₃ hx r₃ ⟨b', e, q₃⟩ => by
      subst e
      rw [show v = .bool b' from hx]
      exact wpAny_truthy_bool ⟨σ₃, h₃, k₃, rfl, r₃, q₃⟩) hm

theorem EV_cmp {l r : Expr} {op : CmpOp} {pos : Pos} (hm : behindInMarks op r = false) (h : EV W c l σ fun a σ₁ => EV W c r σ₁ fun b σ₂ => CMP W c op a b σ₂ fun b σ₃ => Q (.bool b) σ₃) : EV W c (.Compare l [op] [r] pos) σ Q := fun R s rel =>
  wpAny_Compare1 (TV.then h rel fun a va σ₁ h₁ k₁ ha r₁ q₁ => TV.then (Q₁ := fun b σ₂ => CMP W c op a b σ₂ fun b σ₃ => Q (.bool b) σ₃) (s := { s with heap := h₁, toks := k₁ }) q₁ r₁ fun b vb σ₂ h₂ k₂ hb r₂ q₂ =>
    TV.then (s := { s with heap := h₂, toks := k₂ }) (q₂ va vb ha hb) r₂ fun x v σ₃ h₃ k₃ hx r₃ ⟨b', e, q₃⟩ => by
      subst e
      exact ⟨.bool b', σ₃, h₃, k₃, rfl, hx, r₃, q₃⟩) hm

def TS' (W : Wd) (c : Cx) (e : Expr) (σ : AS) (Q : Bool → AS → Prop) : Prop :=
  ∀ whole R s, Rel c σ R s.heap → wpAny (model W.prog W.w) c.A (PySem.isTrue e c.env whole) (PostB c R s Q) NoE s
theorem TS'_and_nil {pos : Pos} {Q : Bool → AS → Prop} (h : Q true σ) : TS' W c (.BoolOp .And [] pos) σ Q := fun _ R s rel => isTrue_and_nil ⟨σ, s.heap, s.toks, rfl, rel, h⟩
theorem TS'_or_nil {pos : Pos} {Q : Bool → AS → Prop} (h : Q false σ) : TS' W c (.BoolOp .Or [] pos) σ Q := fun _ R s rel => isTrue_or_nil ⟨σ, s.heap, s.toks, rfl, rel, h⟩
theorem TS'_and {x : Expr} {rest : List Expr} {pos : Pos} {Q : Bool → AS → Prop} (h : TS W c x σ fun b σ₁ => (b = true → TS' W c (.BoolOp .And rest pos) σ₁ Q) ∧ (b = false → Q false σ₁)) : TS' W c (.BoolOp .And (x :: rest) pos) σ Q := fun whole R s rel =>
  isTrue_and (TS.then h rel fun b σ₁ h₁ k₁ r₁ q₁ => by
    cases b with
    | true => exact wpAny_mono (q₁.1 rfl whole R { s with heap := h₁, toks := k₁ } r₁) (fun _ _ x => x.trans rfl) fun _ _ x => x
    | false => exact ⟨σ₁, h₁, k₁, rfl, r₁, q₁.2 rfl⟩)
theorem TS'_or {x : Expr} {rest : List Expr} {pos : Pos} {Q : Bool → AS → Prop} (h : TS W c x σ fun b σ₁ => (b = false → TS' W c (.BoolOp .Or rest pos) σ₁ Q) ∧ (b = true → Q true σ₁)) : TS' W c (.BoolOp .Or (x :: rest) pos) σ Q := fun whole R s rel =>
  isTrue_or (TS.then h rel fun b σ₁ h₁ k₁ r₁ q₁ => by
    cases b with
    | false => exact wpAny_mono (q₁.1 rfl whole R { s with heap := h₁, toks := k₁ } r₁) (fun _ _ x => x.trans rfl) fun _ _ x => x
    | true => exact ⟨σ₁, h₁, k₁, rfl, r₁, q₁.2 rfl⟩)
theorem TS_of' {e : Expr} {Q : Bool → AS → Prop} (h : TS' W c e σ Q) : TS W c e σ Q := fun R s rel => h _ R s rel

theorem TS_and2 {x y : Expr} {pos : Pos} {Q : Bool → AS → Prop} (h : TS W c x σ fun b σ₁ => (b = true → TS W c y σ₁ Q) ∧ (b = false → Q false σ₁)) : TS W c (.BoolOp .And [x, y] pos) σ Q :=
  TS_of' (TS'_and (h.mono fun b σ₁ q => ⟨fun e => TS'_and ((q.1 e).mono fun b' σ₂ q' => ⟨fun e' => TS'_and_nil (e' ▸ q'), fun e' => e' ▸ q'⟩), q.2⟩))
theorem TS_or2 {x y : Expr} {pos : Pos} {Q : Bool → AS → Prop} (h : TS W c x σ fun b σ₁ => (b = false → TS W c y σ₁ Q) ∧ (b = true → Q true σ₁)) : TS W c (.BoolOp .Or [x, y] pos) σ Q :=
  TS_of' (TS'_or (h.mono fun b σ₁ q => ⟨fun e => TS'_or ((q.1 e).mono fun b' σ₂ q' => ⟨fun e' => TS'_or_nil (e' ▸ q'), fun e' => e' ▸ q'⟩), q.2⟩))

/-- `return a and b` where both are bools -/
theorem EV_and2 {x y : Expr} {pos : Pos} (h : EV W c x σ fun v σ₁ => ∃ b, v = .bool b ∧ (b = true → EV W c y σ₁ Q) ∧ (b = false → Q (.bool false) σ₁)) : EV W c (.BoolOp .And [x, y] pos) σ Q := fun R s rel =>
  BoolOp_and (TV.then h rel fun a v σ₁ h₁ k₁ ha r₁ ⟨b, e, q₁, q₂⟩ => by
    subst e
    rw [show v = .bool b from ha]
    refine wpAny_truthy_bool ?_
    cases b with
    | true => exact BoolOp_one (wpAny_mono (q₁ rfl R { s with heap := h₁, toks := k₁ } r₁) (fun _ _ x => x.trans rfl) fun _ _ x => x)
    | false => exact ⟨.bool false, σ₁, h₁, k₁, rfl, rfl, r₁, q₂ rfl⟩)

theorem EV_ite {t a b : Expr} {pos : Pos} (h : TS W c t σ fun x σ₁ => (x = true → EV W c a σ₁ Q) ∧ (x = false → EV W c b σ₁ Q)) : EV W c (.IfExp t a b pos) σ Q := fun R s rel =>
  wpAny_IfExp (TS.then h rel fun x σ₁ h₁ k₁ r₁ q₁ => by
    cases x with
    | true => exact wpAny_mono (q₁.1 rfl R { s with heap := h₁, toks := k₁ } r₁) (fun _ _ x => x.trans rfl) fun _ _ x => x
    | false => exact wpAny_mono (q₁.2 rfl R { s with heap := h₁, toks := k₁ } r₁) (fun _ _ x => x.trans rfl) fun _ _ x => x)
end Mine

set_option maxRecDepth 100000
set_option Elab.async false
set_option linter.all false
namespace Mine
open PySem PySem.W PySem.Calls PyProof.Rows PySem.Spec

variable {W : Wd} {c : Cx} {σ σ' : AS} {Q : AV → AS → Prop}
/- the ends of the rules, one named predicate each -/
inductive KIdx (Q : AV → AS → Prop) (o i : AV) (σ : AS) : Prop
  | intro (a : Addr) (k : Int) (ns : List Int) (e1 : o = .ref a) (e2 : i = .int k) (ha : σ.H a = some (.ints ns)) (h0 : 0 ≤ k) (h1 : k < ns.length) (h2 : k < 2 ^ 63) (q : Q (.int (ns.getD k.toNat 0)) σ)
inductive KNeg (Q : AV → AS → Prop) (o i : AV) (σ : AS) : Prop
  | intro (a : Addr) (k : Int) (ns : List Int) (e1 : o = .ref a) (e2 : i = .int k) (ha : σ.H a = some (.ints ns)) (h0 : k < 0) (h1 : -(ns.length : Int) ≤ k) (h2 : -2 ^ 63 ≤ k) (q : Q (.int (ns.getD (k + ns.length).toNat 0)) σ)
inductive KIdxV (Q : AV → AS → Prop) (o i : AV) (σ : AS) : Prop
  | intro (a : Addr) (k : Int) (as : List AV) (x : AV) (e1 : o = .ref a) (e2 : i = .int k) (ha : σ.H a = some (.vals as)) (h0 : 0 ≤ k) (h1 : k < 2 ^ 63) (hx : as[k.toNat]? = some x) (q : Q x σ)
inductive KIdxT (Q : AV → AS → Prop) (o i : AV) (σ : AS) : Prop
  | intro (a : Addr) (as : List AV) (x : AV) (k : Nat) (e1 : o = .ref a) (e2 : i = .int k) (ha : σ.H a = some (.tup as)) (h1 : (k : Int) < 2 ^ 63) (hx : as[k]? = some x) (q : Q x σ)

theorem IntsAre_size {vs : List Value} {ns : List Int} (h : IntsAre vs ns) : vs.toArray.size = ns.length := by rw [List.size_toArray, h.length]

/-- a[i] -/
theorem EV_idx {value sl : Expr} {pos : Pos} (hs : ∀ a k u, subscripted sl false (.ref a) (.int k u) = operate [.ref a, .int k u] (getItem (.ref a) (.int k u)))
    (h : EV W c value σ fun o σ₁ => EV W c sl σ₁ (KIdx Q o)) :
    EV W c (.Subscript value sl pos) σ Q := fun R s rel =>
  Subscript_ (TV.then h rel fun o vo σ₁ h₁ k₁ ho r₁ q₁ => TV.then (s := { s with heap := h₁, toks := k₁ }) (Q₁ := KIdx Q o) q₁ r₁ fun i vi σ₂ h₂ k₂ hi r₂ ⟨a, k, ns, e1, e2, ha, hk, hk1, hk2, q⟩ => by
    subst e1; subst e2
    obtain ⟨u, rfl⟩ := hi
    rw [show vo = .ref a from ho]
    obtain ⟨m, news, r⟩ := id r₂
    obtain ⟨ob, ⟨vs, n, rfl, hvs⟩, hm⟩ := r.H a _ ha
    exact item_anyK (s := { s with heap := h₂, toks := k₂ }) (PySem.IsL.isList (n := n) (r.N _ hm).1) hvs hk hk1 hk2 (fun t => ⟨.int _, σ₂, h₂, k₂, rfl, ⟨_, rfl⟩, r₂, q⟩) (hs a k u))

/-- a[-1], a[-2] -/
theorem EV_idx_neg {value sl : Expr} {pos : Pos} (hs : ∀ a k u, subscripted sl false (.ref a) (.int k u) = operate [.ref a, .int k u] (getItem (.ref a) (.int k u)))
    (h : EV W c value σ fun o σ₁ => EV W c sl σ₁ (KNeg Q o)) :
    EV W c (.Subscript value sl pos) σ Q := fun R s rel =>
  Subscript_ (TV.then h rel fun o vo σ₁ h₁ k₁ ho r₁ q₁ => TV.then (s := { s with heap := h₁, toks := k₁ }) (Q₁ := KNeg Q o) q₁ r₁ fun i vi σ₂ h₂ k₂ hi r₂ ⟨a, k, ns, e1, e2, ha, hk, hk1, hk2, q⟩ => by
    subst e1; subst e2
    obtain ⟨u, rfl⟩ := hi
    rw [show vo = .ref a from ho]
    obtain ⟨m, news, r⟩ := id r₂
    obtain ⟨ob, ⟨vs, n, rfl, hvs⟩, hm⟩ := r.H a _ ha
    have hl := PySem.IsL.isList (n := n) (r.N _ hm).1
    have hsz : (vs.toArray.size : Int) = ns.length := by rw [IntsAre_size hvs]
    obtain ⟨t, hx⟩ := hvs.get (k + ns.length).toNat (ns.getD (k + ns.length).toNat 0) (by
      rw [List.getD_eq_getElem?_getD, List.getElem?_eq_getElem (by lia)]; rfl)
    exact tail_any (s := { s with heap := h₂, toks := k₂ }) hl.typeIs slot_list_getitem.lookup (wpAny_getItem_list_neg hl hk (by rw [hsz]; exact hk1) hk2 (x := .int _ t) (by rw [hsz]; simpa using hx) ⟨.int _, σ₂, h₂, k₂, rfl, ⟨_, rfl⟩, r₂, q⟩) (hs a k u))

/-- x[i] of a mixed list -/
theorem EV_idxV {value sl : Expr} {pos : Pos} (hs : ∀ a k u, subscripted sl false (.ref a) (.int k u) = operate [.ref a, .int k u] (getItem (.ref a) (.int k u)))
    (h : EV W c value σ fun o σ₁ => EV W c sl σ₁ (KIdxV Q o)) :
    EV W c (.Subscript value sl pos) σ Q := fun R s rel =>
  Subscript_ (TV.then h rel fun o vo σ₁ h₁ k₁ ho r₁ q₁ => TV.then (s := { s with heap := h₁, toks := k₁ }) (Q₁ := KIdxV Q o) q₁ r₁ fun i vi σ₂ h₂ k₂ hi r₂ ⟨a, k, as, x, e1, e2, ha, hk, hk2, hx, q⟩ => by
    subst e1; subst e2
    obtain ⟨u, rfl⟩ := hi
    rw [show vo = .ref a from ho]
    obtain ⟨m, news, r⟩ := id r₂
    obtain ⟨ob, ⟨vs, n, rfl, hvs⟩, hm⟩ := r.H a _ ha
    have hl := PySem.IsL.isList (n := n) (r.N _ hm).1
    obtain ⟨v, hv, hr⟩ := vrs_get hvs hx
    exact tail_any (s := { s with heap := h₂, toks := k₂ }) hl.typeIs slot_list_getitem.lookup (wpAny_getItem_list hl hk hk2 (by simpa using hv) ⟨x, σ₂, h₂, k₂, rfl, hr, r₂, q⟩) (hs a k u))

/-- t[i] of a tuple -/
theorem EV_idxT {value sl : Expr} {pos : Pos} (hs : ∀ a k u, subscripted sl false (.ref a) (.int k u) = operate [.ref a, .int k u] (getItem (.ref a) (.int k u)))
    (h : EV W c value σ fun o σ₁ => EV W c sl σ₁ (KIdxT Q o)) :
    EV W c (.Subscript value sl pos) σ Q := fun R s rel =>
  Subscript_ (TV.then h rel fun o vo σ₁ h₁ k₁ ho r₁ q₁ => TV.then (s := { s with heap := h₁, toks := k₁ }) (Q₁ := KIdxT Q o) q₁ r₁ fun i vi σ₂ h₂ k₂ hi r₂ ⟨a, as, x, k, e1, e2, ha, hk2, hx, q⟩ => by
    subst e1; subst e2
    obtain ⟨u, rfl⟩ := hi
    rw [show vo = .ref a from ho]
    obtain ⟨m, news, r⟩ := id r₂
    obtain ⟨ob, ⟨vs, rfl, hvs⟩, hm⟩ := r.H a _ ha
    obtain ⟨v, hv, hr⟩ := vrs_get hvs hx
    exact item_tupleT (s := { s with heap := h₂, toks := k₂ }) (k := k) (u := u) (l := vs) ⟨_, (r.N _ hm).1, rfl, _, rfl⟩ (by lia) hk2 (by
      have hk : k < vs.length := by
        have := List.getElem?_eq_some_iff.mp hv
        exact this.1
      show seqIndex? (k : Int) vs.length = some k
      unfold seqIndex?
      rw [if_neg (Int.not_lt.mpr (Int.natCast_nonneg k))]
      exact if_pos (by rw [decide_eq_true (Int.natCast_nonneg k), decide_eq_true (Int.ofNat_lt.mpr hk)]; rfl)) hv ⟨x, σ₂, h₂, k₂, rfl, hr, r₂, q⟩ (hs a k u))
end Mine

set_option maxRecDepth 100000
set_option Elab.async false
set_option linter.all false
namespace Mine
open PySem PySem.W PySem.Calls PyProof.Rows PySem.Spec

variable {W : Wd} {c : Cx} {σ σ' : AS} {Q : AV → AS → Prop}

-- slices with their bounds
inductive PostP (c : Cx) (R : List (Addr × Obj)) (s : Shared) (Q : Option Int → AS → Prop) (v : Value) (s' : Shared) : Prop
  | intro (o : Option Int) (σ' : AS) (h' : Heap) (tk' : Nat) (e : s' = { s with heap := h', toks := tk' }) (a : IsPart v o) (b : Rel c σ' R h') (d : Q o σ')
def PT (W : Wd) (c : Cx) (e : Option Expr) (σ : AS) (Q : Option Int → AS → Prop) : Prop :=
  ∀ R s, Rel c σ R s.heap → wpAny (model W.prog W.w) c.A (evalPart e c.env) (PostP c R s Q) NoE s
theorem PT_none {Q : Option Int → AS → Prop} (h : Q none σ) : PT W c none σ Q := fun R s r => wpAny_pure ⟨none, σ, s.heap, s.toks, rfl, .none, r, h⟩
theorem PT_some {e : Expr} {Q : Option Int → AS → Prop} (h : EV W c e σ fun v σ₁ => AtI (fun i => Q (some i) σ₁) v) : PT W c (some e) σ Q := fun R s r =>
  TV.then h r fun a v σ₁ h₁ k₁ ha r₁ q => by
    obtain ⟨i, q⟩ := q
    obtain ⟨t, rfl⟩ := ha
    exact ⟨some i, σ₁, h₁, k₁, rfl, .int i t, r₁, q⟩
theorem PT.then {e : Option Expr} {Q₁ : Option Int → AS → Prop} {R : List (Addr × Obj)} {s : Shared} {P : Value → Shared → Prop} (h : PT W c e σ Q₁) (r : Rel c σ R s.heap)
    (k : ∀ o v σ' h' tk', IsPart v o → Rel c σ' R h' → Q₁ o σ' → P v { s with heap := h', toks := tk' }) : wpAny (model W.prog W.w) c.A (evalPart e c.env) P NoE s :=
  wpAny_mono (h R s r) (fun v s' ⟨av, σ', h', tk', e, a, b, d⟩ => by subst e; exact k av v σ' h' tk' a b d) fun _ _ x => x

/-- the ints that a slice takes -/
def cut (ns : List Int) : Option Int → Option Int → List Int
  | none, none => ns
  | none, some y => ns.take y.toNat
  | some x, none => ns.drop x.toNat
  | some x, some y => (ns.drop x.toNat).take (min y.toNat ns.length - x.toNat)
def cutOk : Option Int → Option Int → Prop
  | none, none => True
  | none, some y => 0 ≤ y
  | some x, none => 0 ≤ x
  | some x, some y => 0 ≤ x ∧ 0 ≤ y
theorem cut_are {vs : List Value} {ns : List Int} (hi : IntsAre vs ns) : ∀ lo up, cutOk lo up → IntsAre (slicePick vs.toArray lo up none).toList (cut ns lo up)
  | none, none, _ => kmk_all hi
  | none, some _, h => kmk_upto hi h
  | some _, none, h => kmk_from hi h
  | some _, some _, h => kmk_run hi h.1 h.2

theorem PT.mono {e : Option Expr} {P P' : Option Int → AS → Prop} (h : PT W c e σ P) (hq : ∀ o σ', P o σ' → P' o σ') : PT W c e σ P' := fun R s r => wpAny_mono (h R s r) (fun _ _ ⟨o, σ', h', tk', e, a, b, d⟩ => ⟨o, σ', h', tk', e, a, b, hq _ _ d⟩) fun _ _ x => x
inductive KSl (Q : AV → AS → Prop) (o : AV) (x y : Option Int) (σ : AS) : Prop
  | intro (a : Addr) (ns : List Int) (e : o = .ref a) (ha : σ.H a = some (.ints ns)) (hc : cutOk x y) (hz : ns.length ≤ sizeLine)
    (k : ∀ l H', Ext σ.H H' → σ.H l = none → H' l = some (.ints (cut ns x y)) → Q (.ref l) { σ with H := H' })
theorem EV_slice {value : Expr} {lo up : Option Expr} {sp pos : Pos}
    (hs : ∀ a b, subscripted (.Slice lo up none sp) false (.ref a) (.ref b) = operate [.ref b, .ref a] (getItem (.ref a) (.ref b))) (ht : ∀ a r, letTemporaryGo value (.ref a) r = pure ())
    (h : EV W c value σ fun o σ₁ => PT W c lo σ₁ fun x σ₂ => PT W c up σ₂ (KSl Q o x)) :
    EV W c (.Subscript value (.Slice lo up none sp) pos) σ Q := fun R s rel => by
  refine Subscript_ (TV.then h rel fun o vo σ₁ h₁ k₁ ho r₁ q₁ => wpAny_Slice (PT.then (s := { s with heap := h₁, toks := k₁ }) q₁ r₁ fun x vx σ₂ h₂ k₂ hx r₂ q₂ =>
    PT.then (s := { s with heap := h₂, toks := k₂ }) q₂ r₂ fun y vy σ₃ h₃ k₃ hy r₃ q₃ => wpAny_pure ?_))
  obtain ⟨a, ns, e, ha, hc, hz, q⟩ := q₃
  subst e
  rw [show vo = .ref a from ho]
  obtain ⟨m, news, r⟩ := id r₃
  obtain ⟨ob, ⟨vs, n, rfl, hvs⟩, hm⟩ := r.H a _ ha
  have hl := PySem.IsL.isList (n := n) (r.N _ hm).1
  refine kmk_slice_ints (s := { s with heap := h₃, toks := k₃ }) r.F r.N hl hx hy hvs (cut_are hvs x y hc) rfl (fun D ws h' F' N' l1 hws _ _ => ?_) (hs a _) (ht a) (by rw [IntsAre_size hvs]; exact hz)
  obtain ⟨hn, r'⟩ := r.alloc (o := .ints (cut ns x y)) F' N' l1 ⟨ws, 0, rfl, hws⟩
  exact ⟨.ref D, _, h', k₃, rfl, rfl, .of r', q D _ (ext_upd hn) hn upd_self⟩

-- calls
theorem EV_call {f : Expr} {e : Expr} {es : List Expr} {pos : Pos} (C : COk W c)
    (hc : eval (.Call f (e :: es) [] pos) c.env = (do callWith pos (← eval f c.env) [] (backTo pos (starEach (e :: es) c.env)) (backToKw pos (keywordEach [] c.env))))
    (h1 : starEach (e :: es) c.env = (false, eval e c.env) :: starEach es c.env) (h2 : (backTo pos (starEach es c.env)).any (·.1) = false)
    (h : EV W c f σ fun v σ₁ => ∃ fa, v = .ref fa ∧ keepIn W.K (.ref fa) = true ∧ SP W c (e :: es) σ₁ fun vs σ₂ => CALL W c (.ref fa) vs σ₂ Q) : EV W c (.Call f (e :: es) [] pos) σ Q := fun R s rel => by
  refine Call_ (TV.then h rel fun v vf σ₁ h₁ k₁ hv r₁ ⟨fa, e, hk, q₁⟩ => ?_) hc
  subst e
  rw [show vf = .ref fa from hv]
  refine callWith_K C.hK hk (SP.then (s := { s with heap := h₁, toks := k₁ }) q₁ r₁ fun as vs σ₂ h₂ k₂ has r₂ q₂ => ⟨?_, ?_⟩) h1 h2
  · obtain ⟨m, news, r⟩ := r₂
    exact C.hK.keeps r.F.keep
  · exact wpAny_mono (q₂ vs has R { s with heap := h₂, toks := k₂ } r₂) (fun _ _ x => x.trans rfl) fun _ _ x => x

theorem EV_bcall {x : Str} {e : Expr} {es : List Expr} {p pos : Pos} {bid : String} (C : COk W c) (hk : c.cs.names.lookup x = some .globalImplicit) (hn : nsIn W.K mainGlobals x = some none) (hb : bootBuiltins x = some (.builtin bid))
    (hx : x ≠ Str.ofString "__name__") (hd : (x == ("__debug__" : Str)) = false)
    (hc : eval (.Call (.Name x p) (e :: es) [] pos) c.env = (do callWith pos (← eval (.Name x p) c.env) [] (backTo pos (starEach (e :: es) c.env)) (backToKw pos (keywordEach [] c.env))))
    (h1 : starEach (e :: es) c.env = (false, eval e c.env) :: starEach es c.env) (h2 : (backTo pos (starEach es c.env)).any (·.1) = false)
    (h : SP W c (e :: es) σ fun vs σ₂ => CALL W c (.builtin bid) vs σ₂ Q) : EV W c (.Call (.Name x p) (e :: es) [] pos) σ Q := fun R s rel => by
  obtain ⟨m, news, r⟩ := id rel
  refine Call_ (name_B r.F C.hK (topRead_of C.hT) hn hb hx ?_ C.hk hk hd) hc
  refine PyProof.Rows.callWith_builtin1 (SP.then h rel fun as vs σ₂ h₂ k₂ has r₂ q₂ => ?_) h1 h2
  exact wpAny_mono (q₂ vs has R { s with heap := h₂, toks := k₂ } r₂) (fun _ _ x => x.trans rfl) fun _ _ x => x

/-- a call of a type's name: range, enumerate; t its tree -/
theorem tcall {x : Str} {e : Expr} {es : List Expr} {p pos : Pos} {T : String} {R : List (Addr × Obj)} {s : Shared} {P : Value → Shared → Prop} (C : COk W c) (hk : c.cs.names.lookup x = some .globalImplicit) (hn : nsIn W.K mainGlobals x = some none) (hb : bootBuiltins x = some (.type T))
    (hx : x ≠ Str.ofString "__name__") (hd : (x == ("__debug__" : Str)) = false)
    (hc : eval (.Call (.Name x p) (e :: es) [] pos) c.env = (do callWith pos (← eval (.Name x p) c.env) [] (backTo pos (starEach (e :: es) c.env)) (backToKw pos (keywordEach [] c.env))))
    (h1 : starEach (e :: es) c.env = (false, eval e c.env) :: starEach es c.env) (h2 : (backTo pos (starEach es c.env)).any (·.1) = false)
    (rel : Rel c σ R s.heap) {Q₁ : List AV → AS → Prop} (h : SP W c (e :: es) σ Q₁)
    (k : ∀ as vs σ' h' tk', VRs as vs → Rel c σ' R h' → Q₁ as σ' → wpAny (model W.prog W.w) c.A (call (.type T) vs) P NoE { s with heap := h', toks := tk' }) :
    wpAny (model W.prog W.w) c.A (eval (.Call (.Name x p) (e :: es) [] pos) c.env) P NoE s := by
  obtain ⟨m, news, r⟩ := id rel
  refine Call_ (name_B r.F C.hK (topRead_of C.hT) hn hb hx ?_ C.hk hk hd) hc
  exact PyProof.Rows.callWith_type1 (SP.then h rel fun as vs σ₂ h₂ k₂ has r₂ q₂ => k as vs σ₂ h₂ k₂ has r₂ q₂) h1 h2

theorem CALL_len {a : Addr} {ns : List Int} (ha : σ.H a = some (.ints ns)) (hz : (ns.length : Int) < 2 ^ 63) (h : Q (.int ns.length) σ) : CALL W c (.builtin "len") [.ref a] σ Q := by
  rintro vs ⟨v, r, rfl, hv, hr⟩ R s rel
  rw [show r = [] from hr, show v = .ref a from hv]
  obtain ⟨m, news, r⟩ := id rel
  obtain ⟨ob, ⟨vs, n, rfl, hvs⟩, hm⟩ := r.H a _ ha
  have hl := PySem.IsL.isList (n := n) (r.N _ hm).1
  refine len_list hl (by rw [IntsAre_size hvs]; exact hz) ?_
  rw [IntsAre_size hvs]
  exact ⟨.int _, σ, s.heap, s.toks + 1 + 1, rfl, ⟨_, rfl⟩, rel, h⟩

theorem CALL_max {a b : Int} (C : COk W c) (h : Q (.int (if b > a then b else a)) σ) : CALL W c (.builtin "max") [.int a, .int b] σ Q := by
  rintro vs ⟨v, r, rfl, ⟨t, rfl⟩, v2, r2, rfl, ⟨u, rfl⟩, hr⟩ R s rel
  rw [show r2 = [] from hr]
  obtain ⟨m, news, r⟩ := id rel
  exact max_two_N C.hA r.F (news := news) r.N fun h' tk F' N' => ⟨.int _, σ, h', tk, rfl, ⟨_, rfl⟩, ⟨m, news, F', r.M, N', r.H, r.S, r.D⟩, h⟩
theorem CALL_min {a b : Int} (C : COk W c) (h : Q (.int (if b < a then b else a)) σ) : CALL W c (.builtin "min") [.int a, .int b] σ Q := by
  rintro vs ⟨v, r, rfl, ⟨t, rfl⟩, v2, r2, rfl, ⟨u, rfl⟩, hr⟩ R s rel
  rw [show r2 = [] from hr]
  obtain ⟨m, news, r⟩ := id rel
  exact min_two_N C.hA r.F (news := news) r.N fun h' tk F' N' => ⟨.int _, σ, h', tk, rfl, ⟨_, rfl⟩, ⟨m, news, F', r.M, N', r.H, r.S, r.D⟩, h⟩

-- binary operations
theorem BIN_add {a b : Int} (h : Q (.int (a + b)) σ) : BIN W c .Add (.int a) (.int b) σ Q := by
  rintro _ _ ⟨t, rfl⟩ ⟨u, rfl⟩ R s rel
  exact add_int ⟨.int _, σ, s.heap, s.toks + 1, rfl, ⟨_, rfl⟩, rel, h⟩
theorem BIN_sub {a b : Int} (h : Q (.int (a - b)) σ) : BIN W c .Sub (.int a) (.int b) σ Q := by
  rintro _ _ ⟨t, rfl⟩ ⟨u, rfl⟩ R s rel
  exact sub_int ⟨.int _, σ, s.heap, s.toks + 1, rfl, ⟨_, rfl⟩, rel, h⟩
theorem intBits_small {a : Int} (h : a.natAbs < 2 ^ 64) : Builtin.Int.intBits a ≤ 64 := by
  unfold Builtin.Int.intBits
  split
  · (exact Nat.zero_le _)
  · rename_i h0
    have : a.natAbs ≠ 0 := by simpa using h0
    have := (Nat.log2_lt this).mpr h
    (assumption)
theorem BIN_mul {a b : Int} (hz : a.natAbs < 2 ^ 64) (h : Q (.int (a * b)) σ) : BIN W c .Mult (.int a) (.int b) σ Q := by
  rintro _ _ ⟨t, rfl⟩ ⟨u, rfl⟩ R s rel
  refine mul_int ⟨.int _, σ, s.heap, s.toks + 1, rfl, ⟨_, rfl⟩, rel, h⟩ ?_
  have := intBits_small hz
  unfold IntMulOk
  simp [shortFactorBits]
  lia
theorem BIN_div {a b : Int} (h0 : b ≠ 0) (hz : b.natAbs < 1073741824) (h : Q (.int (a.fdiv b)) σ) : BIN W c .FloorDiv (.int a) (.int b) σ Q := by
  rintro _ _ ⟨t, rfl⟩ ⟨u, rfl⟩ R s rel
  exact floordiv_int h0 ⟨.int _, σ, s.heap, s.toks + 1, rfl, ⟨_, rfl⟩, rel, h⟩ (.inl (PyProof.noPylong_small hz))
theorem BIN_mod {a b : Int} (h0 : b ≠ 0) (h : Q (.int (a.fmod b)) σ) : BIN W c .Mod (.int a) (.int b) σ Q := by
  rintro _ _ ⟨t, rfl⟩ ⟨u, rfl⟩ R s rel
  exact mod_int' h0 ⟨.int _, σ, s.heap, s.toks + 1, rfl, ⟨_, rfl⟩, rel, h⟩
theorem BIN_shl {a n : Int} (h0 : 0 ≤ n) (h1 : n ≤ 1000000) (hz : a.natAbs < 2 ^ 64) (h : Q (.int (a * 2 ^ n.toNat)) σ) : BIN W c .LShift (.int a) (.int n) σ Q := by
  rintro _ _ ⟨t, rfl⟩ ⟨u, rfl⟩ R s rel
  exact lshift_int_small h0 h1 hz ⟨.int _, σ, s.heap, s.toks + 1, rfl, ⟨_, rfl⟩, rel, h⟩
theorem BIN_shr {a n : Int} (h0 : 0 ≤ n) (h : Q (.int (a.fdiv (2 ^ n.toNat))) σ) : BIN W c .RShift (.int a) (.int n) σ Q := by
  rintro _ _ ⟨t, rfl⟩ ⟨u, rfl⟩ R s rel
  exact rshift_int h0 ⟨.int _, σ, s.heap, s.toks + 1, rfl, ⟨_, rfl⟩, rel, h⟩
theorem BIN_or {a b : Int} (h : Q (.int (Builtin.bitOr a b)) σ) : BIN W c .BitOr (.int a) (.int b) σ Q := by
  rintro _ _ ⟨t, rfl⟩ ⟨u, rfl⟩ R s rel
  exact or_int ⟨.int _, σ, s.heap, s.toks + 1, rfl, ⟨_, rfl⟩, rel, h⟩
theorem BIN_and {a b : Int} (h : Q (.int (Builtin.bitAnd a b)) σ) : BIN W c .BitAnd (.int a) (.int b) σ Q := by
  rintro _ _ ⟨t, rfl⟩ ⟨u, rfl⟩ R s rel
  exact and_int ⟨.int _, σ, s.heap, s.toks + 1, rfl, ⟨_, rfl⟩, rel, h⟩
theorem BIN_pow {n : Int} (h0 : 0 ≤ n) (h1 : n ≤ 1000) (h : Q (.int (2 ^ n.toNat)) σ) : BIN W c .Pow (.int 2) (.int n) σ Q := by
  rintro _ _ ⟨t, rfl⟩ ⟨u, rfl⟩ R s rel
  refine pow_int h0 ?_ ⟨.int _, σ, s.heap, s.toks + 1, rfl, ⟨_, rfl⟩, rel, h⟩
  have : Builtin.Int.intBits 2 = 2 := by decide
  rw [this]; lia
theorem BIN_rep {l : Addr} {n : Int} {x : Int} (hl : σ.H l = some (.ints [x])) (h1 : n ≤ 16777216) (h0 : -16777216 ≤ n) (h : ∀ D H', Ext σ.H H' → σ.H D = none → H' D = some (.ints (List.replicate n.toNat x)) → Q (.ref D) { σ with H := H' }) :
    BIN W c .Mult (.ref l) (.int n) σ Q := by
  rintro _ _ e ⟨u, rfl⟩ R s rel
  rw [show _ = Value.ref l from e]
  obtain ⟨m, news, r⟩ := id rel
  obtain ⟨ob, ⟨vs, k, rfl, hvs⟩, hm⟩ := r.H l _ hl
  have hlst := PySem.IsL.isList (n := k) (r.N _ hm).1
  have hlen : vs.length = 1 := hvs.length
  refine KM.mul r.F r.N hlst hvs (by lia) (by lia) (by rw [hlen]; lia) fun D h' F' N' l1 hi N _ _ _ _ => ?_
  have e2 : ∀ k : Nat, (List.replicate k [x]).flatten = List.replicate k x := by
    intro k
    induction k with
    | zero => rfl
    | succ k ih => rw [List.replicate_succ, List.flatten_cons, ih, List.replicate_succ]; rfl
  rw [e2] at hi
  obtain ⟨hn, r'⟩ := r.alloc (o := .ints (List.replicate n.toNat x)) F' N' l1 ⟨_, 0, rfl, hi⟩
  exact ⟨.ref D, _, h', s.toks, rfl, rfl, .of r', h D _ (ext_upd hn) hn upd_self⟩
theorem BIN_cat {a b : Addr} {ns ms : List Int} (ha : σ.H a = some (.ints ns)) (hb : σ.H b = some (.ints ms)) (hz : ns.length + ms.length ≤ sizeLine)
    (h : ∀ D H', Ext σ.H H' → σ.H D = none → H' D = some (.ints (ns ++ ms)) → Q (.ref D) { σ with H := H' }) : BIN W c .Add (.ref a) (.ref b) σ Q := by
  rintro _ _ e e' R s rel
  rw [show _ = Value.ref a from e, show _ = Value.ref b from e']
  obtain ⟨m, news, r⟩ := id rel
  obtain ⟨ob, ⟨vs, k, rfl, hvs⟩, hm⟩ := r.H a _ ha
  obtain ⟨ob', ⟨vs', k', rfl, hvs'⟩, hm'⟩ := r.H b _ hb
  refine kmk_add_ints r.F r.N (PySem.IsL.isList (n := k) (r.N _ hm).1) (PySem.IsL.isList (n := k') (r.N _ hm').1) hvs hvs' (fun D us h' F' N' l1 hi => ?_) hz
  obtain ⟨hn, r'⟩ := r.alloc (o := .ints (ns ++ ms)) F' N' l1 ⟨_, 0, rfl, hi⟩
  exact ⟨.ref D, _, h', s.toks, rfl, rfl, .of r', h D _ (ext_upd hn) hn upd_self⟩

-- comparisons
section
variable {Q : Bool → AS → Prop}
theorem CMP_of {op : CmpOp} {a b : AV} {x : Bool} (h : ∀ va vb, VR a va → VR b vb → ∀ s (P : Value → Shared → Prop), P (.bool x) s → wpAny (model W.prog W.w) c.A (compareOp op va vb) P NoE s) (q : Q x σ) : CMP W c op a b σ Q :=
  fun va vb ha hb R s rel => h va vb ha hb s _ ⟨.bool x, σ, s.heap, s.toks, rfl, rfl, rel, ⟨x, rfl, q⟩⟩
theorem CMP_lt {a b : Int} (h : Q (decide (a < b)) σ) : CMP W c .Lt (.int a) (.int b) σ Q := CMP_of (fun _ _ ⟨_, e⟩ ⟨_, e'⟩ s P p => by subst e; subst e'; exact lt_int p) h
theorem CMP_gt {a b : Int} (h : Q (decide (b < a)) σ) : CMP W c .Gt (.int a) (.int b) σ Q := CMP_of (fun _ _ ⟨_, e⟩ ⟨_, e'⟩ s P p => by subst e; subst e'; exact gt_int p) h
theorem CMP_le {a b : Int} (h : Q (decide (a ≤ b)) σ) : CMP W c .LtE (.int a) (.int b) σ Q := CMP_of (fun _ _ ⟨_, e⟩ ⟨_, e'⟩ s P p => by subst e; subst e'; exact le_int p) h
theorem CMP_eq {a b : Int} (h : Q (decide (a = b)) σ) : CMP W c .Eq (.int a) (.int b) σ Q := CMP_of (x := decide (a = b)) (fun _ _ ⟨_, e⟩ ⟨_, e'⟩ s P p => by subst e; subst e'; refine eq_int ?_; rw [show (a == b) = decide (a = b) from rfl]; exact p) h
theorem CMP_ne {a b : Int} (h : Q (!decide (a = b)) σ) : CMP W c .NotEq (.int a) (.int b) σ Q := CMP_of (x := !decide (a = b)) (fun _ _ ⟨_, e⟩ ⟨_, e'⟩ s P p => by subst e; subst e'; refine ne_int ?_; rw [show (a != b) = !decide (a = b) from rfl]; exact p) h
theorem CMP_eqL {a b : Addr} {ns ms : List Int} (hu : c.A.units + 64 < cLine) (ha : σ.H a = some (.ints ns)) (hb : σ.H b = some (.ints ms)) (h : Q (decide (ns = ms)) σ) : CMP W c .Eq (.ref a) (.ref b) σ Q := by
  intro va vb e e' R s rel
  rw [show va = Value.ref a from e, show vb = Value.ref b from e']
  obtain ⟨m, news, r⟩ := id rel
  obtain ⟨ob, ⟨vs, k, rfl, hvs⟩, hm⟩ := r.H a _ ha
  obtain ⟨ob', ⟨vs', k', rfl, hvs'⟩, hm'⟩ := r.H b _ hb
  exact eq_intsK (PySem.IsL.isList (n := k) (r.N _ hm).1) hvs (PySem.IsL.isList (n := k') (r.N _ hm').1) hvs' hu ⟨.bool _, σ, s.heap, s.toks, rfl, rfl, rel, ⟨_, rfl, h⟩⟩
theorem CMP_neL {a b : Addr} {ns ms : List Int} (hu : c.A.units + 64 < cLine) (ha : σ.H a = some (.ints ns)) (hb : σ.H b = some (.ints ms)) (h : Q (!decide (ns = ms)) σ) : CMP W c .NotEq (.ref a) (.ref b) σ Q := by
  intro va vb e e' R s rel
  rw [show va = Value.ref a from e, show vb = Value.ref b from e']
  obtain ⟨m, news, r⟩ := id rel
  obtain ⟨ob, ⟨vs, k, rfl, hvs⟩, hm⟩ := r.H a _ ha
  obtain ⟨ob', ⟨vs', k', rfl, hvs'⟩, hm'⟩ := r.H b _ hb
  exact ne_intsK (PySem.IsL.isList (n := k) (r.N _ hm).1) hvs (PySem.IsL.isList (n := k') (r.N _ hm').1) hvs' hu ⟨.bool _, σ, s.heap, s.toks, rfl, rfl, rel, ⟨_, rfl, h⟩⟩
theorem CMP_isN_int {a : Int} (h : Q false σ) : CMP W c .Is (.int a) .none σ Q := CMP_of (fun _ _ ⟨_, e⟩ e' s P p => by subst e; rw [show _ = Value.none from e']; exact wpAny_is_other rfl (by intro x; cases x) p) h
end
end Mine

set_option maxRecDepth 100000
set_option Elab.async false
set_option linter.all false
namespace Mine
open PySem PySem.W PySem.Calls PyProof.Rows PySem.Spec

variable {W : Wd} {c : Cx} {σ σ' : AS}

-- storing a name
theorem RelAt.store {R : List (Addr × Obj)} {h h' : Heap} {m : Str → Option Value} {news : List (Addr × Obj)} {x : Str} {i : Nat} {av : AV} {v : Value} (r : RelAt c σ R h m news) (hi : slot c.cs.names x = some i) (hv : VR av v)
    (F' : Fr c.h₀ c.L h' (fun y => if y = x then some v else m y)) (N' : News c.h₀ c.L h' news) : RelAt c { σ with m := σ.m.set i (some av) } R h' (fun y => if y = x then some v else m y) news := by
  refine ⟨F', fun y j a hj e => ?_, N', r.H, r.S, r.D⟩
  have e : (σ.m.set i (some av))[j]? = some (some a) := e
  by_cases q : y = x
  · subst q
    rw [hi] at hj
    cases hj
    have hl : i < σ.m.length := by
      have := (List.getElem?_eq_some_iff.mp e).1
      simpa using this
    rw [List.getElem?_set_self hl] at e
    cases e
    exact ⟨v, by simp, hv⟩
  · have hne : i ≠ j := by
      rintro rfl
      exact q (slot_inj hj hi)
    rw [List.getElem?_set_ne hne] at e
    obtain ⟨v', e1, e2⟩ := r.M y j a hj e
    exact ⟨v', by simp [q, e1], e2⟩

inductive PostU (c : Cx) (R : List (Addr × Obj)) (s : Shared) (Q : AS → Prop) (u : Unit) (s' : Shared) : Prop
  | intro (σ' : AS) (h' : Heap) (tk' : Nat) (e : s' = { s with heap := h', toks := tk' }) (b : Rel c σ' R h') (d : Q σ')
/-- a unit tree on a value -/
def UT (W : Wd) (c : Cx) (t : Value → Sem Unit) (a : AV) (σ : AS) (Q : AS → Prop) : Prop :=
  ∀ R s v, VR a v → Rel c σ R s.heap → wpAny (model W.prog W.w) c.A (t v) (PostU c R s Q) NoE s

theorem UT_store {x : Str} {i : Nat} {a : AV} {Q : AS → Prop} (C : COk W c) (hi : slot c.cs.names x = some i) (h : Q { σ with m := σ.m.set i (some a) }) : UT W c (fun v => storeName c.env x v) a σ Q := fun R s v hv ⟨m, news, r⟩ =>
  stN r.F r.N (fun h' F' N' => ⟨_, h', s.toks + 1, rfl, .of (r.store hi hv F' N'), h⟩) C.hk (slot_lookup hi)
theorem UT_name {x : Str} {p : Pos} {i : Nat} {a : AV} {Q : AS → Prop} (C : COk W c) (hi : slot c.cs.names x = some i) (h : Q { σ with m := σ.m.set i (some a) }) : UT W c (assign (.Name x p) c.env) a σ Q := fun R s v hv r =>
  assign_Name (UT_store C hi h R s v hv r)
theorem UT_bind {x : Str} {i : Nat} {a : AV} {Q : AS → Prop} (C : COk W c) (hi : slot c.cs.names x = some i) (h : Q { σ with m := σ.m.set i (some a) }) : UT W c (fun v => bindName c.env x v) a σ Q := fun R s v hv r =>
  bindName_ (UT_store C hi h R s v hv r)

def UTs (W : Wd) (c : Cx) (ts : List (Value → Sem Unit)) (as : List AV) (σ : AS) (Q : AS → Prop) : Prop :=
  ∀ R s vs, VRs as vs → Rel c σ R s.heap → wpAny (model W.prog W.w) c.A (assignInOrder ts vs) (PostU c R s Q) NoE s
theorem UTs_nil {Q : AS → Prop} (h : Q σ) : UTs W c [] [] σ Q := fun R s vs hv r => by
  rw [show vs = [] from hv]
  exact wpAny_assignInOrder_none ⟨σ, s.heap, s.toks, rfl, r, h⟩
theorem UTs_cons {t : Value → Sem Unit} {ts : List (Value → Sem Unit)} {a : AV} {as : List AV} {Q : AS → Prop} (h : UT W c t a σ fun σ₁ => UTs W c ts as σ₁ Q) : UTs W c (t :: ts) (a :: as) σ Q := by
  rintro R s vs ⟨v, r, rfl, hv, hr⟩ rel
  refine wpAny_assignInOrder_more (wpAny_mono (h R s v hv rel) (fun _ s' ⟨σ₁, h₁, k₁, e, r₁, q₁⟩ => ?_) fun _ _ x => x)
  subst e
  exact wpAny_mono (q₁ R { s with heap := h₁, toks := k₁ } r hr r₁) (fun _ s' ⟨σ₂, h₂, k₂, e, r₂, q₂⟩ => ⟨σ₂, h₂, k₂, e, r₂, q₂⟩) fun _ _ x => x

variable {Q : AF → AS → Prop}

theorem E1_assign {x : Str} {i : Nat} {p pos : Pos} {e : Expr} (C : COk W c) (hi : slot c.cs.names x = some i) (hs : swapsWith e (some (.Name x p)) pos.line c.env = pure false)
    (h : EV W c e σ fun v σ₁ => Q .next { σ₁ with m := σ₁.m.set i (some v) }) : E1 W c (.Assign [.Name x p] e pos) σ Q := fun R s rel =>
  wpAny_Assign_Name (TV.then h rel fun a v σ₁ h₁ k₁ ha r₁ q =>
    wpAny_mono (UT_store (Q := fun σ₂ => Q .next σ₂) C hi q R { s with heap := h₁, toks := k₁ } v ha r₁) (fun _ s' ⟨σ₂, h₂, k₂, e, r₂, q₂⟩ => ⟨.next, σ₂, h₂, k₂, e, rfl, r₂, q₂⟩) fun _ _ x => x) hs

inductive KUn (σ : AS) (n : Nat) (k : List AV → Prop) (v : AV) : Prop
  | intro (t : Addr) (as : List AV) (e : v = .ref t) (ht : σ.H t = some (.tup as)) (hl : n = as.length) (q : k as)
theorem E1_unpack {elts : List Expr} {k : Nat} {tp pos : Pos} {e : Expr} (C : COk W c) (hs : swapsWithSole [.Tuple elts k tp] e pos.line c.env = pure false) (hw : swappedStores [.Tuple elts k tp] e c.env = pure none)
    (hf : (assignEach elts c.env).findIdx? (·.1) = none)
    (h : EV W c e σ fun v σ₁ => KUn σ₁ (assignEach elts c.env).length (fun as => UTs W c ((assignEach elts c.env).map (·.2)) as σ₁ fun σ₂ => Q .next σ₂) v) : E1 W c (.Assign [.Tuple elts k tp] e pos) σ Q := fun R s rel =>
  Assign_Tuple (TV.then h rel fun a v σ₁ h₁ k₁ ha r₁ ⟨t, as, e, ht, hl, q⟩ => by
    subst e
    rw [show v = .ref t from ha]
    obtain ⟨m, news, r⟩ := r₁
    obtain ⟨ob, ⟨vs, rfl, hvs⟩, hm⟩ := r.H t _ ht
    refine unpackN_ (s := { s with heap := h₁, toks := k₁ }) r.F r.N (items := vs.toArray) ⟨_, (r.N _ hm).1, rfl, _, rfl⟩ C.hA (by rw [hl, List.size_toArray, vrs_len hvs]) hf fun h' F' N' => ?_
    exact wpAny_mono (q R { s with heap := h', toks := k₁ } vs hvs ⟨m, news, F', r.M, N', r.H, r.S, r.D⟩) (fun _ s' ⟨σ₂, h₂, k₂, e, r₂, q₂⟩ => ⟨.next, σ₂, h₂, k₂, e, rfl, r₂, q₂⟩) fun _ _ x => x) hs hw

theorem vrs_append : ∀ {as bs : List AV} {vs ws : List Value}, VRs as vs → VRs bs ws → VRs (as ++ bs) (vs ++ ws)
  | [], bs, vs, ws, h, h' => by rw [show vs = [] from h]; exact h'
  | a :: as, bs, _, ws, ⟨v, r, rfl, hv, hr⟩, h' => ⟨v, r ++ ws, rfl, hv, vrs_append hr h'⟩
theorem vrs_reverse : ∀ {as : List AV} {vs : List Value}, VRs as vs → VRs as.reverse vs.reverse
  | [], vs, h => by rw [show vs = [] from h]; rfl
  | a :: as, _, ⟨v, r, rfl, hv, hr⟩ => by
    rw [List.reverse_cons, List.reverse_cons]
    exact vrs_append (vrs_reverse hr) ⟨v, [], rfl, hv, rfl⟩

theorem E1_swapped {elts : List Expr} {k : Nat} {tp pos : Pos} {e : Expr} {names : List Str} (C : COk W c) (hs : swapsWithSole [.Tuple elts k tp] e pos.line c.env = pure false) (hw : swappedStores [.Tuple elts k tp] e c.env = pure (some names))
    (h : EV W c e σ fun v σ₁ => KUn σ₁ names.length (fun as => UTs W c (names.reverse.map fun n => bindName c.env n) as.reverse σ₁ fun σ₂ => Q .next σ₂) v) : E1 W c (.Assign [.Tuple elts k tp] e pos) σ Q := fun R s rel =>
  Assign_Tuple_swapped (TV.then h rel fun a v σ₁ h₁ k₁ ha r₁ ⟨t, as, e, ht, hl, q⟩ => by
    subst e
    rw [show v = .ref t from ha]
    obtain ⟨m, news, r⟩ := r₁
    obtain ⟨ob, ⟨vs, rfl, hvs⟩, hm⟩ := r.H t _ ht
    have hlen : names.length = vs.toArray.size := by rw [hl, List.size_toArray, vrs_len hvs]
    rw [hlen]
    refine unpackItems_tuple (s := { s with heap := h₁, toks := k₁ }) (items := vs.toArray) C.hA ⟨_, (r.N _ hm).1, rfl, _, rfl⟩ fun h' he => ?_
    have N' : News c.h₀ c.L h' news := fun p hp => ⟨he _ _ (Nat.ne_of_lt (Heap.lt_size (r.N p hp).1)) (r.N p hp).1, (r.N p hp).2⟩
    exact wpAny_mono (q R { s with heap := h', toks := k₁ } vs.reverse (vrs_reverse hvs) ⟨m, news, r.F.extBut he (Nat.le_refl _), r.M, N', r.H, r.S, r.D⟩) (fun _ s' ⟨σ₂, h₂, k₂, e, r₂, q₂⟩ => ⟨.next, σ₂, h₂, k₂, e, rfl, r₂, q₂⟩) fun _ _ x => x) hs hw

inductive KSet (Q : AF → AS → Prop) (v ov iv : AV) (σ : AS) : Prop
  | intro (x : Int) (D : Addr) (ns : List Int) (k : Int) (e1 : v = .int x) (e2 : ov = .ref D) (e3 : iv = .int k) (hD : σ.H D = some (.ints ns)) (h0 : 0 ≤ k) (h1 : k < ns.length) (h2 : k < 2 ^ 63)
    (q : ∀ H', H' D = some (.ints (ns.set k.toNat x)) → (∀ b, b ≠ D → H' b = σ.H b) → Q .next { σ with H := H' })
inductive KSetV (Q : AF → AS → Prop) (v ov iv : AV) (σ : AS) : Prop
  | intro (D : Addr) (as : List AV) (k : Int) (e2 : ov = .ref D) (e3 : iv = .int k) (hD : σ.H D = some (.vals as)) (h0 : 0 ≤ k) (h1 : k < as.length) (h2 : k < 2 ^ 63)
    (q : ∀ H', H' D = some (.vals (as.set k.toNat v)) → (∀ b, b ≠ D → H' b = σ.H b) → Q .next { σ with H := H' })
theorem E1_setitem {o i : Expr} {p pos : Pos} {e : Expr} (hs : swapsWith e (some (o.Subscript i p)) pos.line c.env = pure false)
    (h : EV W c e σ fun v σ₁ => EV W c o σ₁ fun ov σ₂ => EV W c i σ₂ (KSet Q v ov)) : E1 W c (.Assign [.Subscript o i p] e pos) σ Q := fun R s rel =>
  wpAny_Assign_Subscript (TV.then h rel fun v vv σ₁ h₁ k₁ hv r₁ q₁ => TV.then (s := { s with heap := h₁, toks := k₁ }) q₁ r₁ fun ov vo σ₂ h₂ k₂ ho r₂ q₂ => TV.then (s := { s with heap := h₂, toks := k₂ }) q₂ r₂ fun iv vi σ₃ h₃ k₃ hi r₃ ⟨x, D, ns, k, e1, e2, e3, hD, hk0, hk1, hk2, q⟩ => by
    subst e1; subst e2; subst e3
    obtain ⟨t, rfl⟩ := hv
    obtain ⟨u, rfl⟩ := hi
    rw [show vo = .ref D from ho]
    obtain ⟨m, news, r⟩ := r₃
    obtain ⟨ob, rest, ⟨vs, n, rfl, hvs⟩, N, hne, hrest, hR⟩ := r.focus hD
    refine ksa_set (s := { s with heap := h₃, toks := k₃ }) r.F N (Upd.head hne) hvs hk0 hk1 hk2 fun h' F' N' hi' _ _ => ?_
    have r' := r.change (o' := .ints (ns.set k.toNat x)) hD hrest hR F' N' ⟨_, n, rfl, hi'⟩
    exact ⟨.next, _, h', k₃, rfl, rfl, .of r', q _ upd_self fun b hb => upd_ne hb⟩) hs

theorem vrs_set : ∀ {as : List AV} {vs : List Value} {a : AV} {v : Value} (j : Nat), VRs as vs → VR a v → VRs (as.set j a) (vs.set j v)
  | [], _, _, _, j, h, _ => by rw [show _ = [] from h]; exact rfl
  | b :: as, _, a, v, 0, ⟨w, r, rfl, _, hr⟩, hv => ⟨v, r, rfl, hv, hr⟩
  | b :: as, _, a, v, j + 1, ⟨w, r, rfl, hw, hr⟩, hv => ⟨w, r.set j v, rfl, hw, vrs_set j hr hv⟩

theorem E1_setitemV {o i : Expr} {p pos : Pos} {e : Expr} (hs : swapsWith e (some (o.Subscript i p)) pos.line c.env = pure false)
    (h : EV W c e σ fun v σ₁ => EV W c o σ₁ fun ov σ₂ => EV W c i σ₂ (KSetV Q v ov)) : E1 W c (.Assign [.Subscript o i p] e pos) σ Q := fun R s rel =>
  wpAny_Assign_Subscript (TV.then h rel fun v vv σ₁ h₁ k₁ hv r₁ q₁ => TV.then (s := { s with heap := h₁, toks := k₁ }) q₁ r₁ fun ov vo σ₂ h₂ k₂ ho r₂ q₂ => TV.then (s := { s with heap := h₂, toks := k₂ }) q₂ r₂ fun iv vi σ₃ h₃ k₃ hi r₃ ⟨D, as, k, e2, e3, hD, hk0, hk1, hk2, q⟩ => by
    subst e2; subst e3
    obtain ⟨u, rfl⟩ := hi
    rw [show vo = .ref D from ho]
    obtain ⟨m, news, r⟩ := r₃
    obtain ⟨ob, rest, ⟨vs, n, rfl, hvs⟩, N, hne, hrest, hR⟩ := r.focus hD
    have z := N _ (.head _)
    have hlen := vrs_len hvs
    have e1 : vs.toArray.setIfInBounds k.toNat vv = (vs.set k.toNat vv).toArray := by
      apply Array.toList_inj.mp
      simp
    refine ki_setAt (s := { s with heap := h₃, toks := k₃ }) z.1 hk0 hk2 (by rw [List.size_toArray, hlen]; exact hk1) ?_
    have N' : News c.h₀ c.L (h₃.update D (Obj.mapSeq fun x => x.setIfInBounds k.toNat vv)) ((D, PySem.W.listOf (vs.set k.toNat vv).toArray n) :: rest) := ki_turn (pre := []) _ N (fun _ h => nomatch h) hne e1 (by simp)
    have r' := r.change (o' := .vals (as.set k.toNat v)) hD hrest hR (r.F.change (Heap.SameBut.update ..) z.2.1 z.2.2) N' ⟨_, n, rfl, vrs_set _ hvs hv⟩
    exact ⟨.next, _, _, k₃, rfl, rfl, .of r', q _ upd_self fun b hb => upd_ne hb⟩) hs

def INP (W : Wd) (c : Cx) (op : Operator) (a b : AV) (σ : AS) (Q : AV → AS → Prop) : Prop :=
  ∀ va vb, VR a va → VR b vb → TV W c (inplaceOp op va vb) σ Q
theorem E1_aug {x : Str} {i : Nat} {p pos : Pos} {op : Operator} {e : Expr} {av : AV} (C : COk W c) (hi : slot c.cs.names x = some i) (hv : σ.m[i]? = some (some av))
    (h : EV W c e σ fun b σ₁ => INP W c op av b σ₁ fun v σ₂ => Q .next { σ₂ with m := σ₂.m.set i (some v) }) : E1 W c (.AugAssign (.Name x p) op e pos) σ Q := fun R s rel => by
  obtain ⟨m, news, r⟩ := id rel
  obtain ⟨v, e, hr⟩ := r.M x i av hi hv
  refine wpAny_AugAssign_Name (ldn r.F e ?_ C.hk (slot_lookup hi))
  exact TV.then h rel fun b vb σ₁ h₁ k₁ hb r₁ q₁ => TV.then (s := { s with heap := h₁, toks := k₁ }) (q₁ v vb hr hb) r₁ fun w vw σ₂ h₂ k₂ hw r₂ q₂ =>
    wpAny_mono (UT_store (Q := fun σ₂ => Q .next σ₂) C hi q₂ R { s with heap := h₂, toks := k₂ } vw hw r₂) (fun _ s' ⟨σ₂, h₂, k₂, e, r₂, q₂⟩ => ⟨.next, σ₂, h₂, k₂, e, rfl, r₂, q₂⟩) fun _ _ x => x
section
variable {Q : AV → AS → Prop}
theorem INP_add {a b : Int} (h : Q (.int (a + b)) σ) : INP W c .Add (.int a) (.int b) σ Q := by
  rintro _ _ ⟨t, rfl⟩ ⟨u, rfl⟩ R s rel
  exact iadd_int ⟨.int _, σ, s.heap, s.toks + 1, rfl, ⟨_, rfl⟩, rel, h⟩
theorem INP_sub {a b : Int} (h : Q (.int (a - b)) σ) : INP W c .Sub (.int a) (.int b) σ Q := by
  rintro _ _ ⟨t, rfl⟩ ⟨u, rfl⟩ R s rel
  exact isub_int ⟨.int _, σ, s.heap, s.toks + 1, rfl, ⟨_, rfl⟩, rel, h⟩
theorem INP_mod {a b : Int} (h0 : b ≠ 0) (h : Q (.int (a.fmod b)) σ) : INP W c .Mod (.int a) (.int b) σ Q := by
  rintro _ _ ⟨t, rfl⟩ ⟨u, rfl⟩ R s rel
  exact imod_int h0 ⟨.int _, σ, s.heap, s.toks + 1, rfl, ⟨_, rfl⟩, rel, h⟩
theorem INP_shr {a n : Int} (h0 : 0 ≤ n) (h : Q (.int (a.fdiv (2 ^ n.toNat))) σ) : INP W c .RShift (.int a) (.int n) σ Q := by
  rintro _ _ ⟨t, rfl⟩ ⟨u, rfl⟩ R s rel
  exact irshift_int h0 ⟨.int _, σ, s.heap, s.toks + 1, rfl, ⟨_, rfl⟩, rel, h⟩
theorem INP_or {a b : Int} (h : Q (.int (Builtin.bitOr a b)) σ) : INP W c .BitOr (.int a) (.int b) σ Q := by
  rintro _ _ ⟨t, rfl⟩ ⟨u, rfl⟩ R s rel
  exact ior_int ⟨.int _, σ, s.heap, s.toks + 1, rfl, ⟨_, rfl⟩, rel, h⟩

end

-- statements
theorem EX_nil (h : Q .next σ) : EX W c [] σ Q := fun R s rel => wpAny_execs_nil ⟨.next, σ, s.heap, s.toks, rfl, rfl, rel, h⟩
theorem EX_cons {st : Stmt} {rest : List Stmt} (h : E1 W c st σ fun f σ₁ => match f with | .next => EX W c rest σ₁ Q | f => Q f σ₁) : EX W c (st :: rest) σ Q := fun R s rel => by
  refine wpAny_execs_cons (wpAny_mono (h R s rel) (fun f s' ⟨af, σ₁, h₁, k₁, e, hf, r₁, q₁⟩ => ?_) fun _ _ x => x)
  subst e
  cases af with
  | next =>
    rw [show f = .next from hf]
    exact wpAny_mono (q₁ R { s with heap := h₁, toks := k₁ } r₁) (fun _ _ x => x.trans rfl) fun _ _ x => x
  | brk =>
    rw [show f = .brk from hf]
    exact ⟨.brk, σ₁, h₁, k₁, rfl, rfl, r₁, q₁⟩
  | ret v =>
    obtain ⟨v', e, hv⟩ := hf
    subst e
    exact ⟨.ret v, σ₁, h₁, k₁, rfl, ⟨v', rfl, hv⟩, r₁, q₁⟩
theorem E1_if {t : Expr} {a b : List Stmt} {pos : Pos} (h : TS W c t σ fun x σ₁ => (x = true → EX W c a σ₁ Q) ∧ (x = false → EX W c b σ₁ Q)) : E1 W c (.If t a b pos) σ Q := fun R s rel =>
  wpAny_If (TS.then h rel fun x σ₁ h₁ k₁ r₁ q₁ => by
    cases x with
    | true => exact wpAny_mono (q₁.1 rfl R { s with heap := h₁, toks := k₁ } r₁) (fun _ _ x => x.trans rfl) fun _ _ x => x
    | false => exact wpAny_mono (q₁.2 rfl R { s with heap := h₁, toks := k₁ } r₁) (fun _ _ x => x.trans rfl) fun _ _ x => x)
theorem E1_return {e : Expr} {pos : Pos} (h : EV W c e σ fun v σ₁ => Q (.ret v) σ₁) : E1 W c (.Return (some e) pos) σ Q := fun R s rel =>
  wpAny_Return_some (TV.then h rel fun a v σ₁ h₁ k₁ ha r₁ q₁ => ⟨.ret a, σ₁, h₁, k₁, rfl, ⟨v, rfl, ha⟩, r₁, q₁⟩)
theorem E1_break {pos : Pos} (h : Q .brk σ) : E1 W c (.Break pos) σ Q := fun R s rel => wpAny_Break ⟨.brk, σ, s.heap, s.toks, rfl, rfl, rel, h⟩
theorem E1_expr {e : Expr} {pos : Pos} (hi : interactive c.env = false) (hs : swapsWith e none pos.line c.env = pure false) (h : EV W c e σ fun v σ₁ => v = .none ∧ Q .next σ₁) : E1 W c (.Expr e pos) σ Q := fun R s rel =>
  wpAny_Expr (TV.then h rel fun a v σ₁ h₁ k₁ ha r₁ ⟨e, q₁⟩ => by
    subst e
    rw [show v = .none from ha]
    exact ⟨.next, σ₁, h₁, k₁, rfl, rfl, r₁, q₁⟩) hi hs

inductive WhSt (c : Cx) (R : List (Addr × Obj)) (s : Shared) (Inv : Nat → AS → Prop) (n : Nat) (s' : Shared) : Prop
  | intro (σ₁ : AS) (h₁ : Heap) (k₁ : Nat) (e : s' = { s with heap := h₁, toks := k₁ }) (r : Rel c σ₁ R h₁) (hI : Inv n σ₁)
theorem E1_while {test : Expr} {body : List Stmt} {pos : Pos} (Inv : Nat → AS → Prop) (n₀ : Nat) (h0 : Inv n₀ σ)
    (turn : ∀ n σ₁, Inv n σ₁ → TS W c test σ₁ fun b σ₂ => (b = true → EX W c body σ₂ fun f σ₃ => match f with | .next => ∃ σ₄ k, Wk σ₃ σ₄ ∧ k < n ∧ Inv k σ₄ | .brk => Q .next σ₃ | .ret v => Q (.ret v) σ₃) ∧ (b = false → Q .next σ₂)) :
    E1 W c (.While test body [] pos) σ Q := fun R s rel => by
  refine wpAny_While (codeAny_whileLoop (WhSt c R s Inv) ?_ n₀ ⟨σ, s.heap, s.toks, rfl, rel, h0⟩)
  rintro n s' ⟨σ₁, h₁, k₁, rfl, r₁, hI⟩
  refine wpAny_mono (turn n σ₁ hI R { s with heap := h₁, toks := k₁ } r₁) (fun b s₂ ⟨σ₂, h₂, k₂, e, r₂, q₂⟩ => ?_) (fun _ _ x => x.elim)
  subst e
  cases b with
  | false =>
    simp only [Bool.false_eq_true, if_false]
    exact wpAny_execs_nil ⟨.next, σ₂, h₂, k₂, rfl, rfl, r₂, q₂.2 rfl⟩
  | true =>
    simp only [if_true]
    refine wpAny_mono (q₂.1 rfl R { s with heap := h₂, toks := k₂ } r₂) (fun f s₃ ⟨af, σ₃, h₃, k₃, e, hf, r₃, q₃⟩ => ?_) (fun _ _ x => x.elim)
    subst e
    cases af with
    | next =>
      rw [show f = .next from hf]
      obtain ⟨σ₄, k, w, hk, hI'⟩ := q₃
      exact ⟨k, hk, σ₄, h₃, k₃, rfl, r₃.weak w, hI'⟩
    | brk =>
      rw [show f = .brk from hf]
      exact ⟨.next, σ₃, h₃, k₃, rfl, rfl, r₃, q₃⟩
    | ret v =>
      obtain ⟨v', e, hv⟩ := hf
      subst e
      exact ⟨.ret v, σ₃, h₃, k₃, rfl, ⟨v', rfl, hv⟩, r₃, q₃⟩
end Mine

set_option maxRecDepth 100000
set_option Elab.async false
set_option linter.all false
namespace Mine
open PySem PySem.W PySem.Calls PyProof.Rows PySem.Spec

variable {W : Wd} {c : Cx} {σ σ' : AS}
section
variable {Q : AV → AS → Prop}
inductive KApp2 (Q : AV → AS → Prop) (D : Addr) (xv : AV) (σ : AS) : Prop
  | intro (x : Int) (ms : List Int) (e : xv = .int x) (hD : σ.H D = some (.ints ms)) (hz : ms.length ≤ sizeLine)
    (q : ∀ H', H' D = some (.ints (ms ++ [x])) → (∀ b, b ≠ D → H' b = σ.H b) → Q .none { σ with H := H' })
inductive KApp (W : Wd) (c : Cx) (e : Expr) (Q : AV → AS → Prop) (ov : AV) (σ : AS) : Prop
  | intro (D : Addr) (ns : List Int) (e1 : ov = .ref D) (hD : σ.H D = some (.ints ns)) (q : EV W c e σ (KApp2 Q D))
/-- found.append(x) -/
theorem EV_append {o e : Expr} {ap pos : Pos} {pl : Sem Bool}
    (hc : eval (.Call (.Attribute o (PySem.Str.ofString "append") ap) [e] [] pos) c.env = (do
          let ov ← eval o c.env
          standAt ap.atName
          match ← holding [ov] (getMethod ov (PySem.Str.ofString "append") pl) with
            | (f, first) => callWith pos f first (backTo pos (starEach [e] c.env)) []))
    (h1 : starEach [e] c.env = (false, eval e c.env) :: starEach [] c.env)
    (h : EV W c o σ (KApp W c e Q)) : EV W c (.Call (.Attribute o (PySem.Str.ofString "append") ap) [e] [] pos) σ Q := fun R s rel => by
  refine MethodCall_ (pl := pl) (TV.then h rel fun ov vo σ₁ h₁ k₁ ho r₁ ⟨D, ns, e1, hD, q₁⟩ => ?_) hc
  subst e1
  rw [show vo = .ref D from ho]
  obtain ⟨m, news, r⟩ := id r₁
  obtain ⟨ob, ⟨vs, n, rfl, hvs⟩, hm⟩ := r.H D _ hD
  refine listMethod_K (s := { s with heap := h₁, toks := k₁ }) r.N hm PySem.F.slot_list_append PySem.F.type_list_append ?_
  dsimp only
  refine callWith_method1 ?_ h1 rfl
  have hsp : SP W c [e] σ₁ fun vs σ₂ => At1 (fun xv => KApp2 Q D xv σ₂) vs :=
    SP_cons h1 (q₁.mono fun xv σ₂ q => SP_nil ⟨xv, q⟩)
  refine SP.then (s := { s with heap := h₁, toks := k₁ }) hsp r₁ fun as vs' σ₂ h₂ k₂ has r₂ ⟨xv, ⟨x, ms, e3, hD2, hz, q⟩⟩ => ?_
  subst e3
  obtain ⟨v, rr, rfl, ⟨t, rfl⟩, hrr⟩ := has
  rw [show rr = [] from hrr]
  obtain ⟨m2, news2, r2⟩ := r₂
  obtain ⟨ob, rest, ⟨ws, n2, rfl, hws⟩, N, hne, hrest, hR⟩ := r2.focus hD2
  refine append_K (s := { s with heap := h₂, toks := k₂ }) r2.F N (Upd.head hne) (fun h' F' N' => ?_) (by rw [IntsAre_size hws]; exact hz)
  have hpush : ws.toArray.push (Value.int x t) = (ws ++ [Value.int x t]).toArray := by simp
  rw [hpush] at N'
  have r' := r2.change (o' := .ints (ms ++ [x])) hD2 hrest hR F' N' ⟨_, n2 + 1, rfl, by
    have := vrs_append (ints_vrs hws) (show VRs [AV.int x] [Value.int x t] from ⟨_, [], rfl, ⟨t, rfl⟩, rfl⟩)
    rw [show (ms.map AV.int ++ [AV.int x]) = (ms ++ [x]).map AV.int by simp] at this
    exact vrs_ints this⟩
  exact ⟨.none, _, h', k₂, rfl, rfl, .of r', q _ upd_self fun b hb => upd_ne hb⟩

theorem EV_bitlen {o : Expr} {ap pos : Pos} {pl : Sem Bool}
    (hc : eval (.Call (.Attribute o (PySem.Str.ofString "bit_length") ap) [] [] pos) c.env = (do
          let ov ← eval o c.env
          standAt ap.atName
          match ← holding [ov] (getMethod ov (PySem.Str.ofString "bit_length") pl) with
            | (f, first) => callWith pos f first (backTo pos (starEach [] c.env)) []))
    (h : EV W c o σ fun ov σ₁ => AtI (fun x => Q (.int (Builtin.Int.intBits x : Nat)) σ₁) ov) : EV W c (.Call (.Attribute o (PySem.Str.ofString "bit_length") ap) [] [] pos) σ Q := fun R s rel => by
  refine MethodCall_ (pl := pl) (TV.then h rel fun ov vo σ₁ h₁ k₁ ho r₁ ⟨x, q₁⟩ => ?_) hc
  obtain ⟨t, rfl⟩ := ho
  refine getMethod_int_bit_length (s := { s with heap := h₁, toks := k₁ }) ?_
  dsimp only
  refine PyProof.Rows.callWith_method0 ?_
  refine call_int_bit_length ?_
  exact ⟨.int _, σ₁, h₁, k₁ + 1, rfl, ⟨_, rfl⟩, r₁, q₁⟩
end

end Mine

set_option maxRecDepth 100000
set_option Elab.async false
set_option linter.all false
namespace Mine
open PySem PySem.W PySem.Calls PyProof.Rows PySem.Spec

variable {W : Wd} {c : Cx} {σ σ' : AS} {Q : AF → AS → Prop}

theorem RelAt.keeps {R : List (Addr × Obj)} {h h' : Heap} {m : Str → Option Value} {news : List (Addr × Obj)} {wr : List Addr} (r : RelAt c σ R h m news) (hL : c.L ∉ wr) (hw : ∀ b ∈ wr, c.h₀.get? b = none) (off : ∀ p ∈ news, p.1 ∉ wr)
    (k : ∀ b o, b ∉ wr → h.get? b = some o → h'.get? b = some o) : RelAt c σ R h' m news :=
  ⟨⟨r.F.ns.at' fun o e => k _ o hL e, fun b o e => k b o (fun hb => by rw [hw b hb] at e; cases e) (r.F.keep b o e), r.F.above⟩, r.M, fun p hp => ⟨k _ _ (off p hp) (r.N p hp).1, (r.N p hp).2⟩, r.H, r.S, r.D⟩

def liveOf (h : Heap) (wr : List Addr) : List (Addr × Obj) := wr.filterMap fun b => (h.get? b).map fun o => (b, o)
theorem mem_liveOf {h : Heap} {wr : List Addr} {b : Addr} {o : Obj} (hb : b ∈ wr) (ho : h.get? b = some o) : (b, o) ∈ liveOf h wr := List.mem_filterMap.mpr ⟨b, hb, by rw [ho]; rfl⟩
theorem of_liveOf {h : Heap} {wr : List Addr} {p : Addr × Obj} (hp : p ∈ liveOf h wr) : p.1 ∈ wr ∧ h.get? p.1 = some p.2 := by
  obtain ⟨b, hb, e⟩ := List.mem_filterMap.mp hp
  cases q : h.get? b with
  | none => rw [q] at e; cases e
  | some o => rw [q] at e; cases e; exact ⟨hb, q⟩

theorem RelAt.addLive {R : List (Addr × Obj)} {h : Heap} {m : Str → Option Value} {news : List (Addr × Obj)} {wr : List Addr} (r : RelAt c σ R h m news) (hL : c.L ∉ wr) (hw : ∀ b ∈ wr, c.h₀.get? b = none) (off : ∀ p ∈ news, p.1 ∉ wr) :
    RelAt c σ (liveOf h wr ++ R) h m (liveOf h wr ++ news) := by
  refine ⟨r.F, r.M, fun p hp => ?_, HR.weaken r.H fun p hp => List.mem_append_right _ hp, fun p hp => ?_, fun p hp => ?_⟩
  · rcases List.mem_append.mp hp with hp | hp
    · obtain ⟨h1, h2⟩ := of_liveOf hp
      exact ⟨h2, fun e => hL (e ▸ h1), hw _ h1⟩
    · exact r.N p hp
  · rcases List.mem_append.mp hp with hp | hp
    · exact List.mem_append_left _ hp
    · exact List.mem_append_right _ (r.S p hp)
  · rcases List.mem_append.mp hp with hp | hp
    · obtain ⟨h1, h2⟩ := of_liveOf hp
      cases e : σ.H p.1 with
      | none => rfl
      | some o =>
        obtain ⟨ob, _, hm⟩ := r.H _ _ e
        exact absurd h1 (off (p.1, ob) hm)
    · exact r.D p hp

theorem RelAt.dropLive {R : List (Addr × Obj)} {h h₁ : Heap} {m : Str → Option Value} {news : List (Addr × Obj)} {wr : List Addr} (r : RelAt c σ (liveOf h₁ wr ++ R) h m news) (live : ∀ b ∈ wr, ∃ o, h₁.get? b = some o) (hR : ∀ p ∈ R, p.1 ∉ wr) :
    RelAt c σ R h m (news.filter fun p => decide (p.1 ∉ wr)) ∧ ∀ p ∈ news.filter (fun p => decide (p.1 ∉ wr)), p.1 ∉ wr := by
  refine ⟨⟨r.F, r.M, fun p hp => r.N p (List.mem_filter.mp hp).1, fun a o e => ?_, fun p hp => List.mem_filter.mpr ⟨r.S p (List.mem_append_right _ hp), by simpa using hR p hp⟩, fun p hp => r.D p (List.mem_append_right _ hp)⟩, fun p hp => by simpa using (List.mem_filter.mp hp).2⟩
  obtain ⟨ob, h1, h2⟩ := r.H a o e
  refine ⟨ob, h1, List.mem_filter.mpr ⟨h2, ?_⟩⟩
  have : a ∉ wr := fun ha => by
    obtain ⟨o', ho'⟩ := live a ha
    have := r.D _ (List.mem_append_left _ (mem_liveOf ha ho'))
    rw [this] at e
    cases e
  simpa using this

theorem Rel.drop {R R' : List (Addr × Obj)} {h : Heap} (r : Rel c σ R' h) (k : ∀ p ∈ R, p ∈ R') : Rel c σ R h :=
  let ⟨m, news, r⟩ := r; ⟨m, news, r.F, r.M, r.N, r.H, fun p hp => r.S p (k p hp), fun p hp => r.D p (k p hp)⟩

def LoopQ (Inv : Nat → AS → Prop) (k : Nat) (Q : AF → AS → Prop) : AF → AS → Prop := fun f σ' => match f with
  | .next => ∃ σ'', Wk σ' σ'' ∧ Inv (k + 1) σ''
  | .brk => Q .next σ'
  | .ret v => Q (.ret v) σ'

def Res (c : Cx) (R : List (Addr × Obj)) (s : Shared) (Q : AF → AS → Prop) : Result → Shared → Prop := fun r s' => match r with
  | .ok f => PostF c R s Q f s'
  | .error _ => False

inductive ForSt (c : Cx) (R : List (Addr × Obj)) (s : Shared) (wr : List Addr) (n : Nat) (St : Nat → Heap → Prop) (Inv : Nat → AS → Prop) (k : Nat) (s' : Shared) : Prop
  | intro (h : Heap) (tk : Nat) (σ₁ : AS) (m : Str → Option Value) (news : List (Addr × Obj)) (j : Nat) (e : s' = { s with heap := h, toks := tk }) (r : RelAt c σ₁ R h m news) (off : ∀ p ∈ news, p.1 ∉ wr) (st : St j h) (hI : Inv j σ₁) (hj : j ≤ n) (hk : k = n + 1 - j)
theorem for_core {x : Str} {px : Pos} {i : Nat} {body : List Stmt} {I : Addr} {fp wr : List Addr} {n : Nat} {P : Nat → Value → Prop} {St : Nat → Heap → Prop} {R : List (Addr × Obj)} {s : Shared} {m : Str → Option Value} {news : List (Addr × Obj)}
    (C : COk W c) (hi : slot c.cs.names x = some i) (Wk' : Walks W.prog W.w c.A I fp wr n P St) (hfp : ∀ b ∈ fp, b ∈ wr ∨ ∃ o, (b, o) ∈ R) (live : ∀ i h, St i h → ∀ b ∈ wr, ∃ o, h.get? b = some o)
    (hL : c.L ∉ wr) (hw : ∀ b ∈ wr, c.h₀.get? b = none) (hR : ∀ p ∈ R, p.1 ∉ wr) (val : Nat → AV) (hval : ∀ k v, P k v → VR (val k) v) (Inv : Nat → AS → Prop)
    (r₀ : RelAt c σ R s.heap m news) (off : ∀ p ∈ news, p.1 ∉ wr) (hst : St 0 s.heap) (h0 : Inv 0 σ)
    (step : ∀ k σ₁, k < n → Inv k σ₁ → EX W c body { σ₁ with m := σ₁.m.set i (some (val k)) } (LoopQ Inv k Q))
    (done : ∀ σ₁, Inv n σ₁ → Q .next σ₁) : codeAny (model W.prog W.w) c.A (.forLoop (.Name x px) (.ref I) body [] c.env) (Res c R s Q) s := by
  refine codeAny_forLoop (ForSt c R s wr n St Inv) ?_ (n + 1) ⟨s.heap, s.toks, σ, m, news, 0, rfl, r₀, off, hst, h0, Nat.zero_le _, rfl⟩
  rintro k s' ⟨h, tk, σ₁, m₁, news₁, j, rfl, r₁, off₁, hst₁, hI, hj, rfl⟩
  by_cases hlt : j < n
  · refine Wk'.item j _ _ _ hlt hst₁ fun v h₂ tk₂ hP hst₂ hk₂ => ?_
    have r₂ := r₁.keeps hL hw off₁ hk₂
    have r₃ := r₂.addLive hL hw off₁
    have hb := step j σ₁ hlt hI
    refine wpAny_assign_Name (stN (s := { s with heap := h₂, toks := tk₂ }) r₃.F r₃.N (fun h₃ F₃ N₃ => ?_) C.hk (slot_lookup hi))
    have r₄ := r₃.store hi (hval j v hP) F₃ N₃
    refine wpAny_mono (hb _ { s with heap := h₃, toks := tk₂ + 1 } (.of r₄)) (fun f s₅ ⟨af, σ₅, h₅, k₅, e, hf, r₅, q₅⟩ => ?_) fun _ _ x => x.elim
    subst e
    have lv := live (j + 1) h₂ hst₂
    cases af with
    | next =>
      rw [show f = .next from hf]
      obtain ⟨σ₆, w, hI'⟩ := q₅
      obtain ⟨m₆, news₆, r₆⟩ := r₅.weak w
      obtain ⟨r₇, off₇⟩ := r₆.dropLive lv hR
      refine ⟨n + 1 - (j + 1), Nat.sub_succ_lt_self _ _ (Nat.lt_succ_of_lt hlt), h₅, k₅, σ₆, m₆, _, j + 1, rfl, r₇, off₇, ?_, hI', hlt, rfl⟩
      refine Wk'.frame _ _ _ hst₂ fun b hb o e => ?_
      rcases hfp b hb with hb' | ⟨o', hR'⟩
      · exact (r₆.N _ (r₆.S _ (List.mem_append_left _ (mem_liveOf hb' e)))).1
      · have e1 := (r₂.N _ (r₂.S _ hR')).1
        rw [e] at e1
        cases e1
        exact (r₆.N _ (r₆.S _ (List.mem_append_right _ hR'))).1
    | brk =>
      rw [show f = .brk from hf]
      exact ⟨.next, σ₅, h₅, k₅, rfl, rfl, r₅.drop fun p hp => List.mem_append_right _ hp, q₅⟩
    | ret v =>
      obtain ⟨v', e, hv⟩ := hf
      subst e
      exact ⟨.ret v, σ₅, h₅, k₅, rfl, ⟨v', rfl, hv⟩, r₅.drop fun p hp => List.mem_append_right _ hp, q₅⟩
  · have : j = n := Nat.le_antisymm hj (Nat.not_lt.mp hlt)
    subst this
    refine Wk'.done _ _ _ hst₁ fun h₂ tk₂ hk₂ => wpAny_execs_nil ?_
    exact ⟨.next, σ₁, h₂, tk₂, rfl, rfl, .of (r₁.keeps hL hw off₁ hk₂), done σ₁ hI⟩

/-- what stands below a heap's top is not above it -/
theorem RelAt.push {R : List (Addr × Obj)} {h : Heap} {m : Str → Option Value} {news : List (Addr × Obj)} (r : RelAt c σ R h m news) (o : Obj) : RelAt c σ R (h.push o) m news :=
  ⟨r.F.push o, r.M, fun p hp => ⟨Heap.get?_push_of_some _ (r.N p hp).1, (r.N p hp).2⟩, r.H, r.S, r.D⟩

theorem base_below {R : List (Addr × Obj)} {h : Heap} {m : Str → Option Value} {news : List (Addr × Obj)} (r : RelAt c σ R h m news) {a : Addr} (e : h.objs.size ≤ a) : c.h₀.get? a = none := by
  cases q : c.h₀.get? a with
  | none => rfl
  | some o => exact absurd (Heap.lt_size (r.F.keep _ _ q)) (Nat.not_lt.mpr e)

/-- the walk over a range, its object and its iterator made -/
theorem range_core {x : Str} {px : Pos} {i : Nat} {body : List Stmt} {a b d : Int} {t u v : Tok} {n : Nat} {R : List (Addr × Obj)} {s : Shared} {ra : Addr}
    (C : COk W c) (hi : slot c.cs.names x = some i) (hr : IsRange s.heap ra a b d t u v) (hs : Builtin.Range.small a b d = true) (hn : Builtin.Range.rangeSize a b d = (n : Int)) (Inv : Nat → AS → Prop) (rel : Rel c σ R s.heap) (h0 : Inv 0 σ)
    (step : ∀ k σ₁, k < n → Inv k σ₁ → EX W c body { σ₁ with m := σ₁.m.set i (some (.int (a + k * d))) } (LoopQ Inv k Q))
    (done : ∀ σ₁, Inv n σ₁ → Q .next σ₁) :
    wpAny (model W.prog W.w) c.A (pyIter (.ref ra)) (fun it s₂ => codeAny (model W.prog W.w) c.A (.forLoop (.Name x px) it body [] c.env) (Res c R s Q) s₂) NoE s := by
  refine wpAny_pyIter_range hr hs ?_
  obtain ⟨m, news, r⟩ := rel
  refine codeAny_mono (for_core (s := { s with heap := s.heap.push _ }) C hi (Walks.range C.hA s.heap.objs.size a d n) (fun b hb => .inl hb) (fun j h st b hb => ?_) ?_ ?_ (fun p hp => ?_) (fun k => .int (a + k * d)) (fun k v ⟨t, e⟩ => ⟨t, e⟩) Inv (r.push _) (fun p hp => ?_) ?_ h0 step done) fun r' s' hr => ?_
  · rw [List.mem_singleton.mp hb]
    exact ⟨_, st⟩
  · intro hm
    exact absurd r.F.ns.lt (by rw [List.mem_singleton.mp hm]; exact Nat.lt_irrefl _)
  · intro b hb
    rw [List.mem_singleton.mp hb]
    exact base_below r (Nat.le_refl _)
  · intro hm
    exact absurd (r.below p (r.S p hp)) (by rw [List.mem_singleton.mp hm]; exact Nat.lt_irrefl _)
  · intro hm
    exact absurd (r.below p hp) (by rw [List.mem_singleton.mp hm]; exact Nat.lt_irrefl _)
  · show IsRangeIter _ _ _ _ _
    rw [hn]
    simpa using Heap.get?_push_size _ rfl
  · cases r' with
    | ok f => exact PostF.trans (h₁ := _) (k₁ := s.toks) rfl hr
    | error e => exact hr.elim

theorem Res.out {R : List (Addr × Obj)} {s s₁ : Shared} {h₁ : Heap} {k₁ : Nat} (e : s₁ = { s with heap := h₁, toks := k₁ }) {t : Expr} {it : Value} {body : List Stmt} {s₂ : Shared} {E : Result → Shared → Prop}
    (h : codeAny (model W.prog W.w) c.A (.forLoop t it body [] c.env) (Res c R s₁ Q) s₂) (hE : ∀ f s', PostF c R s Q f s' → E (.ok f) s') : codeAny (model W.prog W.w) c.A (.forLoop t it body [] c.env) E s₂ :=
  codeAny_mono h fun r s' hr => by
    cases r with
    | ok f => exact hE f s' (PostF.trans e hr)
    | error e => exact hr.elim

structure BI (W : Wd) (c : Cx) (x : Str) : Prop where
  hk : c.cs.names.lookup x = some .globalImplicit
  hn : nsIn W.K mainGlobals x = some none
  hx : x ≠ Str.ofString "__name__"
  hd : (x == ("__debug__" : Str)) = false

inductive KR1 (W : Wd) (c : Cx) (body : List Stmt) (i : Nat) (Inv : Nat → AS → Prop) (Q : AF → AS → Prop) (n : Nat) (σ : AS) : Prop
  | intro (hn : n < 2 ^ 60) (hI : Inv 0 σ) (st : ∀ k σ₂, k < n → Inv k σ₂ → EX W c body { σ₂ with m := σ₂.m.set i (some (.int k)) } (LoopQ Inv k Q)) (dn : ∀ σ₂, Inv n σ₂ → Q .next σ₂)
inductive KR2 (W : Wd) (c : Cx) (body : List Stmt) (i : Nat) (Inv : Nat → AS → Prop) (Q : AF → AS → Prop) (va vb : AV) (σ : AS) : Prop
  | intro (a b : Nat) (e1 : va = .int a) (e2 : vb = .int b) (ha : a < 2 ^ 60) (hb : b < 2 ^ 60) (hI : Inv 0 σ) (st : ∀ k σ₂, k < b - a → Inv k σ₂ → EX W c body { σ₂ with m := σ₂.m.set i (some (.int (a + k : Nat))) } (LoopQ Inv k Q)) (dn : ∀ σ₂, Inv (b - a) σ₂ → Q .next σ₂)
inductive KR3 (W : Wd) (c : Cx) (body : List Stmt) (i : Nat) (Inv : Nat → AS → Prop) (Q : AF → AS → Prop) (va vb vd : AV) (σ : AS) : Prop
  | intro (n : Nat) (e1 : va = .int (n - 1)) (e2 : vb = .int (-1)) (e3 : vd = .int (-1)) (hn : n < 2 ^ 60) (hI : Inv 0 σ) (st : ∀ k σ₂, k < n → Inv k σ₂ → EX W c body { σ₂ with m := σ₂.m.set i (some (.int (n - 1 - k : Nat))) } (LoopQ Inv k Q)) (dn : ∀ σ₂, Inv n σ₂ → Q .next σ₂)
theorem E1_range1 {x : Str} {i : Nat} {px p cp pos : Pos} {e : Expr} {body : List Stmt} (C : COk W c) (B : BI W c (Str.ofString "range")) (hb : bootBuiltins (Str.ofString "range") = some (.type "range")) (hi : slot c.cs.names x = some i)
    (hc : eval (.Call (.Name (Str.ofString "range") p) [e] [] cp) c.env = (do callWith cp (← eval (.Name (Str.ofString "range") p) c.env) [] (backTo cp (starEach [e] c.env)) (backToKw cp (keywordEach [] c.env))))
    (h1 : starEach [e] c.env = (false, eval e c.env) :: starEach [] c.env) (hfs : ∀ x, foldedSetIterable (.Call (.Name (Str.ofString "range") p) [e] [] cp) c.env x = pure x) (Inv : Nat → AS → Prop)
    (h : EV W c e σ fun v σ₁ => AtN (fun n => KR1 W c body i Inv Q n σ₁) v) :
    E1 W c (.For (.Name x px) (.Call (.Name (Str.ofString "range") p) [e] [] cp) body [] pos) σ Q := fun R s rel => by
  refine wpAny_For (tcall C B.hk B.hn hb B.hx B.hd hc h1 rfl rel (Q₁ := fun vs σ₁ => At1 (AtN fun n => KR1 W c body i Inv Q n σ₁) vs) (SP_cons h1 (h.mono fun v σ₁ q => SP_nil ⟨v, q⟩)) ?_) hfs
  rintro as vs σ₁ h₁ k₁ has r₁ ⟨_, ⟨n, ⟨hn, hI, step, done⟩⟩⟩
  obtain ⟨v, rr, rfl, ⟨t, rfl⟩, hrr⟩ := has
  rw [show rr = [] from hrr]
  obtain ⟨m, news, r⟩ := r₁
  refine range1_rows (s := { s with heap := h₁, toks := k₁ }) r.F r.N fun h₂ tk₂ t₁ u₁ v₁ hr F₂ N₂ hk₂ => ?_
  refine wpAny_mono (range_core (s := { s with heap := h₂, toks := tk₂ }) (n := n) C hi hr (small_one (by decide) (by decide) (by (simp; done)) (by lia)) (by rw [rangeSize_nat]; simp) Inv ⟨m, news, F₂, r.M, N₂, r.H, r.S, r.D⟩ hI (fun k σ₂ hk hI' => by
      have := step k σ₂ hk hI'
      simpa using this) done) (fun it s₃ hcode => Res.out (s := s) rfl hcode fun _ _ x => x) fun _ _ x => x
theorem E1_range2 {x : Str} {i : Nat} {px p cp pos : Pos} {e e2 : Expr} {body : List Stmt} (C : COk W c) (B : BI W c (Str.ofString "range")) (hb : bootBuiltins (Str.ofString "range") = some (.type "range")) (hi : slot c.cs.names x = some i)
    (hc : eval (.Call (.Name (Str.ofString "range") p) [e, e2] [] cp) c.env = (do callWith cp (← eval (.Name (Str.ofString "range") p) c.env) [] (backTo cp (starEach [e, e2] c.env)) (backToKw cp (keywordEach [] c.env))))
    (h1 : starEach [e, e2] c.env = (false, eval e c.env) :: starEach [e2] c.env) (h2 : starEach [e2] c.env = (false, eval e2 c.env) :: starEach [] c.env) (hfs : ∀ x, foldedSetIterable (.Call (.Name (Str.ofString "range") p) [e, e2] [] cp) c.env x = pure x) (Inv : Nat → AS → Prop)
    (h : EV W c e σ fun va σ₀ => EV W c e2 σ₀ fun vb σ₁ => KR2 W c body i Inv Q va vb σ₁) :
    E1 W c (.For (.Name x px) (.Call (.Name (Str.ofString "range") p) [e, e2] [] cp) body [] pos) σ Q := fun R s rel => by
  refine wpAny_For (tcall C B.hk B.hn hb B.hx B.hd hc h1 (by rw [h2]; rfl) rel (Q₁ := fun vs σ₁ => At2 (fun va vb => KR2 W c body i Inv Q va vb σ₁) vs) (SP_cons h1 (h.mono fun v σ₁ q => SP_cons h2 (q.mono fun v2 σ₂ q => SP_nil ⟨v, v2, q⟩))) ?_) hfs
  rintro as vs σ₁ h₁ k₁ has r₁ ⟨_, _, ⟨a, b, rfl, rfl, ha, hb', hI, step, done⟩⟩
  obtain ⟨v, rr, rfl, ⟨t, rfl⟩, v2, rr2, rfl, ⟨t2, rfl⟩, hrr⟩ := has
  rw [show rr2 = [] from hrr]
  obtain ⟨m, news, r⟩ := r₁
  refine range2_rows (s := { s with heap := h₁, toks := k₁ }) r.F r.N fun h₂ tk₂ t₁ u₁ v₁ hr F₂ N₂ hk₂ => ?_
  refine wpAny_mono (range_core (s := { s with heap := h₂, toks := tk₂ }) (n := b - a) C hi hr (small_one (by lia) (by lia) (by lia) (by lia)) (by rw [rangeSize_nat]; (simp; done)) Inv ⟨m, news, F₂, r.M, N₂, r.H, r.S, r.D⟩ hI (fun k σ₂ hk hI' => by
      have := step k σ₂ hk hI'
      simpa using this) done) (fun it s₃ hcode => Res.out (s := s) rfl hcode fun _ _ x => x) fun _ _ x => x

/-- range(n - 1, -1, -1) -/
theorem E1_range3 {x : Str} {i : Nat} {px p cp pos : Pos} {e e2 e3 : Expr} {body : List Stmt} (C : COk W c) (B : BI W c (Str.ofString "range")) (hb : bootBuiltins (Str.ofString "range") = some (.type "range")) (hi : slot c.cs.names x = some i)
    (hc : eval (.Call (.Name (Str.ofString "range") p) [e, e2, e3] [] cp) c.env = (do callWith cp (← eval (.Name (Str.ofString "range") p) c.env) [] (backTo cp (starEach [e, e2, e3] c.env)) (backToKw cp (keywordEach [] c.env))))
    (h1 : starEach [e, e2, e3] c.env = (false, eval e c.env) :: starEach [e2, e3] c.env) (h2 : starEach [e2, e3] c.env = (false, eval e2 c.env) :: starEach [e3] c.env) (h3 : starEach [e3] c.env = (false, eval e3 c.env) :: starEach [] c.env) (hfs : ∀ x, foldedSetIterable (.Call (.Name (Str.ofString "range") p) [e, e2, e3] [] cp) c.env x = pure x) (Inv : Nat → AS → Prop)
    (h : EV W c e σ fun va σ₀ => EV W c e2 σ₀ fun vb σ₀' => EV W c e3 σ₀' fun vd σ₁ => KR3 W c body i Inv Q va vb vd σ₁) :
    E1 W c (.For (.Name x px) (.Call (.Name (Str.ofString "range") p) [e, e2, e3] [] cp) body [] pos) σ Q := fun R s rel => by
  refine wpAny_For (tcall C B.hk B.hn hb B.hx B.hd hc h1 (by rw [h2, h3]; rfl) rel (Q₁ := fun vs σ₁ => At3 (fun va vb vd => KR3 W c body i Inv Q va vb vd σ₁) vs) (SP_cons h1 (h.mono fun v σ₁ q => SP_cons h2 (q.mono fun v2 σ₂ q => SP_cons h3 (q.mono fun v3 σ₂ q => SP_nil ⟨v, v2, v3, q⟩)))) ?_) hfs
  rintro as vs σ₁ h₁ k₁ has r₁ ⟨_, _, _, ⟨n, rfl, rfl, rfl, ha, hI, step, done⟩⟩
  obtain ⟨v, rr, rfl, ⟨t, rfl⟩, v2, rr2, rfl, ⟨t2, rfl⟩, v3, rr3, rfl, ⟨t3, rfl⟩, hrr⟩ := has
  rw [show rr3 = [] from hrr]
  obtain ⟨m, news, r⟩ := r₁
  refine range3_rows (s := { s with heap := h₁, toks := k₁ }) r.F r.N (by decide) (fun h₂ tk₂ t₁ u₁ v₁ hr F₂ N₂ hk₂ => ?_) (.inl (PyProof.noPylong_small (by decide)))
  refine wpAny_mono (range_core (s := { s with heap := h₂, toks := tk₂ }) (n := n) C hi hr (small_down (by lia) (by lia) (by (decide)) (by (simp; done))) (by rw [rangeSize_downNat]; (simp; done)) Inv ⟨m, news, F₂, r.M, N₂, r.H, r.S, r.D⟩ hI (fun k σ₂ hk hI' => by
      have := step k σ₂ hk hI'
      rw [show ((n : Int) - 1 + k * (-1)) = ((n - 1 - k : Nat) : Int) by (omega)]
      exact this) done) (fun it s₃ hcode => Res.out (s := s) rfl hcode fun _ _ x => x) fun _ _ x => x

def del (H : AH) (a : Addr) : AH := fun x => if x = a then none else H x
theorem del_self {H : AH} {a : Addr} : del H a a = none := if_pos rfl
theorem del_ne {H : AH} {a b : Addr} (h : b ≠ a) : del H a b = H b := if_neg h

theorem RelAt.hide {R : List (Addr × Obj)} {h : Heap} {m : Str → Option Value} {news : List (Addr × Obj)} (r : RelAt c σ R h m news) {a : Addr} {ob : Obj} {o : AO} (e : σ.H a = some o) (hm : (a, ob) ∈ news) : RelAt c { σ with H := del σ.H a } ((a, ob) :: R) h m news := by
  refine ⟨r.F, r.M, r.N, fun b x q => ?_, fun p hp => ?_, fun p hp => ?_⟩
  · by_cases ne : b = a
    · subst ne
      have q' : (none : Option AO) = some x := by rw [← q]; exact del_self.symm
      cases q'
    · exact r.H b x (by rw [← q]; exact (del_ne ne).symm)
  · rcases List.mem_cons.mp hp with rfl | hp
    · exact hm
    · exact r.S p hp
  · rcases List.mem_cons.mp hp with rfl | hp
    · exact del_self
    · show del σ.H a p.1 = none
      by_cases ne : p.1 = a
      · rw [ne]; exact del_self
      · rw [del_ne ne]; exact r.D p hp
theorem Rel.show {R : List (Addr × Obj)} {h : Heap} {a : Addr} {ob : Obj} {o : AO} (r : Rel c σ ((a, ob) :: R) h) (ho : OR o ob) (hR : ∀ p ∈ R, p.1 ≠ a) : Rel c { σ with H := upd σ.H a o } R h := by
  obtain ⟨m, news, r⟩ := r
  refine ⟨m, news, r.F, r.M, r.N, fun b x q => ?_, fun p hp => r.S p (.tail _ hp), fun p hp => ?_⟩
  · by_cases ne : b = a
    · subst ne
      have q' : some o = some x := by rw [← q]; exact upd_self.symm
      cases q'
      exact ⟨ob, ho, r.S _ (.head _)⟩
    · exact r.H b x (by rw [← q]; exact (upd_ne ne).symm)
  · show upd σ.H a o p.1 = none
    rw [upd_ne (hR p hp)]
    exact r.D p (.tail _ hp)

inductive KLst (W : Wd) (c : Cx) (body : List Stmt) (i : Nat) (Inv : Nat → AS → Prop) (Q : AF → AS → Prop) (v : AV) (σ : AS) : Prop
  | intro (a : Addr) (ns : List Int) (e : v = .ref a) (ha : σ.H a = some (.ints ns)) (hI : Inv 0 { σ with H := del σ.H a })
    (st : ∀ k σ₂, k < ns.length → Inv k σ₂ → EX W c body { σ₂ with m := σ₂.m.set i (some (.int (ns.getD k 0))) } (LoopQ Inv k fun f σ₃ => Q f { σ₃ with H := upd σ₃.H a (.ints ns) })) (dn : ∀ σ₂, Inv ns.length σ₂ → Q .next { σ₂ with H := upd σ₂.H a (.ints ns) })
theorem E1_list {x : Str} {i : Nat} {px pos : Pos} {e : Expr} {body : List Stmt} (C : COk W c) (hi : slot c.cs.names x = some i) (hfs : ∀ x, foldedSetIterable e c.env x = pure x) (Inv : Nat → AS → Prop)
    (h : EV W c e σ (KLst W c body i Inv Q)) :
    E1 W c (.For (.Name x px) e body [] pos) σ Q := fun R s rel => by
  refine wpAny_For (TV.then h rel fun v vv σ₁ h₁ k₁ hv r₁ ⟨a, ns, e1, ha, hI, step, done⟩ => ?_) hfs
  subst e1
  rw [show vv = .ref a from hv]
  obtain ⟨m, news, r⟩ := r₁
  obtain ⟨ob, hob, hm⟩ := r.H a _ ha
  have hob' := hob
  obtain ⟨vs, n, rfl, hvs⟩ := hob
  have hl := PySem.IsL.isList (n := n) (r.N _ hm).1
  have hlt : a < h₁.objs.size := r.below _ hm
  have hRa : ∀ p ∈ R, p.1 ≠ a := fun p hp e => by
    have := r.D p hp
    rw [e, ha] at this
    cases this
  refine wpAny_pyIter_list hl ?_
  have r' := (r.hide ha hm).push { cls := .type "list_iterator", data := .fields #[.ref a, .int 0 0] }
  have hsz := IntsAre_size hvs
  refine codeAny_mono (for_core (s := { s with heap := h₁.push _, toks := k₁ }) (n := vs.toArray.size) C hi (Walks.list C.hA h₁.objs.size a (Nat.ne_of_lt hlt) vs.toArray) (R := (a, PySem.W.listOf vs.toArray n) :: R) (fun b hb => ?_) (fun j h st b hb => ?_) ?_ ?_ (fun p hp => ?_) (fun k => .int (ns.getD k 0)) (fun k v hP => ?_) Inv
    r' (fun p hp => ?_) ?_ hI (fun k σ₂ hk => step k σ₂ (hsz ▸ hk)) (fun σ₂ hI' => done σ₂ (hsz ▸ hI'))) fun r' s' hr => ?_
  · rcases List.mem_cons.mp hb with rfl | hb
    · exact .inl (.head _)
    · rw [List.mem_singleton.mp hb]
      exact .inr ⟨_, .head _⟩
  · rw [List.mem_singleton.mp hb]
    obtain ⟨⟨o, ho, _⟩, _⟩ := st
    exact ⟨o, ho⟩
  · intro hm
    exact absurd r.F.ns.lt (by rw [List.mem_singleton.mp hm]; exact Nat.lt_irrefl _)
  · intro b hb
    rw [List.mem_singleton.mp hb]
    exact base_below r (Nat.le_refl _)
  · intro hm'
    have : p.1 < h₁.objs.size := by
      rcases List.mem_cons.mp hp with rfl | hp
      · exact hlt
      · exact r.below p (r.S p hp)
    exact absurd this (by rw [List.mem_singleton.mp hm']; exact Nat.lt_irrefl _)
  · have hP' : vs[k]? = some v := by simpa using hP
    have hk : k < ns.length := by
      have := (List.getElem?_eq_some_iff.mp hP').1
      rw [← hvs.length]; exact this
    obtain ⟨t, hx⟩ := hvs.get k (ns.getD k 0) (by rw [List.getD_eq_getElem?_getD, List.getElem?_eq_getElem hk]; rfl)
    rw [hx] at hP'
    cases hP'
    exact ⟨t, rfl⟩
  · intro hm'
    exact absurd (r.below p hp) (by rw [List.mem_singleton.mp hm']; exact Nat.lt_irrefl _)
  · exact ⟨⟨_, Heap.get?_push_size _ rfl, rfl, rfl⟩, hl.at fun o e => Heap.get?_push_of_some _ e⟩
  · cases r' with
    | ok f =>
      obtain ⟨af, σ₅, h₅, k₅, e, hf, r₅, q₅⟩ := hr
      subst e
      exact ⟨af, _, h₅, k₅, rfl, hf, r₅.show hob' hRa, q₅⟩
    | error e => exact hr.elim
end Mine

set_option maxRecDepth 100000
set_option Elab.async false
set_option linter.all false
namespace Mine
open PySem PySem.W PySem.Calls PyProof.Rows PySem.Spec

variable {W : Wd} {c : Cx} {σ σ' : AS}

inductive FnEx (K : Frag) (name : Str) (f : Addr) (params : Arguments) (body : List Stmt) (scope : Scope) : Prop
  | intro (oc : Value) (od : Option Addr) (osl : Array (Option Value)) (qual : Str) (doc pm : Value) (an : Option Addr) (cdv ct : Value) (hl : K.lookup f = some ⟨oc, od, .func (fnOf name qual params body scope .none .none doc pm an cdv ct), osl⟩) (hc : codeIn K cdv qual = true)
structure IsFn (K : Frag) (name : Str) (f : Addr) (params : Arguments) (body : List Stmt) (scope : Scope) : Prop where
  nm : nsIn K mainGlobals name = some (some (.ref f))
  ex : FnEx K name f params body scope
def FnOk (K : Frag) (f : Addr) : Stmt → Prop
  | .FunctionDef name params body _ _ _ scope _ _ _ => IsFn K name f params body scope
  | _ => False

theorem IsFn.keep {K : Frag} {name : Str} {f : Addr} {params : Arguments} {body : List Stmt} {scope : Scope} (h : IsFn K name f params body scope) : keepIn K (.ref f) = true := by
  obtain ⟨_, _, _, _, _, _, _, _, _, e, _⟩ := h.ex
  simp only [keepIn, e]

structure Cr where
  A : Around
  h₀ : Heap
  L : Addr
  a : Addr
  cn : Str
  ccd : Value
  base : Heap
  outer : List Env
  A₀ : Around
abbrev Cr.on (r : Cr) (cs : Scope) : Cx := { A := r.A, h₀ := r.h₀, L := r.L, a := r.a, cn := r.cn, cs := cs, ccd := r.ccd, base := r.base, outer := r.outer, A₀ := r.A₀ }

/-- room for n calls one in another -/
structure Room (c : Cx) (n : Nat) : Prop where
  d : c.A.depth + n < recursionLimit
  u : c.A.units + 8 * n + 100 < cLine

theorem lookup_of_mem {α : Type} : ∀ {l : List (Str × α)} {x : Str} {v : α}, (l.map (·.1)).Nodup → (x, v) ∈ l → l.lookup x = some v
  | [], _, _, _, h => nomatch h
  | (y, w) :: r, x, v, hn, h => by
    rw [List.lookup_cons]
    rw [List.map_cons, List.nodup_cons] at hn
    rcases List.mem_cons.mp h with e | h2
    · cases e; simp
    · have : (x == y) = false := by
        cases q : x == y with
        | false => rfl
        | true =>
          have := beq_iff_eq.mp q
          subst this
          exact absurd (List.mem_map.mpr ⟨(x, v), h2, rfl⟩ : x ∈ r.map (·.1)) hn.1
      simp only [this]
      exact lookup_of_mem hn.2 h2

def frameOf : List (Str × NameKind) → List AV → List (Option AV)
  | [], _ => []
  | _ :: r, [] => none :: frameOf r []
  | _ :: r, a :: as => some a :: frameOf r as

def RetQ (σ : AS) (Q : AV → AS → Prop) : AF → AS → Prop := fun f σ' => match f with
  | .ret v => Q v { m := σ.m, H := σ'.H }
  | .next => Q .none { m := σ.m, H := σ'.H }
  | .brk => False

theorem slot_name : ∀ {names : List (Str × NameKind)} {x : Str} {i : Nat}, slot names x = some i → (names.map (·.1))[i]? = some x
  | [], _, _, h => by cases h
  | (y, k) :: r, x, i, h => by
    unfold slot at h
    by_cases e : (x == y) = true
    · rw [if_pos e] at h
      split at h
      · cases h; rw [beq_iff_eq.mp e]; rfl
      · cases h
    · rw [if_neg e] at h
      cases hs : slot r x with
      | none => rw [hs] at h; cases h
      | some j =>
        rw [hs] at h
        cases h
        simpa using slot_name hs

theorem frameOf_get : ∀ {names : List (Str × NameKind)} {as : List AV} {i : Nat} {a : AV}, (frameOf names as)[i]? = some (some a) → as[i]? = some a
  | [], _, _, _, h => by simp [frameOf] at h
  | _ :: r, [], 0, a, h => by simp [frameOf] at h
  | _ :: r, [], i + 1, a, h => by
    have := frameOf_get (names := r) (as := []) (i := i) (a := a) (by simpa [frameOf] using h)
    simp at this
  | _ :: r, b :: as, 0, a, h => by simpa [frameOf] using h
  | _ :: r, b :: as, i + 1, a, h => by
    have := frameOf_get (names := r) (as := as) (i := i) (a := a) (by simpa [frameOf] using h)
    simpa using this

theorem zip_look : ∀ {xs : List Str} {vs : List Value}, xs.Nodup → vs.length = xs.length → (∀ ys : List (Str × Value), (∀ y ∈ xs, ys.lookup y = (xs.zip vs).lookup y) → (xs.filterMap fun n => (ys.lookup n).map (n, ·)) = xs.zip vs ∧ (xs.filter fun n => (ys.lookup n).isNone) = [])
  | [], _, _, _ => fun _ _ => ⟨rfl, rfl⟩
  | x :: xs, [], _, hl => by simp at hl
  | x :: xs, v :: vs, hn, hl => fun ys hy => by
    rw [List.nodup_cons] at hn
    obtain ⟨h1, h2⟩ := zip_look (vs := vs) hn.2 (Nat.succ.inj hl) ys fun y h => by
      rw [hy y (.tail _ h), List.zip_cons_cons, List.lookup_cons, beq_eq_false_iff_ne.mpr (fun e : y = x => hn.1 (e ▸ h))]
    have hx : ys.lookup x = some v := (hy x (.head _)).trans List.lookup_cons_self
    constructor
    · rw [List.filterMap_cons, hx, h1]; rfl
    · rw [List.filter_cons, hx, h2]; rfl
theorem bind_lit {nm qn : Str} {ar : List Arg} {kd : List (Option Expr)} {df : List Expr} {bd : FuncBody} {sc : Scope} {gl : Addr} {cl : List (Str × Addr)} {kk dc pm : Value} {an : Option Addr} {co ct : Value} {bu : Addr} {vs : List Value} (hn : (ar.map Arg.arg).Nodup) (hl : vs.length = (ar.map Arg.arg).length) :
    bindArgs ⟨nm, qn, ⟨[], ar, none, [], kd, none, df⟩, bd, sc, gl, cl, .none, kk, dc, pm, an, co, ct, bu⟩ ⟨vs, []⟩ = pure ((ar.map Arg.arg).zip vs) := by
    obtain ⟨hz, hm⟩ := zip_look hn hl _ fun _ _ => rfl
    refine (if_neg ?_).trans ((if_neg ?_).trans ?_)
    · show ¬(decide (vs.length > (ar.map (·.arg)).length) && true) = true
      rw [hl]; simp
    · show ¬(!(((([] : List Str) ++ ar.map Arg.arg).take ((([] : List Str) ++ ar.map Arg.arg).length - (List.drop (([] : List Value).length - (([] : List Str) ++ ar.map Arg.arg).length) ([] : List Value)).length)).filter fun n => (((ar.map Arg.arg).zip vs).lookup n).isNone).isEmpty) = true
      rw [List.nil_append, List.drop_nil, List.length_nil, Nat.sub_zero, List.take_length, hm]; decide
    · change (bind (forIn (List.zip _ (List.drop (([] : List Value).length - _) ([] : List Value))) _ _) _) = _
      rw [List.drop_nil, List.zip_nil_right]
      refine Eq.trans (b := pure ((ar.map Arg.arg ++ []).filterMap fun n => (((ar.map Arg.arg).zip vs).lookup n).map (n, ·))) rfl ?_
      rw [List.append_nil, hz]
theorem CALL_fn {name : Str} {f : Addr} {ar : List Arg} {kd : List (Option Expr)} {df : List Expr} {body : List Stmt} {scope : Scope} {as : List AV} {xs : List Str} {n : Nat} {Q : AV → AS → Prop} (C : COk W c) (Rm : Room c (n + 1)) (hf : IsFn W.K name f ⟨[], ar, none, [], kd, none, df⟩ body scope)
    (hb : ar.map Arg.arg = xs) (hxs : (scope.names.map (·.1)).take as.length = xs) (hnd : xs.Nodup) (hlen : xs.length = as.length) (hloc : (xs.all fun x => decide (scope.names.lookup x = some .local)) = true)
    (hco : scope.isCoroutine = false) (hgen : scope.isGenerator = false) (hk : scope.kind = .function) (hcell : ∀ x ∈ scope.names, x.2 ≠ .cell)
    (h : ∀ r : Cr, COk W (r.on scope) → Room (r.on scope) n → EX W (r.on scope) body { m := frameOf scope.names as, H := σ.H } (RetQ σ Q)) : CALL W c (.ref f) as σ Q := by
  intro vs hvs R s ⟨m, news, rel⟩
  obtain ⟨oc, od, osl, qual, doc, pm, an, cdv, ct, hl, hcd⟩ := hf.ex
  have hvl := vrs_len hvs
  refine wpAny_call (code_def C.hB rel.F C.hK rel.N C.hT C.hF rfl C.hk hl hcd (by have := Rm.d; lia) (BindsTo.of_eq ((bind_lit (hb ▸ hnd) (hvl.trans (hlen.symm.trans (congrArg List.length hb.symm)))).trans (congrArg (fun z => (pure (z.zip vs) : Sem (List (Str × Value)))) hb))) ?_ ?_ hco hgen hk hcell)
  · intro y hy
    have := (List.of_mem_zip (a := y.1) (b := y.2) hy).1
    exact of_decide_eq_true (List.all_eq_true.mp hloc y.1 this)
  · intro g L' h₁ FG F' N' B' X' T'
    have hC : COk W (({ A := c.A.deeper (envOf qual scope L' f cdv), h₀ := g, L := L', a := f, cn := qual, ccd := cdv, base := c.base, outer := c.env :: c.outer, A₀ := c.A } : Cr).on scope) :=
      ⟨C.hA, B', Around.frames_deeper C.hF, X', T', hk⟩
    have hR : Room (({ A := c.A.deeper (envOf qual scope L' f cdv), h₀ := g, L := L', a := f, cn := qual, ccd := cdv, base := c.base, outer := c.env :: c.outer, A₀ := c.A } : Cr).on scope) n := by
      refine ⟨?_, ?_⟩
      · show c.A.depth + 1 + n < recursionLimit
        have := Rm.d; lia
      · show c.A.units + 3 + 8 * n + 100 < cLine
        have := Rm.u; lia
    refine wpAny_mono (h _ hC hR R { s with heap := h₁, toks := s.toks + (xs.zip vs).length } ⟨_, news, F', ?_, N', rel.H, rel.S, rel.D⟩) (fun fl s' ⟨af, σ', h', tk', e, hfl, r', q⟩ => ?_) fun _ _ x => x.elim
    · intro x i av hi e
      have e1 : as[i]? = some av := frameOf_get e
      obtain ⟨v, hv, hr⟩ := vrs_get hvs e1
      refine ⟨v, ?_, hr⟩
      have hx : xs[i]? = some x := by
        have hi' : i < as.length := (List.getElem?_eq_some_iff.mp e1).1
        rw [← hxs, List.getElem?_take_of_lt hi']
        exact slot_name hi
      have hm : (x, v) ∈ xs.zip vs := List.mem_iff_getElem?.mpr ⟨i, by rw [List.getElem?_zip_eq_some]; exact ⟨hx, hv⟩⟩
      refine lookup_of_mem ?_ (List.mem_reverse.mpr hm)
      rw [List.map_reverse, List.Nodup, List.pairwise_reverse, List.map_fst_zip (by lia)]
      exact hnd.imp fun h => Ne.symm h
    · subst e
      obtain ⟨m', news', r''⟩ := r'
      refine leaveK_ r''.F r''.N fun F₃ N₃ => ?_
      have rr : RelAt c { m := σ.m, H := σ'.H } R h' m news' := ⟨F₃, rel.M, N₃, r''.H, r''.S, r''.D⟩
      cases af with
      | ret v =>
        obtain ⟨v', e, hv⟩ := hfl
        subst e
        exact ⟨v, _, h', tk', rfl, hv, .of rr, q⟩
      | next =>
        rw [show fl = .next from hfl]
        exact ⟨.none, _, h', tk', rfl, rfl, .of rr, q⟩
      | brk => exact q.elim
end Mine

set_option maxRecDepth 100000
set_option Elab.async false
set_option linter.all false
namespace Mine
open PySem PySem.W PySem.Calls PyProof.Rows PySem.Spec
def stAt (i : Nat) : Stmt := (PySem.Challenge.pw_tk0047_01.main.body)[i]?.getD (.Pass default)

variable {W : Wd} {c : Cx} {σ σ' : AS}

def Cont (W : Wd) (c : Cx) (rest : List Stmt) (Q : AF → AS → Prop) : AF → AS → Prop := fun f σ₁ => match f with
  | .next => EX W c rest σ₁ Q
  | f => Q f σ₁
theorem EX_seq {st : Stmt} {rest : List Stmt} {Q : AF → AS → Prop} (h : E1 W c st σ (Cont W c rest Q)) : EX W c (st :: rest) σ Q := EX_cons (by
  intro R s rel
  refine wpAny_mono (h R s rel) (fun f s' ⟨af, σ₁, h₁, k₁, e, hf, r₁, q₁⟩ => ⟨af, σ₁, h₁, k₁, e, hf, r₁, ?_⟩) fun _ _ x => x
  cases af <;> exact q₁)
theorem Cont_next {rest : List Stmt} {Q : AF → AS → Prop} (h : EX W c rest σ Q) : Cont W c rest Q .next σ := h
theorem Cont_norm {rest : List Stmt} {Q : AF → AS → Prop} (e : σ = σ') (h : EX W c rest σ' Q) : Cont W c rest Q .next σ := e ▸ h
theorem Cont_ret {rest : List Stmt} {Q : AF → AS → Prop} {v : AV} (h : Q (.ret v) σ) : Cont W c rest Q (.ret v) σ := h
theorem Cont_brk {rest : List Stmt} {Q : AF → AS → Prop} (h : Q .brk σ) : Cont W c rest Q .brk σ := h
theorem RetQ_ret {Q : AV → AS → Prop} {v : AV} (h : Q v { m := σ.m, H := σ'.H }) : RetQ σ Q (.ret v) σ' := h
theorem RetQ_next {Q : AV → AS → Prop} (h : Q .none { m := σ.m, H := σ'.H }) : RetQ σ Q .next σ' := h
theorem LoopQ_next {Inv : Nat → AS → Prop} {k : Nat} {Q : AF → AS → Prop} (σ'' : AS) (h : Wk σ' σ'') (hi : Inv (k + 1) σ'') : LoopQ Inv k Q .next σ' := ⟨σ'', h, hi⟩
theorem LoopQ_ret {Inv : Nat → AS → Prop} {k : Nat} {Q : AF → AS → Prop} {v : AV} (h : Q (.ret v) σ') : LoopQ Inv k Q (.ret v) σ' := h
theorem LoopQ_brk {Inv : Nat → AS → Prop} {k : Nat} {Q : AF → AS → Prop} (h : Q .next σ') : LoopQ Inv k Q .brk σ' := h

def WhQ (Inv : Nat → AS → Prop) (n : Nat) (Q : AF → AS → Prop) : AF → AS → Prop := fun f σ₃ => match f with
  | .next => ∃ σ₄ k, Wk σ₃ σ₄ ∧ k < n ∧ Inv k σ₄
  | .brk => Q .next σ₃
  | .ret v => Q (.ret v) σ₃
theorem WhQ_next {Inv : Nat → AS → Prop} {n : Nat} {Q : AF → AS → Prop} (σ'' : AS) (k : Nat) (h : Wk σ' σ'') (hk : k < n) (hi : Inv k σ'') : WhQ Inv n Q .next σ' := ⟨σ'', k, h, hk, hi⟩
theorem WhQ_ret {Inv : Nat → AS → Prop} {k : Nat} {Q : AF → AS → Prop} {v : AV} (h : Q (.ret v) σ') : WhQ Inv k Q (.ret v) σ' := h
theorem WhQ_brk {Inv : Nat → AS → Prop} {k : Nat} {Q : AF → AS → Prop} (h : Q .next σ') : WhQ Inv k Q .brk σ' := h

theorem E1_wh {test : Expr} {body : List Stmt} {pos : Pos} {Q : AF → AS → Prop} (Inv : Nat → AS → Prop) (n₀ : Nat) (h0 : Inv n₀ σ)
    (turn : ∀ n σ₁, Inv n σ₁ → TS W c test σ₁ fun b σ₂ => (b = true → EX W c body σ₂ (WhQ Inv n Q)) ∧ (b = false → Q .next σ₂)) :
    E1 W c (.While test body [] pos) σ Q := E1_while Inv n₀ h0 fun n σ₁ hI => (turn n σ₁ hI).mono fun b σ₂ q => ⟨fun e => (q.1 e).mono fun f σ₃ q => by cases f <;> exact q, q.2⟩

theorem Room.mono {n k : Nat} (h : Room c n) (hk : k ≤ n) : Room c k := ⟨by have := h.d; lia, by have := h.u; lia⟩
theorem Room.units {n : Nat} (h : Room c n) : c.A.units + 64 < cLine := by have := h.u; lia

structure BIs (W : Wd) : Prop where
  len : nsIn W.K mainGlobals (Str.ofString "len") = some none
  range : nsIn W.K mainGlobals (Str.ofString "range") = some none
  enumerate : nsIn W.K mainGlobals (Str.ofString "enumerate") = some none
  min : nsIn W.K mainGlobals (Str.ofString "min") = some none
  max : nsIn W.K mainGlobals (Str.ofString "max") = some none

theorem bb_len : bootBuiltins (Str.ofString "len") = some (.builtin "len") := by decide +kernel
theorem bb_min : bootBuiltins (Str.ofString "min") = some (.builtin "min") := by decide +kernel
theorem bb_max : bootBuiltins (Str.ofString "max") = some (.builtin "max") := by decide +kernel
theorem bb_range : bootBuiltins (Str.ofString "range") = some (.type "range") := by decide +kernel
theorem bb_enum : bootBuiltins (Str.ofString "enumerate") = some (.type "enumerate") := by decide +kernel

inductive KLenI (Q : AV → AS → Prop) (v : AV) (σ : AS) : Prop
  | intro (a : Addr) (ns : List Int) (e : v = .ref a) (ha : σ.H a = some (.ints ns)) (hz : (ns.length : Int) < 2 ^ 63) (q : Q (.int ns.length) σ)
/-- len(e) -/
theorem EV_len {e : Expr} {p pos : Pos} {Q : AV → AS → Prop} (C : COk W c) (B : BIs W) (hk : c.cs.names.lookup (Str.ofString "len") = some .globalImplicit)
    (hc : eval (.Call (.Name (Str.ofString "len") p) [e] [] pos) c.env = (do callWith pos (← eval (.Name (Str.ofString "len") p) c.env) [] (backTo pos (starEach [e] c.env)) (backToKw pos (keywordEach [] c.env))))
    (h1 : starEach [e] c.env = (false, eval e c.env) :: starEach [] c.env)
    (h : EV W c e σ (KLenI Q)) : EV W c (.Call (.Name (Str.ofString "len") p) [e] [] pos) σ Q :=
  EV_bcall C hk B.len bb_len (by decide) (by decide) hc h1 rfl (SP_cons h1 (h.mono fun v σ₁ ⟨a, ns, e, ha, hz, q⟩ => SP_nil (by subst e; exact CALL_len ha hz q)))
theorem EV_min {e e2 : Expr} {p pos : Pos} {Q : AV → AS → Prop} (C : COk W c) (B : BIs W) (hk : c.cs.names.lookup (Str.ofString "min") = some .globalImplicit)
    (hc : eval (.Call (.Name (Str.ofString "min") p) [e, e2] [] pos) c.env = (do callWith pos (← eval (.Name (Str.ofString "min") p) c.env) [] (backTo pos (starEach [e, e2] c.env)) (backToKw pos (keywordEach [] c.env))))
    (h1 : starEach [e, e2] c.env = (false, eval e c.env) :: starEach [e2] c.env) (h2 : starEach [e2] c.env = (false, eval e2 c.env) :: starEach [] c.env)
    (h : EV W c e σ fun v σ₁ => EV W c e2 σ₁ fun u σ₂ => ∃ a b, v = .int a ∧ u = .int b ∧ Q (.int (if b < a then b else a)) σ₂) : EV W c (.Call (.Name (Str.ofString "min") p) [e, e2] [] pos) σ Q :=
  EV_bcall C hk B.min bb_min (by decide) (by decide) hc h1 (by rw [h2]; rfl) (SP_cons h1 (h.mono fun v σ₁ q => SP_cons h2 (q.mono fun u σ₂ ⟨a, b, e, e', q2⟩ => SP_nil (by subst e; subst e'; exact CALL_min C q2))))
theorem EV_max {e e2 : Expr} {p pos : Pos} {Q : AV → AS → Prop} (C : COk W c) (B : BIs W) (hk : c.cs.names.lookup (Str.ofString "max") = some .globalImplicit)
    (hc : eval (.Call (.Name (Str.ofString "max") p) [e, e2] [] pos) c.env = (do callWith pos (← eval (.Name (Str.ofString "max") p) c.env) [] (backTo pos (starEach [e, e2] c.env)) (backToKw pos (keywordEach [] c.env))))
    (h1 : starEach [e, e2] c.env = (false, eval e c.env) :: starEach [e2] c.env) (h2 : starEach [e2] c.env = (false, eval e2 c.env) :: starEach [] c.env)
    (h : EV W c e σ fun v σ₁ => EV W c e2 σ₁ fun u σ₂ => ∃ a b, v = .int a ∧ u = .int b ∧ Q (.int (if b > a then b else a)) σ₂) : EV W c (.Call (.Name (Str.ofString "max") p) [e, e2] [] pos) σ Q :=
  EV_bcall C hk B.max bb_max (by decide) (by decide) hc h1 (by rw [h2]; rfl) (SP_cons h1 (h.mono fun v σ₁ q => SP_cons h2 (q.mono fun u σ₂ ⟨a, b, e, e', q2⟩ => SP_nil (by subst e; subst e'; exact CALL_max C q2))))

end Mine

set_option maxRecDepth 100000
set_option Elab.async false
set_option linter.all false
namespace Mine
open PySem PySem.W PySem.Calls PyProof.Rows PySem.Spec

variable {W : Wd} {c : Cx} {σ σ' : AS} {Q : AV → AS → Prop}

def up (L : List Nat) : List Int := L.map (fun x : Nat => (x : Int))
def nats (L : List Nat) : AO := .ints (up L)
theorem up_length (L : List Nat) : (up L).length = L.length := by simp [up]
theorem up_getD (L : List Nat) (k : Nat) : (up L).getD k 0 = ((L.getD k 0 : Nat) : Int) := by
  unfold up
  rw [List.getD_eq_getElem?_getD, List.getD_eq_getElem?_getD, List.getElem?_map]
  cases L[k]? <;> rfl
theorem up_snoc (L : List Nat) (x : Nat) : up L ++ [(x : Int)] = up (L ++ [x]) := by simp [up]
theorem up_append (L M : List Nat) : up L ++ up M = up (L ++ M) := by simp [up]
theorem up_set (L : List Nat) (k x : Nat) : (up L).set k (x : Int) = up (L.set k x) := by simp [up, List.map_set]
theorem up_take (L : List Nat) (k : Nat) : (up L).take k = up (L.take k) := by simp [up, List.map_take]
theorem up_drop (L : List Nat) (k : Nat) : (up L).drop k = up (L.drop k) := by simp [up, List.map_drop]
theorem up_replicate (n x : Nat) : List.replicate n (x : Int) = up (List.replicate n x) := by simp [up]
theorem up_inj {L M : List Nat} (h : up L = up M) : L = M := by
  unfold up at h
  exact List.map_inj_right (fun a b e => by exact Int.ofNat.inj e) |>.mp h
theorem up_eq {L M : List Nat} : decide (up L = up M) = decide (L = M) := by
  by_cases h : L = M
  · simp [h]
  · have : ¬ up L = up M := fun e => h (up_inj e)
    simp [h, this]

theorem EV_intN {n : Nat} {i : Int} {k : Nat} {pos : Pos} (e : i = (n : Int)) (h : Q (.int (n : Int)) σ) : EV W c (.Constant (.int i) k pos) σ Q := EV_int (e ▸ h)

theorem BIN_addN {x y : Nat} (h : Q (.int ((x + y : Nat) : Int)) σ) : BIN W c .Add (.int (x : Int)) (.int (y : Int)) σ Q := BIN_add (by rw [← Int.natCast_add]; exact h)
theorem BIN_subN {x y : Nat} (hy : y ≤ x) (h : Q (.int ((x - y : Nat) : Int)) σ) : BIN W c .Sub (.int (x : Int)) (.int (y : Int)) σ Q := BIN_sub (by rw [← Int.ofNat_sub hy]; exact h)
theorem BIN_mulN {x y : Nat} (hz : x < 2 ^ 64) (h : Q (.int ((x * y : Nat) : Int)) σ) : BIN W c .Mult (.int (x : Int)) (.int (y : Int)) σ Q := BIN_mul (by simpa using hz) (by rw [← Int.natCast_mul]; exact h)
theorem BIN_divN {x y : Nat} (h0 : y ≠ 0) (hz : y < 1073741824) (h : Q (.int ((x / y : Nat) : Int)) σ) : BIN W c .FloorDiv (.int (x : Int)) (.int (y : Int)) σ Q := BIN_div (by lia) (by simpa using hz) (by rw [fdiv_nat]; exact h)
theorem BIN_modN {x y : Nat} (h0 : y ≠ 0) (h : Q (.int ((x % y : Nat) : Int)) σ) : BIN W c .Mod (.int (x : Int)) (.int (y : Int)) σ Q := BIN_mod (by lia) (by rw [fmod_nat]; exact h)
theorem BIN_shlN {x n : Nat} (h1 : n ≤ 1000) (hz : x < 2 ^ 64) (h : Q (.int ((x * 2 ^ n : Nat) : Int)) σ) : BIN W c .LShift (.int (x : Int)) (.int (n : Int)) σ Q := BIN_shl (by lia) (by lia) (by simpa using hz) (by
  have : ((x : Int) * 2 ^ ((n : Int)).toNat) = ((x * 2 ^ n : Nat) : Int) := by simp
  rw [this]; exact h)
theorem BIN_shl1 {n : Nat} (h1 : n ≤ 1000) (h : Q (.int ((2 ^ n : Nat) : Int)) σ) : BIN W c .LShift (.int ((1 : Nat) : Int)) (.int (n : Int)) σ Q := BIN_shlN h1 (by decide) (by rw [Nat.one_mul]; exact h)
theorem BIN_shrN {x n : Nat} (h : Q (.int ((x / 2 ^ n : Nat) : Int)) σ) : BIN W c .RShift (.int (x : Int)) (.int (n : Int)) σ Q := BIN_shr (by lia) (by
  have : ((2 : Int) ^ ((n : Int)).toNat) = ((2 ^ n : Nat) : Int) := by simp
  rw [this, fdiv_nat]; exact h)
theorem BIN_powN {n : Nat} (h1 : n ≤ 1000) (h : Q (.int ((2 ^ n : Nat) : Int)) σ) : BIN W c .Pow (.int ((2 : Nat) : Int)) (.int (n : Int)) σ Q := BIN_pow (by lia) (by lia) (by
  have : ((2 : Int) ^ ((n : Int)).toNat) = ((2 ^ n : Nat) : Int) := by simp
  rw [this]; exact h)
theorem mask_cast (w : Nat) : (((2 ^ w - 1 : Nat) : Int)) = (2 : Int) ^ w - 1 := by
  rw [Int.ofNat_sub (Nat.one_le_two_pow)]; simp
theorem BIN_mask {x w : Nat} (h : Q (.int ((x % 2 ^ w : Nat) : Int)) σ) : BIN W c .BitAnd (.int (x : Int)) (.int ((2 ^ w - 1 : Nat) : Int)) σ Q := BIN_and (by rw [mask_cast, bitAnd_mask]; exact h)
theorem BIN_or1 {x y w : Nat} (hy : y < 2 ^ w) (h : Q (.int ((x * 2 ^ w + y : Nat) : Int)) σ) : BIN W c .BitOr (.int ((x * 2 ^ w : Nat) : Int)) (.int (y : Int)) σ Q := BIN_or (by rw [bitOr_add _ _ _ hy]; exact h)
theorem BIN_or2 {x y w : Nat} (hy : y < 2 ^ w) (h : Q (.int ((x * 2 ^ w + y : Nat) : Int)) σ) : BIN W c .BitOr (.int (y : Int)) (.int ((x * 2 ^ w : Nat) : Int)) σ Q := BIN_or (by rw [bitOr_add' _ _ _ hy]; exact h)
theorem INP_addN {x y : Nat} (h : Q (.int ((x + y : Nat) : Int)) σ) : INP W c .Add (.int (x : Int)) (.int (y : Int)) σ Q := INP_add (by rw [← Int.natCast_add]; exact h)
theorem INP_subN {x y : Nat} (hy : y ≤ x) (h : Q (.int ((x - y : Nat) : Int)) σ) : INP W c .Sub (.int (x : Int)) (.int (y : Int)) σ Q := INP_sub (by rw [← Int.ofNat_sub hy]; exact h)
theorem INP_modN {x y : Nat} (h0 : y ≠ 0) (h : Q (.int ((x % y : Nat) : Int)) σ) : INP W c .Mod (.int (x : Int)) (.int (y : Int)) σ Q := INP_mod (by lia) (by rw [fmod_nat]; exact h)
theorem INP_shrN {x n : Nat} (h : Q (.int ((x / 2 ^ n : Nat) : Int)) σ) : INP W c .RShift (.int (x : Int)) (.int (n : Int)) σ Q := INP_shr (by lia) (by
  have : ((2 : Int) ^ ((n : Int)).toNat) = ((2 ^ n : Nat) : Int) := by simp
  rw [this, fdiv_nat]; exact h)
theorem INP_or2 {x y w : Nat} (hy : y < 2 ^ w) (h : Q (.int ((x * 2 ^ w + y : Nat) : Int)) σ) : INP W c .BitOr (.int (y : Int)) (.int ((x * 2 ^ w : Nat) : Int)) σ Q := INP_or (by rw [bitOr_add' _ _ _ hy]; exact h)
theorem BIN_repN {l : Addr} {n x : Nat} (hl : σ.H l = some (nats [x])) (h1 : n ≤ 16777216) (h : ∀ D H', Ext σ.H H' → σ.H D = none → H' D = some (nats (List.replicate n x)) → Q (.ref D) { σ with H := H' }) :
    BIN W c .Mult (.ref l) (.int (n : Int)) σ Q := BIN_rep (x := (x : Int)) hl (by lia) (by (simp; done)) fun D H' a b e => h D H' a b (by rw [e, nats, ← up_replicate]; simp)
theorem BIN_catN {a b : Addr} {L M : List Nat} (ha : σ.H a = some (nats L)) (hb : σ.H b = some (nats M)) (hz : L.length + M.length ≤ 16777216)
    (h : ∀ D H', Ext σ.H H' → σ.H D = none → H' D = some (nats (L ++ M)) → Q (.ref D) { σ with H := H' }) : BIN W c .Add (.ref a) (.ref b) σ Q :=
  BIN_cat ha hb (by simp only [up_length, sizeLine]; (omega)) fun D H' x y e => h D H' x y (by rw [e, up_append]; rfl)

theorem CMP_eqLN {Q : Bool → AS → Prop} {a b : Addr} {L M : List Nat} (hu : c.A.units + 64 < cLine) (ha : σ.H a = some (nats L)) (hb : σ.H b = some (nats M)) (h : Q (decide (L = M)) σ) : CMP W c .Eq (.ref a) (.ref b) σ Q := CMP_eqL hu ha hb (by rw [up_eq]; exact h)
theorem CMP_neLN {Q : Bool → AS → Prop} {a b : Addr} {L M : List Nat} (hu : c.A.units + 64 < cLine) (ha : σ.H a = some (nats L)) (hb : σ.H b = some (nats M)) (h : Q (!decide (L = M)) σ) : CMP W c .NotEq (.ref a) (.ref b) σ Q := CMP_neL hu ha hb (by rw [up_eq]; exact h)

inductive KI (Q : AV → AS → Prop) (o i : AV) (σ : AS) : Prop
  | intro (a : Addr) (k : Int) (j : Nat) (L : List Nat) (e1 : o = .ref a) (e2 : i = .int k) (e3 : k = (j : Int)) (ha : σ.H a = some (nats L)) (hj : j < L.length) (hz : j < 2 ^ 60) (q : Q (.int ((L.getD j 0 : Nat) : Int)) σ)
inductive KB (Q : AV → AS → Prop) (o i : AV) (σ : AS) : Prop
  | intro (a : Addr) (k : Int) (j : Nat) (L : List Nat) (e1 : o = .ref a) (e2 : i = .int k) (e3 : k = -(j : Int)) (h0 : 0 < j) (ha : σ.H a = some (nats L)) (hj : j ≤ L.length) (hz : j < 2 ^ 60) (q : Q (.int ((L.getD (L.length - j) 0 : Nat) : Int)) σ)
inductive KLen (Q : AV → AS → Prop) (v : AV) (σ : AS) : Prop
  | intro (a : Addr) (L : List Nat) (e : v = .ref a) (ha : σ.H a = some (nats L)) (hz : L.length < 2 ^ 60) (q : Q (.int (L.length : Int)) σ)
inductive KAppN2 (Q : AV → AS → Prop) (D : Addr) (xv : AV) (σ : AS) : Prop
  | intro (x : Int) (y : Nat) (M : List Nat) (e : xv = .int x) (e2 : x = (y : Int)) (hD : σ.H D = some (nats M)) (hz : M.length ≤ 16777216)
    (q : ∀ H', H' D = some (nats (M ++ [y])) → (∀ b, b ≠ D → H' b = σ.H b) → Q .none { σ with H := H' })
inductive KAppN (W : Wd) (c : Cx) (e : Expr) (Q : AV → AS → Prop) (ov : AV) (σ : AS) : Prop
  | intro (D : Addr) (L : List Nat) (e1 : ov = .ref D) (hD : σ.H D = some (nats L)) (q : EV W c e σ (KAppN2 Q D))
inductive KSlN (Q : AV → AS → Prop) (o : AV) (x y : Option Int) (σ : AS) : Prop
  | intro (a : Addr) (L M : List Nat) (e : o = .ref a) (ha : σ.H a = some (nats L)) (hc : cutOk x y) (hz : L.length ≤ 16777216) (hM : cut (up L) x y = up M)
    (k : ∀ l H', Ext σ.H H' → σ.H l = none → H' l = some (nats M) → Q (.ref l) { σ with H := H' })
inductive KSetN (Q : AF → AS → Prop) (v ov iv : AV) (σ : AS) : Prop
  | intro (x : Int) (y : Nat) (D : Addr) (L : List Nat) (k : Int) (j : Nat) (e1 : v = .int x) (e2 : ov = .ref D) (e3 : iv = .int k) (e4 : x = (y : Int)) (e5 : k = (j : Int)) (hD : σ.H D = some (nats L)) (hj : j < L.length) (hz : j < 2 ^ 60)
    (q : ∀ H', H' D = some (nats (L.set j y)) → (∀ b, b ≠ D → H' b = σ.H b) → Q .next { σ with H := H' })
inductive KLstN (W : Wd) (c : Cx) (body : List Stmt) (i : Nat) (Inv : Nat → AS → Prop) (Q : AF → AS → Prop) (v : AV) (σ : AS) : Prop
  | intro (a : Addr) (L : List Nat) (e : v = .ref a) (ha : σ.H a = some (nats L)) (hI : Inv 0 { σ with H := del σ.H a })
    (st : ∀ k σ₂, k < L.length → Inv k σ₂ → EX W c body { σ₂ with m := σ₂.m.set i (some (.int ((L.getD k 0 : Nat) : Int))) } (LoopQ Inv k fun f σ₃ => Q f { σ₃ with H := upd σ₃.H a (nats L) })) (dn : ∀ σ₂, Inv L.length σ₂ → Q .next { σ₂ with H := upd σ₂.H a (nats L) })
theorem EV_idxN {value sl : Expr} {pos : Pos} (hs : ∀ a k u, subscripted sl false (.ref a) (.int k u) = operate [.ref a, .int k u] (getItem (.ref a) (.int k u)))
    (h : EV W c value σ fun o σ₁ => EV W c sl σ₁ (KI Q o)) :
    EV W c (.Subscript value sl pos) σ Q := EV_idx hs (h.mono fun o σ₁ q => q.mono fun i σ₂ ⟨a, k, j, L, e1, e2, e3, ha, hj, hz, q⟩ => ⟨a, k, up L, e1, e2, ha, by (subst_vars; lia), by rw [up_length]; lia, by lia, by
      subst e3
      rw [Int.toNat_natCast, up_getD]
      exact q⟩)
theorem EV_idxB {value sl : Expr} {pos : Pos} (hs : ∀ a k u, subscripted sl false (.ref a) (.int k u) = operate [.ref a, .int k u] (getItem (.ref a) (.int k u)))
    (h : EV W c value σ fun o σ₁ => EV W c sl σ₁ (KB Q o)) :
    EV W c (.Subscript value sl pos) σ Q := EV_idx_neg hs (h.mono fun o σ₁ q => q.mono fun i σ₂ ⟨a, k, j, L, e1, e2, e3, h0, ha, hj, hz, q⟩ => ⟨a, k, up L, e1, e2, ha, by lia, by rw [up_length]; lia, by lia, by
      subst e3
      rw [up_length, show (-(j : Int) + (L.length : Int)).toNat = L.length - j by lia, up_getD]
      exact q⟩)

theorem EV_lenN {e : Expr} {p pos : Pos} (C : COk W c) (B : BIs W) (hk : c.cs.names.lookup (Str.ofString "len") = some .globalImplicit)
    (hc : eval (.Call (.Name (Str.ofString "len") p) [e] [] pos) c.env = (do callWith pos (← eval (.Name (Str.ofString "len") p) c.env) [] (backTo pos (starEach [e] c.env)) (backToKw pos (keywordEach [] c.env))))
    (h1 : starEach [e] c.env = (false, eval e c.env) :: starEach [] c.env)
    (h : EV W c e σ (KLen Q)) : EV W c (.Call (.Name (Str.ofString "len") p) [e] [] pos) σ Q :=
  EV_len C B hk hc h1 (h.mono fun v σ₁ ⟨a, L, e, ha, hz, q⟩ => ⟨a, up L, e, ha, by rw [up_length]; lia, by rw [up_length]; exact q⟩)

theorem EV_appendN {o e : Expr} {ap pos : Pos} {pl : Sem Bool}
    (hc : eval (.Call (.Attribute o (PySem.Str.ofString "append") ap) [e] [] pos) c.env = (do
          let ov ← eval o c.env
          standAt ap.atName
          match ← holding [ov] (getMethod ov (PySem.Str.ofString "append") pl) with
            | (f, first) => callWith pos f first (backTo pos (starEach [e] c.env)) []))
    (h1 : starEach [e] c.env = (false, eval e c.env) :: starEach [] c.env)
    (h : EV W c o σ (KAppN W c e Q)) : EV W c (.Call (.Attribute o (PySem.Str.ofString "append") ap) [e] [] pos) σ Q :=
  EV_append hc h1 (h.mono fun ov σ₁ ⟨D, L, e1, hD, q⟩ => ⟨D, up L, e1, hD, q.mono fun xv σ₂ ⟨x, y, M, e2, e3, hD2, hz, q⟩ => ⟨x, up M, e2, hD2, by simp only [up_length, sizeLine]; (omega), fun H' h1 h2 => q H' (by
    subst e3
    rw [h1, up_snoc]; rfl) h2⟩⟩)

theorem EV_sliceN {value : Expr} {lo hi : Option Expr} {sp pos : Pos}
    (hs : ∀ a b, subscripted (.Slice lo hi none sp) false (.ref a) (.ref b) = operate [.ref b, .ref a] (getItem (.ref a) (.ref b))) (ht : ∀ a r, letTemporaryGo value (.ref a) r = pure ())
    (h : EV W c value σ fun o σ₁ => PT W c lo σ₁ fun x σ₂ => PT W c hi σ₂ (KSlN Q o x)) :
    EV W c (.Subscript value (.Slice lo hi none sp) pos) σ Q :=
  EV_slice hs ht (h.mono fun o σ₁ q => q.mono fun x σ₂ q => q.mono fun y σ₃ ⟨a, L, M, e1, ha, hc, hz, hM, q⟩ => ⟨a, up L, e1, ha, hc, by simp only [up_length, sizeLine]; lia, fun l H' x1 x2 x3 => q l H' x1 x2 (by rw [x3, hM]; rfl)⟩)

theorem cut_to (L : List Nat) (k : Nat) : cut (up L) none (some (k : Int)) = up (L.take k) := by
  show (up L).take ((k : Int)).toNat = _
  rw [Int.toNat_natCast, up_take]
theorem cut_all (L : List Nat) : cut (up L) none none = up L := rfl
theorem cut_run (L : List Nat) (x y : Nat) : cut (up L) (some (x : Int)) (some (y : Int)) = up ((L.drop x).take (min y L.length - x)) := by
  show ((up L).drop ((x : Int)).toNat).take (min ((y : Int)).toNat (up L).length - ((x : Int)).toNat) = _
  rw [Int.toNat_natCast, Int.toNat_natCast, up_length, up_drop, up_take]

theorem E1_setitemN {o i : Expr} {p pos : Pos} {e : Expr} {Q : AF → AS → Prop} (hs : swapsWith e (some (o.Subscript i p)) pos.line c.env = pure false)
    (h : EV W c e σ fun v σ₁ => EV W c o σ₁ fun ov σ₂ => EV W c i σ₂ (KSetN Q v ov)) : E1 W c (.Assign [.Subscript o i p] e pos) σ Q :=
  E1_setitem hs (h.mono fun v σ₁ q => q.mono fun ov σ₂ q => q.mono fun iv σ₃ ⟨x, y, D, L, k, j, e1, e2, e3, e4, e5, hD, hj, hz, q⟩ => ⟨x, D, up L, k, e1, e2, e3, hD, by lia, by rw [up_length]; lia, by lia, fun H' h1 h2 => q H' (by
    subst e4; subst e5
    rw [h1, Int.toNat_natCast, up_set]; rfl) h2⟩)

theorem E1_listN {x : Str} {i : Nat} {px pos : Pos} {e : Expr} {body : List Stmt} {Q : AF → AS → Prop} (C : COk W c) (hi : slot c.cs.names x = some i) (hfs : ∀ x, foldedSetIterable e c.env x = pure x) (Inv : Nat → AS → Prop)
    (h : EV W c e σ (KLstN W c body i Inv Q)) :
    E1 W c (.For (.Name x px) e body [] pos) σ Q := E1_list C hi hfs Inv (h.mono fun v σ₁ ⟨a, L, e, ha, hI, st, dn⟩ => ⟨a, up L, e, ha, hI, fun k σ₂ hk hI' => by
      rw [up_length] at hk
      rw [up_getD]
      exact st k σ₂ hk hI', by rw [up_length]; exact dn⟩)

theorem nat_sub1 {x : Nat} (h : 1 ≤ x) : ((x : Int) - ((1 : Nat) : Int)) = ((x - 1 : Nat) : Int) := by lia
theorem MLe.some' {m m' : List (Option AV)} {o o' : Option AV} (e : o = o') (h : MLe m m') : MLe (o :: m) (o' :: m') := e ▸ MLe.some h
theorem EX_norm {body : List Stmt} {Q : AF → AS → Prop} (e : σ = σ') (h : EX W c body σ' Q) : EX W c body σ Q := e ▸ h
end Mine

set_option maxRecDepth 100000
set_option Elab.async false
set_option linter.all false
namespace Mine
open PySem PySem.W PySem.Calls PyProof.Rows PySem.Spec

variable {W : Wd} {c : Cx} {σ σ' : AS} {Q : AF → AS → Prop}

theorem UTs_weak {ts : List (Value → Sem Unit)} {as : List AV} {Q : AS → Prop} (k : Wk σ σ') (h : UTs W c ts as σ' Q) : UTs W c ts as σ Q := fun R s vs hv r => h R s vs hv (r.weak k)

theorem SP.mono {es : List Expr} {Q Q' : List AV → AS → Prop} (h : SP W c es σ Q) (hq : ∀ v σ', Q v σ' → Q' v σ') : SP W c es σ Q' := fun pos R s r =>
  wpAny_mono (h pos R s r) (fun _ _ ⟨av, σ', h', tk', e, a, b, d⟩ => ⟨av, σ', h', tk', e, a, b, hq _ _ d⟩) fun _ _ x => x
theorem E1_tupS {elts : List Expr} {k k2 : Nat} {tp pos p2 : Pos} {es : List Expr} {names : List Str} (C : COk W c) (hs : swapsWithSole [.Tuple elts k tp] (.Tuple es k2 p2) pos.line c.env = pure false) (hw : swappedStores [.Tuple elts k tp] (.Tuple es k2 p2) c.env = pure (some names))
    (h : SP W c es σ fun vs σ₁ => names.length = vs.length ∧ vs.length ≤ sizeLine ∧ UTs W c (names.reverse.map fun n => bindName c.env n) vs.reverse σ₁ fun σ₂ => Q .next σ₂) : E1 W c (.Assign [.Tuple elts k tp] (.Tuple es k2 p2) pos) σ Q :=
  E1_swapped C hs hw (EV_tuple fun pos R s r => wpAny_mono (h pos R s r) (fun vs s' ⟨as, σ₁, h₁, k₁, e, x, y, hl, hz, q⟩ => ⟨as, σ₁, h₁, k₁, e, x, y, hz, fun l H' he hn ht => ⟨l, as, rfl, ht, hl, UTs_weak (σ' := σ₁) ⟨MLe.refl _, he⟩ q⟩⟩) fun _ _ x => x)

theorem E1_tupN {elts : List Expr} {k k2 : Nat} {tp pos p2 : Pos} {es : List Expr} (C : COk W c) (hs : swapsWithSole [.Tuple elts k tp] (.Tuple es k2 p2) pos.line c.env = pure false) (hw : swappedStores [.Tuple elts k tp] (.Tuple es k2 p2) c.env = pure none)
    (hf : (assignEach elts c.env).findIdx? (·.1) = none)
    (h : SP W c es σ fun vs σ₁ => (assignEach elts c.env).length = vs.length ∧ vs.length ≤ sizeLine ∧ UTs W c ((assignEach elts c.env).map (·.2)) vs σ₁ fun σ₂ => Q .next σ₂) : E1 W c (.Assign [.Tuple elts k tp] (.Tuple es k2 p2) pos) σ Q :=
  E1_unpack C hs hw hf (EV_tuple fun pos R s r => wpAny_mono (h pos R s r) (fun vs s' ⟨as, σ₁, h₁, k₁, e, x, y, hl, hz, q⟩ => ⟨as, σ₁, h₁, k₁, e, x, y, hz, fun l H' he hn ht => ⟨l, as, rfl, ht, hl, UTs_weak (σ' := σ₁) ⟨MLe.refl _, he⟩ q⟩⟩) fun _ _ x => x)

theorem E1_tup2 {elts : List Expr} {k k2 : Nat} {tp pos p2 : Pos} {es : List Expr} {x1 x2 : Str} {i1 i2 : Nat} (C : COk W c) (hs : swapsWithSole [.Tuple elts k tp] (.Tuple es k2 p2) pos.line c.env = pure false) (hw : swappedStores [.Tuple elts k tp] (.Tuple es k2 p2) c.env = pure (some [x1, x2]))
    (h1 : slot c.cs.names x1 = some i1) (h2 : slot c.cs.names x2 = some i2)
    (h : SP W c es σ fun vs σ₁ => At2 (fun v1 v2 => Q .next { σ₁ with m := (σ₁.m.set i2 (some v2)).set i1 (some v1) }) vs) : E1 W c (.Assign [.Tuple elts k tp] (.Tuple es k2 p2) pos) σ Q :=
  E1_tupS C hs hw (h.mono fun vs σ₁ q => by obtain ⟨v1, v2, q⟩ := q; exact ⟨rfl, Nat.le_of_ble_eq_true rfl, UTs_cons (UT_bind C h2 (UTs_cons (UT_bind C h1 (UTs_nil q))))⟩)
theorem E1_tup3 {elts : List Expr} {k k2 : Nat} {tp pos p2 : Pos} {es : List Expr} {x1 x2 x3 : Str} {i1 i2 i3 : Nat} (C : COk W c) (hs : swapsWithSole [.Tuple elts k tp] (.Tuple es k2 p2) pos.line c.env = pure false) (hw : swappedStores [.Tuple elts k tp] (.Tuple es k2 p2) c.env = pure (some [x1, x2, x3]))
    (h1 : slot c.cs.names x1 = some i1) (h2 : slot c.cs.names x2 = some i2) (h3 : slot c.cs.names x3 = some i3)
    (h : SP W c es σ fun vs σ₁ => At3 (fun v1 v2 v3 => Q .next { σ₁ with m := ((σ₁.m.set i3 (some v3)).set i2 (some v2)).set i1 (some v1) }) vs) : E1 W c (.Assign [.Tuple elts k tp] (.Tuple es k2 p2) pos) σ Q :=
  E1_tupS C hs hw (h.mono fun vs σ₁ q => by obtain ⟨v1, v2, v3, q⟩ := q; exact ⟨rfl, Nat.le_of_ble_eq_true rfl, UTs_cons (UT_bind C h3 (UTs_cons (UT_bind C h2 (UTs_cons (UT_bind C h1 (UTs_nil q))))))⟩)
theorem E1_tup4 {q1 q2 q3 q4 : Pos} {k k2 : Nat} {tp pos p2 : Pos} {es : List Expr} {x1 x2 x3 x4 : Str} {i1 i2 i3 i4 : Nat} (C : COk W c)
    (hs : swapsWithSole [.Tuple [.Name x1 q1, .Name x2 q2, .Name x3 q3, .Name x4 q4] k tp] (.Tuple es k2 p2) pos.line c.env = pure false) (hw : swappedStores [.Tuple [.Name x1 q1, .Name x2 q2, .Name x3 q3, .Name x4 q4] k tp] (.Tuple es k2 p2) c.env = pure none)
    (h1 : slot c.cs.names x1 = some i1) (h2 : slot c.cs.names x2 = some i2) (h3 : slot c.cs.names x3 = some i3) (h4 : slot c.cs.names x4 = some i4)
    (h : SP W c es σ fun vs σ₁ => At4 (fun v1 v2 v3 v4 => Q .next { σ₁ with m := (((σ₁.m.set i1 (some v1)).set i2 (some v2)).set i3 (some v3)).set i4 (some v4) }) vs) : E1 W c (.Assign [.Tuple [.Name x1 q1, .Name x2 q2, .Name x3 q3, .Name x4 q4] k tp] (.Tuple es k2 p2) pos) σ Q :=
  E1_tupN C hs hw rfl (h.mono fun vs σ₁ q => by obtain ⟨v1, v2, v3, v4, q⟩ := q; exact ⟨rfl, Nat.le_of_ble_eq_true rfl, UTs_cons (UT_name C h1 (UTs_cons (UT_name C h2 (UTs_cons (UT_name C h3 (UTs_cons (UT_name C h4 (UTs_nil q))))))))⟩)
inductive KU2 (k : AV → AV → Prop) (σ : AS) (v : AV) : Prop
  | intro (t : Addr) (v1 v2 : AV) (e : v = .ref t) (ht : σ.H t = some (.tup [v1, v2])) (q : k v1 v2)
inductive KU4 (k : AV → AV → AV → AV → Prop) (σ : AS) (v : AV) : Prop
  | intro (t : Addr) (v1 v2 v3 v4 : AV) (e : v = .ref t) (ht : σ.H t = some (.tup [v1, v2, v3, v4])) (q : k v1 v2 v3 v4)
/-- a value that is a tuple, taken apart -/
theorem E1_unp2 {q1 q2 : Pos} {k : Nat} {tp pos : Pos} {e : Expr} {x1 x2 : Str} {i1 i2 : Nat} (C : COk W c)
    (hs : swapsWithSole [.Tuple [.Name x1 q1, .Name x2 q2] k tp] e pos.line c.env = pure false) (hw : swappedStores [.Tuple [.Name x1 q1, .Name x2 q2] k tp] e c.env = pure none)
    (h1 : slot c.cs.names x1 = some i1) (h2 : slot c.cs.names x2 = some i2)
    (h : EV W c e σ fun v σ₁ => KU2 (fun v1 v2 => Q .next { σ₁ with m := (σ₁.m.set i1 (some v1)).set i2 (some v2) }) σ₁ v) : E1 W c (.Assign [.Tuple [.Name x1 q1, .Name x2 q2] k tp] e pos) σ Q :=
  E1_unpack C hs hw rfl (h.mono fun v σ₁ ⟨t, v1, v2, e, ht, q⟩ => ⟨t, [v1, v2], e, ht, rfl, UTs_cons (UT_name C h1 (UTs_cons (UT_name C h2 (UTs_nil q))))⟩)
theorem E1_unp4 {q1 q2 q3 q4 : Pos} {k : Nat} {tp pos : Pos} {e : Expr} {x1 x2 x3 x4 : Str} {i1 i2 i3 i4 : Nat} (C : COk W c)
    (hs : swapsWithSole [.Tuple [.Name x1 q1, .Name x2 q2, .Name x3 q3, .Name x4 q4] k tp] e pos.line c.env = pure false) (hw : swappedStores [.Tuple [.Name x1 q1, .Name x2 q2, .Name x3 q3, .Name x4 q4] k tp] e c.env = pure none)
    (h1 : slot c.cs.names x1 = some i1) (h2 : slot c.cs.names x2 = some i2) (h3 : slot c.cs.names x3 = some i3) (h4 : slot c.cs.names x4 = some i4)
    (h : EV W c e σ fun v σ₁ => KU4 (fun v1 v2 v3 v4 => Q .next { σ₁ with m := (((σ₁.m.set i1 (some v1)).set i2 (some v2)).set i3 (some v3)).set i4 (some v4) }) σ₁ v) : E1 W c (.Assign [.Tuple [.Name x1 q1, .Name x2 q2, .Name x3 q3, .Name x4 q4] k tp] e pos) σ Q :=
  E1_unpack C hs hw rfl (h.mono fun v σ₁ ⟨t, v1, v2, v3, v4, e, ht, q⟩ => ⟨t, [v1, v2, v3, v4], e, ht, rfl, UTs_cons (UT_name C h1 (UTs_cons (UT_name C h2 (UTs_cons (UT_name C h3 (UTs_cons (UT_name C h4 (UTs_nil q))))))))⟩)

section
variable {Q : AV → AS → Prop}
theorem EV_nilN {pos : Pos} (h : ∀ l H', Ext σ.H H' → σ.H l = none → H' l = some (nats []) → Q (.ref l) { σ with H := H' }) : EV W c (.List [] pos) σ Q := EV_list (SP_nil ⟨[], rfl, by decide, h⟩)
inductive KOne (Q : AV → AS → Prop) (v : AV) (σ : AS) : Prop
  | intro (x : Int) (y : Nat) (e1 : v = .int x) (e2 : x = (y : Int)) (q : ∀ l H', Ext σ.H H' → σ.H l = none → H' l = some (nats [y]) → Q (.ref l) { σ with H := H' })
inductive KTwo (Q : AV → AS → Prop) (v v2 : AV) (σ : AS) : Prop
  | intro (y y2 : Nat) (e1 : v = .int y) (e2 : v2 = .int y2) (q : ∀ l H', Ext σ.H H' → σ.H l = none → H' l = some (nats [y, y2]) → Q (.ref l) { σ with H := H' })
theorem EV_oneN {e : Expr} {pos : Pos} (hs : starEach [e] c.env = (false, eval e c.env) :: starEach [] c.env)
    (h : EV W c e σ (KOne Q)) : EV W c (.List [e] pos) σ Q :=
  EV_list (SP_cons hs (h.mono fun v σ₁ ⟨x, y, e1, e2, q⟩ => SP_nil ⟨[x], by rw [e1]; rfl, Nat.le_of_ble_eq_true rfl, fun l H' a b d => q l H' a b (by rw [d, e2]; rfl)⟩))
theorem EV_twoN {e e2 : Expr} {pos : Pos} (hs : starEach [e, e2] c.env = (false, eval e c.env) :: starEach [e2] c.env) (hs2 : starEach [e2] c.env = (false, eval e2 c.env) :: starEach [] c.env)
    (h : EV W c e σ fun v σ₀ => EV W c e2 σ₀ (KTwo Q v)) : EV W c (.List [e, e2] pos) σ Q :=
  EV_list (SP_cons hs (h.mono fun v σ₀ q => SP_cons hs2 (q.mono fun v2 σ₁ ⟨y, y2, e1, e2, q⟩ => SP_nil ⟨[y, y2], by rw [e1, e2]; rfl, Nat.le_of_ble_eq_true rfl, q⟩)))
end
theorem EV_cut {Q : AV → AS → Prop} {e : Expr} (v : AV) (h : EV W c e σ fun x σ' => x = v ∧ σ' = σ) (k : Q v σ) : EV W c e σ Q := h.mono fun x σ' ⟨e1, e2⟩ => by rw [e1, e2]; exact k
theorem Cont_as {rest : List Stmt} (σ' : AS) (k : Wk σ σ') (h : EX W c rest σ' Q) : Cont W c rest Q .next σ := fun R s r => h R s (r.weak k)
def Nm (K : Frag) (x : Str) (f : Addr) : Prop := nsIn K mainGlobals x = some (some (.ref f)) ∧ keepIn K (.ref f) = true
theorem IsFn.nmk {K : Frag} {name : Str} {f : Addr} {params : Arguments} {body : List Stmt} {scope : Scope} (h : IsFn K name f params body scope) : Nm K name f := ⟨h.nm, h.keep⟩
theorem EV_fnN {Q : AV → AS → Prop} {x : Str} {e : Expr} {es : List Expr} {p pos : Pos} {f : Addr} (C : COk W c) (hf : Nm W.K x f) (hk : c.cs.names.lookup x = some .globalImplicit) (hd : (x == ("__debug__" : Str)) = false)
    (hc : eval (.Call (.Name x p) (e :: es) [] pos) c.env = (do callWith pos (← eval (.Name x p) c.env) [] (backTo pos (starEach (e :: es) c.env)) (backToKw pos (keywordEach [] c.env))))
    (h1 : starEach (e :: es) c.env = (false, eval e c.env) :: starEach es c.env) (h2 : (backTo pos (starEach es c.env)).any (·.1) = false)
    (h : SP W c (e :: es) σ fun vs σ₂ => CALL W c (.ref f) vs σ₂ Q) : EV W c (.Call (.Name x p) (e :: es) [] pos) σ Q :=
  EV_call C hc h1 h2 (EV_glob C hk hf.1 hd ⟨f, rfl, hf.2, h⟩)

theorem del_of {H : AH} {a b : Addr} {x : AO} (h : H b = some x) (hne : b ≠ a) : del H a b = some x := (del_ne hne).trans h
theorem ext_del {H H' : AH} {a : Addr} (h : Ext H H') : Ext (del H a) (del H' a) := fun b x e => by
  by_cases q : b = a
  · subst q
    rw [del_self] at e; cases e
  · rw [del_ne q] at e ⊢
    exact h b x e
theorem ne_fresh {H : AH} {a l : Addr} {x : AO} (h : H l = none) (ha : H a = some x) : l ≠ a := by
  rintro rfl; rw [ha] at h; cases h
theorem ext_back {H H' : AH} {a : Addr} {o : AO} (h : Ext (del H a) H') (ha : H a = some o) : Ext H (upd H' a o) := fun b x e => by
  by_cases q : b = a
  · subst q
    rw [ha] at e; cases e
    exact upd_self
  · rw [upd_ne q]
    exact h b x (del_of e q)
theorem upd_of {H : AH} {a b : Addr} {o x : AO} (h : H b = some x) (hne : b ≠ a) : upd H a o b = some x := (upd_ne hne).trans h
theorem Ext.fresh {H H' : AH} {l : Addr} (h : Ext H H') (hn : H' l = none) : H l = none := by
  cases e : H l with
  | none => rfl
  | some o => rw [h _ _ e] at hn; cases hn
theorem Ext.step {H H₁ H₂ : AH} {D : Addr} (h : Ext H H₁) (hn : H D = none) (k : ∀ b, b ≠ D → H₂ b = H₁ b) : Ext H H₂ := fun b x e => by
  rw [k b]
  · exact h b x e
  · rintro rfl; rw [hn] at e; cases e
theorem del_none {H : AH} {a b : Addr} (h : H b = none) : del H a b = none := by
  by_cases q : b = a
  · subst q; exact del_self
  · exact (del_ne q).trans h
/-- the text's defs -/
def fnIx : List Nat := [4, 5, 6, 7, 8, 9, 10, 11, 13, 14, 15, 16, 18, 19, 20, 21, 22, 23, 25, 26, 27, 28, 29]
structure FS (W : Wd) where
  B : BIs W
  f : Nat → Addr
  h : ∀ i ∈ fnIx, FnOk W.K (f i) (stAt i)
theorem FS.h4 {W : Wd} (G : FS W) : FnOk W.K (G.f 4) (stAt 4) := G.h 4 (by decide)
theorem FS.h5 {W : Wd} (G : FS W) : FnOk W.K (G.f 5) (stAt 5) := G.h 5 (by decide)
theorem FS.h6 {W : Wd} (G : FS W) : FnOk W.K (G.f 6) (stAt 6) := G.h 6 (by decide)
theorem FS.h7 {W : Wd} (G : FS W) : FnOk W.K (G.f 7) (stAt 7) := G.h 7 (by decide)
theorem FS.h8 {W : Wd} (G : FS W) : FnOk W.K (G.f 8) (stAt 8) := G.h 8 (by decide)
theorem FS.h9 {W : Wd} (G : FS W) : FnOk W.K (G.f 9) (stAt 9) := G.h 9 (by decide)
theorem FS.h10 {W : Wd} (G : FS W) : FnOk W.K (G.f 10) (stAt 10) := G.h 10 (by decide)
theorem FS.h11 {W : Wd} (G : FS W) : FnOk W.K (G.f 11) (stAt 11) := G.h 11 (by decide)
theorem FS.h13 {W : Wd} (G : FS W) : FnOk W.K (G.f 13) (stAt 13) := G.h 13 (by decide)
theorem FS.h14 {W : Wd} (G : FS W) : FnOk W.K (G.f 14) (stAt 14) := G.h 14 (by decide)
theorem FS.h15 {W : Wd} (G : FS W) : FnOk W.K (G.f 15) (stAt 15) := G.h 15 (by decide)
theorem FS.h16 {W : Wd} (G : FS W) : FnOk W.K (G.f 16) (stAt 16) := G.h 16 (by decide)
theorem FS.h18 {W : Wd} (G : FS W) : FnOk W.K (G.f 18) (stAt 18) := G.h 18 (by decide)
theorem FS.h19 {W : Wd} (G : FS W) : FnOk W.K (G.f 19) (stAt 19) := G.h 19 (by decide)
theorem FS.h20 {W : Wd} (G : FS W) : FnOk W.K (G.f 20) (stAt 20) := G.h 20 (by decide)
theorem FS.h21 {W : Wd} (G : FS W) : FnOk W.K (G.f 21) (stAt 21) := G.h 21 (by decide)
theorem FS.h22 {W : Wd} (G : FS W) : FnOk W.K (G.f 22) (stAt 22) := G.h 22 (by decide)
theorem FS.h23 {W : Wd} (G : FS W) : FnOk W.K (G.f 23) (stAt 23) := G.h 23 (by decide)
theorem FS.h25 {W : Wd} (G : FS W) : FnOk W.K (G.f 25) (stAt 25) := G.h 25 (by decide)
theorem FS.h26 {W : Wd} (G : FS W) : FnOk W.K (G.f 26) (stAt 26) := G.h 26 (by decide)
theorem FS.h27 {W : Wd} (G : FS W) : FnOk W.K (G.f 27) (stAt 27) := G.h 27 (by decide)
theorem FS.h28 {W : Wd} (G : FS W) : FnOk W.K (G.f 28) (stAt 28) := G.h 28 (by decide)
theorem FS.h29 {W : Wd} (G : FS W) : FnOk W.K (G.f 29) (stAt 29) := G.h 29 (by decide)
theorem FS.n4 (G : FS W) : Nm W.K (Str.ofString "normal") (G.f 4) := IsFn.nmk (show IsFn W.K _ (G.f 4) _ _ _ from G.h4)
theorem FS.n5 (G : FS W) : Nm W.K (Str.ofString "compare") (G.f 5) := IsFn.nmk (show IsFn W.K _ (G.f 5) _ _ _ from G.h5)
theorem FS.n6 (G : FS W) : Nm W.K (Str.ofString "sub") (G.f 6) := IsFn.nmk (show IsFn W.K _ (G.f 6) _ _ _ from G.h6)
theorem FS.n7 (G : FS W) : Nm W.K (Str.ofString "mul_limb") (G.f 7) := IsFn.nmk (show IsFn W.K _ (G.f 7) _ _ _ from G.h7)
theorem FS.n8 (G : FS W) : Nm W.K (Str.ofString "divrem_limb") (G.f 8) := IsFn.nmk (show IsFn W.K _ (G.f 8) _ _ _ from G.h8)
theorem FS.n9 (G : FS W) : Nm W.K (Str.ofString "shift_left") (G.f 9) := IsFn.nmk (show IsFn W.K _ (G.f 9) _ _ _ from G.h9)
theorem FS.n10 (G : FS W) : Nm W.K (Str.ofString "shift_right") (G.f 10) := IsFn.nmk (show IsFn W.K _ (G.f 10) _ _ _ from G.h10)
theorem FS.n11 (G : FS W) : Nm W.K (Str.ofString "bits") (G.f 11) := IsFn.nmk (show IsFn W.K _ (G.f 11) _ _ _ from G.h11)
theorem FS.n13 (G : FS W) : Nm W.K (Str.ofString "limb_from") (G.f 13) := IsFn.nmk (show IsFn W.K _ (G.f 13) _ _ _ from G.h13)
theorem FS.n14 (G : FS W) : Nm W.K (Str.ofString "lehmer_steps") (G.f 14) := IsFn.nmk (show IsFn W.K _ (G.f 14) _ _ _ from G.h14)
theorem FS.n15 (G : FS W) : Nm W.K (Str.ofString "mixed") (G.f 15) := IsFn.nmk (show IsFn W.K _ (G.f 15) _ _ _ from G.h15)
theorem FS.n16 (G : FS W) : Nm W.K (Str.ofString "lehmer_round") (G.f 16) := IsFn.nmk (show IsFn W.K _ (G.f 16) _ _ _ from G.h16)
theorem FS.n18 (G : FS W) : Nm W.K (Str.ofString "divrem_small") (G.f 18) := IsFn.nmk (show IsFn W.K _ (G.f 18) _ _ _ from G.h18)
theorem FS.n19 (G : FS W) : Nm W.K (Str.ofString "guessed_limb") (G.f 19) := IsFn.nmk (show IsFn W.K _ (G.f 19) _ _ _ from G.h19)
theorem FS.n20 (G : FS W) : Nm W.K (Str.ofString "take_away") (G.f 20) := IsFn.nmk (show IsFn W.K _ (G.f 20) _ _ _ from G.h20)
theorem FS.n21 (G : FS W) : Nm W.K (Str.ofString "put_back") (G.f 21) := IsFn.nmk (show IsFn W.K _ (G.f 21) _ _ _ from G.h21)
theorem FS.n22 (G : FS W) : Nm W.K (Str.ofString "divide_rows") (G.f 22) := IsFn.nmk (show IsFn W.K _ (G.f 22) _ _ _ from G.h22)
theorem FS.n23 (G : FS W) : Nm W.K (Str.ofString "divrem_school") (G.f 23) := IsFn.nmk (show IsFn W.K _ (G.f 23) _ _ _ from G.h23)
theorem FS.n25 (G : FS W) : Nm W.K (Str.ofString "_law_sifted") (G.f 25) := IsFn.nmk (show IsFn W.K _ (G.f 25) _ _ _ from G.h25)
theorem FS.n26 (G : FS W) : Nm W.K (Str.ofString "_law_limbs") (G.f 26) := IsFn.nmk (show IsFn W.K _ (G.f 26) _ _ _ from G.h26)
theorem FS.n27 (G : FS W) : Nm W.K (Str.ofString "_law_row") (G.f 27) := IsFn.nmk (show IsFn W.K _ (G.f 27) _ _ _ from G.h27)
theorem FS.n28 (G : FS W) : Nm W.K (Str.ofString "_law_spot") (G.f 28) := IsFn.nmk (show IsFn W.K _ (G.f 28) _ _ _ from G.h28)
theorem FS.n29 (G : FS W) : Nm W.K (Str.ofString "_law_rounds_right") (G.f 29) := IsFn.nmk (show IsFn W.K _ (G.f 29) _ _ _ from G.h29)
end Mine

set_option maxRecDepth 100000
set_option Elab.async false
set_option linter.all false
namespace Mine
open PySem PySem.W PySem.Calls PyProof.Rows PySem.Spec

variable {W : Wd} {c : Cx} {σ σ' : AS} {Q : AF → AS → Prop}

theorem RelAt.ext {R : List (Addr × Obj)} {h h' : Heap} {m : Str → Option Value} {news : List (Addr × Obj)} (r : RelAt c σ R h m news) (he : Heap.ExtBut h.objs.size h h') : RelAt c σ R h' m news :=
  ⟨r.F.extBut he (Nat.le_refl _), r.M, fun p hp => ⟨he _ _ (Nat.ne_of_lt (Heap.lt_size (r.N p hp).1)) (r.N p hp).1, (r.N p hp).2⟩, r.H, r.S, r.D⟩

theorem for_coreT {x1 x2 : Str} {q1 q2 tp : Pos} {tk : Nat} {i1 i2 : Nat} {body : List Stmt} {I : Addr} {fp wr : List Addr} {n : Nat} {Pt : Nat → Array Value → Prop} {St : Nat → Heap → Prop} {Mid : Nat → Addr → Heap → Prop} {R : List (Addr × Obj)} {s : Shared} {m : Str → Option Value} {news : List (Addr × Obj)}
    (C : COk W c) (h1 : slot c.cs.names x1 = some i1) (h2 : slot c.cs.names x2 = some i2) (Wk' : WalksT W.prog W.w c.A I fp wr n Pt St Mid) (hfp : ∀ b ∈ fp, b ∈ wr ∨ ∃ o, (b, o) ∈ R) (live : ∀ i h, St i h → ∀ b ∈ wr, ∃ o, h.get? b = some o)
    (hL : c.L ∉ wr) (hw : ∀ b ∈ wr, c.h₀.get? b = none) (hR : ∀ p ∈ R, p.1 ∉ wr) (v1 v2 : Nat → AV) (hval : ∀ k vals, Pt k vals → ∃ a b, vals = #[a, b] ∧ VR (v1 k) a ∧ VR (v2 k) b) (Inv : Nat → AS → Prop)
    (r₀ : RelAt c σ R s.heap m news) (off : ∀ p ∈ news, p.1 ∉ wr) (hst : St 0 s.heap) (h0 : Inv 0 σ)
    (step : ∀ k σ₁, k < n → Inv k σ₁ → EX W c body { σ₁ with m := (σ₁.m.set i1 (some (v1 k))).set i2 (some (v2 k)) } (LoopQ Inv k Q))
    (done : ∀ σ₁, Inv n σ₁ → Q .next σ₁) : codeAny (model W.prog W.w) c.A (.forLoop (.Tuple [.Name x1 q1, .Name x2 q2] tk tp) (.ref I) body [] c.env) (Res c R s Q) s := by
  refine codeAny_forLoop_any (ForSt c R s wr n St Inv) ?_ (n + 1) ⟨s.heap, s.toks, σ, m, news, 0, rfl, r₀, off, hst, h0, Nat.zero_le _, rfl⟩
  rintro k s' ⟨h, tk, σ₁, m₁, news₁, j, rfl, r₁, off₁, hst₁, hI, hj, rfl⟩
  by_cases hlt : j < n
  · refine Wk'.item j _ _ _ hlt hst₁ fun T vals h₂ tk₂ hP _ hT hMid hk₂ => ?_
    have r₂ := r₁.keeps hL hw off₁ hk₂
    obtain ⟨a, b, rfl, ha, hb⟩ := hval j vals hP
    refine Wk'.go _ _ tp j T _ _ _ hMid fun h₃ hst₃ hk₃ => ?_
    have r₃ := r₂.keeps hL hw off₁ hk₃
    have ht₃ : h₃.IsTuple T #[a, b] := hT.at fun o e => hk₃ T o (Wk'.apart j T h₂ hMid) e
    refine wpAny_assign_Tuple C.hA ht₃ rfl rfl fun h₄ hx₄ => ?_
    have hx₄ : Heap.ExtBut h₃.objs.size h₃ h₄ := hx₄
    have r₄ := r₃.ext hx₄
    have hst₄ : St (j + 1) h₄ := Wk'.frame _ _ _ hst₃ fun b hb o e => hx₄ b o (Nat.ne_of_lt (Heap.lt_size e)) e
    have r₅ := r₄.addLive hL hw off₁
    have hut : UTs W c ([assign (.Name x1 q1) c.env, assign (.Name x2 q2) c.env]) [v1 j, v2 j] σ₁ fun σ₂ => σ₂ = { σ₁ with m := (σ₁.m.set i1 (some (v1 j))).set i2 (some (v2 j)) } :=
      UTs_cons (UT_name C h1 (UTs_cons (UT_name C h2 (UTs_nil rfl))))
    refine wpAny_mono (hut _ { s with heap := h₄, toks := tk₂ } [a, b] ⟨a, [b], rfl, ha, b, [], rfl, hb, rfl⟩ (.of r₅)) (fun _ s₆ ⟨σ₆, h₆, k₆, e, r₆, e6⟩ => ?_) fun _ _ x => x.elim
    subst e
    subst e6
    refine wpAny_mono (step j σ₁ hlt hI _ { s with heap := h₆, toks := k₆ } r₆) (fun f s₇ ⟨af, σ₇, h₇, k₇, e, hf, r₇, q₇⟩ => ?_) fun _ _ x => x.elim
    subst e
    have lv := live (j + 1) h₄ hst₄
    cases af with
    | next =>
      rw [show f = .next from hf]
      obtain ⟨σ₈, w, hI'⟩ := q₇
      obtain ⟨m₈, news₈, r₈⟩ := r₇.weak w
      obtain ⟨r₉, off₉⟩ := r₈.dropLive lv hR
      refine ⟨n + 1 - (j + 1), Nat.sub_succ_lt_self _ _ (Nat.lt_succ_of_lt hlt), h₇, k₇, σ₈, m₈, _, j + 1, rfl, r₉, off₉, ?_, hI', hlt, rfl⟩
      refine Wk'.frame _ _ _ hst₄ fun b hb o e => ?_
      rcases hfp b hb with hb' | ⟨o', hR'⟩
      · exact (r₈.N _ (r₈.S _ (List.mem_append_left _ (mem_liveOf hb' e)))).1
      · have e1 := (r₄.N _ (r₄.S _ hR')).1
        rw [e] at e1
        cases e1
        exact (r₈.N _ (r₈.S _ (List.mem_append_right _ hR'))).1
    | brk =>
      rw [show f = .brk from hf]
      exact ⟨.next, σ₇, h₇, k₇, rfl, rfl, r₇.drop fun p hp => List.mem_append_right _ hp, q₇⟩
    | ret v =>
      obtain ⟨v', e, hv⟩ := hf
      subst e
      exact ⟨.ret v, σ₇, h₇, k₇, rfl, ⟨v', rfl, hv⟩, r₇.drop fun p hp => List.mem_append_right _ hp, q₇⟩
  · have : j = n := Nat.le_antisymm hj (Nat.not_lt.mp hlt)
    subst this
    refine Wk'.done _ _ _ hst₁ fun h₂ tk₂ hk₂ => wpAny_execs_nil ?_
    exact ⟨.next, σ₁, h₂, tk₂, rfl, rfl, .of (r₁.keeps hL hw off₁ hk₂), done σ₁ hI⟩

inductive KEnu (W : Wd) (c : Cx) (body : List Stmt) (i1 i2 : Nat) (Inv : Nat → AS → Prop) (Q : AF → AS → Prop) (v : AV) (σ : AS) : Prop
  | intro (a : Addr) (L : List Nat) (e : v = .ref a) (ha : σ.H a = some (nats L)) (hI : Inv 0 { σ with H := del σ.H a })
    (st : ∀ k σ₂, k < L.length → Inv k σ₂ → EX W c body { σ₂ with m := (σ₂.m.set i1 (some (.int (k : Int)))).set i2 (some (.int ((L.getD k 0 : Nat) : Int))) } (LoopQ Inv k fun f σ₃ => Q f { σ₃ with H := upd σ₃.H a (nats L) })) (dn : ∀ σ₂, Inv L.length σ₂ → Q .next { σ₂ with H := upd σ₂.H a (nats L) })
theorem E1_enumN {x1 x2 : Str} {q1 q2 tp p cp pos : Pos} {tk : Nat} {i1 i2 : Nat} {e : Expr} {body : List Stmt} (C : COk W c) (B : BI W c (Str.ofString "enumerate")) (hb : bootBuiltins (Str.ofString "enumerate") = some (.type "enumerate"))
    (h1' : slot c.cs.names x1 = some i1) (h2' : slot c.cs.names x2 = some i2)
    (hc : eval (.Call (.Name (Str.ofString "enumerate") p) [e] [] cp) c.env = (do callWith cp (← eval (.Name (Str.ofString "enumerate") p) c.env) [] (backTo cp (starEach [e] c.env)) (backToKw cp (keywordEach [] c.env))))
    (h1 : starEach [e] c.env = (false, eval e c.env) :: starEach [] c.env) (hfs : ∀ x, foldedSetIterable (.Call (.Name (Str.ofString "enumerate") p) [e] [] cp) c.env x = pure x) (Inv : Nat → AS → Prop)
    (h : EV W c e σ (KEnu W c body i1 i2 Inv Q)) :
    E1 W c (.For (.Tuple [.Name x1 q1, .Name x2 q2] tk tp) (.Call (.Name (Str.ofString "enumerate") p) [e] [] cp) body [] pos) σ Q := fun R s rel => by
  refine wpAny_For (tcall C B.hk B.hn hb B.hx B.hd hc h1 rfl rel (Q₁ := fun vs σ₁ => At1 (fun v => KEnu W c body i1 i2 Inv Q v σ₁) vs)
      (SP_cons h1 (h.mono fun v σ₁ q => SP_nil ⟨v, q⟩)) ?_) hfs
  rintro as vs σ₁ h₁ k₁ has r₁ ⟨_, ⟨a, L, rfl, ha, hI, step, done⟩⟩
  obtain ⟨v, rr, rfl, hv, hrr⟩ := has
  rw [show rr = [] from hrr, show v = .ref a from hv]
  obtain ⟨m, news, r⟩ := r₁
  obtain ⟨ob, hob, hm⟩ := r.H a _ ha
  have hob' := hob
  obtain ⟨vs, n, rfl, hvs⟩ := hob
  have hl := PySem.IsL.isList (n := n) (r.N _ hm).1
  have hlt : a < h₁.objs.size := r.below _ hm
  have hRa : ∀ p ∈ R, p.1 ≠ a := fun p hp e => by
    have := r.D p hp
    rw [e, ha] at this
    cases this
  have hsz := IntsAre_size hvs
  rw [up_length] at hsz
  refine call_enumerate_list (s := { s with heap := h₁, toks := k₁ }) hl fun h₂ hE hit hsz2 hk => ?_
  refine wpAny_pyIter_enum hE ?_
  have r₂ : RelAt c σ₁ R h₂ m news := ⟨⟨r.F.ns.keeps hk, fun b o e => hk b o (r.F.keep b o e), r.F.above⟩, r.M, fun p hp => ⟨hk _ _ (r.N p hp).1, (r.N p hp).2⟩, r.H, r.S, r.D⟩
  have r' := r₂.hide ha hm
  have above : ∀ p ∈ news, p.1 < h₁.objs.size := r.below
  have hLlt : c.L < h₁.objs.size := r.F.ns.lt
  have e0 : ({ s with heap := h₁, toks := k₁ } : Shared).heap.objs.size = h₁.objs.size := rfl
  rw [e0] at hE hit hsz2 ⊢
  refine codeAny_mono (for_coreT (s := { s with heap := h₂, toks := k₁ }) (n := vs.toArray.size) C h1' h2' (WalksT.enumerate C.hA (h₁.objs.size + 1) h₁.objs.size a (Nat.succ_ne_self _) (Nat.ne_of_lt (Nat.lt_succ_of_lt hlt)) (Nat.ne_of_lt hlt) vs.toArray)
    (R := (a, PySem.W.listOf vs.toArray n) :: R) (fun b hb => ?_) (fun j h st b hb => ?_) ?_ ?_ (fun p hp => ?_) (fun k => .int (k : Int)) (fun k => .int ((L.getD k 0 : Nat) : Int)) (fun k vals hP => ?_) Inv
    r' (fun p hp => ?_) ?_ hI (fun k σ₂ hk => step k σ₂ (hsz ▸ hk)) (fun σ₂ hI' => done σ₂ (hsz ▸ hI'))) fun r' s' hr => ?_
  · rcases List.mem_cons.mp hb with rfl | hb
    · exact .inl (.head _)
    · rcases List.mem_cons.mp hb with rfl | hb
      · exact .inl (.tail _ (.head _))
      · rw [List.mem_singleton.mp hb]
        exact .inr ⟨_, .head _⟩
  · obtain ⟨⟨old, hE'⟩, ⟨o, ho, _⟩, _⟩ := st
    rcases List.mem_cons.mp hb with rfl | hb
    · exact ⟨_, hE'⟩
    · rw [List.mem_singleton.mp hb]; exact ⟨o, ho⟩
  · intro hm'
    rcases List.mem_cons.mp hm' with e | hm'
    · rw [e] at hLlt; exact absurd hLlt (Nat.not_lt.mpr (Nat.le_succ _))
    · rw [List.mem_singleton.mp hm'] at hLlt; exact absurd hLlt (Nat.lt_irrefl _)
  · intro b hb
    rcases List.mem_cons.mp hb with rfl | hb
    · exact base_below r (Nat.le_succ _)
    · rw [List.mem_singleton.mp hb]; exact base_below r (Nat.le_refl _)
  · intro hm'
    have : p.1 < h₁.objs.size := by
      rcases List.mem_cons.mp hp with rfl | hp
      · exact hlt
      · exact above p (r.S p hp)
    rcases List.mem_cons.mp hm' with e | hm'
    · rw [e] at this; exact absurd this (Nat.not_lt.mpr (Nat.le_succ _))
    · rw [List.mem_singleton.mp hm'] at this; exact absurd this (Nat.lt_irrefl _)
  · obtain ⟨t, x, hx, rfl⟩ := hP
    refine ⟨_, _, rfl, ⟨t, rfl⟩, ?_⟩
    have hP' : vs[k]? = some x := by simpa using hx
    have hk : k < L.length := by
      have := (List.getElem?_eq_some_iff.mp hP').1
      have e := hvs.length
      rw [up_length] at e
      lia
    obtain ⟨t, hx⟩ := hvs.get k ((L.getD k 0 : Nat) : Int) (by
      rw [← up_getD, List.getD_eq_getElem?_getD, List.getElem?_eq_getElem (by rw [up_length]; exact hk)]; rfl)
    rw [hx] at hP'
    cases hP'
    exact ⟨t, rfl⟩
  · intro hm'
    have := above p hp
    rcases List.mem_cons.mp hm' with e | hm'
    · rw [e] at this; exact absurd this (Nat.not_lt.mpr (Nat.le_succ _))
    · rw [List.mem_singleton.mp hm'] at this; exact absurd this (Nat.lt_irrefl _)
  · exact ⟨⟨_, by simpa using hE⟩, hit, hl.at fun o e => hk _ _ e⟩
  · cases r' with
    | ok f =>
      obtain ⟨af, σ₅, h₅, k₅, e, hf, r₅, q₅⟩ := hr
      subst e
      exact ⟨af, _, h₅, k₅, rfl, hf, r₅.show hob' hRa, q₅⟩
    | error e => exact hr.elim
theorem bw1 {x y D : Nat} (h : (x : Int) - y < ((0 : Nat) : Int)) (hy : y ≤ x + D) : x + D - y < D := by
  have : x < y := Int.ofNat_lt.mp (Int.lt_of_sub_neg h)
  rw [Nat.sub_lt_iff_lt_add hy]
  exact Nat.add_comm y D ▸ Nat.add_lt_add_right this D
theorem bw2 {x y D : Nat} (hy : y ≤ x + D) : (x : Int) - y + (D : Nat) = ((x + D - y : Nat) : Int) := by
  rw [Int.ofNat_sub hy, Int.natCast_add, Int.sub_eq_add_neg, Int.sub_eq_add_neg, Int.add_right_comm]
theorem bw3 {x y D : Nat} (hy : y ≤ x + D) : x + D - y + y = x + D * 1 := by rw [Nat.sub_add_cancel hy, Nat.mul_one]
theorem nb0 {x y : Nat} (h : ¬(x : Int) - y < ((0 : Nat) : Int)) : y ≤ x := Int.ofNat_le.mp (Int.le_of_sub_nonneg (Int.not_lt.mp h))
theorem nb2 {x y : Nat} (h : ¬(x : Int) - y < ((0 : Nat) : Int)) : (x : Int) - y = ((x - y : Nat) : Int) := (Int.ofNat_sub (nb0 h)).symm
theorem nb3 {x y D : Nat} (h : ¬(x : Int) - y < ((0 : Nat) : Int)) : x - y + y = x + D * 0 := Nat.sub_add_cancel (nb0 h)
theorem cw0 {x b m : Nat} : (x : Int) - b - m = (x : Int) - ((b + m : Nat) : Int) := by rw [Int.natCast_add, Int.sub_sub]
theorem cw1 {x b m D : Nat} (h : (x : Int) - b - m < ((0 : Nat) : Int)) (hy : b + m ≤ x + D) : x + D - b - m < D := by rw [Nat.sub_sub]; exact bw1 (cw0 ▸ h) hy
theorem cw2 {x b m D : Nat} (hy : b + m ≤ x + D) : (x : Int) - b - m + (D : Nat) = ((x + D - b - m : Nat) : Int) := by rw [Nat.sub_sub, cw0]; exact bw2 hy
theorem cw3 {x b m D : Nat} (hy : b + m ≤ x + D) : x + D * 1 = x + D - b - m + b + m := by rw [Nat.sub_sub, Nat.add_assoc, Nat.sub_add_cancel hy, Nat.mul_one]
theorem dw2 {x b m : Nat} (h : ¬(x : Int) - b - m < ((0 : Nat) : Int)) : (x : Int) - b - m = ((x - b - m : Nat) : Int) := by rw [Nat.sub_sub, cw0]; exact nb2 (cw0 ▸ h)
theorem dw3 {x b m D : Nat} (h : ¬(x : Int) - b - m < ((0 : Nat) : Int)) : x + D * 0 = x - b - m + b + m := by rw [Nat.sub_sub, Nat.add_assoc]; exact (nb3 (cw0 ▸ h)).symm
theorem lj1 {n j : Nat} (h : j < n) : n - 1 - j < n := Nat.sub_one_sub_lt h
theorem lj2 {n j : Nat} (h : j < n) : n - 1 - j + 1 = n - j := by rw [Nat.sub_right_comm]; exact Nat.sub_add_cancel (Nat.sub_pos_of_lt h)
theorem tj1 {T j : Nat} (h : j < T) : T - j = T - 1 - j + 1 := (lj2 h).symm
theorem il1 {T j i n r0 r : Nat} (h1 : r = r0) (h2 : r0 = n + T) (h3 : T - 1 - j = i) (hj : j < T) : i + n < r := by
  subst h3; rw [h1, h2, Nat.add_comm]; exact Nat.add_lt_add_left (lj1 hj) n
theorem c33 {i n : Nat} (h2 : 2 ≤ n) : i + n - 2 + 1 = i + n - 1 := by obtain ⟨m, rfl⟩ := Nat.exists_eq_add_of_le' h2; rfl
theorem c34 {i n : Nat} (h2 : 2 ≤ n) : i + n - 2 + 2 = i + n := by obtain ⟨m, rfl⟩ := Nat.exists_eq_add_of_le' h2; rfl
theorem c31 {i n r : Nat} (h : i + n < r) (h2 : 2 ≤ n) : min (i + n + 1) r - (i + n - 2) = 3 := by
  obtain ⟨m, rfl⟩ := Nat.exists_eq_add_of_le' h2
  rw [Nat.min_eq_left h]; exact Nat.add_sub_cancel_left (n := i + m) (m := 3)
theorem c32 {i n r : Nat} (h : i + n < r) (h2 : 2 ≤ n) : i + n - 2 + 3 ≤ r := by obtain ⟨m, rfl⟩ := Nat.exists_eq_add_of_le' h2; exact h
theorem nb1 {x y D : Nat} (h : x < D) : x - y < D := Nat.lt_of_le_of_lt (Nat.sub_le _ _) h
theorem dw1 {x b m D : Nat} (h : x < D) : x - b - m < D := nb1 (nb1 h)
end Mine

set_option maxRecDepth 100000
set_option Elab.async false
set_option linter.all false
namespace Mine
open PySem PySem.W PySem.Calls PyProof.Rows PySem.Spec
/- tactics of this text: local lines under keys of our own -/

variable {W : Wd} {c : Cx} {σ σ' : AS}


theorem nrm_step {L : List Nat} {k : Nat} (hk : k < L.length) (h : L.getD k 0 = 0) : nrm (L.take (k + 1)) = nrm (L.take k) := by
  rw [List.take_succ_eq_append_getElem hk]
  have : L[k] = 0 := by rw [← h, List.getD_eq_getElem?_getD, List.getElem?_eq_getElem hk]; rfl
  rw [this, nrm_snoc_zero]
theorem nrm_stop {L : List Nat} {k : Nat} (hk : k < L.length) (h : L.getD k 0 ≠ 0) : nrm (L.take (k + 1)) = L.take (k + 1) := by
  rw [List.take_succ_eq_append_getElem hk]
  have : L[k] ≠ 0 := by intro e; apply h; rw [← e, List.getD_eq_getElem?_getD, List.getElem?_eq_getElem hk]; rfl
  rw [nrm_snoc this]

inductive NormInv (a : Addr) (L : List Nat) (H0 : AH) (n : Nat) (σ₁ : AS) : Prop
  | intro (e : Nat) (f1 : n = e) (f2 : e ≤ L.length) (f3 : nrm (L.take e) = nrm L) (f4 : σ₁ = { m := [some (.ref a), some (.int e), none], H := H0 })
theorem normal_ok {f : Addr} (hf : FnOk W.K f (stAt 4)) (B : BIs W) (C : COk W c) (Rm : Room c 1) {a : Addr} {L : List Nat} {Q : AV → AS → Prop} (ha : σ.H a = some (nats L)) (hz : L.length ≤ 1000)
    (k : ∀ l H', Ext σ.H H' → σ.H l = none → H' l = some (nats (nrm L)) → Q (.ref l) { σ with H := H' }) : CALL W c (.ref f) [.ref a] σ Q := by
  have hf' : IsFn W.K _ f _ _ _ := hf
  refine CALL_fn (xs := [Str.ofString "a"]) C Rm hf' ?_ rfl (by decide) rfl rfl rfl rfl rfl (by decide) ?_
  · ((exact rfl))
  clear hf'
  intro r C' R'
  ((with_reducible refine' EX_seq ?_); ((with_reducible refine' E1_assign ?q1 ?q2 ?q3 ?_); (case q1 => assumption); (case q2 => rfl); (case q3 => rfl)); ((with_reducible refine' EV_lenN ?q5 ?q4 ?q8 ?q7 ?q6 ?_); (case q5 => assumption); (case q4 => assumption); (case q8 => rfl); (case q7 => rfl); (case q6 => rfl)); ((with_reducible refine' EV_loc ?q9 ?q11 ?q12 ?q10 ?_); (case q9 => assumption); (case q11 => rfl); (case q12 => rfl); (case q10 => decide)))
  (((refine' ⟨_, _, rfl, ?q13, ?q14, ?_⟩); (case q13 => assumption); (case q14 => ((lia)))))
  (((with_reducible refine' Cont_norm ?q15 ?_); (case q15 => ((dsimp only [frameOf, List.set_cons_zero, List.set_cons_succ]); (try exact rfl)))); (with_reducible refine' EX_seq ?_))
  refine E1_wh (NormInv a L σ.H) L.length ⟨L.length, rfl, Nat.le_refl _, by rw [List.take_length], rfl⟩ ?_
  rintro n _ ⟨e, rfl, he, hn, rfl⟩
  ((with_reducible refine' TS_and2 ?_); ((with_reducible refine' TS_cmp ?q16 ?_); (case q16 => rfl)); ((with_reducible refine' EV_loc ?q17 ?q19 ?q20 ?q18 ?_); (case q17 => assumption); (case q19 => rfl); (case q20 => rfl); (case q18 => decide)); ((with_reducible refine' EV_intN ?q21 ?_); (case q21 => first | exact Int.cast_ofNat_Int.symm | rfl)); (with_reducible refine' CMP_gt ?_))
  ((((with_reducible refine' And.intro (fun hc => ?_) (fun hc => ?_)) <;> (simp only [decide_eq_true_eq, decide_eq_false_iff_not, Bool.not_eq_true', Bool.not_eq_false', Bool.not_true, Bool.not_false, reduceCtorEq] at hc)) <;> (revert hc; intro _)))
  · cases n with
    | zero => rename_i hc; (omega)
    | succ n =>
      (((with_reducible refine' TS_cmp ?q22 ?_); (case q22 => rfl)); ((with_reducible refine' EV_idxN ?q23 ?_); (case q23 => intro _ _ _; rfl)); ((with_reducible refine' EV_loc ?q24 ?q26 ?q27 ?q25 ?_); (case q24 => assumption); (case q26 => rfl); (case q27 => rfl); (case q25 => decide)); (with_reducible refine' EV_bin ?_); ((with_reducible refine' EV_loc ?q28 ?q30 ?q31 ?q29 ?_); (case q28 => assumption); (case q30 => rfl); (case q31 => rfl); (case q29 => decide)); ((with_reducible refine' EV_intN ?q32 ?_); (case q32 => first | exact Int.cast_ofNat_Int.symm | rfl)); ((with_reducible refine' BIN_subN ?q33 ?_); (case q33 => (((exact Nat.succ_pos _))))))
      (((refine' ⟨_, _, _, _, rfl, rfl, ?q36, ?q34, ?q35, ?q37, ?_⟩); (case q36 => first | rfl | exact nat_sub1 (by first | assumption | lia)); (case q34 => assumption); (case q35 => ((assumption))); (case q37 => ((lia)))))
      (((with_reducible refine' EV_intN ?q38 ?_); (case q38 => first | exact Int.cast_ofNat_Int.symm | rfl)); (with_reducible refine' CMP_eq ?_))
      ((((with_reducible refine' And.intro (fun hc => ?_) (fun hc => ?_)) <;> (simp only [decide_eq_true_eq, decide_eq_false_iff_not, Bool.not_eq_true', Bool.not_eq_false', Bool.not_true, Bool.not_false, reduceCtorEq] at hc)) <;> (revert hc; intro _)))
      · rename_i hc
        ((with_reducible refine' EX_seq ?_); ((with_reducible refine' E1_aug ?q39 ?q40 ?q41 ?_); (case q39 => assumption); (case q40 => rfl); (case q41 => rfl)); ((with_reducible refine' EV_intN ?q42 ?_); (case q42 => first | exact Int.cast_ofNat_Int.symm | rfl)); ((with_reducible refine' INP_subN ?q43 ?_); (case q43 => ((lia)))); ((with_reducible refine' Cont_norm ?q44 ?_); (case q44 => ((dsimp only [frameOf, List.set_cons_zero, List.set_cons_succ]); (try exact rfl)))); (with_reducible refine' EX_nil ?_))
        refine WhQ_next { m := [some (.ref a), some (.int n), none], H := σ.H } n ?_ (by lia) ⟨n, rfl, by (exact Nat.le_of_lt (by assumption)), ?_, rfl⟩
        · ((refine' ⟨?q46, ?q45⟩; (case q45 => first | exact Ext.refl _ | assumption); (case q46 => repeat (first | exact MLe.nil _ | refine' MLe.none ?_ | refine' MLe.some' rfl ?_))))
        · rw [← hn]
          exact (nrm_step (by (assumption)) (by simpa using hc)).symm
      · rename_i hc
        (((with_reducible refine' Cont_norm ?q47 ?_); (case q47 => ((dsimp only [frameOf, List.set_cons_zero, List.set_cons_succ]); (try exact rfl)))); (with_reducible refine' EX_seq ?_); (with_reducible refine' E1_return ?_); ((with_reducible refine' EV_sliceN ?q48 ?q49 ?_); (case q48 => intro _ _; rfl); (case q49 => intro _ _; rfl)); ((with_reducible refine' EV_loc ?q50 ?q52 ?q53 ?q51 ?_); (case q50 => assumption); (case q52 => rfl); (case q53 => rfl); (case q51 => decide)); (with_reducible refine' PT_none ?_); (with_reducible refine' PT_some ?_); ((with_reducible refine' EV_loc ?q54 ?q56 ?q57 ?q55 ?_); (case q54 => assumption); (case q56 => rfl); (case q57 => rfl); (case q55 => decide)); (with_reducible refine' AtI.intro _ ?_))
        (((refine' ⟨_, _, _, rfl, ?q58, ?q60, ?q61, ?q59, ?_⟩); (case q58 => assumption); (case q60 => first | exact trivial | exact Int.natCast_nonneg _ | exact ⟨Int.natCast_nonneg _, Int.natCast_nonneg _⟩); (case q61 => (((exact Nat.le_trans (by assumption) (by decide))))); (case q59 => first | exact cut_to _ _ | exact cut_all _ | exact cut_run _ _ _)))
        intro l H' hext hfr hl
        ((with_reducible refine' Cont_ret ?_); ((with_reducible refine' RetQ_ret ?_); try dsimp only))
        refine k l H' hext hfr ?_
        rw [hl, ← hn, nrm_stop (by lia) (by simpa using hc)]
  · rename_i hc
    have : n = 0 := by lia
    subst this
    ((with_reducible refine' And.intro (fun (h : false = true) => nomatch h) (fun (_ : false = false) => ?_)); ((with_reducible refine' Cont_norm ?q62 ?_); (case q62 => ((dsimp only [frameOf, List.set_cons_zero, List.set_cons_succ]); (try exact rfl)))); (with_reducible refine' EX_seq ?_); (with_reducible refine' E1_return ?_); ((with_reducible refine' EV_sliceN ?q63 ?q64 ?_); (case q63 => intro _ _; rfl); (case q64 => intro _ _; rfl)); ((with_reducible refine' EV_loc ?q65 ?q67 ?q68 ?q66 ?_); (case q65 => assumption); (case q67 => rfl); (case q68 => rfl); (case q66 => decide)); (with_reducible refine' PT_none ?_); (with_reducible refine' PT_some ?_); ((with_reducible refine' EV_loc ?q69 ?q71 ?q72 ?q70 ?_); (case q69 => assumption); (case q71 => rfl); (case q72 => rfl); (case q70 => decide)); (with_reducible refine' AtI.intro _ ?_))
    (((refine' ⟨_, _, _, rfl, ?q73, ?q75, ?q76, ?q74, ?_⟩); (case q73 => assumption); (case q75 => first | exact trivial | exact Int.natCast_nonneg _ | exact ⟨Int.natCast_nonneg _, Int.natCast_nonneg _⟩); (case q76 => ((lia))); (case q74 => first | exact cut_to _ _ | exact cut_all _ | exact cut_run _ _ _)))
    intro l H' hext hfr hl
    ((with_reducible refine' Cont_ret ?_); ((with_reducible refine' RetQ_ret ?_); try dsimp only))
    refine k l H' hext hfr ?_
    rw [hl, ← hn]
    rfl

def CmpIs (B : Nat) (L M : List Nat) (r : Int) : Prop := (r = -1 ∧ val B L < val B M) ∨ (r = 0 ∧ L = M) ∨ (r = 1 ∧ val B M < val B L)

theorem compare_ok {f : Addr} (hf : FnOk W.K f (stAt 5)) (B : BIs W) (C : COk W c) (Rm : Room c 1) {a b : Addr} {L M : List Nat} {Q : AV → AS → Prop} (ha : σ.H a = some (nats L)) (hb : σ.H b = some (nats M)) {D : Nat} (hD : 2 ≤ D) (hL : NF D L) (hM : NF D M) (hz : L.length ≤ 1000) (hz' : M.length ≤ 1000)
    (k : ∀ r : Int, CmpIs D L M r → Q (.int r) σ) : CALL W c (.ref f) [.ref a, .ref b] σ Q := by
  have hf' : IsFn W.K _ f _ _ _ := hf
  refine CALL_fn (xs := [Str.ofString "a", Str.ofString "b"]) C Rm hf' ?_ rfl (by decide) rfl rfl rfl rfl rfl (by decide) ?_
  · ((exact rfl))
  clear hf'
  intro r C' R'
  ((with_reducible refine' EX_seq ?_); (with_reducible refine' E1_if ?_); ((with_reducible refine' TS_cmp ?q77 ?_); (case q77 => rfl)); ((with_reducible refine' EV_lenN ?q79 ?q78 ?q82 ?q81 ?q80 ?_); (case q79 => assumption); (case q78 => assumption); (case q82 => rfl); (case q81 => rfl); (case q80 => rfl)); ((with_reducible refine' EV_loc ?q83 ?q85 ?q86 ?q84 ?_); (case q83 => assumption); (case q85 => rfl); (case q86 => rfl); (case q84 => decide)))
  (((refine' ⟨_, _, rfl, ?q87, ?q88, ?_⟩); (case q87 => assumption); (case q88 => ((lia)))))
  (((with_reducible refine' EV_lenN ?q90 ?q89 ?q93 ?q92 ?q91 ?_); (case q90 => assumption); (case q89 => assumption); (case q93 => rfl); (case q92 => rfl); (case q91 => rfl)); ((with_reducible refine' EV_loc ?q94 ?q96 ?q97 ?q95 ?_); (case q94 => assumption); (case q96 => rfl); (case q97 => rfl); (case q95 => decide)))
  (((refine' ⟨_, _, rfl, ?q98, ?q99, ?_⟩); (case q98 => assumption); (case q99 => ((lia)))))
  ((with_reducible refine' CMP_ne ?_))
  ((((with_reducible refine' And.intro (fun hc => ?_) (fun hc => ?_)) <;> (simp only [decide_eq_true_eq, decide_eq_false_iff_not, Bool.not_eq_true', Bool.not_eq_false', Bool.not_true, Bool.not_false, reduceCtorEq] at hc)) <;> (revert hc; intro _)))
  · rename_i hc
    ((with_reducible refine' EX_seq ?_); (with_reducible refine' E1_return ?_); (with_reducible refine' EV_ite ?_); ((with_reducible refine' TS_cmp ?q100 ?_); (case q100 => rfl)); ((with_reducible refine' EV_lenN ?q102 ?q101 ?q105 ?q104 ?q103 ?_); (case q102 => assumption); (case q101 => assumption); (case q105 => rfl); (case q104 => rfl); (case q103 => rfl)); ((with_reducible refine' EV_loc ?q106 ?q108 ?q109 ?q107 ?_); (case q106 => assumption); (case q108 => rfl); (case q109 => rfl); (case q107 => decide)))
    (((refine' ⟨_, _, rfl, ?q110, ?q111, ?_⟩); (case q110 => assumption); (case q111 => ((lia)))))
    (((with_reducible refine' EV_lenN ?q113 ?q112 ?q116 ?q115 ?q114 ?_); (case q113 => assumption); (case q112 => assumption); (case q116 => rfl); (case q115 => rfl); (case q114 => rfl)); ((with_reducible refine' EV_loc ?q117 ?q119 ?q120 ?q118 ?_); (case q117 => assumption); (case q119 => rfl); (case q120 => rfl); (case q118 => decide)))
    (((refine' ⟨_, _, rfl, ?q121, ?q122, ?_⟩); (case q121 => assumption); (case q122 => ((lia)))))
    ((with_reducible refine' CMP_lt ?_))
    ((((with_reducible refine' And.intro (fun hc => ?_) (fun hc => ?_)) <;> (simp only [decide_eq_true_eq, decide_eq_false_iff_not, Bool.not_eq_true', Bool.not_eq_false', Bool.not_true, Bool.not_false, reduceCtorEq] at hc)) <;> (revert hc; intro _)))
    · rename_i h
      ((with_reducible refine' EV_neg ?_); ((with_reducible refine' EV_intN ?q123 ?_); (case q123 => first | exact Int.cast_ofNat_Int.symm | rfl)); (with_reducible refine' AtI.intro _ ?_); (with_reducible refine' Cont_ret ?_); (with_reducible refine' Cont_ret ?_); ((with_reducible refine' RetQ_ret ?_); try dsimp only))
      exact k _ (.inl ⟨rfl, val_lt_of_len hD hL.1 hM (by lia)⟩)
    · rename_i h
      (((with_reducible refine' EV_intN ?q124 ?_); (case q124 => first | exact Int.cast_ofNat_Int.symm | rfl)); (with_reducible refine' Cont_ret ?_); (with_reducible refine' Cont_ret ?_); ((with_reducible refine' RetQ_ret ?_); try dsimp only))
      exact k _ (.inr (.inr ⟨rfl, val_lt_of_len hD hM.1 hL (by lia)⟩))
  · rename_i hc
    have hlen : L.length = M.length := by lia
    ((with_reducible refine' EX_nil ?_); ((with_reducible refine' Cont_norm ?q125 ?_); (case q125 => ((dsimp only [frameOf, List.set_cons_zero, List.set_cons_succ]); (try exact rfl)))); (with_reducible refine' EX_seq ?_))
    refine E1_range3 (by assumption) ⟨rfl, B.range, by decide, by decide⟩ bb_range rfl rfl rfl rfl rfl (fun _ => rfl) (fun j σ₁ => L.drop (L.length - j) = M.drop (L.length - j) ∧ σ₁ = { m := [some (.ref a), some (.ref b), none, none, none], H := σ.H }) ?_
    ((with_reducible refine' EV_bin ?_); ((with_reducible refine' EV_lenN ?q127 ?q126 ?q130 ?q129 ?q128 ?_); (case q127 => assumption); (case q126 => assumption); (case q130 => rfl); (case q129 => rfl); (case q128 => rfl)); ((with_reducible refine' EV_loc ?q131 ?q133 ?q134 ?q132 ?_); (case q131 => assumption); (case q133 => rfl); (case q134 => rfl); (case q132 => decide)))
    (((refine' ⟨_, _, rfl, ?q135, ?q136, ?_⟩); (case q135 => assumption); (case q136 => ((lia)))))
    (((with_reducible refine' EV_intN ?q137 ?_); (case q137 => first | exact Int.cast_ofNat_Int.symm | rfl)); (with_reducible refine' BIN_sub ?_); (with_reducible refine' EV_neg ?_); ((with_reducible refine' EV_intN ?q138 ?_); (case q138 => first | exact Int.cast_ofNat_Int.symm | rfl)); (with_reducible refine' AtI.intro _ ?_); (with_reducible refine' EV_neg ?_); ((with_reducible refine' EV_intN ?q139 ?_); (case q139 => first | exact Int.cast_ofNat_Int.symm | rfl)); (with_reducible refine' AtI.intro _ ?_))
    refine ⟨_, rfl, by rfl, by rfl, by lia, ⟨by rw [Nat.sub_zero, List.drop_length, hlen, List.drop_length], rfl⟩, ?_, ?_⟩
    · rintro j _ hj ⟨hd, rfl⟩
      have i1 : L.length - 1 - j < L.length := lj1 hj
      have i2 : L.length - 1 - j < M.length := hlen ▸ i1
      have e1 : L.length - 1 - j + 1 = L.length - j := lj2 hj
      (((refine' EX_norm ?q140 ?_); (case q140 => ((dsimp only [frameOf, List.set_cons_zero, List.set_cons_succ]); (try exact rfl)))))
      ((with_reducible refine' EX_seq ?_); (with_reducible refine' E1_if ?_); ((with_reducible refine' TS_cmp ?q141 ?_); (case q141 => rfl)); ((with_reducible refine' EV_idxN ?q142 ?_); (case q142 => intro _ _ _; rfl)); ((with_reducible refine' EV_loc ?q143 ?q145 ?q146 ?q144 ?_); (case q143 => assumption); (case q145 => rfl); (case q146 => rfl); (case q144 => decide)); ((with_reducible refine' EV_loc ?q147 ?q149 ?q150 ?q148 ?_); (case q147 => assumption); (case q149 => rfl); (case q150 => rfl); (case q148 => decide)))
      (((refine' ⟨_, _, _, _, rfl, rfl, ?q153, ?q151, ?q152, ?q154, ?_⟩); (case q153 => first | rfl | exact nat_sub1 (by first | assumption | lia)); (case q151 => assumption); (case q152 => ((assumption))); (case q154 => ((lia)))))
      (((with_reducible refine' EV_idxN ?q155 ?_); (case q155 => intro _ _ _; rfl)); ((with_reducible refine' EV_loc ?q156 ?q158 ?q159 ?q157 ?_); (case q156 => assumption); (case q158 => rfl); (case q159 => rfl); (case q157 => decide)); ((with_reducible refine' EV_loc ?q160 ?q162 ?q163 ?q161 ?_); (case q160 => assumption); (case q162 => rfl); (case q163 => rfl); (case q161 => decide)))
      (((refine' ⟨_, _, _, _, rfl, rfl, ?q166, ?q164, ?q165, ?q167, ?_⟩); (case q166 => first | rfl | exact nat_sub1 (by first | assumption | lia)); (case q164 => assumption); (case q165 => ((assumption))); (case q167 => ((lia)))))
      ((with_reducible refine' CMP_ne ?_))
      ((((with_reducible refine' And.intro (fun hc => ?_) (fun hc => ?_)) <;> (simp only [decide_eq_true_eq, decide_eq_false_iff_not, Bool.not_eq_true', Bool.not_eq_false', Bool.not_true, Bool.not_false, reduceCtorEq] at hc)) <;> (revert hc; intro _)))
      · rename_i hne
        ((with_reducible refine' EX_seq ?_); (with_reducible refine' E1_return ?_); (with_reducible refine' EV_ite ?_); ((with_reducible refine' TS_cmp ?q168 ?_); (case q168 => rfl)); ((with_reducible refine' EV_idxN ?q169 ?_); (case q169 => intro _ _ _; rfl)); ((with_reducible refine' EV_loc ?q170 ?q172 ?q173 ?q171 ?_); (case q170 => assumption); (case q172 => rfl); (case q173 => rfl); (case q171 => decide)); ((with_reducible refine' EV_loc ?q174 ?q176 ?q177 ?q175 ?_); (case q174 => assumption); (case q176 => rfl); (case q177 => rfl); (case q175 => decide)))
        (((refine' ⟨_, _, _, _, rfl, rfl, ?q180, ?q178, ?q179, ?q181, ?_⟩); (case q180 => first | rfl | exact nat_sub1 (by first | assumption | lia)); (case q178 => assumption); (case q179 => ((assumption))); (case q181 => ((lia)))))
        (((with_reducible refine' EV_idxN ?q182 ?_); (case q182 => intro _ _ _; rfl)); ((with_reducible refine' EV_loc ?q183 ?q185 ?q186 ?q184 ?_); (case q183 => assumption); (case q185 => rfl); (case q186 => rfl); (case q184 => decide)); ((with_reducible refine' EV_loc ?q187 ?q189 ?q190 ?q188 ?_); (case q187 => assumption); (case q189 => rfl); (case q190 => rfl); (case q188 => decide)))
        (((refine' ⟨_, _, _, _, rfl, rfl, ?q193, ?q191, ?q192, ?q194, ?_⟩); (case q193 => first | rfl | exact nat_sub1 (by first | assumption | lia)); (case q191 => assumption); (case q192 => ((assumption))); (case q194 => ((lia)))))
        ((with_reducible refine' CMP_lt ?_))
        ((((with_reducible refine' And.intro (fun hc => ?_) (fun hc => ?_)) <;> (simp only [decide_eq_true_eq, decide_eq_false_iff_not, Bool.not_eq_true', Bool.not_eq_false', Bool.not_true, Bool.not_false, reduceCtorEq] at hc)) <;> (revert hc; intro _)))
        · rename_i h
          ((with_reducible refine' EV_neg ?_); ((with_reducible refine' EV_intN ?q195 ?_); (case q195 => first | exact Int.cast_ofNat_Int.symm | rfl)); (with_reducible refine' AtI.intro _ ?_); (with_reducible refine' Cont_ret ?_); (with_reducible refine' Cont_ret ?_); (with_reducible refine' LoopQ_ret ?_); (with_reducible refine' Cont_ret ?_); ((with_reducible refine' RetQ_ret ?_); try dsimp only))
          exact k _ (.inl ⟨rfl, val_lt_at (i := L.length - 1 - j) hL.1 i1 i2 (by rw [e1]; exact hd) (by (omega))⟩)
        · rename_i h
          (((with_reducible refine' EV_intN ?q196 ?_); (case q196 => first | exact Int.cast_ofNat_Int.symm | rfl)); (with_reducible refine' Cont_ret ?_); (with_reducible refine' Cont_ret ?_); (with_reducible refine' LoopQ_ret ?_); (with_reducible refine' Cont_ret ?_); ((with_reducible refine' RetQ_ret ?_); try dsimp only))
          exact k _ (.inr (.inr ⟨rfl, val_lt_at (i := L.length - 1 - j) hM.1 i2 i1 (by rw [e1]; exact hd.symm) (by lia)⟩))
      · rename_i he
        ((with_reducible refine' EX_nil ?_); ((with_reducible refine' Cont_norm ?q197 ?_); (case q197 => ((dsimp only [frameOf, List.set_cons_zero, List.set_cons_succ]); (try exact rfl)))); (with_reducible refine' EX_nil ?_))
        refine LoopQ_next { m := [some (.ref a), some (.ref b), none, none, none], H := σ.H } ?_ ⟨?_, rfl⟩
        · ((refine' ⟨?q199, ?q198⟩; (case q198 => first | exact Ext.refl _ | assumption); (case q199 => repeat (first | exact MLe.nil _ | refine' MLe.none ?_ | refine' MLe.some' rfl ?_))))
        · rw [show L.length - (j + 1) = L.length - 1 - j by lia]
          exact drop_pred i1 i2 (by rw [e1]; exact hd) (by lia)
    · rintro _ ⟨hd, rfl⟩
      (((with_reducible refine' Cont_norm ?q200 ?_); (case q200 => ((dsimp only [frameOf, List.set_cons_zero, List.set_cons_succ]); (try exact rfl)))); (with_reducible refine' EX_seq ?_); (with_reducible refine' E1_return ?_); ((with_reducible refine' EV_intN ?q201 ?_); (case q201 => first | exact Int.cast_ofNat_Int.symm | rfl)); (with_reducible refine' Cont_ret ?_); ((with_reducible refine' RetQ_ret ?_); try dsimp only))
      refine k _ (.inr (.inl ⟨rfl, ?_⟩))
      simpa using hd

inductive MulInv (a l : Addr) (L : List Nat) (m w : Nat) (H0 : AH) (k : Nat) (σ₁ : AS) : Prop
  | intro (F : List Nat) (cy : Nat) (H' : AH) (f1 : F.length = k) (f2 : Lm (2 ^ w) F) (f3 : cy < 2 ^ w) (f4 : val (2 ^ w) F + (2 ^ w) ^ k * cy = m * val (2 ^ w) (L.take k)) (f5 : H' l = some (nats F)) (f6 : Ext (del H0 a) H') (f7 : σ₁ = { m := [some (.ref a), some (.int m), some (.int w), some (.ref l), some (.int (cy : Nat)), some (.int (2 ^ w - 1 : Nat)), none], H := H' })
theorem mul_limb_ok (G : FS W) (C : COk W c) (Rm : Room c 1) {a : Addr} {n m w : Nat} {Q : AV → AS → Prop} (hw : 1 ≤ w) (hw2 : w ≤ 12) (ha : σ.H a = some (nats (dg (2 ^ w) n))) (hm : m < 2 ^ w) (hz : (dg (2 ^ w) n).length ≤ 1000)
    (k : ∀ l H', Ext σ.H H' → σ.H l = none → H' l = some (nats (dg (2 ^ w) (n * m))) → Q (.ref l) { σ with H := H' }) : CALL W c (.ref (G.f 7)) [.ref a, .int (m : Int), .int (w : Int)] σ Q := by
  have hf' : IsFn W.K _ (G.f 7) _ _ _ := G.h7
  have B := G.B
  have hB : 2 ≤ 2 ^ w := by
    have : 2 ^ 1 ≤ 2 ^ w := Nat.pow_le_pow_right (by decide) hw
    simpa using this
  have hB2 : 2 ^ w ≤ 4096 := by
    have : 2 ^ w ≤ 2 ^ 12 := Nat.pow_le_pow_right (by decide) hw2
    simpa using this
  refine CALL_fn (xs := [Str.ofString "a", Str.ofString "limb", Str.ofString "w"]) C Rm hf' ?_ rfl (by decide) rfl rfl rfl rfl rfl (by decide) ?_
  · ((exact rfl))
  clear hf'
  intro r C' R'
  have hL := dg_lm hB n
  have hV := dg_val hB n
  have hge := dg_ge hB (n := n)
  have hnil := dg_nil hB (n := n)
  generalize dg (2 ^ w) n = L at *
  ((with_reducible refine' EX_seq ?_); (with_reducible refine' E1_if ?_); ((with_reducible refine' TS_cmp ?q202 ?_); (case q202 => rfl)); ((with_reducible refine' EV_loc ?q203 ?q205 ?q206 ?q204 ?_); (case q203 => assumption); (case q205 => rfl); (case q206 => rfl); (case q204 => decide)); ((with_reducible refine' EV_intN ?q207 ?_); (case q207 => first | exact Int.cast_ofNat_Int.symm | rfl)); (with_reducible refine' CMP_eq ?_))
  ((((with_reducible refine' And.intro (fun hc => ?_) (fun hc => ?_)) <;> (simp only [decide_eq_true_eq, decide_eq_false_iff_not, Bool.not_eq_true', Bool.not_eq_false', Bool.not_true, Bool.not_false, reduceCtorEq] at hc)) <;> (revert hc; intro _)))
  · rename_i h0
    ((with_reducible refine' EX_seq ?_); (with_reducible refine' E1_return ?_); (with_reducible refine' EV_nilN ?_))
    intro l H' he hn hl
    ((with_reducible refine' Cont_ret ?_); (with_reducible refine' Cont_ret ?_); ((with_reducible refine' RetQ_ret ?_); try dsimp only))
    refine k l H' he hn ?_
    rw [hl, show m = 0 by lia, Nat.mul_zero, dg_zero hB]
  · rename_i h0
    ((with_reducible refine' EX_nil ?_); ((with_reducible refine' Cont_norm ?q208 ?_); (case q208 => ((dsimp only [frameOf, List.set_cons_zero, List.set_cons_succ]); (try exact rfl)))); (with_reducible refine' EX_seq ?_); ((with_reducible refine' E1_tup3 ?q209 ?q213 ?q214 ?q210 ?q211 ?q212 ?_); (case q209 => assumption); (case q213 => rfl); (case q214 => rfl); (case q210 => rfl); (case q211 => rfl); (case q212 => rfl)); ((with_reducible refine' SP_cons ?q215 ?_); (case q215 => rfl)); (with_reducible refine' EV_nilN ?_))
    intro l H1 he1 hn1 hl1
    have he1 : Ext σ.H H1 := he1
    have hn1 : σ.H l = none := hn1
    have hla := ne_fresh hn1 ha
    (((with_reducible refine' SP_cons ?q216 ?_); (case q216 => rfl)); ((with_reducible refine' EV_intN ?q217 ?_); (case q217 => first | exact Int.cast_ofNat_Int.symm | rfl)); ((with_reducible refine' SP_cons ?q218 ?_); (case q218 => rfl)); (with_reducible refine' EV_bin ?_); (with_reducible refine' EV_bin ?_); ((with_reducible refine' EV_intN ?q219 ?_); (case q219 => first | exact Int.cast_ofNat_Int.symm | rfl)); ((with_reducible refine' EV_loc ?q220 ?q222 ?q223 ?q221 ?_); (case q220 => assumption); (case q222 => rfl); (case q223 => rfl); (case q221 => decide)); ((with_reducible refine' BIN_shl1 ?q224 ?_); (case q224 => (((exact Nat.le_trans (by assumption) (by decide)))))); ((with_reducible refine' EV_intN ?q225 ?_); (case q225 => first | exact Int.cast_ofNat_Int.symm | rfl)); ((with_reducible refine' BIN_subN ?q226 ?_); (case q226 => (((exact Nat.le_of_lt (by assumption)))))); (with_reducible refine' SP_nil ?_); (with_reducible refine' At3.intro _ _ _ ?_); ((with_reducible refine' Cont_norm ?q227 ?_); (case q227 => ((dsimp only [frameOf, List.set_cons_zero, List.set_cons_succ]); (try exact rfl)))); (with_reducible refine' EX_seq ?_))
    refine E1_listN (by assumption) rfl (fun _ => rfl) (MulInv a l L m w σ.H) ?_
    (((with_reducible refine' EV_loc ?q228 ?q230 ?q231 ?q229 ?_); (case q228 => assumption); (case q230 => rfl); (case q231 => rfl); (case q229 => decide)))
    refine ⟨a, L, rfl, he1 _ _ ha, ⟨[], 0, del H1 a, rfl, lm_nil, by lia, by simp [val], del_of hl1 hla, ext_del he1, rfl⟩, ?_, ?_⟩
    · rintro j _ hj ⟨F, cy, H', hF1, hF2, hcy, hv, hH', hE, rfl⟩
      obtain ⟨t1, t2, t3, t4⟩ := mul_turn hB hj hL hm hF1 hF2 hcy hv
      have hx := hL.get (by lia) j
      (((refine' EX_norm ?q232 ?_); (case q232 => ((dsimp only [frameOf, List.set_cons_zero, List.set_cons_succ]); (try exact rfl)))))
      ((with_reducible refine' EX_seq ?_); ((with_reducible refine' E1_aug ?q233 ?q234 ?q235 ?_); (case q233 => assumption); (case q234 => rfl); (case q235 => rfl)); (with_reducible refine' EV_bin ?_); ((with_reducible refine' EV_loc ?q236 ?q238 ?q239 ?q237 ?_); (case q236 => assumption); (case q238 => rfl); (case q239 => rfl); (case q237 => decide)); ((with_reducible refine' EV_loc ?q240 ?q242 ?q243 ?q241 ?_); (case q240 => assumption); (case q242 => rfl); (case q243 => rfl); (case q241 => decide)); ((with_reducible refine' BIN_mulN ?q244 ?_); (case q244 => (((generalize 2 ^ _ = D at *; lia))))); (with_reducible refine' INP_addN ?_); ((with_reducible refine' Cont_norm ?q245 ?_); (case q245 => ((dsimp only [frameOf, List.set_cons_zero, List.set_cons_succ]); (try exact rfl)))); (with_reducible refine' EX_seq ?_); ((with_reducible refine' E1_expr ?q246 ?q247 ?_); (case q246 => rfl); (case q247 => rfl)); ((with_reducible refine' EV_appendN ?q249 ?q248 ?_); (case q249 => rfl); (case q248 => rfl)); ((with_reducible refine' EV_loc ?q250 ?q252 ?q253 ?q251 ?_); (case q250 => assumption); (case q252 => rfl); (case q253 => rfl); (case q251 => decide)))
      (((refine' ⟨_, _, rfl, ?q254, ?_⟩); (case q254 => assumption)))
      ((with_reducible refine' EV_bin ?_); ((with_reducible refine' EV_loc ?q255 ?q257 ?q258 ?q256 ?_); (case q255 => assumption); (case q257 => rfl); (case q258 => rfl); (case q256 => decide)); ((with_reducible refine' EV_loc ?q259 ?q261 ?q262 ?q260 ?_); (case q259 => assumption); (case q261 => rfl); (case q262 => rfl); (case q260 => decide)); (with_reducible refine' BIN_mask ?_))
      (((refine' ⟨_, _, _, rfl, ?q264, ?q263, ?q265, ?_⟩); (case q264 => rfl); (case q263 => assumption); (case q265 => ((lia)))))
      intro H2 hH2 hH2'
      refine ⟨rfl, ?_⟩
      (((with_reducible refine' Cont_norm ?q266 ?_); (case q266 => ((dsimp only [frameOf, List.set_cons_zero, List.set_cons_succ]); (try exact rfl)))); (with_reducible refine' EX_seq ?_); ((with_reducible refine' E1_aug ?q267 ?q268 ?q269 ?_); (case q267 => assumption); (case q268 => rfl); (case q269 => rfl)); ((with_reducible refine' EV_loc ?q270 ?q272 ?q273 ?q271 ?_); (case q270 => assumption); (case q272 => rfl); (case q273 => rfl); (case q271 => decide)); (with_reducible refine' INP_shrN ?_); ((with_reducible refine' Cont_norm ?q274 ?_); (case q274 => ((dsimp only [frameOf, List.set_cons_zero, List.set_cons_succ]); (try exact rfl)))); (with_reducible refine' EX_nil ?_))
      refine LoopQ_next { m := [some (.ref a), some (.int m), some (.int w), some (.ref l), some (.int ((cy + L.getD j 0 * m) / 2 ^ w : Nat)), some (.int (2 ^ w - 1 : Nat)), none], H := H2 } ?_ ⟨_, _, H2, t1, t2, t3, t4, hH2, hE.step (del_none hn1) hH2', rfl⟩
      ((refine' ⟨?q276, ?q275⟩; (case q275 => first | exact Ext.refl _ | assumption); (case q276 => repeat (first | exact MLe.nil _ | refine' MLe.none ?_ | refine' MLe.some' rfl ?_))))
    · rintro _ ⟨F, cy, H', hF1, hF2, hcy, hv, hH', hE, rfl⟩
      rw [List.take_length, hV] at hv
      have hE' := ext_back hE ha
      have hl' := upd_of (o := nats L) hH' hla
      (((with_reducible refine' Cont_norm ?q277 ?_); (case q277 => ((dsimp only [frameOf, List.set_cons_zero, List.set_cons_succ]); (try exact rfl)))); (with_reducible refine' EX_seq ?_); (with_reducible refine' E1_if ?_); ((with_reducible refine' TS_cmp ?q278 ?_); (case q278 => rfl)); ((with_reducible refine' EV_loc ?q279 ?q281 ?q282 ?q280 ?_); (case q279 => assumption); (case q281 => rfl); (case q282 => rfl); (case q280 => decide)); ((with_reducible refine' EV_intN ?q283 ?_); (case q283 => first | exact Int.cast_ofNat_Int.symm | rfl)); (with_reducible refine' CMP_gt ?_))
      ((((with_reducible refine' And.intro (fun hc => ?_) (fun hc => ?_)) <;> (simp only [decide_eq_true_eq, decide_eq_false_iff_not, Bool.not_eq_true', Bool.not_eq_false', Bool.not_true, Bool.not_false, reduceCtorEq] at hc)) <;> (revert hc; intro _)))
      · rename_i hc
        ((with_reducible refine' EX_seq ?_); ((with_reducible refine' E1_expr ?q284 ?q285 ?_); (case q284 => rfl); (case q285 => rfl)); ((with_reducible refine' EV_appendN ?q287 ?q286 ?_); (case q287 => rfl); (case q286 => rfl)); ((with_reducible refine' EV_loc ?q288 ?q290 ?q291 ?q289 ?_); (case q288 => assumption); (case q290 => rfl); (case q291 => rfl); (case q289 => decide)))
        (((refine' ⟨_, _, rfl, ?q292, ?_⟩); (case q292 => assumption)))
        (((with_reducible refine' EV_loc ?q293 ?q295 ?q296 ?q294 ?_); (case q293 => assumption); (case q295 => rfl); (case q296 => rfl); (case q294 => decide)))
        (((refine' ⟨_, _, _, rfl, ?q298, ?q297, ?q299, ?_⟩); (case q298 => rfl); (case q297 => assumption); (case q299 => ((lia)))))
        intro H2 hH2 hH2'
        refine ⟨rfl, ?_⟩
        (((with_reducible refine' Cont_norm ?q300 ?_); (case q300 => ((dsimp only [frameOf, List.set_cons_zero, List.set_cons_succ]); (try exact rfl)))); (with_reducible refine' EX_nil ?_); ((with_reducible refine' Cont_norm ?q301 ?_); (case q301 => ((dsimp only [frameOf, List.set_cons_zero, List.set_cons_succ]); (try exact rfl)))); (with_reducible refine' EX_seq ?_); (with_reducible refine' E1_return ?_); ((with_reducible refine' EV_loc ?q302 ?q304 ?q305 ?q303 ?_); (case q302 => assumption); (case q304 => rfl); (case q305 => rfl); (case q303 => decide)); (with_reducible refine' Cont_ret ?_); ((with_reducible refine' RetQ_ret ?_); try dsimp only))
        refine k l H2 (hE'.step hn1 hH2') hn1 ?_
        rw [hH2, ← dg_snoc hB hF2 hcy (by lia), val_snoc, hF1, hv, Nat.mul_comm]
      · rename_i hc
        ((with_reducible refine' EX_nil ?_); ((with_reducible refine' Cont_norm ?q306 ?_); (case q306 => ((dsimp only [frameOf, List.set_cons_zero, List.set_cons_succ]); (try exact rfl)))); (with_reducible refine' EX_seq ?_); (with_reducible refine' E1_return ?_); ((with_reducible refine' EV_loc ?q307 ?q309 ?q310 ?q308 ?_); (case q307 => assumption); (case q309 => rfl); (case q310 => rfl); (case q308 => decide)); (with_reducible refine' Cont_ret ?_); ((with_reducible refine' RetQ_ret ?_); try dsimp only))
        refine k l _ hE' hn1 ?_
        rw [hl']
        have : cy = 0 := by lia
        subst this
        rw [Nat.mul_zero, Nat.add_zero] at hv
        rw [nf_of_ge hB hF2 ?_, hv, Nat.mul_comm]
        by_cases hn0 : n = 0
        · left
          have := hnil.mpr hn0
          rw [this] at hF1
          exact List.length_eq_zero_iff.mp hF1
        · right
          rw [hF1, hv]
          refine Nat.le_trans (hge (by lia)) ?_
          have : 1 * n ≤ m * n := Nat.mul_le_mul_right _ (by lia)
          lia

inductive SubInv (a b l : Addr) (L M : List Nat) (w : Nat) (H0 : AH) (k : Nat) (σ₁ : AS) : Prop
  | intro (F : List Nat) (bw : Nat) (H' : AH) (x y : Option AV) (f1 : F.length = k) (f2 : Lm (2 ^ w) F) (f3 : bw ≤ 1) (f4 : val (2 ^ w) (L.take k) + (2 ^ w) ^ k * bw = val (2 ^ w) F + val (2 ^ w) (M.take k)) (f5 : H' l = some (nats F)) (f6 : Ext H0 H') (f7 : σ₁ = { m := [some (.ref a), some (.ref b), some (.int w), some (.ref l), some (.int (bw : Nat)), some (.int (2 ^ w : Nat)), x, y, none, none, none, none, none], H := H' })
theorem sub_ok (G : FS W) (C : COk W c) (Rm : Room c 2) {a b : Addr} {n m w : Nat} {Q : AV → AS → Prop} (hw : 1 ≤ w) (hw2 : w ≤ 12) (ha : σ.H a = some (nats (dg (2 ^ w) m))) (hb : σ.H b = some (nats (dg (2 ^ w) n))) (hmn : n ≤ m) (hz : (dg (2 ^ w) m).length ≤ 1000)
    (k : ∀ l H', Ext σ.H H' → σ.H l = none → H' l = some (nats (dg (2 ^ w) (m - n))) → Q (.ref l) { σ with H := H' }) : CALL W c (.ref (G.f 6)) [.ref a, .ref b, .int (w : Int)] σ Q := by
  have hf' : IsFn W.K _ (G.f 6) _ _ _ := G.h6
  have B := G.B
  have hn5 := G.n5
  have hn4 := G.n4
  have hB : 2 ≤ 2 ^ w := by
    have : 2 ^ 1 ≤ 2 ^ w := Nat.pow_le_pow_right (by decide) hw
    simpa using this
  have hB2 : 2 ^ w ≤ 4096 := by
    have : 2 ^ w ≤ 2 ^ 12 := Nat.pow_le_pow_right (by decide) hw2
    simpa using this
  refine CALL_fn (xs := [Str.ofString "a", Str.ofString "b", Str.ofString "w"]) C Rm hf' ?_ rfl (by decide) rfl rfl rfl rfl rfl (by decide) ?_
  · ((exact rfl))
  clear hf'
  intro r C' R'
  have hML := dg_nf hB m
  have hMM := dg_nf hB n
  have hV := dg_val hB m
  have hV' := dg_val hB n
  have hlen := dg_len_mono hB hmn
  generalize dg (2 ^ w) m = L at *
  generalize dg (2 ^ w) n = M at *
  have hL := hML.1
  have hM := hMM.1
  ((with_reducible refine' EX_seq ?_); (with_reducible refine' E1_if ?_); ((with_reducible refine' TS_cmp ?q311 ?_); (case q311 => rfl)); ((with_reducible refine' EV_fnN ?q312 ?q317 ?q318 ?q316 ?q315 ?q313 ?q314 ?_); (case q312 => assumption); (case q317 => with_reducible assumption); (case q318 => rfl); (case q316 => decide); (case q315 => rfl); (case q313 => rfl); (case q314 => rfl)); ((with_reducible refine' SP_cons ?q319 ?_); (case q319 => rfl)); ((with_reducible refine' EV_loc ?q320 ?q322 ?q323 ?q321 ?_); (case q320 => assumption); (case q322 => rfl); (case q323 => rfl); (case q321 => decide)); ((with_reducible refine' SP_cons ?q324 ?_); (case q324 => rfl)); ((with_reducible refine' EV_loc ?q325 ?q327 ?q328 ?q326 ?_); (case q325 => assumption); (case q327 => rfl); (case q328 => rfl); (case q326 => decide)); (with_reducible refine' SP_nil ?_))
  refine compare_ok G.h5 B (by assumption) R' ha hb hB hML hMM hz (by (exact Nat.le_trans (by assumption) (by assumption))) fun r hr => ?_
  (((with_reducible refine' EV_intN ?q329 ?_); (case q329 => first | exact Int.cast_ofNat_Int.symm | rfl)); (with_reducible refine' CMP_lt ?_))
  have hr0 : 0 ≤ r := by
    rcases hr with ⟨_, h⟩ | ⟨h, _⟩ | ⟨h, _⟩
    · lia
    · lia
    · lia
  ((((with_reducible refine' And.intro (fun hc => ?_) (fun hc => ?_)) <;> (simp only [decide_eq_true_eq, decide_eq_false_iff_not, Bool.not_eq_true', Bool.not_eq_false', Bool.not_true, Bool.not_false, reduceCtorEq] at hc)) <;> (revert hc; intro _)))
  · rename_i hc; lia
  · ((with_reducible refine' EX_nil ?_); ((with_reducible refine' Cont_norm ?q330 ?_); (case q330 => ((dsimp only [frameOf, List.set_cons_zero, List.set_cons_succ]); (try exact rfl)))); (with_reducible refine' EX_seq ?_); ((with_reducible refine' E1_tup3 ?q331 ?q335 ?q336 ?q332 ?q333 ?q334 ?_); (case q331 => assumption); (case q335 => rfl); (case q336 => rfl); (case q332 => rfl); (case q333 => rfl); (case q334 => rfl)); ((with_reducible refine' SP_cons ?q337 ?_); (case q337 => rfl)); (with_reducible refine' EV_nilN ?_))
    intro l H1 he1 hn1 hl1
    have he1 : Ext σ.H H1 := he1
    have hn1 : σ.H l = none := hn1
    (((with_reducible refine' SP_cons ?q338 ?_); (case q338 => rfl)); ((with_reducible refine' EV_intN ?q339 ?_); (case q339 => first | exact Int.cast_ofNat_Int.symm | rfl)); ((with_reducible refine' SP_cons ?q340 ?_); (case q340 => rfl)); (with_reducible refine' EV_bin ?_); ((with_reducible refine' EV_intN ?q341 ?_); (case q341 => first | exact Int.cast_ofNat_Int.symm | rfl)); ((with_reducible refine' EV_loc ?q342 ?q344 ?q345 ?q343 ?_); (case q342 => assumption); (case q344 => rfl); (case q345 => rfl); (case q343 => decide)); ((with_reducible refine' BIN_shl1 ?q346 ?_); (case q346 => (((exact Nat.le_trans (by assumption) (by decide)))))); (with_reducible refine' SP_nil ?_); (with_reducible refine' At3.intro _ _ _ ?_); ((with_reducible refine' Cont_norm ?q347 ?_); (case q347 => ((dsimp only [frameOf, List.set_cons_zero, List.set_cons_succ]); (try exact rfl)))); (with_reducible refine' EX_seq ?_))
    refine E1_range1 (by assumption) ⟨rfl, B.range, by decide, by decide⟩ bb_range rfl rfl rfl (fun _ => rfl) (SubInv a b l L M w σ.H) ?_
    (((with_reducible refine' EV_lenN ?q349 ?q348 ?q352 ?q351 ?q350 ?_); (case q349 => assumption); (case q348 => assumption); (case q352 => rfl); (case q351 => rfl); (case q350 => rfl)); ((with_reducible refine' EV_loc ?q353 ?q355 ?q356 ?q354 ?_); (case q353 => assumption); (case q355 => rfl); (case q356 => rfl); (case q354 => decide)))
    have ha1 := he1 _ _ ha
    (((refine' ⟨_, _, rfl, ?q357, ?q358, ?_⟩); (case q357 => assumption); (case q358 => ((lia)))))
    refine ⟨_, ⟨by lia, ⟨[], 0, H1, none, none, rfl, lm_nil, by (exact Nat.zero_le _), by simp [val], hl1, he1, rfl⟩, ?_, ?_⟩⟩
    · rintro j _ hj ⟨F, bw, H', x, y, hF1, hF2, hbw, hv, hH', hE, rfl⟩
      have ha' := hE _ _ ha
      have hb' := hE _ _ hb
      have hx := hL.get (by lia) j
      have hy := hM.get (by lia) j
      (((refine' EX_norm ?q359 ?_); (case q359 => ((dsimp only [frameOf, List.set_cons_zero, List.set_cons_succ]); (try exact rfl)))))
      ((with_reducible refine' EX_seq ?_); ((with_reducible refine' E1_assign ?q360 ?q361 ?q362 ?_); (case q360 => assumption); (case q361 => rfl); (case q362 => rfl)); (with_reducible refine' EV_bin ?_); (with_reducible refine' EV_bin ?_); ((with_reducible refine' EV_idxN ?q363 ?_); (case q363 => intro _ _ _; rfl)); ((with_reducible refine' EV_loc ?q364 ?q366 ?q367 ?q365 ?_); (case q364 => assumption); (case q366 => rfl); (case q367 => rfl); (case q365 => decide)); ((with_reducible refine' EV_loc ?q368 ?q370 ?q371 ?q369 ?_); (case q368 => assumption); (case q370 => rfl); (case q371 => rfl); (case q369 => decide)))
      (((refine' ⟨_, _, _, _, rfl, rfl, ?q374, ?q372, ?q373, ?q375, ?_⟩); (case q374 => first | rfl | exact nat_sub1 (by first | assumption | lia)); (case q372 => assumption); (case q373 => ((assumption))); (case q375 => ((lia)))))
      (((with_reducible refine' EV_loc ?q376 ?q378 ?q379 ?q377 ?_); (case q376 => assumption); (case q378 => rfl); (case q379 => rfl); (case q377 => decide)); (with_reducible refine' BIN_sub ?_))
      refine EV_cut (.int ((M.getD j 0 : Nat) : Int)) ?_ ?_
      · ((with_reducible refine' EV_ite ?_); ((with_reducible refine' TS_cmp ?q380 ?_); (case q380 => rfl)); ((with_reducible refine' EV_loc ?q381 ?q383 ?q384 ?q382 ?_); (case q381 => assumption); (case q383 => rfl); (case q384 => rfl); (case q382 => decide)); ((with_reducible refine' EV_lenN ?q386 ?q385 ?q389 ?q388 ?q387 ?_); (case q386 => assumption); (case q385 => assumption); (case q389 => rfl); (case q388 => rfl); (case q387 => rfl)); ((with_reducible refine' EV_loc ?q390 ?q392 ?q393 ?q391 ?_); (case q390 => assumption); (case q392 => rfl); (case q393 => rfl); (case q391 => decide)))
        (((refine' ⟨_, _, rfl, ?q394, ?q395, ?_⟩); (case q394 => assumption); (case q395 => ((lia)))))
        ((with_reducible refine' CMP_lt ?_))
        ((((with_reducible refine' And.intro (fun hc => ?_) (fun hc => ?_)) <;> (simp only [decide_eq_true_eq, decide_eq_false_iff_not, Bool.not_eq_true', Bool.not_eq_false', Bool.not_true, Bool.not_false, reduceCtorEq] at hc)) <;> (revert hc; intro _)))
        · rename_i h
          (((with_reducible refine' EV_idxN ?q396 ?_); (case q396 => intro _ _ _; rfl)); ((with_reducible refine' EV_loc ?q397 ?q399 ?q400 ?q398 ?_); (case q397 => assumption); (case q399 => rfl); (case q400 => rfl); (case q398 => decide)); ((with_reducible refine' EV_loc ?q401 ?q403 ?q404 ?q402 ?_); (case q401 => assumption); (case q403 => rfl); (case q404 => rfl); (case q402 => decide)))
          (((refine' ⟨_, _, _, _, rfl, rfl, ?q407, ?q405, ?q406, ?q408, ?_⟩); (case q407 => first | rfl | exact nat_sub1 (by first | assumption | lia)); (case q405 => assumption); (case q406 => ((lia))); (case q408 => ((lia)))))
          exact ⟨rfl, rfl⟩
        · rename_i h
          (((with_reducible refine' EV_intN ?q409 ?_); (case q409 => first | exact Int.cast_ofNat_Int.symm | rfl)))
          rw [getD_out (by lia)]
          exact ⟨rfl, rfl⟩
      have key : ∀ d b2 : Nat, d < 2 ^ w → b2 ≤ 1 → L.getD j 0 + 2 ^ w * b2 = d + bw + M.getD j 0 → ∀ (st : AS) (z : Option AV) H2, H2 l = some (nats (F ++ [d])) → (∀ b, b ≠ l → H2 b = H' b) →
          Wk st { m := [some (.ref a), some (.ref b), some (.int w), some (.ref l), some (.int (b2 : Nat)), some (.int (2 ^ w : Nat)), none, none, none, none, none, none, none], H := H2 } →
          ∃ σ'', Wk st σ'' ∧ SubInv a b l L M w σ.H (j + 1) σ'' := by
        intro d b2 hd hb2 hx st z H2 h1 h2 hwk
        obtain ⟨t1, t2, t3⟩ := sub_turn hF1 hF2 hd hv hx
        exact ⟨_, hwk, _, b2, H2, none, none, t1, t2, hb2, t3, h1, hE.step hn1 h2, rfl⟩
      have hyb : bw + M.getD j 0 ≤ L.getD j 0 + 2 ^ w := Nat.le_trans (Nat.succ_le_of_lt hy |> Nat.le_trans (by rw [Nat.add_comm, Nat.succ_eq_add_one]; exact Nat.add_le_add_left hbw _)) (Nat.le_add_left _ _)
      ((with_reducible refine' BIN_sub ?_); ((with_reducible refine' Cont_norm ?q410 ?_); (case q410 => ((dsimp only [frameOf, List.set_cons_zero, List.set_cons_succ]); (try exact rfl)))); (with_reducible refine' EX_seq ?_); ((with_reducible refine' E1_assign ?q411 ?q412 ?q413 ?_); (case q411 => assumption); (case q412 => rfl); (case q413 => rfl)); (with_reducible refine' EV_ite ?_); ((with_reducible refine' TS_cmp ?q414 ?_); (case q414 => rfl)); ((with_reducible refine' EV_loc ?q415 ?q417 ?q418 ?q416 ?_); (case q415 => assumption); (case q417 => rfl); (case q418 => rfl); (case q416 => decide)); ((with_reducible refine' EV_intN ?q419 ?_); (case q419 => first | exact Int.cast_ofNat_Int.symm | rfl)); (with_reducible refine' CMP_lt ?_))
      ((((with_reducible refine' And.intro (fun hc => ?_) (fun hc => ?_)) <;> (simp only [decide_eq_true_eq, decide_eq_false_iff_not, Bool.not_eq_true', Bool.not_eq_false', Bool.not_true, Bool.not_false, reduceCtorEq] at hc)) <;> (revert hc; intro _)))
      · rename_i hlt
        (((with_reducible refine' EV_intN ?q420 ?_); (case q420 => first | exact Int.cast_ofNat_Int.symm | rfl)); ((with_reducible refine' Cont_norm ?q421 ?_); (case q421 => ((dsimp only [frameOf, List.set_cons_zero, List.set_cons_succ]); (try exact rfl)))); (with_reducible refine' EX_seq ?_); ((with_reducible refine' E1_expr ?q422 ?q423 ?_); (case q422 => rfl); (case q423 => rfl)); ((with_reducible refine' EV_appendN ?q425 ?q424 ?_); (case q425 => rfl); (case q424 => rfl)); ((with_reducible refine' EV_loc ?q426 ?q428 ?q429 ?q427 ?_); (case q426 => assumption); (case q428 => rfl); (case q429 => rfl); (case q427 => decide)))
        (((refine' ⟨_, _, rfl, ?q430, ?_⟩); (case q430 => assumption)))
        ((with_reducible refine' EV_ite ?_); ((with_reducible refine' TS_cmp ?q431 ?_); (case q431 => rfl)); ((with_reducible refine' EV_loc ?q432 ?q434 ?q435 ?q433 ?_); (case q432 => assumption); (case q434 => rfl); (case q435 => rfl); (case q433 => decide)); ((with_reducible refine' EV_intN ?q436 ?_); (case q436 => first | exact Int.cast_ofNat_Int.symm | rfl)); (with_reducible refine' CMP_lt ?_))
        ((((with_reducible refine' And.intro (fun hc => ?_) (fun hc => ?_)) <;> (simp only [decide_eq_true_eq, decide_eq_false_iff_not, Bool.not_eq_true', Bool.not_eq_false', Bool.not_true, Bool.not_false, reduceCtorEq] at hc)) <;> (revert hc; intro _)))
        · ((with_reducible refine' EV_bin ?_); ((with_reducible refine' EV_loc ?q437 ?q439 ?q440 ?q438 ?_); (case q437 => assumption); (case q439 => rfl); (case q440 => rfl); (case q438 => decide)); ((with_reducible refine' EV_loc ?q441 ?q443 ?q444 ?q442 ?_); (case q441 => assumption); (case q443 => rfl); (case q444 => rfl); (case q442 => decide)); (with_reducible refine' BIN_add ?_))
          refine ⟨_, L.getD j 0 + 2 ^ w - bw - M.getD j 0, _, rfl, cw2 hyb, hH', by lia, ?_⟩
          intro H2 hH2 hH2'
          refine ⟨rfl, ?_⟩
          (((with_reducible refine' Cont_norm ?q445 ?_); (case q445 => ((dsimp only [frameOf, List.set_cons_zero, List.set_cons_succ]); (try exact rfl)))); (with_reducible refine' EX_nil ?_))
          refine key (L.getD j 0 + 2 ^ w - bw - M.getD j 0) 1 (cw1 hlt hyb) (Nat.le_refl 1) (cw3 hyb) _ none H2 hH2 hH2' ?_
          ((refine' ⟨?q447, ?q446⟩; (case q446 => first | exact Ext.refl _ | assumption); (case q447 => repeat (first | exact MLe.nil _ | refine' MLe.none ?_ | refine' MLe.some' rfl ?_))))
        · rename_i hge; first | exact absurd hlt hge | exact absurd hge hlt | lia
      · rename_i hlt
        (((with_reducible refine' EV_intN ?q448 ?_); (case q448 => first | exact Int.cast_ofNat_Int.symm | rfl)); ((with_reducible refine' Cont_norm ?q449 ?_); (case q449 => ((dsimp only [frameOf, List.set_cons_zero, List.set_cons_succ]); (try exact rfl)))); (with_reducible refine' EX_seq ?_); ((with_reducible refine' E1_expr ?q450 ?q451 ?_); (case q450 => rfl); (case q451 => rfl)); ((with_reducible refine' EV_appendN ?q453 ?q452 ?_); (case q453 => rfl); (case q452 => rfl)); ((with_reducible refine' EV_loc ?q454 ?q456 ?q457 ?q455 ?_); (case q454 => assumption); (case q456 => rfl); (case q457 => rfl); (case q455 => decide)))
        (((refine' ⟨_, _, rfl, ?q458, ?_⟩); (case q458 => assumption)))
        ((with_reducible refine' EV_ite ?_); ((with_reducible refine' TS_cmp ?q459 ?_); (case q459 => rfl)); ((with_reducible refine' EV_loc ?q460 ?q462 ?q463 ?q461 ?_); (case q460 => assumption); (case q462 => rfl); (case q463 => rfl); (case q461 => decide)); ((with_reducible refine' EV_intN ?q464 ?_); (case q464 => first | exact Int.cast_ofNat_Int.symm | rfl)); (with_reducible refine' CMP_lt ?_))
        ((((with_reducible refine' And.intro (fun hc => ?_) (fun hc => ?_)) <;> (simp only [decide_eq_true_eq, decide_eq_false_iff_not, Bool.not_eq_true', Bool.not_eq_false', Bool.not_true, Bool.not_false, reduceCtorEq] at hc)) <;> (revert hc; intro _)))
        · rename_i hge; first | exact absurd hlt hge | exact absurd hge hlt | lia
        · (((with_reducible refine' EV_loc ?q465 ?q467 ?q468 ?q466 ?_); (case q465 => assumption); (case q467 => rfl); (case q468 => rfl); (case q466 => decide)))
          refine ⟨_, L.getD j 0 - bw - M.getD j 0, _, rfl, dw2 hlt, hH', by lia, ?_⟩
          intro H2 hH2 hH2'
          refine ⟨rfl, ?_⟩
          (((with_reducible refine' Cont_norm ?q469 ?_); (case q469 => ((dsimp only [frameOf, List.set_cons_zero, List.set_cons_succ]); (try exact rfl)))); (with_reducible refine' EX_nil ?_))
          refine key (L.getD j 0 - bw - M.getD j 0) 0 (dw1 hx) (Nat.zero_le 1) (dw3 hlt) _ none H2 hH2 hH2' ?_
          ((refine' ⟨?q471, ?q470⟩; (case q470 => first | exact Ext.refl _ | assumption); (case q471 => repeat (first | exact MLe.nil _ | refine' MLe.none ?_ | refine' MLe.some' rfl ?_))))
    · rintro _ ⟨F, bw, H', x, y, hF1, hF2, hbw, hv, hH', hE, rfl⟩
      rw [List.take_length, List.take_of_length_le hlen, hV, hV'] at hv
      have hvl := val_lt hF2
      rw [hF1] at hvl
      have hbw0 : bw = 0 := by
        rcases Nat.eq_zero_or_pos bw with h | h
        · exact h
        · have : bw = 1 := by (exact Nat.le_antisymm (by assumption) (by assumption))
          subst this
          lia
      subst hbw0
      (((with_reducible refine' Cont_norm ?q472 ?_); (case q472 => ((dsimp only [frameOf, List.set_cons_zero, List.set_cons_succ]); (try exact rfl)))); (with_reducible refine' EX_seq ?_); (with_reducible refine' E1_return ?_); ((with_reducible refine' EV_fnN ?q473 ?q478 ?q479 ?q477 ?q476 ?q474 ?q475 ?_); (case q473 => assumption); (case q478 => with_reducible assumption); (case q479 => rfl); (case q477 => decide); (case q476 => rfl); (case q474 => rfl); (case q475 => rfl)); ((with_reducible refine' SP_cons ?q480 ?_); (case q480 => rfl)); ((with_reducible refine' EV_loc ?q481 ?q483 ?q484 ?q482 ?_); (case q481 => assumption); (case q483 => rfl); (case q484 => rfl); (case q482 => decide)); (with_reducible refine' SP_nil ?_))
      refine normal_ok G.h4 B (by assumption) (R'.mono (by (exact Nat.le_refl _))) hH' (by lia) fun l2 H2 he2 hn2 hl2 => ?_
      ((with_reducible refine' Cont_ret ?_); ((with_reducible refine' RetQ_ret ?_); try dsimp only))
      refine k l2 H2 (hE.trans he2) (hE.fresh hn2) ?_
      · rw [hl2, nrm_eq hB hF2]
        congr 2
        congr 1
        (subst_vars; lia)

inductive DlInv (a l : Addr) (L : List Nat) (m w : Nat) (H0 : AH) (j : Nat) (σ₁ : AS) : Prop
  | intro (F : List Nat) (r : Nat) (H' : AH) (f1 : F.length = L.length) (f2 : Lm (2 ^ w) F) (f3 : r < m) (f4 : val (2 ^ w) (L.drop (L.length - j)) = m * val (2 ^ w) (F.drop (L.length - j)) + r) (f5 : H' l = some (nats F)) (f6 : Ext H0 H') (f7 : σ₁ = { m := [some (.ref a), some (.int m), some (.int w), some (.ref l), some (.int (r : Nat)), none, none, none, none, none], H := H' })
theorem divrem_limb_ok (G : FS W) (C : COk W c) (Rm : Room c 2) {a : Addr} {n m w : Nat} {Q : AV → AS → Prop} (hw : 1 ≤ w) (hw2 : w ≤ 12) (ha : σ.H a = some (nats (dg (2 ^ w) n))) (hm0 : 0 < m) (hm : m < 2 ^ w) (hz : (dg (2 ^ w) n).length ≤ 1000)
    (k : ∀ t l H', Ext σ.H H' → σ.H l = none → H' t = some (.tup [.ref l, .int ((n % m : Nat) : Int)]) → H' l = some (nats (dg (2 ^ w) (n / m))) → Q (.ref t) { σ with H := H' }) : CALL W c (.ref (G.f 8)) [.ref a, .int (m : Int), .int (w : Int)] σ Q := by
  have hf' : IsFn W.K _ (G.f 8) _ _ _ := G.h8
  have B := G.B
  have hn4 := G.n4
  have hB := pw2 hw
  have hB2 := pw12 hw2
  refine CALL_fn (xs := [Str.ofString "a", Str.ofString "limb", Str.ofString "w"]) C Rm hf' ?_ rfl (by decide) rfl rfl rfl rfl rfl (by decide) ?_
  · ((exact rfl))
  clear hf'
  intro r C' R'
  have hL := dg_lm hB n
  have hV := dg_val hB n
  generalize dg (2 ^ w) n = L at *
  ((with_reducible refine' EX_seq ?_); (with_reducible refine' E1_if ?_); ((with_reducible refine' TS_cmp ?q485 ?_); (case q485 => rfl)); ((with_reducible refine' EV_loc ?q486 ?q488 ?q489 ?q487 ?_); (case q486 => assumption); (case q488 => rfl); (case q489 => rfl); (case q487 => decide)); ((with_reducible refine' EV_intN ?q490 ?_); (case q490 => first | exact Int.cast_ofNat_Int.symm | rfl)); (with_reducible refine' CMP_eq ?_))
  ((((with_reducible refine' And.intro (fun hc => ?_) (fun hc => ?_)) <;> (simp only [decide_eq_true_eq, decide_eq_false_iff_not, Bool.not_eq_true', Bool.not_eq_false', Bool.not_true, Bool.not_false, reduceCtorEq] at hc)) <;> (revert hc; intro _)))
  · rename_i h; lia
  · ((with_reducible refine' EX_nil ?_); ((with_reducible refine' Cont_norm ?q491 ?_); (case q491 => ((dsimp only [frameOf, List.set_cons_zero, List.set_cons_succ]); (try exact rfl)))); (with_reducible refine' EX_seq ?_); ((with_reducible refine' E1_tup2 ?q492 ?q495 ?q496 ?q493 ?q494 ?_); (case q492 => assumption); (case q495 => rfl); (case q496 => rfl); (case q493 => rfl); (case q494 => rfl)); ((with_reducible refine' SP_cons ?q497 ?_); (case q497 => rfl)); (with_reducible refine' EV_bin ?_); ((with_reducible refine' EV_oneN ?q498 ?_); (case q498 => rfl)); ((with_reducible refine' EV_intN ?q499 ?_); (case q499 => first | exact Int.cast_ofNat_Int.symm | rfl)))
    (((refine' ⟨_, _, rfl, ?q500, ?_⟩); (case q500 => first | rfl | exact Int.cast_ofNat_Int.symm)))
    intro l0 H0 he0 hn0 hl0
    have he0 : Ext σ.H H0 := he0
    have ha0 := he0 _ _ ha
    (((with_reducible refine' EV_lenN ?q502 ?q501 ?q505 ?q504 ?q503 ?_); (case q502 => assumption); (case q501 => assumption); (case q505 => rfl); (case q504 => rfl); (case q503 => rfl)); ((with_reducible refine' EV_loc ?q506 ?q508 ?q509 ?q507 ?_); (case q506 => assumption); (case q508 => rfl); (case q509 => rfl); (case q507 => decide)))
    (((refine' ⟨_, _, rfl, ?q510, ?q511, ?_⟩); (case q510 => assumption); (case q511 => ((lia)))))
    (((refine' BIN_repN ?q512 ?q513 ?_); (case q512 => assumption); (case q513 => ((lia)))))
    intro l H1 he1 hn1 hl1
    have he1 : Ext H0 H1 := he1
    have hn1 : σ.H l = none := he0.fresh hn1
    have he01 := he0.trans he1
    have ha1 := he01 _ _ ha
    (((with_reducible refine' SP_cons ?q514 ?_); (case q514 => rfl)); ((with_reducible refine' EV_intN ?q515 ?_); (case q515 => first | exact Int.cast_ofNat_Int.symm | rfl)); (with_reducible refine' SP_nil ?_); (with_reducible refine' At2.intro _ _ ?_); ((with_reducible refine' Cont_norm ?q516 ?_); (case q516 => ((dsimp only [frameOf, List.set_cons_zero, List.set_cons_succ]); (try exact rfl)))); (with_reducible refine' EX_seq ?_))
    refine E1_range3 (by assumption) ⟨rfl, B.range, by decide, by decide⟩ bb_range rfl rfl rfl rfl rfl (fun _ => rfl) (DlInv a l L m w σ.H) ?_
    ((with_reducible refine' EV_bin ?_); ((with_reducible refine' EV_lenN ?q518 ?q517 ?q521 ?q520 ?q519 ?_); (case q518 => assumption); (case q517 => assumption); (case q521 => rfl); (case q520 => rfl); (case q519 => rfl)); ((with_reducible refine' EV_loc ?q522 ?q524 ?q525 ?q523 ?_); (case q522 => assumption); (case q524 => rfl); (case q525 => rfl); (case q523 => decide)))
    (((refine' ⟨_, _, rfl, ?q526, ?q527, ?_⟩); (case q526 => assumption); (case q527 => ((lia)))))
    (((with_reducible refine' EV_intN ?q528 ?_); (case q528 => first | exact Int.cast_ofNat_Int.symm | rfl)); (with_reducible refine' BIN_sub ?_); (with_reducible refine' EV_neg ?_); ((with_reducible refine' EV_intN ?q529 ?_); (case q529 => first | exact Int.cast_ofNat_Int.symm | rfl)); (with_reducible refine' AtI.intro _ ?_); (with_reducible refine' EV_neg ?_); ((with_reducible refine' EV_intN ?q530 ?_); (case q530 => first | exact Int.cast_ofNat_Int.symm | rfl)); (with_reducible refine' AtI.intro _ ?_))
    refine ⟨_, rfl, by rfl, by rfl, by lia, ⟨List.replicate L.length 0, 0, H1, by simp, Lm.replicate (by lia) _, by (omega), ?_, hl1, he01, rfl⟩, ?_, ?_⟩
    · rw [Nat.sub_zero, List.drop_length, List.drop_of_length_le (by simp)]; simp [val]
    · rintro j _ hj ⟨F, r, H', hF1, hF2, hr, hv, hH', hE, rfl⟩
      have ha' := hE _ _ ha
      have hx := hL.get (by lia) (L.length - 1 - j)
      rw [show L.length - j = L.length - 1 - j + 1 by lia] at hv
      obtain ⟨t1, t2, t3, t4⟩ := div_turn (by lia) hF1 hF2 hm0 hr hx hv
      (((refine' EX_norm ?q531 ?_); (case q531 => ((dsimp only [frameOf, List.set_cons_zero, List.set_cons_succ]); (try exact rfl)))))
      ((with_reducible refine' EX_seq ?_); ((with_reducible refine' E1_assign ?q532 ?q533 ?q534 ?_); (case q532 => assumption); (case q533 => rfl); (case q534 => rfl)); (with_reducible refine' EV_bin ?_); (with_reducible refine' EV_bin ?_); ((with_reducible refine' EV_loc ?q535 ?q537 ?q538 ?q536 ?_); (case q535 => assumption); (case q537 => rfl); (case q538 => rfl); (case q536 => decide)); ((with_reducible refine' EV_loc ?q539 ?q541 ?q542 ?q540 ?_); (case q539 => assumption); (case q541 => rfl); (case q542 => rfl); (case q540 => decide)); ((with_reducible refine' BIN_shlN ?q543 ?q544 ?_); (case q543 => ((lia))); (case q544 => ((lia)))); ((with_reducible refine' EV_idxN ?q545 ?_); (case q545 => intro _ _ _; rfl)); ((with_reducible refine' EV_loc ?q546 ?q548 ?q549 ?q547 ?_); (case q546 => assumption); (case q548 => rfl); (case q549 => rfl); (case q547 => decide)); ((with_reducible refine' EV_loc ?q550 ?q552 ?q553 ?q551 ?_); (case q550 => assumption); (case q552 => rfl); (case q553 => rfl); (case q551 => decide)))
      (((refine' ⟨_, _, _, _, rfl, rfl, ?q556, ?q554, ?q555, ?q557, ?_⟩); (case q556 => first | rfl | exact nat_sub1 (by first | assumption | lia)); (case q554 => assumption); (case q555 => ((lia))); (case q557 => ((lia)))))
      (((with_reducible refine' BIN_or1 ?q558 ?_); (case q558 => ((assumption)))); ((with_reducible refine' Cont_norm ?q559 ?_); (case q559 => ((dsimp only [frameOf, List.set_cons_zero, List.set_cons_succ]); (try exact rfl)))); (with_reducible refine' EX_seq ?_); ((with_reducible refine' E1_setitemN ?q560 ?_); (case q560 => rfl)); (with_reducible refine' EV_bin ?_); ((with_reducible refine' EV_loc ?q561 ?q563 ?q564 ?q562 ?_); (case q561 => assumption); (case q563 => rfl); (case q564 => rfl); (case q562 => decide)); ((with_reducible refine' EV_loc ?q565 ?q567 ?q568 ?q566 ?_); (case q565 => assumption); (case q567 => rfl); (case q568 => rfl); (case q566 => decide)); ((with_reducible refine' BIN_divN ?q569 ?q570 ?_); (case q569 => ((lia))); (case q570 => ((lia)))); ((with_reducible refine' EV_loc ?q571 ?q573 ?q574 ?q572 ?_); (case q571 => assumption); (case q573 => rfl); (case q574 => rfl); (case q572 => decide)); ((with_reducible refine' EV_loc ?q575 ?q577 ?q578 ?q576 ?_); (case q575 => assumption); (case q577 => rfl); (case q578 => rfl); (case q576 => decide)))
      (((refine' ⟨_, _, _, _, _, _, rfl, rfl, rfl, ?q582, ?q581, ?q579, ?q580, ?q583, ?_⟩); (case q582 => rfl); (case q581 => rfl); (case q579 => assumption); (case q580 => (((generalize 2 ^ _ = D at *; omega)))); (case q583 => ((lia)))))
      intro H2 hH2 hH2'
      (((with_reducible refine' Cont_norm ?q584 ?_); (case q584 => ((dsimp only [frameOf, List.set_cons_zero, List.set_cons_succ]); (try exact rfl)))); (with_reducible refine' EX_seq ?_); ((with_reducible refine' E1_aug ?q585 ?q586 ?q587 ?_); (case q585 => assumption); (case q586 => rfl); (case q587 => rfl)); ((with_reducible refine' EV_loc ?q588 ?q590 ?q591 ?q589 ?_); (case q588 => assumption); (case q590 => rfl); (case q591 => rfl); (case q589 => decide)); ((with_reducible refine' INP_modN ?q592 ?_); (case q592 => ((lia)))); ((with_reducible refine' Cont_norm ?q593 ?_); (case q593 => ((dsimp only [frameOf, List.set_cons_zero, List.set_cons_succ]); (try exact rfl)))); (with_reducible refine' EX_nil ?_))
      refine LoopQ_next { m := [some (.ref a), some (.int m), some (.int w), some (.ref l), some (.int ((r * 2 ^ w + L.getD (L.length - 1 - j) 0) % m : Nat)), none, none, none, none, none], H := H2 } ?_ ⟨_, _, H2, t1, t2, t3, ?_, hH2, hE.step hn1 hH2', rfl⟩
      · ((refine' ⟨?q595, ?q594⟩; (case q594 => first | exact Ext.refl _ | assumption); (case q595 => repeat (first | exact MLe.nil _ | refine' MLe.none ?_ | refine' MLe.some' rfl ?_))))
      · rw [show L.length - (j + 1) = L.length - 1 - j by lia]
        exact t4
    · rintro _ ⟨F, r, H', hF1, hF2, hr, hv, hH', hE, rfl⟩
      rw [Nat.sub_self, List.drop_zero, List.drop_zero, hV] at hv
      obtain ⟨d1, d2⟩ := div_end hr hv
      (((with_reducible refine' Cont_norm ?q596 ?_); (case q596 => ((dsimp only [frameOf, List.set_cons_zero, List.set_cons_succ]); (try exact rfl)))); (with_reducible refine' EX_seq ?_); (with_reducible refine' E1_return ?_); (with_reducible refine' EV_tuple ?_); ((with_reducible refine' SP_cons ?q597 ?_); (case q597 => rfl)); ((with_reducible refine' EV_fnN ?q598 ?q603 ?q604 ?q602 ?q601 ?q599 ?q600 ?_); (case q598 => assumption); (case q603 => with_reducible assumption); (case q604 => rfl); (case q602 => decide); (case q601 => rfl); (case q599 => rfl); (case q600 => rfl)); ((with_reducible refine' SP_cons ?q605 ?_); (case q605 => rfl)); ((with_reducible refine' EV_loc ?q606 ?q608 ?q609 ?q607 ?_); (case q606 => assumption); (case q608 => rfl); (case q609 => rfl); (case q607 => decide)); (with_reducible refine' SP_nil ?_))
      refine normal_ok G.h4 B (by assumption) (R'.mono (by lia)) hH' (by lia) fun l2 H2 he2 hn2 hl2 => ?_
      (((with_reducible refine' SP_cons ?q610 ?_); (case q610 => rfl)); ((with_reducible refine' EV_loc ?q611 ?q613 ?q614 ?q612 ?_); (case q611 => assumption); (case q613 => rfl); (case q614 => rfl); (case q612 => decide)); (with_reducible refine' SP_nil ?_))
      refine ⟨Nat.le_of_ble_eq_true rfl, ?_⟩
      intro t H3 he3 hn3 hl3
      ((with_reducible refine' Cont_ret ?_); ((with_reducible refine' RetQ_ret ?_); try dsimp only))
      refine k t l2 H3 ((hE.trans he2).trans he3) (hE.fresh hn2) ?_ ?_
      · rw [hl3, d2]
      · rw [he3 _ _ hl2, nrm_eq hB hF2, d1]

inductive ShlInv (a l : Addr) (L : List Nat) (s w : Nat) (H0 : AH) (k : Nat) (σ₁ : AS) : Prop
  | intro (F : List Nat) (cy : Nat) (H' : AH) (f1 : F.length = k) (f2 : Lm (2 ^ w) F) (f3 : cy < 2 ^ s) (f4 : val (2 ^ w) F + (2 ^ w) ^ k * cy = 2 ^ s * val (2 ^ w) (L.take k)) (f5 : H' l = some (nats F)) (f6 : Ext (del H0 a) H') (f7 : σ₁ = { m := [some (.ref a), some (.int s), some (.int w), some (.int ((0 : Nat) : Int)), some (.int s), some (.ref l), some (.int (cy : Nat)), some (.int (2 ^ w - 1 : Nat)), none, none], H := H' })
theorem shift_left_ok (G : FS W) (C : COk W c) (Rm : Room c 1) {a : Addr} {n s w : Nat} {Q : AV → AS → Prop} (hw : 1 ≤ w) (hw2 : w ≤ 12) (ha : σ.H a = some (nats (dg (2 ^ w) n))) (hs : s < w) (hz : (dg (2 ^ w) n).length ≤ 1000)
    (k : ∀ l H', Ext σ.H H' → σ.H l = none → H' l = some (nats (dg (2 ^ w) (n * 2 ^ s))) → Q (.ref l) { σ with H := H' }) : CALL W c (.ref (G.f 9)) [.ref a, .int (s : Int), .int (w : Int)] σ Q := by
  have hf' : IsFn W.K _ (G.f 9) _ _ _ := G.h9
  have B := G.B
  have hB := pw2 hw
  have hB2 := pw12 hw2
  refine CALL_fn (xs := [Str.ofString "a", Str.ofString "n", Str.ofString "w"]) C Rm hf' ?_ rfl (by decide) rfl rfl rfl rfl rfl (by decide) ?_
  · ((exact rfl))
  clear hf'
  intro r C' R'
  have hL := dg_lm hB n
  have hV := dg_val hB n
  have hge := dg_ge hB (n := n)
  have hnil := dg_nil hB (n := n)
  have hsB : 2 ^ s ≤ 2 ^ w := Nat.pow_le_pow_right (by lia) (by (exact Nat.le_of_lt (by assumption)))
  generalize dg (2 ^ w) n = L at *
  ((with_reducible refine' EX_seq ?_); (with_reducible refine' E1_if ?_); ((with_reducible refine' TS_cmp ?q615 ?_); (case q615 => rfl)); ((with_reducible refine' EV_lenN ?q617 ?q616 ?q620 ?q619 ?q618 ?_); (case q617 => assumption); (case q616 => assumption); (case q620 => rfl); (case q619 => rfl); (case q618 => rfl)); ((with_reducible refine' EV_loc ?q621 ?q623 ?q624 ?q622 ?_); (case q621 => assumption); (case q623 => rfl); (case q624 => rfl); (case q622 => decide)))
  (((refine' ⟨_, _, rfl, ?q625, ?q626, ?_⟩); (case q625 => assumption); (case q626 => ((lia)))))
  (((with_reducible refine' EV_intN ?q627 ?_); (case q627 => first | exact Int.cast_ofNat_Int.symm | rfl)); (with_reducible refine' CMP_eq ?_))
  ((((with_reducible refine' And.intro (fun hc => ?_) (fun hc => ?_)) <;> (simp only [decide_eq_true_eq, decide_eq_false_iff_not, Bool.not_eq_true', Bool.not_eq_false', Bool.not_true, Bool.not_false, reduceCtorEq] at hc)) <;> (revert hc; intro _)))
  · rename_i h0
    ((with_reducible refine' EX_seq ?_); (with_reducible refine' E1_return ?_); (with_reducible refine' EV_nilN ?_))
    intro l H' he hn hl
    ((with_reducible refine' Cont_ret ?_); (with_reducible refine' Cont_ret ?_); ((with_reducible refine' RetQ_ret ?_); try dsimp only))
    refine k l H' he hn ?_
    rw [hl, hnil.mp (List.length_eq_zero_iff.mp (by lia)), Nat.zero_mul, dg_zero hB]
  · rename_i h0
    have hd0 : s / w = 0 := Nat.div_eq_of_lt hs
    have hm0 : s % w = s := Nat.mod_eq_of_lt hs
    ((with_reducible refine' EX_nil ?_); ((with_reducible refine' Cont_norm ?q628 ?_); (case q628 => ((dsimp only [frameOf, List.set_cons_zero, List.set_cons_succ]); (try exact rfl)))); (with_reducible refine' EX_seq ?_); ((with_reducible refine' E1_tup2 ?q629 ?q632 ?q633 ?q630 ?q631 ?_); (case q629 => assumption); (case q632 => rfl); (case q633 => rfl); (case q630 => rfl); (case q631 => rfl)); ((with_reducible refine' SP_cons ?q634 ?_); (case q634 => rfl)); (with_reducible refine' EV_bin ?_); ((with_reducible refine' EV_loc ?q635 ?q637 ?q638 ?q636 ?_); (case q635 => assumption); (case q637 => rfl); (case q638 => rfl); (case q636 => decide)); ((with_reducible refine' EV_loc ?q639 ?q641 ?q642 ?q640 ?_); (case q639 => assumption); (case q641 => rfl); (case q642 => rfl); (case q640 => decide)); ((with_reducible refine' BIN_divN ?q643 ?q644 ?_); (case q643 => (((exact Nat.ne_of_gt (by assumption))))); (case q644 => ((lia)))); ((with_reducible refine' SP_cons ?q645 ?_); (case q645 => rfl)); (with_reducible refine' EV_bin ?_); ((with_reducible refine' EV_loc ?q646 ?q648 ?q649 ?q647 ?_); (case q646 => assumption); (case q648 => rfl); (case q649 => rfl); (case q647 => decide)); ((with_reducible refine' EV_loc ?q650 ?q652 ?q653 ?q651 ?_); (case q650 => assumption); (case q652 => rfl); (case q653 => rfl); (case q651 => decide)); ((with_reducible refine' BIN_modN ?q654 ?_); (case q654 => ((lia)))); (with_reducible refine' SP_nil ?_); (with_reducible refine' At2.intro _ _ ?_); ((with_reducible refine' Cont_norm ?q655 ?_); (case q655 => ((dsimp only [frameOf, List.set_cons_zero, List.set_cons_succ]); (try exact rfl)))); (with_reducible refine' EX_seq ?_); ((with_reducible refine' E1_tup3 ?q656 ?q660 ?q661 ?q657 ?q658 ?q659 ?_); (case q656 => assumption); (case q660 => rfl); (case q661 => rfl); (case q657 => rfl); (case q658 => rfl); (case q659 => rfl)); ((with_reducible refine' SP_cons ?q662 ?_); (case q662 => rfl)); (with_reducible refine' EV_bin ?_); ((with_reducible refine' EV_oneN ?q663 ?_); (case q663 => rfl)); ((with_reducible refine' EV_intN ?q664 ?_); (case q664 => first | exact Int.cast_ofNat_Int.symm | rfl)))
    (((refine' ⟨_, _, rfl, ?q665, ?_⟩); (case q665 => first | rfl | exact Int.cast_ofNat_Int.symm)))
    intro l0 H0 he0 hn0 hl0
    have he0 : Ext σ.H H0 := he0
    (((with_reducible refine' EV_loc ?q666 ?q668 ?q669 ?q667 ?_); (case q666 => assumption); (case q668 => rfl); (case q669 => rfl); (case q667 => decide)))
    rw [hd0, hm0]
    (((refine' BIN_repN ?q670 ?q671 ?_); (case q670 => assumption); (case q671 => (((exact Nat.zero_le _))))))
    intro l H1 he1 hn1 hl1
    have he1 : Ext H0 H1 := he1
    have hn1 : σ.H l = none := he0.fresh hn1
    have he01 := he0.trans he1
    have hla := ne_fresh hn1 ha
    (((with_reducible refine' SP_cons ?q672 ?_); (case q672 => rfl)); ((with_reducible refine' EV_intN ?q673 ?_); (case q673 => first | exact Int.cast_ofNat_Int.symm | rfl)); ((with_reducible refine' SP_cons ?q674 ?_); (case q674 => rfl)); (with_reducible refine' EV_bin ?_); (with_reducible refine' EV_bin ?_); ((with_reducible refine' EV_intN ?q675 ?_); (case q675 => first | exact Int.cast_ofNat_Int.symm | rfl)); ((with_reducible refine' EV_loc ?q676 ?q678 ?q679 ?q677 ?_); (case q676 => assumption); (case q678 => rfl); (case q679 => rfl); (case q677 => decide)); ((with_reducible refine' BIN_shl1 ?q680 ?_); (case q680 => ((lia)))); ((with_reducible refine' EV_intN ?q681 ?_); (case q681 => first | exact Int.cast_ofNat_Int.symm | rfl)); ((with_reducible refine' BIN_subN ?q682 ?_); (case q682 => ((lia)))); (with_reducible refine' SP_nil ?_); (with_reducible refine' At3.intro _ _ _ ?_); ((with_reducible refine' Cont_norm ?q683 ?_); (case q683 => ((dsimp only [frameOf, List.set_cons_zero, List.set_cons_succ]); (try exact rfl)))); (with_reducible refine' EX_seq ?_))
    refine E1_listN (by assumption) rfl (fun _ => rfl) (ShlInv a l L s w σ.H) ?_
    (((with_reducible refine' EV_loc ?q684 ?q686 ?q687 ?q685 ?_); (case q684 => assumption); (case q686 => rfl); (case q687 => rfl); (case q685 => decide)))
    refine ⟨a, L, rfl, he01 _ _ ha, ⟨[], 0, del H1 a, rfl, lm_nil, Nat.two_pow_pos s, by simp [val], del_of hl1 hla, ext_del he01, rfl⟩, ?_, ?_⟩
    · rintro j _ hj ⟨F, cy, H', hF1, hF2, hcy, hv, hH', hE, rfl⟩
      obtain ⟨t1, t2, t3, t4⟩ := shl_turn hB hj hL hF1 hF2 hcy hv
      have hx := hL.get (by lia) j
      (((refine' EX_norm ?q688 ?_); (case q688 => ((dsimp only [frameOf, List.set_cons_zero, List.set_cons_succ]); (try exact rfl)))))
      ((with_reducible refine' EX_seq ?_); ((with_reducible refine' E1_aug ?q689 ?q690 ?q691 ?_); (case q689 => assumption); (case q690 => rfl); (case q691 => rfl)); (with_reducible refine' EV_bin ?_); ((with_reducible refine' EV_loc ?q692 ?q694 ?q695 ?q693 ?_); (case q692 => assumption); (case q694 => rfl); (case q695 => rfl); (case q693 => decide)); ((with_reducible refine' EV_loc ?q696 ?q698 ?q699 ?q697 ?_); (case q696 => assumption); (case q698 => rfl); (case q699 => rfl); (case q697 => decide)); ((with_reducible refine' BIN_shlN ?q700 ?q701 ?_); (case q700 => ((lia))); (case q701 => ((lia)))); ((with_reducible refine' INP_or2 ?q702 ?_); (case q702 => ((assumption)))); ((with_reducible refine' Cont_norm ?q703 ?_); (case q703 => ((dsimp only [frameOf, List.set_cons_zero, List.set_cons_succ]); (try exact rfl)))); (with_reducible refine' EX_seq ?_); ((with_reducible refine' E1_expr ?q704 ?q705 ?_); (case q704 => rfl); (case q705 => rfl)); ((with_reducible refine' EV_appendN ?q707 ?q706 ?_); (case q707 => rfl); (case q706 => rfl)); ((with_reducible refine' EV_loc ?q708 ?q710 ?q711 ?q709 ?_); (case q708 => assumption); (case q710 => rfl); (case q711 => rfl); (case q709 => decide)))
      (((refine' ⟨_, _, rfl, ?q712, ?_⟩); (case q712 => assumption)))
      ((with_reducible refine' EV_bin ?_); ((with_reducible refine' EV_loc ?q713 ?q715 ?q716 ?q714 ?_); (case q713 => assumption); (case q715 => rfl); (case q716 => rfl); (case q714 => decide)); ((with_reducible refine' EV_loc ?q717 ?q719 ?q720 ?q718 ?_); (case q717 => assumption); (case q719 => rfl); (case q720 => rfl); (case q718 => decide)); (with_reducible refine' BIN_mask ?_))
      (((refine' ⟨_, _, _, rfl, ?q722, ?q721, ?q723, ?_⟩); (case q722 => rfl); (case q721 => assumption); (case q723 => ((lia)))))
      intro H2 hH2 hH2'
      refine ⟨rfl, ?_⟩
      (((with_reducible refine' Cont_norm ?q724 ?_); (case q724 => ((dsimp only [frameOf, List.set_cons_zero, List.set_cons_succ]); (try exact rfl)))); (with_reducible refine' EX_seq ?_); ((with_reducible refine' E1_aug ?q725 ?q726 ?q727 ?_); (case q725 => assumption); (case q726 => rfl); (case q727 => rfl)); ((with_reducible refine' EV_loc ?q728 ?q730 ?q731 ?q729 ?_); (case q728 => assumption); (case q730 => rfl); (case q731 => rfl); (case q729 => decide)); (with_reducible refine' INP_shrN ?_); ((with_reducible refine' Cont_norm ?q732 ?_); (case q732 => ((dsimp only [frameOf, List.set_cons_zero, List.set_cons_succ]); (try exact rfl)))); (with_reducible refine' EX_nil ?_))
      refine LoopQ_next { m := [some (.ref a), some (.int s), some (.int w), some (.int ((0 : Nat) : Int)), some (.int s), some (.ref l), some (.int ((L.getD j 0 * 2 ^ s + cy) / 2 ^ w : Nat)), some (.int (2 ^ w - 1 : Nat)), none, none], H := H2 } ?_ ⟨_, _, H2, t1, t2, t3, t4, hH2, hE.step (del_none hn1) hH2', rfl⟩
      ((refine' ⟨?q734, ?q733⟩; (case q733 => first | exact Ext.refl _ | assumption); (case q734 => repeat (first | exact MLe.nil _ | refine' MLe.none ?_ | refine' MLe.some' rfl ?_))))
    · rintro _ ⟨F, cy, H', hF1, hF2, hcy, hv, hH', hE, rfl⟩
      rw [List.take_length, hV] at hv
      have hE' := ext_back hE ha
      have hl' := upd_of (o := nats L) hH' hla
      (((with_reducible refine' Cont_norm ?q735 ?_); (case q735 => ((dsimp only [frameOf, List.set_cons_zero, List.set_cons_succ]); (try exact rfl)))); (with_reducible refine' EX_seq ?_); (with_reducible refine' E1_if ?_); ((with_reducible refine' TS_cmp ?q736 ?_); (case q736 => rfl)); ((with_reducible refine' EV_loc ?q737 ?q739 ?q740 ?q738 ?_); (case q737 => assumption); (case q739 => rfl); (case q740 => rfl); (case q738 => decide)); ((with_reducible refine' EV_intN ?q741 ?_); (case q741 => first | exact Int.cast_ofNat_Int.symm | rfl)); (with_reducible refine' CMP_gt ?_))
      ((((with_reducible refine' And.intro (fun hc => ?_) (fun hc => ?_)) <;> (simp only [decide_eq_true_eq, decide_eq_false_iff_not, Bool.not_eq_true', Bool.not_eq_false', Bool.not_true, Bool.not_false, reduceCtorEq] at hc)) <;> (revert hc; intro _)))
      · rename_i hc
        ((with_reducible refine' EX_seq ?_); ((with_reducible refine' E1_expr ?q742 ?q743 ?_); (case q742 => rfl); (case q743 => rfl)); ((with_reducible refine' EV_appendN ?q745 ?q744 ?_); (case q745 => rfl); (case q744 => rfl)); ((with_reducible refine' EV_loc ?q746 ?q748 ?q749 ?q747 ?_); (case q746 => assumption); (case q748 => rfl); (case q749 => rfl); (case q747 => decide)))
        (((refine' ⟨_, _, rfl, ?q750, ?_⟩); (case q750 => assumption)))
        (((with_reducible refine' EV_loc ?q751 ?q753 ?q754 ?q752 ?_); (case q751 => assumption); (case q753 => rfl); (case q754 => rfl); (case q752 => decide)))
        (((refine' ⟨_, _, _, rfl, ?q756, ?q755, ?q757, ?_⟩); (case q756 => rfl); (case q755 => assumption); (case q757 => ((lia)))))
        intro H2 hH2 hH2'
        refine ⟨rfl, ?_⟩
        (((with_reducible refine' Cont_norm ?q758 ?_); (case q758 => ((dsimp only [frameOf, List.set_cons_zero, List.set_cons_succ]); (try exact rfl)))); (with_reducible refine' EX_nil ?_); ((with_reducible refine' Cont_norm ?q759 ?_); (case q759 => ((dsimp only [frameOf, List.set_cons_zero, List.set_cons_succ]); (try exact rfl)))); (with_reducible refine' EX_seq ?_); (with_reducible refine' E1_return ?_); ((with_reducible refine' EV_loc ?q760 ?q762 ?q763 ?q761 ?_); (case q760 => assumption); (case q762 => rfl); (case q763 => rfl); (case q761 => decide)); (with_reducible refine' Cont_ret ?_); ((with_reducible refine' RetQ_ret ?_); try dsimp only))
        refine k l H2 (hE'.step hn1 hH2') hn1 ?_
        rw [hH2, ← dg_snoc hB hF2 (x := cy) (by (exact Nat.lt_of_lt_of_le (by assumption) (by assumption))) (by lia), val_snoc, hF1, hv, Nat.mul_comm]
      · rename_i hc
        ((with_reducible refine' EX_nil ?_); ((with_reducible refine' Cont_norm ?q764 ?_); (case q764 => ((dsimp only [frameOf, List.set_cons_zero, List.set_cons_succ]); (try exact rfl)))); (with_reducible refine' EX_seq ?_); (with_reducible refine' E1_return ?_); ((with_reducible refine' EV_loc ?q765 ?q767 ?q768 ?q766 ?_); (case q765 => assumption); (case q767 => rfl); (case q768 => rfl); (case q766 => decide)); (with_reducible refine' Cont_ret ?_); ((with_reducible refine' RetQ_ret ?_); try dsimp only))
        refine k l _ hE' hn1 ?_
        rw [hl']
        have : cy = 0 := by lia
        subst this
        rw [Nat.mul_zero, Nat.add_zero] at hv
        rw [nf_of_ge hB hF2 ?_, hv, Nat.mul_comm]
        right
        rw [hF1, hv]
        have hp : 0 < n := by
          rcases Nat.eq_zero_or_pos n with h | h
          · rw [hnil.mpr h] at h0; exact absurd rfl h0
          · exact h
        refine Nat.le_trans (hge hp) ?_
        have : 1 * n ≤ 2 ^ s * n := Nat.mul_le_mul_right _ (Nat.two_pow_pos s)
        lia

inductive ShrInv (a l : Addr) (L : List Nat) (n w sp few : Nat) (H0 : AH) (k : Nat) (σ₁ : AS) : Prop
  | intro (F : List Nat) (H' : AH) (f1 : F.length = k) (f2 : Lm (2 ^ w) F) (f3 : val (2 ^ w) F = val (2 ^ w) L / 2 ^ n % (2 ^ w) ^ k) (f4 : H' l = some (nats F)) (f5 : Ext H0 H') (f6 : σ₁ = { m := [some (.ref a), some (.int n), some (.int w), some (.int sp), some (.int few), some (.ref l), some (.int (2 ^ w - 1 : Nat)), none, none, none, none, none], H := H' })
theorem shift_right_ok (G : FS W) (C : COk W c) (Rm : Room c 2) {a : Addr} {n w : Nat} {L : List Nat} {Q : AV → AS → Prop} (hw : 1 ≤ w) (hw2 : w ≤ 12) (ha : σ.H a = some (nats L)) (hL : Lm (2 ^ w) L) (hn' : n ≤ 1000) (hz : L.length ≤ 900)
    (k : ∀ l H', Ext σ.H H' → σ.H l = none → H' l = some (nats (dg (2 ^ w) (val (2 ^ w) L / 2 ^ n))) → Q (.ref l) { σ with H := H' }) : CALL W c (.ref (G.f 10)) [.ref a, .int (n : Int), .int (w : Int)] σ Q := by
  have hf' : IsFn W.K _ (G.f 10) _ _ _ := G.h10
  have B := G.B
  have hn4 := G.n4
  have hB := pw2 hw
  have hB2 := pw12 hw2
  refine CALL_fn (xs := [Str.ofString "a", Str.ofString "n", Str.ofString "w"]) C Rm hf' ?_ rfl (by decide) rfl rfl rfl rfl rfl (by decide) ?_
  · ((exact rfl))
  clear hf'
  intro r C' R'
  have hnw : n / w * w + n % w = n := by rw [Nat.mul_comm]; exact Nat.div_add_mod n w
  have hfw : n % w < w := Nat.mod_lt _ (by (assumption))
  have hsp : n / w ≤ n := Nat.div_le_self _ _
  generalize hsd : n / w = sp at *
  generalize hfd : n % w = few at *
  ((with_reducible refine' EX_seq ?_); ((with_reducible refine' E1_tup2 ?q769 ?q772 ?q773 ?q770 ?q771 ?_); (case q769 => assumption); (case q772 => rfl); (case q773 => rfl); (case q770 => rfl); (case q771 => rfl)); ((with_reducible refine' SP_cons ?q774 ?_); (case q774 => rfl)); (with_reducible refine' EV_bin ?_); ((with_reducible refine' EV_loc ?q775 ?q777 ?q778 ?q776 ?_); (case q775 => assumption); (case q777 => rfl); (case q778 => rfl); (case q776 => decide)); ((with_reducible refine' EV_loc ?q779 ?q781 ?q782 ?q780 ?_); (case q779 => assumption); (case q781 => rfl); (case q782 => rfl); (case q780 => decide)); ((with_reducible refine' BIN_divN ?q783 ?q784 ?_); (case q783 => ((lia))); (case q784 => ((lia)))); ((with_reducible refine' SP_cons ?q785 ?_); (case q785 => rfl)); (with_reducible refine' EV_bin ?_); ((with_reducible refine' EV_loc ?q786 ?q788 ?q789 ?q787 ?_); (case q786 => assumption); (case q788 => rfl); (case q789 => rfl); (case q787 => decide)); ((with_reducible refine' EV_loc ?q790 ?q792 ?q793 ?q791 ?_); (case q790 => assumption); (case q792 => rfl); (case q793 => rfl); (case q791 => decide)); ((with_reducible refine' BIN_modN ?q794 ?_); (case q794 => ((lia)))); (with_reducible refine' SP_nil ?_); (with_reducible refine' At2.intro _ _ ?_); ((with_reducible refine' Cont_norm ?q795 ?_); (case q795 => ((dsimp only [frameOf, List.set_cons_zero, List.set_cons_succ]); (try exact rfl)))); (with_reducible refine' EX_seq ?_); ((with_reducible refine' E1_tup2 ?q796 ?q799 ?q800 ?q797 ?q798 ?_); (case q796 => assumption); (case q799 => rfl); (case q800 => rfl); (case q797 => rfl); (case q798 => rfl)); ((with_reducible refine' SP_cons ?q801 ?_); (case q801 => rfl)); (with_reducible refine' EV_nilN ?_))
  rw [hsd, hfd]
  skip
  intro l H1 he1 hn1 hl1
  have he1 : Ext σ.H H1 := he1
  have hn1 : σ.H l = none := hn1
  have ha1 := he1 _ _ ha
  (((with_reducible refine' SP_cons ?q802 ?_); (case q802 => rfl)); (with_reducible refine' EV_bin ?_); (with_reducible refine' EV_bin ?_); ((with_reducible refine' EV_intN ?q803 ?_); (case q803 => first | exact Int.cast_ofNat_Int.symm | rfl)); ((with_reducible refine' EV_loc ?q804 ?q806 ?q807 ?q805 ?_); (case q804 => assumption); (case q806 => rfl); (case q807 => rfl); (case q805 => decide)); ((with_reducible refine' BIN_shl1 ?q808 ?_); (case q808 => ((lia)))); ((with_reducible refine' EV_intN ?q809 ?_); (case q809 => first | exact Int.cast_ofNat_Int.symm | rfl)); ((with_reducible refine' BIN_subN ?q810 ?_); (case q810 => ((lia)))); (with_reducible refine' SP_nil ?_); (with_reducible refine' At2.intro _ _ ?_); ((with_reducible refine' Cont_norm ?q811 ?_); (case q811 => ((dsimp only [frameOf, List.set_cons_zero, List.set_cons_succ]); (try exact rfl)))); (with_reducible refine' EX_seq ?_))
  refine E1_range2 (by assumption) ⟨rfl, B.range, by decide, by decide⟩ bb_range rfl rfl rfl rfl (fun _ => rfl) (ShrInv a l L n w sp few σ.H) ?_
  (((with_reducible refine' EV_loc ?q812 ?q814 ?q815 ?q813 ?_); (case q812 => assumption); (case q814 => rfl); (case q815 => rfl); (case q813 => decide)); ((with_reducible refine' EV_lenN ?q817 ?q816 ?q820 ?q819 ?q818 ?_); (case q817 => assumption); (case q816 => assumption); (case q820 => rfl); (case q819 => rfl); (case q818 => rfl)); ((with_reducible refine' EV_loc ?q821 ?q823 ?q824 ?q822 ?_); (case q821 => assumption); (case q823 => rfl); (case q824 => rfl); (case q822 => decide)))
  (((refine' ⟨_, _, rfl, ?q825, ?q826, ?_⟩); (case q825 => assumption); (case q826 => ((lia)))))
  refine ⟨sp, L.length, rfl, rfl, by lia, by lia, ⟨[], H1, rfl, lm_nil, by simp [val, Nat.mod_one], hl1, he1, rfl⟩, ?_, ?_⟩
  · rintro j _ hj ⟨F, H', hF1, hF2, hv, hH', hE, rfl⟩
    have ha' := hE _ _ ha
    have hx := hL.get (by lia) (sp + j)
    have hxf : L.getD (sp + j) 0 / 2 ^ few < 2 ^ (w - few) := by
      rw [Nat.div_lt_iff_lt_mul (Nat.two_pow_pos few), ← Nat.pow_add, Nat.sub_add_cancel (by (exact Nat.le_of_lt (by assumption)))]
      exact hx
    have hy := hL.get (by lia) (sp + j + 1)
    have key : ∀ d, d = (L.getD (sp + j + 1) 0 * 2 ^ (w - few) + L.getD (sp + j) 0 / 2 ^ few) % 2 ^ w → Lm (2 ^ w) (F ++ [d]) ∧ val (2 ^ w) (F ++ [d]) = val (2 ^ w) L / 2 ^ n % (2 ^ w) ^ (j + 1) := by
      rintro d rfl
      refine ⟨hF2.snoc (Nat.mod_lt _ (by lia)), ?_⟩
      rw [val_snoc, hF1, hv, shr_limb hL (by (omega)), hnw, Nat.mod_pow_succ]
    (((refine' EX_norm ?q827 ?_); (case q827 => ((dsimp only [frameOf, List.set_cons_zero, List.set_cons_succ]); (try exact rfl)))))
    ((with_reducible refine' EX_seq ?_); ((with_reducible refine' E1_assign ?q828 ?q829 ?q830 ?_); (case q828 => assumption); (case q829 => rfl); (case q830 => rfl)))
    refine EV_cut (.int ((L.getD (sp + j + 1) 0 : Nat) : Int)) ?_ ?_
    · ((with_reducible refine' EV_ite ?_); ((with_reducible refine' TS_cmp ?q831 ?_); (case q831 => rfl)); (with_reducible refine' EV_bin ?_); ((with_reducible refine' EV_loc ?q832 ?q834 ?q835 ?q833 ?_); (case q832 => assumption); (case q834 => rfl); (case q835 => rfl); (case q833 => decide)); ((with_reducible refine' EV_intN ?q836 ?_); (case q836 => first | exact Int.cast_ofNat_Int.symm | rfl)); (with_reducible refine' BIN_addN ?_); ((with_reducible refine' EV_lenN ?q838 ?q837 ?q841 ?q840 ?q839 ?_); (case q838 => assumption); (case q837 => assumption); (case q841 => rfl); (case q840 => rfl); (case q839 => rfl)); ((with_reducible refine' EV_loc ?q842 ?q844 ?q845 ?q843 ?_); (case q842 => assumption); (case q844 => rfl); (case q845 => rfl); (case q843 => decide)))
      (((refine' ⟨_, _, rfl, ?q846, ?q847, ?_⟩); (case q846 => assumption); (case q847 => ((lia)))))
      ((with_reducible refine' CMP_lt ?_))
      ((((with_reducible refine' And.intro (fun hc => ?_) (fun hc => ?_)) <;> (simp only [decide_eq_true_eq, decide_eq_false_iff_not, Bool.not_eq_true', Bool.not_eq_false', Bool.not_true, Bool.not_false, reduceCtorEq] at hc)) <;> (revert hc; intro _)))
      · rename_i h
        (((with_reducible refine' EV_idxN ?q848 ?_); (case q848 => intro _ _ _; rfl)); ((with_reducible refine' EV_loc ?q849 ?q851 ?q852 ?q850 ?_); (case q849 => assumption); (case q851 => rfl); (case q852 => rfl); (case q850 => decide)); (with_reducible refine' EV_bin ?_); ((with_reducible refine' EV_loc ?q853 ?q855 ?q856 ?q854 ?_); (case q853 => assumption); (case q855 => rfl); (case q856 => rfl); (case q854 => decide)); ((with_reducible refine' EV_intN ?q857 ?_); (case q857 => first | exact Int.cast_ofNat_Int.symm | rfl)); (with_reducible refine' BIN_addN ?_))
        (((refine' ⟨_, _, _, _, rfl, rfl, ?q860, ?q858, ?q859, ?q861, ?_⟩); (case q860 => first | rfl | exact nat_sub1 (by first | assumption | lia)); (case q858 => assumption); (case q859 => ((lia))); (case q861 => ((lia)))))
        exact ⟨rfl, rfl⟩
      · rename_i h
        (((with_reducible refine' EV_intN ?q862 ?_); (case q862 => first | exact Int.cast_ofNat_Int.symm | rfl)))
        rw [getD_out (by lia)]
        exact ⟨rfl, rfl⟩
    (((with_reducible refine' Cont_norm ?q863 ?_); (case q863 => ((dsimp only [frameOf, List.set_cons_zero, List.set_cons_succ]); (try exact rfl)))); (with_reducible refine' EX_seq ?_); ((with_reducible refine' E1_expr ?q864 ?q865 ?_); (case q864 => rfl); (case q865 => rfl)); ((with_reducible refine' EV_appendN ?q867 ?q866 ?_); (case q867 => rfl); (case q866 => rfl)); ((with_reducible refine' EV_loc ?q868 ?q870 ?q871 ?q869 ?_); (case q868 => assumption); (case q870 => rfl); (case q871 => rfl); (case q869 => decide)))
    (((refine' ⟨_, _, rfl, ?q872, ?_⟩); (case q872 => assumption)))
    ((with_reducible refine' EV_bin ?_); (with_reducible refine' EV_bin ?_); (with_reducible refine' EV_bin ?_); ((with_reducible refine' EV_idxN ?q873 ?_); (case q873 => intro _ _ _; rfl)); ((with_reducible refine' EV_loc ?q874 ?q876 ?q877 ?q875 ?_); (case q874 => assumption); (case q876 => rfl); (case q877 => rfl); (case q875 => decide)); ((with_reducible refine' EV_loc ?q878 ?q880 ?q881 ?q879 ?_); (case q878 => assumption); (case q880 => rfl); (case q881 => rfl); (case q879 => decide)))
    (((refine' ⟨_, _, _, _, rfl, rfl, ?q884, ?q882, ?q883, ?q885, ?_⟩); (case q884 => first | rfl | exact nat_sub1 (by first | assumption | lia)); (case q882 => assumption); (case q883 => ((lia))); (case q885 => ((lia)))))
    (((with_reducible refine' EV_loc ?q886 ?q888 ?q889 ?q887 ?_); (case q886 => assumption); (case q888 => rfl); (case q889 => rfl); (case q887 => decide)); (with_reducible refine' BIN_shrN ?_); (with_reducible refine' EV_bin ?_); ((with_reducible refine' EV_loc ?q890 ?q892 ?q893 ?q891 ?_); (case q890 => assumption); (case q892 => rfl); (case q893 => rfl); (case q891 => decide)); (with_reducible refine' EV_bin ?_); ((with_reducible refine' EV_loc ?q894 ?q896 ?q897 ?q895 ?_); (case q894 => assumption); (case q896 => rfl); (case q897 => rfl); (case q895 => decide)); ((with_reducible refine' EV_loc ?q898 ?q900 ?q901 ?q899 ?_); (case q898 => assumption); (case q900 => rfl); (case q901 => rfl); (case q899 => decide)); ((with_reducible refine' BIN_subN ?q902 ?_); (case q902 => ((lia)))); ((with_reducible refine' BIN_shlN ?q903 ?q904 ?_); (case q903 => ((lia))); (case q904 => (((generalize 2 ^ _ = D at *; lia))))); ((with_reducible refine' BIN_or2 ?q905 ?_); (case q905 => ((assumption)))); ((with_reducible refine' EV_loc ?q906 ?q908 ?q909 ?q907 ?_); (case q906 => assumption); (case q908 => rfl); (case q909 => rfl); (case q907 => decide)); (with_reducible refine' BIN_mask ?_))
    (((refine' ⟨_, _, _, rfl, ?q911, ?q910, ?q912, ?_⟩); (case q911 => rfl); (case q910 => assumption); (case q912 => ((lia)))))
    intro H2 hH2 hH2'
    refine ⟨rfl, ?_⟩
    (((with_reducible refine' Cont_norm ?q913 ?_); (case q913 => ((dsimp only [frameOf, List.set_cons_zero, List.set_cons_succ]); (try exact rfl)))); (with_reducible refine' EX_nil ?_))
    refine LoopQ_next { m := [some (.ref a), some (.int n), some (.int w), some (.int sp), some (.int few), some (.ref l), some (.int (2 ^ w - 1 : Nat)), none, none, none, none, none], H := H2 } ?_ ⟨_, H2, by simp [hF1], (key _ rfl).1, (key _ rfl).2, hH2, hE.step hn1 hH2', rfl⟩
    ((refine' ⟨?q915, ?q914⟩; (case q914 => first | exact Ext.refl _ | assumption); (case q915 => repeat (first | exact MLe.nil _ | refine' MLe.none ?_ | refine' MLe.some' rfl ?_))))
  · rintro _ ⟨F, H', hF1, hF2, hv, hH', hE, rfl⟩
    have hend := shr_end (few := few) (spots := sp) hL
    rw [hnw] at hend
    rw [Nat.mod_eq_of_lt hend] at hv
    (((with_reducible refine' Cont_norm ?q916 ?_); (case q916 => ((dsimp only [frameOf, List.set_cons_zero, List.set_cons_succ]); (try exact rfl)))); (with_reducible refine' EX_seq ?_); (with_reducible refine' E1_return ?_); ((with_reducible refine' EV_fnN ?q917 ?q922 ?q923 ?q921 ?q920 ?q918 ?q919 ?_); (case q917 => assumption); (case q922 => with_reducible assumption); (case q923 => rfl); (case q921 => decide); (case q920 => rfl); (case q918 => rfl); (case q919 => rfl)); ((with_reducible refine' SP_cons ?q924 ?_); (case q924 => rfl)); ((with_reducible refine' EV_loc ?q925 ?q927 ?q928 ?q926 ?_); (case q925 => assumption); (case q927 => rfl); (case q928 => rfl); (case q926 => decide)); (with_reducible refine' SP_nil ?_))
    refine normal_ok G.h4 B (by assumption) (R'.mono (by lia)) hH' (by lia) fun l2 H2 he2 hn2 hl2 => ?_
    ((with_reducible refine' Cont_ret ?_); ((with_reducible refine' RetQ_ret ?_); try dsimp only))
    refine k l2 H2 (hE.trans he2) (hE.fresh hn2) ?_
    rw [hl2, nrm_eq hB hF2, hv]

theorem bits_ok (G : FS W) (C : COk W c) (Rm : Room c 1) {a : Addr} {x w : Nat} {Q : AV → AS → Prop} (ha : σ.H a = some (nats [x])) (hw : w ≤ 12)
    (k : Q (.int ((Builtin.Int.intBits (x : Int) : Nat) : Int)) σ) : CALL W c (.ref (G.f 11)) [.ref a, .int (w : Int)] σ Q := by
  have hf' : IsFn W.K _ (G.f 11) _ _ _ := G.h11
  have B := G.B
  refine CALL_fn (xs := [Str.ofString "a", Str.ofString "w"]) C Rm hf' ?_ rfl (by decide) rfl rfl rfl rfl rfl (by decide) ?_
  · ((exact rfl))
  clear hf'
  intro r C' R'
  ((with_reducible refine' EX_seq ?_); (with_reducible refine' E1_return ?_); (with_reducible refine' EV_ite ?_); ((with_reducible refine' TS_cmp ?q929 ?_); (case q929 => rfl)); ((with_reducible refine' EV_lenN ?q931 ?q930 ?q934 ?q933 ?q932 ?_); (case q931 => assumption); (case q930 => assumption); (case q934 => rfl); (case q933 => rfl); (case q932 => rfl)); ((with_reducible refine' EV_loc ?q935 ?q937 ?q938 ?q936 ?_); (case q935 => assumption); (case q937 => rfl); (case q938 => rfl); (case q936 => decide)))
  (((refine' ⟨_, _, rfl, ?q939, ?q940, ?_⟩); (case q939 => assumption); (case q940 => (((simp only [List.length_append, List.length_cons, List.length_nil, List.length_set, List.length_take, List.length_drop, List.length_replicate] at *) <;> (decide))))))
  (((with_reducible refine' EV_intN ?q941 ?_); (case q941 => first | exact Int.cast_ofNat_Int.symm | rfl)); (with_reducible refine' CMP_gt ?_))
  ((((with_reducible refine' And.intro (fun hc => ?_) (fun hc => ?_)) <;> (simp only [decide_eq_true_eq, decide_eq_false_iff_not, Bool.not_eq_true', Bool.not_eq_false', Bool.not_true, Bool.not_false, reduceCtorEq] at hc)) <;> (revert hc; intro _)))
  · ((with_reducible refine' EV_bin ?_); (with_reducible refine' EV_bin ?_); (with_reducible refine' EV_bin ?_); ((with_reducible refine' EV_lenN ?q943 ?q942 ?q946 ?q945 ?q944 ?_); (case q943 => assumption); (case q942 => assumption); (case q946 => rfl); (case q945 => rfl); (case q944 => rfl)); ((with_reducible refine' EV_loc ?q947 ?q949 ?q950 ?q948 ?_); (case q947 => assumption); (case q949 => rfl); (case q950 => rfl); (case q948 => decide)))
    (((refine' ⟨_, _, rfl, ?q951, ?q952, ?_⟩); (case q951 => assumption); (case q952 => (((simp only [List.length_append, List.length_cons, List.length_nil, List.length_set, List.length_take, List.length_drop, List.length_replicate] at *) <;> lia)))))
    (((with_reducible refine' EV_intN ?q953 ?_); (case q953 => first | exact Int.cast_ofNat_Int.symm | rfl)); ((with_reducible refine' BIN_subN ?q954 ?_); (case q954 => (((exact Nat.succ_pos _))))); ((with_reducible refine' EV_loc ?q955 ?q957 ?q958 ?q956 ?_); (case q955 => assumption); (case q957 => rfl); (case q958 => rfl); (case q956 => decide)); ((with_reducible refine' BIN_mulN ?q959 ?_); (case q959 => ((exact Nat.one_le_two_pow)))); ((with_reducible refine' EV_bitlen ?q960 ?_); (case q960 => rfl)); ((with_reducible show EV _ _ (Expr.Subscript _ (Expr.UnaryOp _ _ _) _) _ _); (with_reducible refine' EV_idxB ?q961 ?_); (case q961 => intro _ _ _; rfl)); ((with_reducible refine' EV_loc ?q962 ?q964 ?q965 ?q963 ?_); (case q962 => assumption); (case q964 => rfl); (case q965 => rfl); (case q963 => decide)); (with_reducible refine' EV_neg ?_); ((with_reducible refine' EV_intN ?q966 ?_); (case q966 => first | exact Int.cast_ofNat_Int.symm | rfl)); (with_reducible refine' AtI.intro _ ?_))
    (((refine' ⟨_, _, _, _, rfl, rfl, ?q970, ?q967, ?q968, ?q969, ?q971, ?_⟩); (case q970 => rfl); (case q967 => decide); (case q968 => assumption); (case q969 => ((lia))); (case q971 => decide)))
    ((with_reducible refine' AtI.intro _ ?_); (with_reducible refine' BIN_addN ?_); (with_reducible refine' Cont_ret ?_); ((with_reducible refine' RetQ_ret ?_); try dsimp only))
    have e : (([x].length - 1) * w + Builtin.Int.intBits (([x].getD ([x].length - 1) 0 : Nat) : Int)) = Builtin.Int.intBits (x : Int) := by
      show (1 - 1) * w + Builtin.Int.intBits (x : Int) = _
      simp
    rw [e]
    exact k
  · rename_i h
    exfalso
    simp at h

theorem limb_from_ok (G : FS W) (C : COk W c) (Rm : Room c 3) {a : Addr} {n p w : Nat} {Q : AV → AS → Prop} (hw : 1 ≤ w) (hw2 : w ≤ 12) (ha : σ.H a = some (nats (dg (2 ^ w) n))) (hp : p ≤ 1000) (hz : (dg (2 ^ w) n).length ≤ 900)
    (k : ∀ H', Ext σ.H H' → Q (.int ((n / 2 ^ p % 2 ^ w : Nat) : Int)) { σ with H := H' }) : CALL W c (.ref (G.f 13)) [.ref a, .int (p : Int), .int (w : Int)] σ Q := by
  have hf' : IsFn W.K _ (G.f 13) _ _ _ := G.h13
  have B := G.B
  have hn10 := G.n10
  have hB := pw2 hw
  have hB2 := pw12 hw2
  refine CALL_fn (xs := [Str.ofString "a", Str.ofString "place", Str.ofString "w"]) C Rm hf' ?_ rfl (by decide) rfl rfl rfl rfl rfl (by decide) ?_
  · ((exact rfl))
  clear hf'
  intro r C' R'
  have hL := dg_lm hB n
  have hV := dg_take hB n (p / w + 2)
  generalize dg (2 ^ w) n = L at *
  ((with_reducible refine' EX_seq ?_); ((with_reducible refine' E1_assign ?q972 ?q973 ?q974 ?_); (case q972 => assumption); (case q973 => rfl); (case q974 => rfl)); ((with_reducible refine' EV_fnN ?q975 ?q980 ?q981 ?q979 ?q978 ?q976 ?q977 ?_); (case q975 => assumption); (case q980 => with_reducible assumption); (case q981 => rfl); (case q979 => decide); (case q978 => rfl); (case q976 => rfl); (case q977 => rfl)); ((with_reducible refine' SP_cons ?q982 ?_); (case q982 => rfl)); ((with_reducible refine' EV_sliceN ?q983 ?q984 ?_); (case q983 => intro _ _; rfl); (case q984 => intro _ _; rfl)); ((with_reducible refine' EV_loc ?q985 ?q987 ?q988 ?q986 ?_); (case q985 => assumption); (case q987 => rfl); (case q988 => rfl); (case q986 => decide)); (with_reducible refine' PT_none ?_); (with_reducible refine' PT_some ?_); (with_reducible refine' EV_bin ?_); (with_reducible refine' EV_bin ?_); ((with_reducible refine' EV_loc ?q989 ?q991 ?q992 ?q990 ?_); (case q989 => assumption); (case q991 => rfl); (case q992 => rfl); (case q990 => decide)); ((with_reducible refine' EV_loc ?q993 ?q995 ?q996 ?q994 ?_); (case q993 => assumption); (case q995 => rfl); (case q996 => rfl); (case q994 => decide)); ((with_reducible refine' BIN_divN ?q997 ?q998 ?_); (case q997 => ((lia))); (case q998 => ((lia)))); ((with_reducible refine' EV_intN ?q999 ?_); (case q999 => first | exact Int.cast_ofNat_Int.symm | rfl)); (with_reducible refine' BIN_addN ?_); (with_reducible refine' AtI.intro _ ?_))
  (((refine' ⟨_, _, _, rfl, ?q1000, ?q1002, ?q1003, ?q1001, ?_⟩); (case q1000 => assumption); (case q1002 => first | exact trivial | exact Int.natCast_nonneg _ | exact ⟨Int.natCast_nonneg _, Int.natCast_nonneg _⟩); (case q1003 => (((exact Nat.le_trans (by assumption) (by decide))))); (case q1001 => first | exact cut_to _ _ | exact cut_all _ | exact cut_run _ _ _)))
  intro l1 H1 he1 hn1 hl1
  have he1 : Ext σ.H H1 := he1
  (((with_reducible refine' SP_cons ?q1004 ?_); (case q1004 => rfl)); ((with_reducible refine' EV_loc ?q1005 ?q1007 ?q1008 ?q1006 ?_); (case q1005 => assumption); (case q1007 => rfl); (case q1008 => rfl); (case q1006 => decide)); ((with_reducible refine' SP_cons ?q1009 ?_); (case q1009 => rfl)); ((with_reducible refine' EV_loc ?q1010 ?q1012 ?q1013 ?q1011 ?_); (case q1010 => assumption); (case q1012 => rfl); (case q1013 => rfl); (case q1011 => decide)); (with_reducible refine' SP_nil ?_))
  refine shift_right_ok G (by assumption) (R'.mono (by (exact Nat.le_refl _))) hw hw2 hl1 (hL.take _) hp (by rw [List.length_take]; lia) fun l2 H2 he2 hn2 hl2 => ?_
  have he12 : Ext σ.H H2 := he1.trans he2
  rw [hV] at hl2
  have hlm : (dg (2 ^ w) (n % (2 ^ w) ^ (p / w + 2) / 2 ^ p)).length ≤ p / w + 2 := dg_len_le hB (Nat.lt_of_le_of_lt (Nat.div_le_self _ _) (Nat.mod_lt _ (Nat.pow_pos (by lia))))
  have hpw : p / w ≤ p := Nat.div_le_self _ _
  have hhd := dg_head hB (n % (2 ^ w) ^ (p / w + 2) / 2 ^ p)
  rw [limb_eq (by lia)] at hhd
  (((with_reducible refine' Cont_norm ?q1014 ?_); (case q1014 => ((dsimp only [frameOf, List.set_cons_zero, List.set_cons_succ]); (try exact rfl)))); (with_reducible refine' EX_seq ?_); (with_reducible refine' E1_return ?_); (with_reducible refine' EV_ite ?_); ((with_reducible refine' TS_cmp ?q1015 ?_); (case q1015 => rfl)); ((with_reducible refine' EV_lenN ?q1017 ?q1016 ?q1020 ?q1019 ?q1018 ?_); (case q1017 => assumption); (case q1016 => assumption); (case q1020 => rfl); (case q1019 => rfl); (case q1018 => rfl)); ((with_reducible refine' EV_loc ?q1021 ?q1023 ?q1024 ?q1022 ?_); (case q1021 => assumption); (case q1023 => rfl); (case q1024 => rfl); (case q1022 => decide)))
  (((refine' ⟨_, _, rfl, ?q1025, ?q1026, ?_⟩); (case q1025 => assumption); (case q1026 => ((lia)))))
  (((with_reducible refine' EV_intN ?q1027 ?_); (case q1027 => first | exact Int.cast_ofNat_Int.symm | rfl)); (with_reducible refine' CMP_gt ?_))
  ((((with_reducible refine' And.intro (fun hc => ?_) (fun hc => ?_)) <;> (simp only [decide_eq_true_eq, decide_eq_false_iff_not, Bool.not_eq_true', Bool.not_eq_false', Bool.not_true, Bool.not_false, reduceCtorEq] at hc)) <;> (revert hc; intro _)))
  · rename_i h
    (((with_reducible refine' EV_idxN ?q1028 ?_); (case q1028 => intro _ _ _; rfl)); ((with_reducible refine' EV_loc ?q1029 ?q1031 ?q1032 ?q1030 ?_); (case q1029 => assumption); (case q1031 => rfl); (case q1032 => rfl); (case q1030 => decide)); ((with_reducible refine' EV_intN ?q1033 ?_); (case q1033 => first | exact Int.cast_ofNat_Int.symm | rfl)))
    refine ⟨_, _, 0, _, rfl, rfl, Int.cast_ofNat_Int.symm, hl2, by lia, by (exact Nat.succ_pos _), ?_⟩
    ((with_reducible refine' Cont_ret ?_); ((with_reducible refine' RetQ_ret ?_); try dsimp only))
    rw [hhd]
    exact k H2 he12
  · rename_i h
    (((with_reducible refine' EV_intN ?q1034 ?_); (case q1034 => first | exact Int.cast_ofNat_Int.symm | rfl)); (with_reducible refine' Cont_ret ?_); ((with_reducible refine' RetQ_ret ?_); try dsimp only))
    rw [getD_out (by lia)] at hhd
    rw [hhd]
    exact k H2 he12

def ExQ (Ex : AS → Prop) (Q : AF → AS → Prop) : AF → AS → Prop := fun f σ => match f with
  | .next => Ex σ
  | f => Q f σ
theorem E1_whX {test : Expr} {body : List Stmt} {pos : Pos} {Q : AF → AS → Prop} (Inv : Nat → AS → Prop) (Ex : AS → Prop) (n₀ : Nat) (h0 : Inv n₀ σ)
    (turn : ∀ n σ₁, Inv n σ₁ → TS W c test σ₁ fun b σ₂ => (b = true → EX W c body σ₂ (WhQ Inv n (ExQ Ex Q))) ∧ (b = false → Ex σ₂))
    (done : ∀ σ₁, Ex σ₁ → Q .next σ₁) : E1 W c (.While test body [] pos) σ Q :=
  E1_wh Inv n₀ h0 fun n σ₁ hI => (turn n σ₁ hI).mono fun b σ₂ q => ⟨fun e => (q.1 e).mono fun f σ₃ q => by
    cases f with
    | next => exact q
    | brk => exact done _ q
    | ret v => exact q, fun e => done _ (q.2 e)⟩
theorem ExQ_next {Ex : AS → Prop} {Q : AF → AS → Prop} (h : Ex σ) : ExQ Ex Q .next σ := h

theorem quot_le {a b : Int} (ha : 0 ≤ a) (hb : 0 < b) : 0 ≤ Int.fdiv a b ∧ Int.fdiv a b ≤ a := by
  obtain ⟨f1, _⟩ := fdiv_bounds (a := a) hb
  have h0 : 0 ≤ Int.fdiv a b := Int.fdiv_nonneg ha (by lia)
  refine ⟨h0, ?_⟩
  have : Int.fdiv a b * 1 ≤ Int.fdiv a b * b := Int.mul_le_mul_of_nonneg_left (by (assumption)) h0
  (omega)

inductive LsInv (a b x0 y0 M : Nat) (H0 : AH) (n : Nat) (σ₁ : AS) : Prop
  | intro (K : Nat) (e x y p q r s : Int) (z : Option AV) (f1 : LI a b x0 y0 M K e x y p q r s) (f2 : n = (y + r).toNat) (f3 : σ₁ = { m := [some (.int x), some (.int y), some (.int p), some (.int q), some (.int r), some (.int s), z], H := H0 })
inductive LsEnd (a b x0 y0 M : Nat) (H0 : AH) (σ₁ : AS) : Prop
  | intro (K : Nat) (e x y p q r s : Int) (z : Option AV) (f1 : LI a b x0 y0 M K e x y p q r s) (f2 : σ₁ = { m := [some (.int x), some (.int y), some (.int p), some (.int q), some (.int r), some (.int s), z], H := H0 })
theorem lehmer_steps_ok (G : FS W) (C : COk W c) (Rm : Room c 1) {a b X x0 y0 M al be : Nat} {Q : AV → AS → Prop} (hX : 0 < X) (ha : a = X * x0 + al) (hb : b = X * y0 + be) (hal : al < X) (hbe : be < X) (hx0 : x0 ≤ M) (hy0 : y0 ≤ M) (hM : 1 ≤ M) (hM2 : M ≤ 4095) (hab : b ≤ a)
    (k : ∀ t H' K e x y p q r s, LI a b x0 y0 M K e x y p q r s → Ext σ.H H' → H' t = some (.tup [.int p, .int q, .int r, .int s]) → Q (.ref t) { σ with H := H' }) : CALL W c (.ref (G.f 14)) [.int (x0 : Int), .int (y0 : Int)] σ Q := by
  have hf' : IsFn W.K _ (G.f 14) _ _ _ := G.h14
  have B := G.B
  refine CALL_fn (xs := [Str.ofString "x", Str.ofString "y"]) C Rm hf' ?_ rfl (by decide) rfl rfl rfl rfl rfl (by decide) ?_
  · ((exact rfl))
  clear hf'
  intro r C' R'
  ((with_reducible refine' EX_seq ?_); ((with_reducible refine' E1_tup4 ?q1035 ?q1040 ?q1041 ?q1036 ?q1037 ?q1038 ?q1039 ?_); (case q1035 => assumption); (case q1040 => rfl); (case q1041 => rfl); (case q1036 => rfl); (case q1037 => rfl); (case q1038 => rfl); (case q1039 => rfl)); ((with_reducible refine' SP_cons ?q1042 ?_); (case q1042 => rfl)); ((with_reducible refine' EV_intN ?q1043 ?_); (case q1043 => first | exact Int.cast_ofNat_Int.symm | rfl)); ((with_reducible refine' SP_cons ?q1044 ?_); (case q1044 => rfl)); ((with_reducible refine' EV_intN ?q1045 ?_); (case q1045 => first | exact Int.cast_ofNat_Int.symm | rfl)); ((with_reducible refine' SP_cons ?q1046 ?_); (case q1046 => rfl)); ((with_reducible refine' EV_intN ?q1047 ?_); (case q1047 => first | exact Int.cast_ofNat_Int.symm | rfl)); ((with_reducible refine' SP_cons ?q1048 ?_); (case q1048 => rfl)); ((with_reducible refine' EV_intN ?q1049 ?_); (case q1049 => first | exact Int.cast_ofNat_Int.symm | rfl)); (with_reducible refine' SP_nil ?_); (with_reducible refine' At4.intro _ _ _ _ ?_); ((with_reducible refine' Cont_norm ?q1050 ?_); (case q1050 => ((dsimp only [frameOf, List.set_cons_zero, List.set_cons_succ]); (try exact rfl)))); (with_reducible refine' EX_seq ?_))
  refine E1_whX (LsInv a b x0 y0 M σ.H)
    (LsEnd a b x0 y0 M σ.H) _ ⟨0, 1, x0, y0, 1, 0, 0, 1, none, LI.start hab hx0 hM, rfl, rfl⟩ ?_ ?_
  · rintro n _ ⟨K, e, x, y, p, q, r, s, z, I, rfl, rfl⟩
    have i1 := I.h1; have i2 := I.h2; have i3 := I.h3; have i4 := I.h4; have i5 := I.h5
    have bp := I.bp; have bq := I.bq; have br := I.br; have bs := I.bs; have bx := I.bx
    ((with_reducible refine' TS_and2 ?_); ((with_reducible refine' TS_cmp ?q1051 ?_); (case q1051 => rfl)); (with_reducible refine' EV_bin ?_); ((with_reducible refine' EV_loc ?q1052 ?q1054 ?q1055 ?q1053 ?_); (case q1052 => assumption); (case q1054 => rfl); (case q1055 => rfl); (case q1053 => decide)); ((with_reducible refine' EV_loc ?q1056 ?q1058 ?q1059 ?q1057 ?_); (case q1056 => assumption); (case q1058 => rfl); (case q1059 => rfl); (case q1057 => decide)); (with_reducible refine' BIN_add ?_); ((with_reducible refine' EV_intN ?q1060 ?_); (case q1060 => first | exact Int.cast_ofNat_Int.symm | rfl)); (with_reducible refine' CMP_ne ?_))
    ((((with_reducible refine' And.intro (fun hc => ?_) (fun hc => ?_)) <;> (simp only [decide_eq_true_eq, decide_eq_false_iff_not, Bool.not_eq_true', Bool.not_eq_false', Bool.not_true, Bool.not_false, reduceCtorEq] at hc)) <;> (revert hc; intro _)))
    · rename_i h3
      (((with_reducible refine' TS_cmp ?q1061 ?_); (case q1061 => rfl)); (with_reducible refine' EV_bin ?_); ((with_reducible refine' EV_loc ?q1062 ?q1064 ?q1065 ?q1063 ?_); (case q1062 => assumption); (case q1064 => rfl); (case q1065 => rfl); (case q1063 => decide)); ((with_reducible refine' EV_loc ?q1066 ?q1068 ?q1069 ?q1067 ?_); (case q1066 => assumption); (case q1068 => rfl); (case q1069 => rfl); (case q1067 => decide)); (with_reducible refine' BIN_add ?_); ((with_reducible refine' EV_intN ?q1070 ?_); (case q1070 => first | exact Int.cast_ofNat_Int.symm | rfl)); (with_reducible refine' CMP_ne ?_))
      ((((with_reducible refine' And.intro (fun hc => ?_) (fun hc => ?_)) <;> (simp only [decide_eq_true_eq, decide_eq_false_iff_not, Bool.not_eq_true', Bool.not_eq_false', Bool.not_true, Bool.not_false, reduceCtorEq] at hc)) <;> (revert hc; intro _)))
      · rename_i h4
        obtain ⟨ql1, ql2⟩ := quot_le (a := x + p) (b := y + r) i1 (by lia)
        ((with_reducible refine' EX_seq ?_); ((with_reducible refine' E1_assign ?q1071 ?q1072 ?q1073 ?_); (case q1071 => assumption); (case q1072 => rfl); (case q1073 => rfl)); (with_reducible refine' EV_bin ?_); (with_reducible refine' EV_bin ?_); ((with_reducible refine' EV_loc ?q1074 ?q1076 ?q1077 ?q1075 ?_); (case q1074 => assumption); (case q1076 => rfl); (case q1077 => rfl); (case q1075 => decide)); ((with_reducible refine' EV_loc ?q1078 ?q1080 ?q1081 ?q1079 ?_); (case q1078 => assumption); (case q1080 => rfl); (case q1081 => rfl); (case q1079 => decide)); (with_reducible refine' BIN_add ?_); (with_reducible refine' EV_bin ?_); ((with_reducible refine' EV_loc ?q1082 ?q1084 ?q1085 ?q1083 ?_); (case q1082 => assumption); (case q1084 => rfl); (case q1085 => rfl); (case q1083 => decide)); ((with_reducible refine' EV_loc ?q1086 ?q1088 ?q1089 ?q1087 ?_); (case q1086 => assumption); (case q1088 => rfl); (case q1089 => rfl); (case q1087 => decide)); (with_reducible refine' BIN_add ?_))
        refine BIN_div (by (omega)) (by lia) ?_
        (((with_reducible refine' Cont_norm ?q1090 ?_); (case q1090 => ((dsimp only [frameOf, List.set_cons_zero, List.set_cons_succ]); (try exact rfl)))); (with_reducible refine' EX_seq ?_); (with_reducible refine' E1_if ?_); ((with_reducible refine' TS_cmp ?q1091 ?_); (case q1091 => rfl)); ((with_reducible refine' EV_loc ?q1092 ?q1094 ?q1095 ?q1093 ?_); (case q1092 => assumption); (case q1094 => rfl); (case q1095 => rfl); (case q1093 => decide)); (with_reducible refine' EV_bin ?_); (with_reducible refine' EV_bin ?_); ((with_reducible refine' EV_loc ?q1096 ?q1098 ?q1099 ?q1097 ?_); (case q1096 => assumption); (case q1098 => rfl); (case q1099 => rfl); (case q1097 => decide)); ((with_reducible refine' EV_loc ?q1100 ?q1102 ?q1103 ?q1101 ?_); (case q1100 => assumption); (case q1102 => rfl); (case q1103 => rfl); (case q1101 => decide)); (with_reducible refine' BIN_add ?_); (with_reducible refine' EV_bin ?_); ((with_reducible refine' EV_loc ?q1104 ?q1106 ?q1107 ?q1105 ?_); (case q1104 => assumption); (case q1106 => rfl); (case q1107 => rfl); (case q1105 => decide)); ((with_reducible refine' EV_loc ?q1108 ?q1110 ?q1111 ?q1109 ?_); (case q1108 => assumption); (case q1110 => rfl); (case q1111 => rfl); (case q1109 => decide)); (with_reducible refine' BIN_add ?_))
        refine BIN_div (by lia) (by lia) ?_
        ((with_reducible refine' CMP_ne ?_))
        ((((with_reducible refine' And.intro (fun hc => ?_) (fun hc => ?_)) <;> (simp only [decide_eq_true_eq, decide_eq_false_iff_not, Bool.not_eq_true', Bool.not_eq_false', Bool.not_true, Bool.not_false, reduceCtorEq] at hc)) <;> (revert hc; intro _)))
        · ((with_reducible refine' EX_seq ?_); (with_reducible refine' E1_break ?_); (with_reducible refine' Cont_brk ?_); (with_reducible refine' Cont_brk ?_); (with_reducible refine' WhQ_brk ?_))
          exact ⟨K, e, x, y, p, q, r, s, _, I, rfl⟩
        · rename_i hq
          have hq : Int.fdiv (x + p) (y + r) = Int.fdiv (x + q) (y + s) := by simpa using hq
          obtain ⟨I', g1, g2⟩ := I.step hX ha hb hal hbe hx0 hy0 (by lia) (by lia) hq
          generalize Int.fdiv (x + p) (y + r) = qq at *
          ((with_reducible refine' EX_nil ?_); ((with_reducible refine' Cont_norm ?q1112 ?_); (case q1112 => ((dsimp only [frameOf, List.set_cons_zero, List.set_cons_succ]); (try exact rfl)))); (with_reducible refine' EX_seq ?_); ((with_reducible refine' E1_tup2 ?q1113 ?q1116 ?q1117 ?q1114 ?q1115 ?_); (case q1113 => assumption); (case q1116 => rfl); (case q1117 => rfl); (case q1114 => rfl); (case q1115 => rfl)); ((with_reducible refine' SP_cons ?q1118 ?_); (case q1118 => rfl)); ((with_reducible refine' EV_loc ?q1119 ?q1121 ?q1122 ?q1120 ?_); (case q1119 => assumption); (case q1121 => rfl); (case q1122 => rfl); (case q1120 => decide)); ((with_reducible refine' SP_cons ?q1123 ?_); (case q1123 => rfl)); (with_reducible refine' EV_bin ?_); ((with_reducible refine' EV_loc ?q1124 ?q1126 ?q1127 ?q1125 ?_); (case q1124 => assumption); (case q1126 => rfl); (case q1127 => rfl); (case q1125 => decide)); (with_reducible refine' EV_bin ?_); ((with_reducible refine' EV_loc ?q1128 ?q1130 ?q1131 ?q1129 ?_); (case q1128 => assumption); (case q1130 => rfl); (case q1131 => rfl); (case q1129 => decide)); ((with_reducible refine' EV_loc ?q1132 ?q1134 ?q1135 ?q1133 ?_); (case q1132 => assumption); (case q1134 => rfl); (case q1135 => rfl); (case q1133 => decide)))
          refine BIN_mul (by lia) ?_
          ((with_reducible refine' BIN_sub ?_); (with_reducible refine' SP_nil ?_); (with_reducible refine' At2.intro _ _ ?_); ((with_reducible refine' Cont_norm ?q1136 ?_); (case q1136 => ((dsimp only [frameOf, List.set_cons_zero, List.set_cons_succ]); (try exact rfl)))); (with_reducible refine' EX_seq ?_); ((with_reducible refine' E1_tup2 ?q1137 ?q1140 ?q1141 ?q1138 ?q1139 ?_); (case q1137 => assumption); (case q1140 => rfl); (case q1141 => rfl); (case q1138 => rfl); (case q1139 => rfl)); ((with_reducible refine' SP_cons ?q1142 ?_); (case q1142 => rfl)); ((with_reducible refine' EV_loc ?q1143 ?q1145 ?q1146 ?q1144 ?_); (case q1143 => assumption); (case q1145 => rfl); (case q1146 => rfl); (case q1144 => decide)); ((with_reducible refine' SP_cons ?q1147 ?_); (case q1147 => rfl)); (with_reducible refine' EV_bin ?_); ((with_reducible refine' EV_loc ?q1148 ?q1150 ?q1151 ?q1149 ?_); (case q1148 => assumption); (case q1150 => rfl); (case q1151 => rfl); (case q1149 => decide)); (with_reducible refine' EV_bin ?_); ((with_reducible refine' EV_loc ?q1152 ?q1154 ?q1155 ?q1153 ?_); (case q1152 => assumption); (case q1154 => rfl); (case q1155 => rfl); (case q1153 => decide)); ((with_reducible refine' EV_loc ?q1156 ?q1158 ?q1159 ?q1157 ?_); (case q1156 => assumption); (case q1158 => rfl); (case q1159 => rfl); (case q1157 => decide)))
          refine BIN_mul (by lia) ?_
          ((with_reducible refine' BIN_sub ?_); (with_reducible refine' SP_nil ?_); (with_reducible refine' At2.intro _ _ ?_); ((with_reducible refine' Cont_norm ?q1160 ?_); (case q1160 => ((dsimp only [frameOf, List.set_cons_zero, List.set_cons_succ]); (try exact rfl)))); (with_reducible refine' EX_seq ?_); ((with_reducible refine' E1_tup2 ?q1161 ?q1164 ?q1165 ?q1162 ?q1163 ?_); (case q1161 => assumption); (case q1164 => rfl); (case q1165 => rfl); (case q1162 => rfl); (case q1163 => rfl)); ((with_reducible refine' SP_cons ?q1166 ?_); (case q1166 => rfl)); ((with_reducible refine' EV_loc ?q1167 ?q1169 ?q1170 ?q1168 ?_); (case q1167 => assumption); (case q1169 => rfl); (case q1170 => rfl); (case q1168 => decide)); ((with_reducible refine' SP_cons ?q1171 ?_); (case q1171 => rfl)); (with_reducible refine' EV_bin ?_); ((with_reducible refine' EV_loc ?q1172 ?q1174 ?q1175 ?q1173 ?_); (case q1172 => assumption); (case q1174 => rfl); (case q1175 => rfl); (case q1173 => decide)); (with_reducible refine' EV_bin ?_); ((with_reducible refine' EV_loc ?q1176 ?q1178 ?q1179 ?q1177 ?_); (case q1176 => assumption); (case q1178 => rfl); (case q1179 => rfl); (case q1177 => decide)); ((with_reducible refine' EV_loc ?q1180 ?q1182 ?q1183 ?q1181 ?_); (case q1180 => assumption); (case q1182 => rfl); (case q1183 => rfl); (case q1181 => decide)))
          refine BIN_mul (by lia) ?_
          ((with_reducible refine' BIN_sub ?_); (with_reducible refine' SP_nil ?_); (with_reducible refine' At2.intro _ _ ?_); ((with_reducible refine' Cont_norm ?q1184 ?_); (case q1184 => ((dsimp only [frameOf, List.set_cons_zero, List.set_cons_succ]); (try exact rfl)))); (with_reducible refine' EX_nil ?_))
          refine WhQ_next _ _ (Wk.refl _) ?_ ⟨K + 1, -e, y, x - qq * y, r, s, p - qq * r, q - qq * s, _, I', rfl, rfl⟩
          have := I'.h3
          lia
      · skip
        exact ⟨K, e, x, y, p, q, r, s, _, I, rfl⟩
    · ((with_reducible refine' And.intro (fun (h : false = true) => nomatch h) (fun (_ : false = false) => ?_)))
      exact ⟨K, e, x, y, p, q, r, s, _, I, rfl⟩
  · rintro _ ⟨K, e, x, y, p, q, r, s, z, I, rfl⟩
    (((with_reducible refine' Cont_norm ?q1185 ?_); (case q1185 => ((dsimp only [frameOf, List.set_cons_zero, List.set_cons_succ]); (try exact rfl)))); (with_reducible refine' EX_seq ?_); (with_reducible refine' E1_return ?_); (with_reducible refine' EV_tuple ?_); ((with_reducible refine' SP_cons ?q1186 ?_); (case q1186 => rfl)); ((with_reducible refine' EV_loc ?q1187 ?q1189 ?q1190 ?q1188 ?_); (case q1187 => assumption); (case q1189 => rfl); (case q1190 => rfl); (case q1188 => decide)); ((with_reducible refine' SP_cons ?q1191 ?_); (case q1191 => rfl)); ((with_reducible refine' EV_loc ?q1192 ?q1194 ?q1195 ?q1193 ?_); (case q1192 => assumption); (case q1194 => rfl); (case q1195 => rfl); (case q1193 => decide)); ((with_reducible refine' SP_cons ?q1196 ?_); (case q1196 => rfl)); ((with_reducible refine' EV_loc ?q1197 ?q1199 ?q1200 ?q1198 ?_); (case q1197 => assumption); (case q1199 => rfl); (case q1200 => rfl); (case q1198 => decide)); ((with_reducible refine' SP_cons ?q1201 ?_); (case q1201 => rfl)); ((with_reducible refine' EV_loc ?q1202 ?q1204 ?q1205 ?q1203 ?_); (case q1202 => assumption); (case q1204 => rfl); (case q1205 => rfl); (case q1203 => decide)); (with_reducible refine' SP_nil ?_))
    refine ⟨Nat.le_of_ble_eq_true rfl, ?_⟩
    intro t H' he hn ht
    ((with_reducible refine' Cont_ret ?_); ((with_reducible refine' RetQ_ret ?_); try dsimp only))
    exact k t H' K e x y p q r s I he ht

theorem E1_ifX {t : Expr} {x y : List Stmt} {pos : Pos} {Q : AF → AS → Prop} (Ex : AS → Prop) (h : TS W c t σ fun b σ₁ => (b = true → EX W c x σ₁ (ExQ Ex Q)) ∧ (b = false → EX W c y σ₁ (ExQ Ex Q))) (done : ∀ σ₁, Ex σ₁ → Q .next σ₁) : E1 W c (.If t x y pos) σ Q :=
  E1_if (h.mono fun b σ₁ q => ⟨fun e => (q.1 e).mono fun f σ₂ q => by
    cases f with
    | next => exact done _ q
    | brk => exact q
    | ret v => exact q, fun e => (q.2 e).mono fun f σ₂ q => by
    cases f with
    | next => exact done _ q
    | brk => exact q
    | ret v => exact q⟩)

theorem dg_len_mul {B : Nat} (hB : 2 ≤ B) {n m : Nat} (hm : m < B) : (dg B (n * m)).length ≤ (dg B n).length + 1 := by
  refine dg_len_le hB ?_
  have h := val_lt (dg_lm hB n)
  rw [dg_val hB] at h
  rw [Nat.pow_succ]
  exact Nat.mul_lt_mul_of_lt_of_le h (Nat.le_of_lt hm) (by lia)

inductive MixEnd (w V : Nat) (H0 : AH) (σ₁ : AS) : Prop
  | intro (a b : Addr) (A Bn : Nat) (m : Nat) (n : Int) (f1 : σ₁ = { m := [some (.ref a), some (.int (m : Int)), some (.ref b), some (.int n), some (.int (w : Int)), none, none], H := H0 }) (f2 : H0 a = some (nats (dg (2 ^ w) A))) (f3 : H0 b = some (nats (dg (2 ^ w) Bn))) (f4 : m < 2 ^ w) (f5 : n < 2 ^ w) (f6 : -(2 ^ w) < n) (f7 : (n ≤ 0 ∨ m = 0)) (f8 : m * A + n * Bn = (V : Int)) (f9 : (dg (2 ^ w) A).length ≤ 800) (f10 : (dg (2 ^ w) Bn).length ≤ 800)
theorem mixed_ok (G : FS W) (C : COk W c) (Rm : Room c 3) {a b : Addr} {A Bn V w : Nat} {m n : Int} {Q : AV → AS → Prop} (hw : 1 ≤ w) (hw2 : w ≤ 12) (ha : σ.H a = some (nats (dg (2 ^ w) A))) (hb : σ.H b = some (nats (dg (2 ^ w) Bn)))
    (hm : m < 2 ^ w) (hm' : -(2 ^ w) < m) (hn : n < 2 ^ w) (hn' : -(2 ^ w) < n) (hs : (0 ≤ m ∧ n ≤ 0) ∨ (m ≤ 0 ∧ 0 ≤ n)) (hV : m * A + n * Bn = (V : Int)) (hz : (dg (2 ^ w) A).length ≤ 800) (hz2 : (dg (2 ^ w) Bn).length ≤ 800)
    (k : ∀ l H', Ext σ.H H' → σ.H l = none → H' l = some (nats (dg (2 ^ w) V)) → Q (.ref l) { σ with H := H' }) : CALL W c (.ref (G.f 15)) [.ref a, .int m, .ref b, .int n, .int (w : Int)] σ Q := by
  have hf' : IsFn W.K _ (G.f 15) _ _ _ := G.h15
  have B := G.B
  have hn6 := G.n6
  have hn7 := G.n7
  have hB := pw2 hw
  have hB2 := pw12 hw2
  have hpc : ((2 ^ w : Nat) : Int) = (2 : Int) ^ w := by simp
  refine CALL_fn (xs := [Str.ofString "a", Str.ofString "m", Str.ofString "b", Str.ofString "n", Str.ofString "w"]) C Rm hf' ?_ rfl (by decide) rfl rfl rfl rfl rfl (by decide) ?_
  · ((exact rfl))
  clear hf'
  intro r C' R'
  ((with_reducible refine' EX_seq ?_))
  refine E1_ifX (MixEnd w V σ.H) ?_ ?_
  · (((with_reducible refine' TS_cmp ?q1206 ?_); (case q1206 => rfl)); ((with_reducible refine' EV_loc ?q1207 ?q1209 ?q1210 ?q1208 ?_); (case q1207 => assumption); (case q1209 => rfl); (case q1210 => rfl); (case q1208 => decide)); ((with_reducible refine' EV_intN ?q1211 ?_); (case q1211 => first | exact Int.cast_ofNat_Int.symm | rfl)); (with_reducible refine' CMP_lt ?_))
    ((((with_reducible refine' And.intro (fun hc => ?_) (fun hc => ?_)) <;> (simp only [decide_eq_true_eq, decide_eq_false_iff_not, Bool.not_eq_true', Bool.not_eq_false', Bool.not_true, Bool.not_false, reduceCtorEq] at hc)) <;> (revert hc; intro _)))
    · rename_i h
      ((with_reducible refine' EX_seq ?_); ((with_reducible refine' E1_tup4 ?q1212 ?q1217 ?q1218 ?q1213 ?q1214 ?q1215 ?q1216 ?_); (case q1212 => assumption); (case q1217 => rfl); (case q1218 => rfl); (case q1213 => rfl); (case q1214 => rfl); (case q1215 => rfl); (case q1216 => rfl)); ((with_reducible refine' SP_cons ?q1219 ?_); (case q1219 => rfl)); ((with_reducible refine' EV_loc ?q1220 ?q1222 ?q1223 ?q1221 ?_); (case q1220 => assumption); (case q1222 => rfl); (case q1223 => rfl); (case q1221 => decide)); ((with_reducible refine' SP_cons ?q1224 ?_); (case q1224 => rfl)); ((with_reducible refine' EV_loc ?q1225 ?q1227 ?q1228 ?q1226 ?_); (case q1225 => assumption); (case q1227 => rfl); (case q1228 => rfl); (case q1226 => decide)); ((with_reducible refine' SP_cons ?q1229 ?_); (case q1229 => rfl)); ((with_reducible refine' EV_loc ?q1230 ?q1232 ?q1233 ?q1231 ?_); (case q1230 => assumption); (case q1232 => rfl); (case q1233 => rfl); (case q1231 => decide)); ((with_reducible refine' SP_cons ?q1234 ?_); (case q1234 => rfl)); ((with_reducible refine' EV_loc ?q1235 ?q1237 ?q1238 ?q1236 ?_); (case q1235 => assumption); (case q1237 => rfl); (case q1238 => rfl); (case q1236 => decide)); (with_reducible refine' SP_nil ?_); (with_reducible refine' At4.intro _ _ _ _ ?_); ((with_reducible refine' Cont_norm ?q1239 ?_); (case q1239 => ((dsimp only [frameOf, List.set_cons_zero, List.set_cons_succ]); (try exact rfl)))); (with_reducible refine' EX_nil ?_))
      refine ExQ_next ⟨b, a, Bn, A, n.toNat, m, ?_, hb, ha, by lia, hm, hm', by lia, ?_, hz2, hz⟩
      · have : n = (n.toNat : Int) := by lia
        rw [← this]
        try rfl
      · have : n = (n.toNat : Int) := by lia
        rw [← this, ← hV, Int.add_comm]
    · rename_i h
      ((with_reducible refine' EX_nil ?_))
      refine ExQ_next ⟨a, b, A, Bn, m.toNat, n, ?_, ha, hb, by lia, hn, hn', by lia, ?_, hz, hz2⟩
      · have : m = (m.toNat : Int) := by lia
        rw [← this]
        try rfl
      · have : m = (m.toNat : Int) := by lia
        rw [← this, ← hV]
  · clear hV hs hm hm' hn hn' ha hb hz hz2
    rintro _ ⟨a, b, A, Bn, m, n, rfl, ha, hb, hm, hn, hn', hs, hV, hz, hz2⟩
    have l1 := dg_len_mul hB (n := A) hm
    (((with_reducible refine' Cont_norm ?q1240 ?_); (case q1240 => ((dsimp only [frameOf, List.set_cons_zero, List.set_cons_succ]); (try exact rfl)))); (with_reducible refine' EX_seq ?_); (with_reducible refine' E1_if ?_); ((with_reducible refine' TS_cmp ?q1241 ?_); (case q1241 => rfl)); ((with_reducible refine' EV_loc ?q1242 ?q1244 ?q1245 ?q1243 ?_); (case q1242 => assumption); (case q1244 => rfl); (case q1245 => rfl); (case q1243 => decide)); ((with_reducible refine' EV_intN ?q1246 ?_); (case q1246 => first | exact Int.cast_ofNat_Int.symm | rfl)); (with_reducible refine' CMP_lt ?_))
    ((((with_reducible refine' And.intro (fun hc => ?_) (fun hc => ?_)) <;> (simp only [decide_eq_true_eq, decide_eq_false_iff_not, Bool.not_eq_true', Bool.not_eq_false', Bool.not_true, Bool.not_false, reduceCtorEq] at hc)) <;> (revert hc; intro _)))
    · rename_i h
      obtain ⟨nn, rfl⟩ : ∃ nn : Nat, n = -(nn : Int) := ⟨n.natAbs, by lia⟩
      have hnn : nn < 2 ^ w := by lia
      have l2 := dg_len_mul hB (n := Bn) hnn
      ((with_reducible refine' EX_seq ?_); (with_reducible refine' E1_return ?_); ((with_reducible refine' EV_fnN ?q1247 ?q1252 ?q1253 ?q1251 ?q1250 ?q1248 ?q1249 ?_); (case q1247 => assumption); (case q1252 => with_reducible assumption); (case q1253 => rfl); (case q1251 => decide); (case q1250 => rfl); (case q1248 => rfl); (case q1249 => rfl)); ((with_reducible refine' SP_cons ?q1254 ?_); (case q1254 => rfl)); ((with_reducible refine' EV_fnN ?q1255 ?q1260 ?q1261 ?q1259 ?q1258 ?q1256 ?q1257 ?_); (case q1255 => assumption); (case q1260 => with_reducible assumption); (case q1261 => rfl); (case q1259 => decide); (case q1258 => rfl); (case q1256 => rfl); (case q1257 => rfl)); ((with_reducible refine' SP_cons ?q1262 ?_); (case q1262 => rfl)); ((with_reducible refine' EV_loc ?q1263 ?q1265 ?q1266 ?q1264 ?_); (case q1263 => assumption); (case q1265 => rfl); (case q1266 => rfl); (case q1264 => decide)); ((with_reducible refine' SP_cons ?q1267 ?_); (case q1267 => rfl)); ((with_reducible refine' EV_loc ?q1268 ?q1270 ?q1271 ?q1269 ?_); (case q1268 => assumption); (case q1270 => rfl); (case q1271 => rfl); (case q1269 => decide)); ((with_reducible refine' SP_cons ?q1272 ?_); (case q1272 => rfl)); ((with_reducible refine' EV_loc ?q1273 ?q1275 ?q1276 ?q1274 ?_); (case q1273 => assumption); (case q1275 => rfl); (case q1276 => rfl); (case q1274 => decide)); (with_reducible refine' SP_nil ?_))
      refine mul_limb_ok G (by assumption) (R'.mono (by (exact Nat.succ_pos _))) hw hw2 ha hm (by (exact Nat.le_trans (by assumption) (by decide))) fun l1 H1 he1 hn1 hl1 => ?_
      have hb1 := he1 _ _ hb
      (((with_reducible refine' SP_cons ?q1277 ?_); (case q1277 => rfl)); ((with_reducible refine' EV_fnN ?q1278 ?q1283 ?q1284 ?q1282 ?q1281 ?q1279 ?q1280 ?_); (case q1278 => assumption); (case q1283 => with_reducible assumption); (case q1284 => rfl); (case q1282 => decide); (case q1281 => rfl); (case q1279 => rfl); (case q1280 => rfl)); ((with_reducible refine' SP_cons ?q1285 ?_); (case q1285 => rfl)); ((with_reducible refine' EV_loc ?q1286 ?q1288 ?q1289 ?q1287 ?_); (case q1286 => assumption); (case q1288 => rfl); (case q1289 => rfl); (case q1287 => decide)); ((with_reducible refine' SP_cons ?q1290 ?_); (case q1290 => rfl)); (with_reducible refine' EV_neg ?_); ((with_reducible refine' EV_loc ?q1291 ?q1293 ?q1294 ?q1292 ?_); (case q1291 => assumption); (case q1293 => rfl); (case q1294 => rfl); (case q1292 => decide)); (with_reducible refine' AtI.intro _ ?_); ((with_reducible refine' SP_cons ?q1295 ?_); (case q1295 => rfl)); ((with_reducible refine' EV_loc ?q1296 ?q1298 ?q1299 ?q1297 ?_); (case q1296 => assumption); (case q1298 => rfl); (case q1299 => rfl); (case q1297 => decide)); (with_reducible refine' SP_nil ?_))
      rw [Int.neg_neg]
      refine mul_limb_ok G (by assumption) (R'.mono (by lia)) hw hw2 hb1 hnn (by lia) fun l2 H2 he2 hn2 hl2 => ?_
      have he12 : Ext σ.H H2 := he1.trans he2
      have hl12 := he2 _ _ hl1
      have e1 : ((A * m : Nat) : Int) = m * A := by rw [Int.natCast_mul, Int.mul_comm]
      have e2 : ((Bn * nn : Nat) : Int) = -(-(nn : Int) * Bn) := by rw [Int.natCast_mul, Int.mul_comm]; grind
      (((with_reducible refine' SP_cons ?q1300 ?_); (case q1300 => rfl)); ((with_reducible refine' EV_loc ?q1301 ?q1303 ?q1304 ?q1302 ?_); (case q1301 => assumption); (case q1303 => rfl); (case q1304 => rfl); (case q1302 => decide)); (with_reducible refine' SP_nil ?_))
      refine sub_ok G (by assumption) (R'.mono (by lia)) hw hw2 hl12 hl2 (by (generalize 2 ^ _ = D at *; lia)) (by lia) fun l3 H3 he3 hn3 hl3 => ?_
      ((with_reducible refine' Cont_ret ?_); (with_reducible refine' Cont_ret ?_); ((with_reducible refine' RetQ_ret ?_); try dsimp only))
      refine k l3 H3 (he12.trans he3) (he12.fresh hn3) ?_
      rw [hl3]
      congr 3
      (generalize 2 ^ _ = D at *; lia)
    · rename_i h
      ((with_reducible refine' EX_nil ?_); ((with_reducible refine' Cont_norm ?q1305 ?_); (case q1305 => ((dsimp only [frameOf, List.set_cons_zero, List.set_cons_succ]); (try exact rfl)))); (with_reducible refine' EX_seq ?_); (with_reducible refine' E1_return ?_); (with_reducible refine' EV_ite ?_); ((with_reducible refine' TS_cmp ?q1306 ?_); (case q1306 => rfl)); ((with_reducible refine' EV_loc ?q1307 ?q1309 ?q1310 ?q1308 ?_); (case q1307 => assumption); (case q1309 => rfl); (case q1310 => rfl); (case q1308 => decide)); ((with_reducible refine' EV_intN ?q1311 ?_); (case q1311 => first | exact Int.cast_ofNat_Int.symm | rfl)); (with_reducible refine' CMP_eq ?_))
      ((((with_reducible refine' And.intro (fun hc => ?_) (fun hc => ?_)) <;> (simp only [decide_eq_true_eq, decide_eq_false_iff_not, Bool.not_eq_true', Bool.not_eq_false', Bool.not_true, Bool.not_false, reduceCtorEq] at hc)) <;> (revert hc; intro _)))
      · rename_i h0
        have : n = 0 := by (omega)
        subst this
        (((with_reducible refine' EV_fnN ?q1312 ?q1317 ?q1318 ?q1316 ?q1315 ?q1313 ?q1314 ?_); (case q1312 => assumption); (case q1317 => with_reducible assumption); (case q1318 => rfl); (case q1316 => decide); (case q1315 => rfl); (case q1313 => rfl); (case q1314 => rfl)); ((with_reducible refine' SP_cons ?q1319 ?_); (case q1319 => rfl)); ((with_reducible refine' EV_loc ?q1320 ?q1322 ?q1323 ?q1321 ?_); (case q1320 => assumption); (case q1322 => rfl); (case q1323 => rfl); (case q1321 => decide)); ((with_reducible refine' SP_cons ?q1324 ?_); (case q1324 => rfl)); ((with_reducible refine' EV_loc ?q1325 ?q1327 ?q1328 ?q1326 ?_); (case q1325 => assumption); (case q1327 => rfl); (case q1328 => rfl); (case q1326 => decide)); ((with_reducible refine' SP_cons ?q1329 ?_); (case q1329 => rfl)); ((with_reducible refine' EV_loc ?q1330 ?q1332 ?q1333 ?q1331 ?_); (case q1330 => assumption); (case q1332 => rfl); (case q1333 => rfl); (case q1331 => decide)); (with_reducible refine' SP_nil ?_))
        refine mul_limb_ok G (by assumption) (R'.mono (by lia)) hw hw2 ha hm (by lia) fun l1 H1 he1 hn1 hl1 => ?_
        ((with_reducible refine' Cont_ret ?_); ((with_reducible refine' RetQ_ret ?_); try dsimp only))
        refine k l1 H1 he1 hn1 ?_
        rw [hl1]
        congr 3
        have e1 : ((A * m : Nat) : Int) = m * A := by rw [Int.natCast_mul, Int.mul_comm]
        rw [Int.zero_mul] at hV
        (generalize 2 ^ _ = D at *; lia)
      · rename_i h0
        have : m = 0 := by lia
        subst this
        obtain ⟨nn, rfl⟩ : ∃ nn : Nat, n = (nn : Int) := ⟨n.toNat, by lia⟩
        have hnn : nn < 2 ^ w := by lia
        (((with_reducible refine' EV_fnN ?q1334 ?q1339 ?q1340 ?q1338 ?q1337 ?q1335 ?q1336 ?_); (case q1334 => assumption); (case q1339 => with_reducible assumption); (case q1340 => rfl); (case q1338 => decide); (case q1337 => rfl); (case q1335 => rfl); (case q1336 => rfl)); ((with_reducible refine' SP_cons ?q1341 ?_); (case q1341 => rfl)); ((with_reducible refine' EV_loc ?q1342 ?q1344 ?q1345 ?q1343 ?_); (case q1342 => assumption); (case q1344 => rfl); (case q1345 => rfl); (case q1343 => decide)); ((with_reducible refine' SP_cons ?q1346 ?_); (case q1346 => rfl)); ((with_reducible refine' EV_loc ?q1347 ?q1349 ?q1350 ?q1348 ?_); (case q1347 => assumption); (case q1349 => rfl); (case q1350 => rfl); (case q1348 => decide)); ((with_reducible refine' SP_cons ?q1351 ?_); (case q1351 => rfl)); ((with_reducible refine' EV_loc ?q1352 ?q1354 ?q1355 ?q1353 ?_); (case q1352 => assumption); (case q1354 => rfl); (case q1355 => rfl); (case q1353 => decide)); (with_reducible refine' SP_nil ?_))
        refine mul_limb_ok G (by assumption) (R'.mono (by lia)) hw hw2 hb hnn (by lia) fun l1 H1 he1 hn1 hl1 => ?_
        ((with_reducible refine' Cont_ret ?_); ((with_reducible refine' RetQ_ret ?_); try dsimp only))
        refine k l1 H1 he1 hn1 ?_
        rw [hl1]
        congr 3
        have e1 : ((Bn * nn : Nat) : Int) = nn * Bn := by rw [Int.natCast_mul, Int.mul_comm]
        simp at hV
        (generalize 2 ^ _ = D at *; lia)

theorem dg_small {B r : Nat} (hB : 2 ≤ B) (h0 : 0 < r) (h : r < B) : dg B r = [r] := by
  rw [dg_pos hB h0, Nat.mod_eq_of_lt h, Nat.div_eq_of_lt h, dg_zero hB]

theorem divrem_small_ok (G : FS W) (C : COk W c) (Rm : Room c 3) {a b : Addr} {n m w : Nat} {Q : AV → AS → Prop} (hw : 1 ≤ w) (hw2 : w ≤ 12) (ha : σ.H a = some (nats (dg (2 ^ w) n))) (hb : σ.H b = some (nats [m])) (hm0 : 0 < m) (hm : m < 2 ^ w) (hz : (dg (2 ^ w) n).length ≤ 800)
    (k : ∀ t l1 l2 H', Ext σ.H H' → σ.H l2 = none → H' t = some (.tup [.ref l1, .ref l2]) → H' l2 = some (nats (dg (2 ^ w) (n % m))) → Q (.ref t) { σ with H := H' }) : CALL W c (.ref (G.f 18)) [.ref a, .ref b, .int (w : Int)] σ Q := by
  have hf' : IsFn W.K _ (G.f 18) _ _ _ := G.h18
  have B := G.B
  have hn8 := G.n8
  have hB := pw2 hw
  have hB2 := pw12 hw2
  refine CALL_fn (xs := [Str.ofString "a", Str.ofString "b", Str.ofString "w"]) C Rm hf' ?_ rfl (by decide) rfl rfl rfl rfl rfl (by decide) ?_
  · ((exact rfl))
  clear hf'
  intro r C' R'
  ((with_reducible refine' EX_seq ?_); ((with_reducible refine' E1_unp2 ?q1356 ?q1359 ?q1360 ?q1357 ?q1358 ?_); (case q1356 => assumption); (case q1359 => rfl); (case q1360 => rfl); (case q1357 => rfl); (case q1358 => rfl)); ((with_reducible refine' EV_fnN ?q1361 ?q1366 ?q1367 ?q1365 ?q1364 ?q1362 ?q1363 ?_); (case q1361 => assumption); (case q1366 => with_reducible assumption); (case q1367 => rfl); (case q1365 => decide); (case q1364 => rfl); (case q1362 => rfl); (case q1363 => rfl)); ((with_reducible refine' SP_cons ?q1368 ?_); (case q1368 => rfl)); ((with_reducible refine' EV_loc ?q1369 ?q1371 ?q1372 ?q1370 ?_); (case q1369 => assumption); (case q1371 => rfl); (case q1372 => rfl); (case q1370 => decide)); ((with_reducible refine' SP_cons ?q1373 ?_); (case q1373 => rfl)); ((with_reducible refine' EV_idxN ?q1374 ?_); (case q1374 => intro _ _ _; rfl)); ((with_reducible refine' EV_loc ?q1375 ?q1377 ?q1378 ?q1376 ?_); (case q1375 => assumption); (case q1377 => rfl); (case q1378 => rfl); (case q1376 => decide)); ((with_reducible refine' EV_intN ?q1379 ?_); (case q1379 => first | exact Int.cast_ofNat_Int.symm | rfl)))
  (((refine' ⟨_, _, _, _, rfl, rfl, ?q1382, ?q1380, ?q1381, ?q1383, ?_⟩); (case q1382 => first | rfl | exact nat_sub1 (by first | assumption | lia)); (case q1380 => assumption); (case q1381 => (((simp only [List.length_append, List.length_cons, List.length_nil, List.length_set, List.length_take, List.length_drop, List.length_replicate] at *) <;> (exact Nat.succ_pos _)))); (case q1383 => (((exact Nat.succ_pos _))))))
  rw [show [m].getD 0 0 = m from rfl]
  (((with_reducible refine' SP_cons ?q1384 ?_); (case q1384 => rfl)); ((with_reducible refine' EV_loc ?q1385 ?q1387 ?q1388 ?q1386 ?_); (case q1385 => assumption); (case q1387 => rfl); (case q1388 => rfl); (case q1386 => decide)); (with_reducible refine' SP_nil ?_))
  refine divrem_limb_ok G (by assumption) (R'.mono (by lia)) hw hw2 ha hm0 hm (by (exact Nat.le_trans (by assumption) (by decide))) fun t l H1 he1 hn1 ht1 hl1 => ?_
  refine ⟨t, _, _, rfl, ht1, ?_⟩
  (((with_reducible refine' Cont_norm ?q1389 ?_); (case q1389 => ((dsimp only [frameOf, List.set_cons_zero, List.set_cons_succ]); (try exact rfl)))); (with_reducible refine' EX_seq ?_); (with_reducible refine' E1_return ?_); (with_reducible refine' EV_tuple ?_); ((with_reducible refine' SP_cons ?q1390 ?_); (case q1390 => rfl)); ((with_reducible refine' EV_loc ?q1391 ?q1393 ?q1394 ?q1392 ?_); (case q1391 => assumption); (case q1393 => rfl); (case q1394 => rfl); (case q1392 => decide)); ((with_reducible refine' SP_cons ?q1395 ?_); (case q1395 => rfl)); (with_reducible refine' EV_ite ?_); ((with_reducible refine' TS_cmp ?q1396 ?_); (case q1396 => rfl)); ((with_reducible refine' EV_loc ?q1397 ?q1399 ?q1400 ?q1398 ?_); (case q1397 => assumption); (case q1399 => rfl); (case q1400 => rfl); (case q1398 => decide)); ((with_reducible refine' EV_intN ?q1401 ?_); (case q1401 => first | exact Int.cast_ofNat_Int.symm | rfl)); (with_reducible refine' CMP_gt ?_))
  ((((with_reducible refine' And.intro (fun hc => ?_) (fun hc => ?_)) <;> (simp only [decide_eq_true_eq, decide_eq_false_iff_not, Bool.not_eq_true', Bool.not_eq_false', Bool.not_true, Bool.not_false, reduceCtorEq] at hc)) <;> (revert hc; intro _)))
  · rename_i h
    (((with_reducible refine' EV_oneN ?q1402 ?_); (case q1402 => rfl)); ((with_reducible refine' EV_loc ?q1403 ?q1405 ?q1406 ?q1404 ?_); (case q1403 => assumption); (case q1405 => rfl); (case q1406 => rfl); (case q1404 => decide)))
    (((refine' ⟨_, _, rfl, ?q1407, ?_⟩); (case q1407 => first | rfl | exact Int.cast_ofNat_Int.symm)))
    intro l2 H2 he2 hn2 hl2
    ((with_reducible refine' SP_nil ?_))
    refine ⟨Nat.le_of_ble_eq_true rfl, ?_⟩
    intro t3 H3 he3 hn3 hl3
    ((with_reducible refine' Cont_ret ?_); ((with_reducible refine' RetQ_ret ?_); try dsimp only))
    refine k t3 l l2 H3 ((he1.trans he2).trans he3) (he1.fresh hn2) hl3 ?_
    rw [he3 _ _ hl2, dg_small hB (by lia) (Nat.lt_trans (Nat.mod_lt _ hm0) hm)]
  · rename_i h
    ((with_reducible refine' EV_nilN ?_))
    intro l2 H2 he2 hn2 hl2
    ((with_reducible refine' SP_nil ?_))
    refine ⟨Nat.le_of_ble_eq_true rfl, ?_⟩
    intro t3 H3 he3 hn3 hl3
    ((with_reducible refine' Cont_ret ?_); ((with_reducible refine' RetQ_ret ?_); try dsimp only))
    refine k t3 l l2 H3 ((he1.trans he2).trans he3) (he1.fresh hn2) hl3 ?_
    rw [he3 _ _ hl2, show n % m = 0 by lia, dg_zero hB]

inductive GlInv (t : Addr) (t0 t1 t2 v1 v2 w : Nat) (H0 : AH) (n : Nat) (σ₁ : AS) : Prop
  | intro (g : Nat) (f1 : n = g) (f2 : g < 2 ^ w) (f3 : g * v1 ≤ t2 * 2 ^ w + t1) (f4 : (∀ q, q < 2 ^ w → q * (v1 * 2 ^ w + v2) ≤ (t2 * 2 ^ w + t1) * 2 ^ w + t0 → q ≤ g)) (f5 : σ₁ = { m := [some (.ref t), some (.int (v1 : Nat)), some (.int (v2 : Nat)), some (.int (w : Nat)), some (.int (t2 * 2 ^ w + t1 : Nat)), some (.int (2 ^ w : Nat)), some (.int (g : Nat)), some (.int (t2 * 2 ^ w + t1 - g * v1 : Nat)), none], H := H0 })
inductive GlEnd (t : Addr) (t0 t1 t2 v1 v2 w : Nat) (H0 : AH) (σ₁ : AS) : Prop
  | intro (g : Nat) (f1 : Guess (2 ^ w) (t2 * 2 ^ w + t1) t0 v1 v2 g) (f2 : σ₁ = { m := [some (.ref t), some (.int (v1 : Nat)), some (.int (v2 : Nat)), some (.int (w : Nat)), some (.int (t2 * 2 ^ w + t1 : Nat)), some (.int (2 ^ w : Nat)), some (.int (g : Nat)), some (.int (t2 * 2 ^ w + t1 - g * v1 : Nat)), none], H := H0 })
theorem guessed_limb_ok (G : FS W) (C : COk W c) (Rm : Room c 1) {t : Addr} {t0 t1 t2 v1 v2 w : Nat} {Q : AV → AS → Prop} (hw : 1 ≤ w) (hw2 : w ≤ 12) (ht : σ.H t = some (nats [t0, t1, t2])) (h0 : t0 < 2 ^ w) (h1 : t1 < 2 ^ w) (h2 : t2 < 2 ^ w) (hv1 : 0 < v1) (hv1' : v1 < 2 ^ w) (hv2 : v2 < 2 ^ w)
    (k : ∀ g, Guess (2 ^ w) (t2 * 2 ^ w + t1) t0 v1 v2 g → Q (.int (g : Int)) σ) : CALL W c (.ref (G.f 19)) [.ref t, .int (v1 : Int), .int (v2 : Int), .int (w : Int)] σ Q := by
  have hf' : IsFn W.K _ (G.f 19) _ _ _ := G.h19
  have B := G.B
  have hB := pw2 hw
  have hB2 := pw12 hw2
  refine CALL_fn (xs := [Str.ofString "top", Str.ofString "first", Str.ofString "second", Str.ofString "w"]) C Rm hf' ?_ rfl (by decide) rfl rfl rfl rfl rfl (by decide) ?_
  · ((exact rfl))
  clear hf'
  intro r C' R'
  obtain ⟨s1, s2, s3⟩ := guess_start (B := 2 ^ w) (high := t2 * 2 ^ w + t1) (u0 := t0) (v1 := v1) (v2 := v2) hB h0 hv1
  have e2 : [t0, t1, t2].getD 2 0 = t2 := rfl
  have e1 : [t0, t1, t2].getD 1 0 = t1 := rfl
  ((with_reducible refine' EX_seq ?_); ((with_reducible refine' E1_tup2 ?q1408 ?q1411 ?q1412 ?q1409 ?q1410 ?_); (case q1408 => assumption); (case q1411 => rfl); (case q1412 => rfl); (case q1409 => rfl); (case q1410 => rfl)); ((with_reducible refine' SP_cons ?q1413 ?_); (case q1413 => rfl)); (with_reducible refine' EV_bin ?_); (with_reducible refine' EV_bin ?_); ((with_reducible refine' EV_idxN ?q1414 ?_); (case q1414 => intro _ _ _; rfl)); ((with_reducible refine' EV_loc ?q1415 ?q1417 ?q1418 ?q1416 ?_); (case q1415 => assumption); (case q1417 => rfl); (case q1418 => rfl); (case q1416 => decide)); ((with_reducible refine' EV_intN ?q1419 ?_); (case q1419 => first | exact Int.cast_ofNat_Int.symm | rfl)))
  (((refine' ⟨_, _, _, _, rfl, rfl, ?q1422, ?q1420, ?q1421, ?q1423, ?_⟩); (case q1422 => first | rfl | exact nat_sub1 (by first | assumption | lia)); (case q1420 => assumption); (case q1421 => (((simp only [List.length_append, List.length_cons, List.length_nil, List.length_set, List.length_take, List.length_drop, List.length_replicate] at *) <;> (exact Nat.le_refl _)))); (case q1423 => (((decide))))))
  rw [e2]
  (((with_reducible refine' EV_loc ?q1424 ?q1426 ?q1427 ?q1425 ?_); (case q1424 => assumption); (case q1426 => rfl); (case q1427 => rfl); (case q1425 => decide)); ((with_reducible refine' BIN_shlN ?q1428 ?q1429 ?_); (case q1428 => ((lia))); (case q1429 => (((generalize 2 ^ _ = D at *; lia))))); ((with_reducible refine' EV_idxN ?q1430 ?_); (case q1430 => intro _ _ _; rfl)); ((with_reducible refine' EV_loc ?q1431 ?q1433 ?q1434 ?q1432 ?_); (case q1431 => assumption); (case q1433 => rfl); (case q1434 => rfl); (case q1432 => decide)); ((with_reducible refine' EV_intN ?q1435 ?_); (case q1435 => first | exact Int.cast_ofNat_Int.symm | rfl)))
  (((refine' ⟨_, _, _, _, rfl, rfl, ?q1438, ?q1436, ?q1437, ?q1439, ?_⟩); (case q1438 => first | rfl | exact nat_sub1 (by first | assumption | lia)); (case q1436 => assumption); (case q1437 => (((simp only [List.length_append, List.length_cons, List.length_nil, List.length_set, List.length_take, List.length_drop, List.length_replicate] at *) <;> (exact Nat.le_add_right _ _)))); (case q1439 => (((simp; done))))))
  rw [e1]
  (((with_reducible refine' BIN_or1 ?q1440 ?_); (case q1440 => ((assumption)))); ((with_reducible refine' SP_cons ?q1441 ?_); (case q1441 => rfl)); (with_reducible refine' EV_bin ?_); ((with_reducible refine' EV_intN ?q1442 ?_); (case q1442 => first | exact Int.cast_ofNat_Int.symm | rfl)); ((with_reducible refine' EV_loc ?q1443 ?q1445 ?q1446 ?q1444 ?_); (case q1443 => assumption); (case q1445 => rfl); (case q1446 => rfl); (case q1444 => decide)); ((with_reducible refine' BIN_shl1 ?q1447 ?_); (case q1447 => ((lia)))); (with_reducible refine' SP_nil ?_); (with_reducible refine' At2.intro _ _ ?_); ((with_reducible refine' Cont_norm ?q1448 ?_); (case q1448 => ((dsimp only [frameOf, List.set_cons_zero, List.set_cons_succ]); (try exact rfl)))); (with_reducible refine' EX_seq ?_); ((with_reducible refine' E1_assign ?q1449 ?q1450 ?q1451 ?_); (case q1449 => assumption); (case q1450 => rfl); (case q1451 => rfl)); ((with_reducible refine' EV_min ?q1453 ?q1452 ?q1457 ?q1456 ?q1454 ?q1455 ?_); (case q1453 => assumption); (case q1452 => assumption); (case q1457 => rfl); (case q1456 => rfl); (case q1454 => rfl); (case q1455 => rfl)); (with_reducible refine' EV_bin ?_); ((with_reducible refine' EV_loc ?q1458 ?q1460 ?q1461 ?q1459 ?_); (case q1458 => assumption); (case q1460 => rfl); (case q1461 => rfl); (case q1459 => decide)); ((with_reducible refine' EV_loc ?q1462 ?q1464 ?q1465 ?q1463 ?_); (case q1462 => assumption); (case q1464 => rfl); (case q1465 => rfl); (case q1463 => decide)); ((with_reducible refine' BIN_divN ?q1466 ?q1467 ?_); (case q1466 => ((lia))); (case q1467 => ((lia)))); (with_reducible refine' EV_bin ?_); ((with_reducible refine' EV_loc ?q1468 ?q1470 ?q1471 ?q1469 ?_); (case q1468 => assumption); (case q1470 => rfl); (case q1471 => rfl); (case q1469 => decide)); ((with_reducible refine' EV_intN ?q1472 ?_); (case q1472 => first | exact Int.cast_ofNat_Int.symm | rfl)); ((with_reducible refine' BIN_subN ?q1473 ?_); (case q1473 => ((lia)))))
  refine ⟨_, _, rfl, rfl, ?_⟩
  rw [show (if ((2 ^ w - 1 : Nat) : Int) < (((t2 * 2 ^ w + t1) / v1 : Nat) : Int) then ((2 ^ w - 1 : Nat) : Int) else (((t2 * 2 ^ w + t1) / v1 : Nat) : Int)) = ((min ((t2 * 2 ^ w + t1) / v1) (2 ^ w - 1) : Nat) : Int) from by
    show (if ((2 ^ w - 1 : Nat) : Int) < (((t2 * 2 ^ w + t1) / v1 : Nat) : Int) then ((2 ^ w - 1 : Nat) : Int) else (((t2 * 2 ^ w + t1) / v1 : Nat) : Int)) = _
    generalize (t2 * 2 ^ w + t1) / v1 = d
    split <;> lia]
  generalize min ((t2 * 2 ^ w + t1) / v1) (2 ^ w - 1) = g0 at *
  (((with_reducible refine' Cont_norm ?q1474 ?_); (case q1474 => ((dsimp only [frameOf, List.set_cons_zero, List.set_cons_succ]); (try exact rfl)))); (with_reducible refine' EX_seq ?_); ((with_reducible refine' E1_assign ?q1475 ?q1476 ?q1477 ?_); (case q1475 => assumption); (case q1476 => rfl); (case q1477 => rfl)); (with_reducible refine' EV_bin ?_); ((with_reducible refine' EV_loc ?q1478 ?q1480 ?q1481 ?q1479 ?_); (case q1478 => assumption); (case q1480 => rfl); (case q1481 => rfl); (case q1479 => decide)); (with_reducible refine' EV_bin ?_); ((with_reducible refine' EV_loc ?q1482 ?q1484 ?q1485 ?q1483 ?_); (case q1482 => assumption); (case q1484 => rfl); (case q1485 => rfl); (case q1483 => decide)); ((with_reducible refine' EV_loc ?q1486 ?q1488 ?q1489 ?q1487 ?_); (case q1486 => assumption); (case q1488 => rfl); (case q1489 => rfl); (case q1487 => decide)); ((with_reducible refine' BIN_mulN ?q1490 ?_); (case q1490 => (((generalize 2 ^ _ = D at *; lia))))); ((with_reducible refine' BIN_subN ?q1491 ?_); (case q1491 => ((assumption)))); ((with_reducible refine' Cont_norm ?q1492 ?_); (case q1492 => ((dsimp only [frameOf, List.set_cons_zero, List.set_cons_succ]); (try exact rfl)))); (with_reducible refine' EX_seq ?_))
  refine E1_whX (GlInv t t0 t1 t2 v1 v2 w σ.H)
    (GlEnd t t0 t1 t2 v1 v2 w σ.H) _ ⟨g0, rfl, s1, s2, s3, rfl⟩ ?_ ?_
  · rintro n _ ⟨g, rfl, i1, i2, i3, rfl⟩
    have hT : t2 * 2 ^ w + t1 < 4096 * 4096 + 4096 := by
      have : t2 * 2 ^ w ≤ 4096 * 4096 := Nat.mul_le_mul (by (generalize 2 ^ _ = D at *; lia)) hB2
      (generalize 2 ^ _ = D at *; lia)
    ((with_reducible refine' TS_and2 ?_); ((with_reducible refine' TS_cmp ?q1493 ?_); (case q1493 => rfl)); ((with_reducible refine' EV_loc ?q1494 ?q1496 ?q1497 ?q1495 ?_); (case q1494 => assumption); (case q1496 => rfl); (case q1497 => rfl); (case q1495 => decide)); ((with_reducible refine' EV_loc ?q1498 ?q1500 ?q1501 ?q1499 ?_); (case q1498 => assumption); (case q1500 => rfl); (case q1501 => rfl); (case q1499 => decide)); (with_reducible refine' CMP_lt ?_))
    ((((with_reducible refine' And.intro (fun hc => ?_) (fun hc => ?_)) <;> (simp only [decide_eq_true_eq, decide_eq_false_iff_not, Bool.not_eq_true', Bool.not_eq_false', Bool.not_true, Bool.not_false, reduceCtorEq] at hc)) <;> (revert hc; intro _)))
    · rename_i hlt
      (((with_reducible refine' TS_cmp ?q1502 ?_); (case q1502 => rfl)); (with_reducible refine' EV_bin ?_); ((with_reducible refine' EV_loc ?q1503 ?q1505 ?q1506 ?q1504 ?_); (case q1503 => assumption); (case q1505 => rfl); (case q1506 => rfl); (case q1504 => decide)); ((with_reducible refine' EV_loc ?q1507 ?q1509 ?q1510 ?q1508 ?_); (case q1507 => assumption); (case q1509 => rfl); (case q1510 => rfl); (case q1508 => decide)); ((with_reducible refine' BIN_mulN ?q1511 ?_); (case q1511 => ((lia)))); (with_reducible refine' EV_bin ?_); (with_reducible refine' EV_bin ?_); ((with_reducible refine' EV_loc ?q1512 ?q1514 ?q1515 ?q1513 ?_); (case q1512 => assumption); (case q1514 => rfl); (case q1515 => rfl); (case q1513 => decide)); ((with_reducible refine' EV_loc ?q1516 ?q1518 ?q1519 ?q1517 ?_); (case q1516 => assumption); (case q1518 => rfl); (case q1519 => rfl); (case q1517 => decide)); ((with_reducible refine' BIN_shlN ?q1520 ?q1521 ?_); (case q1520 => ((lia))); (case q1521 => (((generalize 2 ^ _ = D at *; lia))))); ((with_reducible refine' EV_idxN ?q1522 ?_); (case q1522 => intro _ _ _; rfl)); ((with_reducible refine' EV_loc ?q1523 ?q1525 ?q1526 ?q1524 ?_); (case q1523 => assumption); (case q1525 => rfl); (case q1526 => rfl); (case q1524 => decide)); ((with_reducible refine' EV_intN ?q1527 ?_); (case q1527 => first | exact Int.cast_ofNat_Int.symm | rfl)))
      (((refine' ⟨_, _, _, _, rfl, rfl, ?q1530, ?q1528, ?q1529, ?q1531, ?_⟩); (case q1530 => first | rfl | exact nat_sub1 (by first | assumption | lia)); (case q1528 => assumption); (case q1529 => (((simp only [List.length_append, List.length_cons, List.length_nil, List.length_set, List.length_take, List.length_drop, List.length_replicate] at *) <;> (exact Nat.succ_pos _)))); (case q1531 => ((lia)))))
      have e0 : [t0, t1, t2].getD 0 0 = t0 := rfl
      rw [e0]
      (((with_reducible refine' BIN_or1 ?q1532 ?_); (case q1532 => ((assumption)))); (with_reducible refine' CMP_gt ?_))
      ((((with_reducible refine' And.intro (fun hc => ?_) (fun hc => ?_)) <;> (simp only [decide_eq_true_eq, decide_eq_false_iff_not, Bool.not_eq_true', Bool.not_eq_false', Bool.not_true, Bool.not_false, reduceCtorEq] at hc)) <;> (revert hc; intro _)))
      · rename_i hgt
        obtain ⟨n1, n2, n3, n4⟩ := guess_next i2 i3 (by (generalize 2 ^ _ = D at *; omega))
        ((with_reducible refine' EX_seq ?_); ((with_reducible refine' E1_aug ?q1533 ?q1534 ?q1535 ?_); (case q1533 => assumption); (case q1534 => rfl); (case q1535 => rfl)); ((with_reducible refine' EV_intN ?q1536 ?_); (case q1536 => first | exact Int.cast_ofNat_Int.symm | rfl)); ((with_reducible refine' INP_subN ?q1537 ?_); (case q1537 => ((assumption)))); ((with_reducible refine' Cont_norm ?q1538 ?_); (case q1538 => ((dsimp only [frameOf, List.set_cons_zero, List.set_cons_succ]); (try exact rfl)))); (with_reducible refine' EX_seq ?_); ((with_reducible refine' E1_aug ?q1539 ?q1540 ?q1541 ?_); (case q1539 => assumption); (case q1540 => rfl); (case q1541 => rfl)); ((with_reducible refine' EV_loc ?q1542 ?q1544 ?q1545 ?q1543 ?_); (case q1542 => assumption); (case q1544 => rfl); (case q1545 => rfl); (case q1543 => decide)); (with_reducible refine' INP_addN ?_); ((with_reducible refine' Cont_norm ?q1546 ?_); (case q1546 => ((dsimp only [frameOf, List.set_cons_zero, List.set_cons_succ]); (try exact rfl)))); (with_reducible refine' EX_nil ?_))
        refine WhQ_next _ _ (Wk.refl _) ?_ ⟨n - 1, rfl, by (generalize 2 ^ _ = D at *; lia), n2, n4, ?_⟩
        · lia
        · rw [n3]
      · rename_i hgt
        refine ⟨n, ⟨i1, i2, i3, .inl ?_⟩, rfl⟩
        have e1 : (t2 * 2 ^ w + t1 - n * v1) * 2 ^ w + n * v1 * 2 ^ w = (t2 * 2 ^ w + t1) * 2 ^ w := by
          rw [← Nat.add_mul]; congr 1; (generalize 2 ^ _ = D at *; omega)
        have e2 : n * (v1 * 2 ^ w + v2) = n * v1 * 2 ^ w + n * v2 := by
          generalize 2 ^ w = X; grind
        (generalize 2 ^ _ = D at *; omega)
    · rename_i hlt
      ((with_reducible refine' And.intro (fun (h : false = true) => nomatch h) (fun (_ : false = false) => ?_)))
      refine ⟨n, ⟨i1, i2, i3, .inr ?_⟩, rfl⟩
      (generalize 2 ^ _ = D at *; omega)
  · rintro _ ⟨g, hG, rfl⟩
    (((with_reducible refine' Cont_norm ?q1547 ?_); (case q1547 => ((dsimp only [frameOf, List.set_cons_zero, List.set_cons_succ]); (try exact rfl)))); (with_reducible refine' EX_seq ?_); (with_reducible refine' E1_return ?_); ((with_reducible refine' EV_loc ?q1548 ?q1550 ?q1551 ?q1549 ?_); (case q1548 => assumption); (case q1550 => rfl); (case q1551 => rfl); (case q1549 => decide)); (with_reducible refine' Cont_ret ?_); ((with_reducible refine' RetQ_ret ?_); try dsimp only))
    exact k g hG

theorem drop_set_same {R : List Nat} {i j d : Nat} (h : i < j) : (R.set i d).drop j = R.drop j := List.drop_set_of_lt h

inductive TaInv (a b : Addr) (R V : List Nat) (g i w : Nat) (H0 : AH) (k : Nat) (σ₁ : AS) : Prop
  | intro (Rk : List Nat) (cy : Nat) (H' : AH) (f1 : Rk.length = R.length) (f2 : Lm (2 ^ w) Rk) (f3 : cy ≤ 2 ^ w) (f4 : val (2 ^ w) Rk + (2 ^ w) ^ i * (g * val (2 ^ w) (V.take k)) = val (2 ^ w) R + (2 ^ w) ^ (i + k) * cy) (f5 : Rk.drop (i + V.length) = R.drop (i + V.length)) (f6 : H' a = some (nats Rk)) (f7 : (∀ x o, x ≠ a → x ≠ b → H0 x = some o → H' x = some o)) (f8 : σ₁ = { m := [some (.ref a), some (.ref b), some (.int (g : Nat)), some (.int (i : Nat)), some (.int (w : Nat)), some (.int (cy : Nat)), some (.int (2 ^ w : Nat)), none, none, none, none, none], H := H' })
theorem take_away_ok (G : FS W) (C : COk W c) (Rm : Room c 1) {a b : Addr} {g i w : Nat} {R V : List Nat} {Q : AV → AS → Prop} (hw : 1 ≤ w) (hw2 : w ≤ 12) (ha : σ.H a = some (nats R)) (hb : σ.H b = some (nats V)) (hab : a ≠ b) (hR : Lm (2 ^ w) R) (hV : Lm (2 ^ w) V) (hg : g < 2 ^ w) (hlen : i + V.length < R.length) (hz : R.length ≤ 1000)
    (k : ∀ R1 ret H', R1.length = R.length → Lm (2 ^ w) R1 → ret ≤ 1 → val (2 ^ w) R1 + (2 ^ w) ^ i * (g * val (2 ^ w) V) = val (2 ^ w) R + (2 ^ w) ^ (i + V.length + 1) * ret → R1.drop (i + V.length + 1) = R.drop (i + V.length + 1) →
      H' a = some (nats R1) → (∀ x o, x ≠ a → σ.H x = some o → H' x = some o) → Q (.int (ret : Int)) { σ with H := H' }) : CALL W c (.ref (G.f 20)) [.ref a, .ref b, .int (g : Int), .int (i : Int), .int (w : Int)] σ Q := by
  have hf' : IsFn W.K _ (G.f 20) _ _ _ := G.h20
  have B := G.B
  have hB := pw2 hw
  have hB2 := pw12 hw2
  refine CALL_fn (xs := [Str.ofString "rest", Str.ofString "b", Str.ofString "limb", Str.ofString "at", Str.ofString "w"]) C Rm hf' ?_ rfl (by decide) rfl rfl rfl rfl rfl (by decide) ?_
  · ((exact rfl))
  clear hf'
  intro r C' R'
  ((with_reducible refine' EX_seq ?_); ((with_reducible refine' E1_tup2 ?q1552 ?q1555 ?q1556 ?q1553 ?q1554 ?_); (case q1552 => assumption); (case q1555 => rfl); (case q1556 => rfl); (case q1553 => rfl); (case q1554 => rfl)); ((with_reducible refine' SP_cons ?q1557 ?_); (case q1557 => rfl)); ((with_reducible refine' EV_intN ?q1558 ?_); (case q1558 => first | exact Int.cast_ofNat_Int.symm | rfl)); ((with_reducible refine' SP_cons ?q1559 ?_); (case q1559 => rfl)); (with_reducible refine' EV_bin ?_); ((with_reducible refine' EV_intN ?q1560 ?_); (case q1560 => first | exact Int.cast_ofNat_Int.symm | rfl)); ((with_reducible refine' EV_loc ?q1561 ?q1563 ?q1564 ?q1562 ?_); (case q1561 => assumption); (case q1563 => rfl); (case q1564 => rfl); (case q1562 => decide)); ((with_reducible refine' BIN_shl1 ?q1565 ?_); (case q1565 => ((lia)))); (with_reducible refine' SP_nil ?_); (with_reducible refine' At2.intro _ _ ?_); ((with_reducible refine' Cont_norm ?q1566 ?_); (case q1566 => ((dsimp only [frameOf, List.set_cons_zero, List.set_cons_succ]); (try exact rfl)))); (with_reducible refine' EX_seq ?_))
  refine E1_enumN (by assumption) ⟨rfl, B.enumerate, by decide, by decide⟩ bb_enum rfl rfl rfl rfl (fun _ => rfl) (TaInv a b R V g i w σ.H) ?_
  (((with_reducible refine' EV_loc ?q1567 ?q1569 ?q1570 ?q1568 ?_); (case q1567 => assumption); (case q1569 => rfl); (case q1570 => rfl); (case q1568 => decide)))
  refine ⟨b, V, rfl, hb, ⟨R, 0, del σ.H b, rfl, hR, by (exact Nat.zero_le _), by simp [val], rfl, del_of ha hab, fun x o _ h e => del_of e h, rfl⟩, ?_, ?_⟩
  · rintro j _ hj ⟨Rk, cy, H', l1, l2, hcy, hv, hdr, hHa, hHo, rfl⟩
    have hx := l2.get (by lia) (i + j)
    have hy := hV.get (by lia) j
    have hm : g * V.getD j 0 ≤ 4096 * 4096 := Nat.mul_le_mul (by (generalize 2 ^ _ = D at *; lia)) (by (generalize 2 ^ _ = D at *; lia))
    have hmod : (g * V.getD j 0 + cy) % 2 ^ w < 2 ^ w := Nat.mod_lt _ (by lia)
    (((refine' EX_norm ?q1571 ?_); (case q1571 => ((dsimp only [frameOf, List.set_cons_zero, List.set_cons_succ]); (try exact rfl)))))
    ((with_reducible refine' EX_seq ?_); ((with_reducible refine' E1_assign ?q1572 ?q1573 ?q1574 ?_); (case q1572 => assumption); (case q1573 => rfl); (case q1574 => rfl)); (with_reducible refine' EV_bin ?_); ((with_reducible refine' EV_idxN ?q1575 ?_); (case q1575 => intro _ _ _; rfl)); ((with_reducible refine' EV_loc ?q1576 ?q1578 ?q1579 ?q1577 ?_); (case q1576 => assumption); (case q1578 => rfl); (case q1579 => rfl); (case q1577 => decide)); (with_reducible refine' EV_bin ?_); ((with_reducible refine' EV_loc ?q1580 ?q1582 ?q1583 ?q1581 ?_); (case q1580 => assumption); (case q1582 => rfl); (case q1583 => rfl); (case q1581 => decide)); ((with_reducible refine' EV_loc ?q1584 ?q1586 ?q1587 ?q1585 ?_); (case q1584 => assumption); (case q1586 => rfl); (case q1587 => rfl); (case q1585 => decide)); (with_reducible refine' BIN_addN ?_))
    refine ⟨_, _, _, _, rfl, rfl, rfl, hHa, by lia, by lia, ?_⟩
    ((with_reducible refine' EV_bin ?_); (with_reducible refine' EV_bin ?_); (with_reducible refine' EV_bin ?_); ((with_reducible refine' EV_loc ?q1588 ?q1590 ?q1591 ?q1589 ?_); (case q1588 => assumption); (case q1590 => rfl); (case q1591 => rfl); (case q1589 => decide)); ((with_reducible refine' EV_loc ?q1592 ?q1594 ?q1595 ?q1593 ?_); (case q1592 => assumption); (case q1594 => rfl); (case q1595 => rfl); (case q1593 => decide)); ((with_reducible refine' BIN_mulN ?q1596 ?_); (case q1596 => (((generalize 2 ^ _ = D at *; lia))))); ((with_reducible refine' EV_loc ?q1597 ?q1599 ?q1600 ?q1598 ?_); (case q1597 => assumption); (case q1599 => rfl); (case q1600 => rfl); (case q1598 => decide)); (with_reducible refine' BIN_addN ?_); ((with_reducible refine' EV_loc ?q1601 ?q1603 ?q1604 ?q1602 ?_); (case q1601 => assumption); (case q1603 => rfl); (case q1604 => rfl); (case q1602 => decide)); ((with_reducible refine' BIN_modN ?q1605 ?_); (case q1605 => (((simp; done))))); (with_reducible refine' BIN_sub ?_); ((with_reducible refine' Cont_norm ?q1606 ?_); (case q1606 => ((dsimp only [frameOf, List.set_cons_zero, List.set_cons_succ]); (try exact rfl)))); (with_reducible refine' EX_seq ?_); ((with_reducible refine' E1_assign ?q1607 ?q1608 ?q1609 ?_); (case q1607 => assumption); (case q1608 => rfl); (case q1609 => rfl)); (with_reducible refine' EV_bin ?_); (with_reducible refine' EV_bin ?_); (with_reducible refine' EV_bin ?_); (with_reducible refine' EV_bin ?_); ((with_reducible refine' EV_loc ?q1610 ?q1612 ?q1613 ?q1611 ?_); (case q1610 => assumption); (case q1612 => rfl); (case q1613 => rfl); (case q1611 => decide)); ((with_reducible refine' EV_loc ?q1614 ?q1616 ?q1617 ?q1615 ?_); (case q1614 => assumption); (case q1616 => rfl); (case q1617 => rfl); (case q1615 => decide)); ((with_reducible refine' BIN_mulN ?q1618 ?_); (case q1618 => ((lia)))); ((with_reducible refine' EV_loc ?q1619 ?q1621 ?q1622 ?q1620 ?_); (case q1619 => assumption); (case q1621 => rfl); (case q1622 => rfl); (case q1620 => decide)); (with_reducible refine' BIN_addN ?_); ((with_reducible refine' EV_loc ?q1623 ?q1625 ?q1626 ?q1624 ?_); (case q1623 => assumption); (case q1625 => rfl); (case q1626 => rfl); (case q1624 => decide)); ((with_reducible refine' BIN_divN ?q1627 ?q1628 ?_); (case q1627 => ((lia))); (case q1628 => ((lia)))); (with_reducible refine' EV_ite ?_); ((with_reducible refine' TS_cmp ?q1629 ?_); (case q1629 => rfl)); ((with_reducible refine' EV_loc ?q1630 ?q1632 ?q1633 ?q1631 ?_); (case q1630 => assumption); (case q1632 => rfl); (case q1633 => rfl); (case q1631 => decide)); ((with_reducible refine' EV_intN ?q1634 ?_); (case q1634 => first | exact Int.cast_ofNat_Int.symm | rfl)); (with_reducible refine' CMP_lt ?_))
    have key : ∀ d ng : Nat, d < 2 ^ w → ng ≤ 1 → d + (g * V.getD j 0 + cy) % 2 ^ w = Rk.getD (i + j) 0 + 2 ^ w * ng → ∀ (st : AS) H2, H2 a = some (nats (Rk.set (i + j) d)) → (∀ b, b ≠ a → H2 b = H' b) →
        Wk st { m := [some (.ref a), some (.ref b), some (.int (g : Nat)), some (.int (i : Nat)), some (.int (w : Nat)), some (.int ((g * V.getD j 0 + cy) / 2 ^ w + ng : Nat)), some (.int (2 ^ w : Nat)), none, none, none, none, none], H := H2 } →
        ∃ σ'', Wk st σ'' ∧ TaInv a b R V g i w σ.H (j + 1) σ'' := by
      intro d ng hd hng hx st H2 h1 h2 hwk
      obtain ⟨t1, t2, t3, t4⟩ := take_turn hB (by lia) l2 hd hg hcy hy hng hv hx
      exact ⟨_, hwk, _, _, H2, by rw [t1, l1], t2, t3, t4, by rw [drop_set_same (by lia), hdr], h1, fun x o hxa hxb e => by rw [h2 x hxa]; exact hHo x o hxa hxb e, rfl⟩
    have hd1 : (g * V.getD j 0 + cy) / 2 ^ w < 2 ^ 60 := Nat.lt_of_le_of_lt (Nat.div_le_self _ _) (by lia)
    have hyb : (g * V.getD j 0 + cy) % 2 ^ w ≤ Rk.getD (i + j) 0 + 2 ^ w := Nat.le_trans (Nat.le_of_lt hmod) (Nat.le_add_left _ _)
    ((((with_reducible refine' And.intro (fun hc => ?_) (fun hc => ?_)) <;> (simp only [decide_eq_true_eq, decide_eq_false_iff_not, Bool.not_eq_true', Bool.not_eq_false', Bool.not_true, Bool.not_false, reduceCtorEq] at hc)) <;> (revert hc; intro _)))
    · rename_i hlt
      (((with_reducible refine' EV_intN ?q1635 ?_); (case q1635 => first | exact Int.cast_ofNat_Int.symm | rfl)); (with_reducible refine' BIN_addN ?_); ((with_reducible refine' Cont_norm ?q1636 ?_); (case q1636 => ((dsimp only [frameOf, List.set_cons_zero, List.set_cons_succ]); (try exact rfl)))); (with_reducible refine' EX_seq ?_); ((with_reducible refine' E1_setitemN ?q1637 ?_); (case q1637 => rfl)); (with_reducible refine' EV_ite ?_); ((with_reducible refine' TS_cmp ?q1638 ?_); (case q1638 => rfl)); ((with_reducible refine' EV_loc ?q1639 ?q1641 ?q1642 ?q1640 ?_); (case q1639 => assumption); (case q1641 => rfl); (case q1642 => rfl); (case q1640 => decide)); ((with_reducible refine' EV_intN ?q1643 ?_); (case q1643 => first | exact Int.cast_ofNat_Int.symm | rfl)); (with_reducible refine' CMP_lt ?_))
      ((((with_reducible refine' And.intro (fun hc => ?_) (fun hc => ?_)) <;> (simp only [decide_eq_true_eq, decide_eq_false_iff_not, Bool.not_eq_true', Bool.not_eq_false', Bool.not_true, Bool.not_false, reduceCtorEq] at hc)) <;> (revert hc; intro _)))
      · ((with_reducible refine' EV_bin ?_); ((with_reducible refine' EV_loc ?q1644 ?q1646 ?q1647 ?q1645 ?_); (case q1644 => assumption); (case q1646 => rfl); (case q1647 => rfl); (case q1645 => decide)); ((with_reducible refine' EV_loc ?q1648 ?q1650 ?q1651 ?q1649 ?_); (case q1648 => assumption); (case q1650 => rfl); (case q1651 => rfl); (case q1649 => decide)); (with_reducible refine' BIN_add ?_); ((with_reducible refine' EV_loc ?q1652 ?q1654 ?q1655 ?q1653 ?_); (case q1652 => assumption); (case q1654 => rfl); (case q1655 => rfl); (case q1653 => decide)); (with_reducible refine' EV_bin ?_); ((with_reducible refine' EV_loc ?q1656 ?q1658 ?q1659 ?q1657 ?_); (case q1656 => assumption); (case q1658 => rfl); (case q1659 => rfl); (case q1657 => decide)); ((with_reducible refine' EV_loc ?q1660 ?q1662 ?q1663 ?q1661 ?_); (case q1660 => assumption); (case q1662 => rfl); (case q1663 => rfl); (case q1661 => decide)); (with_reducible refine' BIN_addN ?_))
        refine ⟨_, Rk.getD (i + j) 0 + 2 ^ w - (g * V.getD j 0 + cy) % 2 ^ w, _, _, _, _, rfl, rfl, rfl, bw2 hyb, rfl, hHa, by lia, by lia, ?_⟩
        intro H2 hH2 hH2'
        (((with_reducible refine' Cont_norm ?q1664 ?_); (case q1664 => ((dsimp only [frameOf, List.set_cons_zero, List.set_cons_succ]); (try exact rfl)))); (with_reducible refine' EX_nil ?_))
        refine key _ 1 (bw1 hlt hyb) (Nat.le_refl 1) (bw3 hyb) _ H2 hH2 hH2' ?_
        ((refine' ⟨?q1666, ?q1665⟩; (case q1665 => first | exact Ext.refl _ | assumption); (case q1666 => repeat (first | exact MLe.nil _ | refine' MLe.none ?_ | refine' MLe.some' rfl ?_))))
      · rename_i h; first | exact absurd hlt h | exact absurd h hlt | lia
    · rename_i hlt
      (((with_reducible refine' EV_intN ?q1667 ?_); (case q1667 => first | exact Int.cast_ofNat_Int.symm | rfl)); (with_reducible refine' BIN_addN ?_); ((with_reducible refine' Cont_norm ?q1668 ?_); (case q1668 => ((dsimp only [frameOf, List.set_cons_zero, List.set_cons_succ]); (try exact rfl)))); (with_reducible refine' EX_seq ?_); ((with_reducible refine' E1_setitemN ?q1669 ?_); (case q1669 => rfl)); (with_reducible refine' EV_ite ?_); ((with_reducible refine' TS_cmp ?q1670 ?_); (case q1670 => rfl)); ((with_reducible refine' EV_loc ?q1671 ?q1673 ?q1674 ?q1672 ?_); (case q1671 => assumption); (case q1673 => rfl); (case q1674 => rfl); (case q1672 => decide)); ((with_reducible refine' EV_intN ?q1675 ?_); (case q1675 => first | exact Int.cast_ofNat_Int.symm | rfl)); (with_reducible refine' CMP_lt ?_))
      ((((with_reducible refine' And.intro (fun hc => ?_) (fun hc => ?_)) <;> (simp only [decide_eq_true_eq, decide_eq_false_iff_not, Bool.not_eq_true', Bool.not_eq_false', Bool.not_true, Bool.not_false, reduceCtorEq] at hc)) <;> (revert hc; intro _)))
      · rename_i h; first | exact absurd hlt h | exact absurd h hlt | lia
      · (((with_reducible refine' EV_loc ?q1676 ?q1678 ?q1679 ?q1677 ?_); (case q1676 => assumption); (case q1678 => rfl); (case q1679 => rfl); (case q1677 => decide)); ((with_reducible refine' EV_loc ?q1680 ?q1682 ?q1683 ?q1681 ?_); (case q1680 => assumption); (case q1682 => rfl); (case q1683 => rfl); (case q1681 => decide)); (with_reducible refine' EV_bin ?_); ((with_reducible refine' EV_loc ?q1684 ?q1686 ?q1687 ?q1685 ?_); (case q1684 => assumption); (case q1686 => rfl); (case q1687 => rfl); (case q1685 => decide)); ((with_reducible refine' EV_loc ?q1688 ?q1690 ?q1691 ?q1689 ?_); (case q1688 => assumption); (case q1690 => rfl); (case q1691 => rfl); (case q1689 => decide)); (with_reducible refine' BIN_addN ?_))
        refine ⟨_, Rk.getD (i + j) 0 - (g * V.getD j 0 + cy) % 2 ^ w, _, _, _, _, rfl, rfl, rfl, nb2 hlt, rfl, hHa, by lia, by lia, ?_⟩
        intro H2 hH2 hH2'
        (((with_reducible refine' Cont_norm ?q1692 ?_); (case q1692 => ((dsimp only [frameOf, List.set_cons_zero, List.set_cons_succ]); (try exact rfl)))); (with_reducible refine' EX_nil ?_))
        refine key _ 0 (nb1 hx) (Nat.zero_le 1) (nb3 hlt) _ H2 hH2 hH2' ?_
        ((refine' ⟨?q1694, ?q1693⟩; (case q1693 => first | exact Ext.refl _ | assumption); (case q1694 => repeat (first | exact MLe.nil _ | refine' MLe.none ?_ | refine' MLe.some' rfl ?_))))
  · rintro _ ⟨Rk, cy, H', l1, l2, hcy, hv, hdr, hHa, hHo, rfl⟩
    rw [List.take_length] at hv
    have hx := l2.get (by lia) (i + V.length)
    have hHa' := upd_of (o := nats V) hHa hab
    have hHb' : upd H' b (nats V) b = some (nats V) := upd_self
    have hold : ∀ x o, x ≠ a → σ.H x = some o → upd H' b (nats V) x = some o := by
      intro x o hxa e
      by_cases q : x = b
      · subst q
        rw [hb] at e; cases e
        exact upd_self
      · rw [upd_ne q]; exact hHo x o hxa q e
    generalize upd H' b (nats V) = H3 at *
    have key : ∀ d ng : Nat, d < 2 ^ w → ng ≤ 1 → d + cy = Rk.getD (i + V.length) 0 + 2 ^ w * ng → ∀ H2, H2 a = some (nats (Rk.set (i + V.length) d)) → (∀ b, b ≠ a → H2 b = H3 b) → Q (.int (ng : Int)) { σ with H := H2 } := by
      intro d ng hd hng hx H2 h1 h2
      obtain ⟨t1, t2, t3⟩ := take_last (by lia) l2 hd hv hx
      refine k _ ng H2 (by rw [t1, l1]) t2 hng t3 ?_ h1 (fun x o hxa e => by rw [h2 x hxa]; exact hold x o hxa e)
      rw [drop_set_same (by (exact Nat.le_refl _))]
      have := congrArg (List.drop 1) hdr
      rwa [List.drop_drop, List.drop_drop] at this
    (((with_reducible refine' Cont_norm ?q1695 ?_); (case q1695 => ((dsimp only [frameOf, List.set_cons_zero, List.set_cons_succ]); (try exact rfl)))); (with_reducible refine' EX_seq ?_); ((with_reducible refine' E1_assign ?q1696 ?q1697 ?q1698 ?_); (case q1696 => assumption); (case q1697 => rfl); (case q1698 => rfl)); (with_reducible refine' EV_bin ?_); ((with_reducible refine' EV_idxN ?q1699 ?_); (case q1699 => intro _ _ _; rfl)); ((with_reducible refine' EV_loc ?q1700 ?q1702 ?q1703 ?q1701 ?_); (case q1700 => assumption); (case q1702 => rfl); (case q1703 => rfl); (case q1701 => decide)); (with_reducible refine' EV_bin ?_); ((with_reducible refine' EV_loc ?q1704 ?q1706 ?q1707 ?q1705 ?_); (case q1704 => assumption); (case q1706 => rfl); (case q1707 => rfl); (case q1705 => decide)); ((with_reducible refine' EV_lenN ?q1709 ?q1708 ?q1712 ?q1711 ?q1710 ?_); (case q1709 => assumption); (case q1708 => assumption); (case q1712 => rfl); (case q1711 => rfl); (case q1710 => rfl)); ((with_reducible refine' EV_loc ?q1713 ?q1715 ?q1716 ?q1714 ?_); (case q1713 => assumption); (case q1715 => rfl); (case q1716 => rfl); (case q1714 => decide)))
    (((refine' ⟨_, _, rfl, ?q1717, ?q1718, ?_⟩); (case q1717 => assumption); (case q1718 => ((lia)))))
    ((with_reducible refine' BIN_addN ?_))
    refine ⟨_, _, _, _, rfl, rfl, rfl, hHa', by lia, by lia, ?_⟩
    (((with_reducible refine' EV_loc ?q1719 ?q1721 ?q1722 ?q1720 ?_); (case q1719 => assumption); (case q1721 => rfl); (case q1722 => rfl); (case q1720 => decide)); (with_reducible refine' BIN_sub ?_); ((with_reducible refine' Cont_norm ?q1723 ?_); (case q1723 => ((dsimp only [frameOf, List.set_cons_zero, List.set_cons_succ]); (try exact rfl)))); (with_reducible refine' EX_seq ?_); ((with_reducible refine' E1_setitemN ?q1724 ?_); (case q1724 => rfl)); (with_reducible refine' EV_ite ?_); ((with_reducible refine' TS_cmp ?q1725 ?_); (case q1725 => rfl)); ((with_reducible refine' EV_loc ?q1726 ?q1728 ?q1729 ?q1727 ?_); (case q1726 => assumption); (case q1728 => rfl); (case q1729 => rfl); (case q1727 => decide)); ((with_reducible refine' EV_intN ?q1730 ?_); (case q1730 => first | exact Int.cast_ofNat_Int.symm | rfl)); (with_reducible refine' CMP_lt ?_))
    ((((with_reducible refine' And.intro (fun hc => ?_) (fun hc => ?_)) <;> (simp only [decide_eq_true_eq, decide_eq_false_iff_not, Bool.not_eq_true', Bool.not_eq_false', Bool.not_true, Bool.not_false, reduceCtorEq] at hc)) <;> (revert hc; intro _)))
    · rename_i hlt
      ((with_reducible refine' EV_bin ?_); ((with_reducible refine' EV_loc ?q1731 ?q1733 ?q1734 ?q1732 ?_); (case q1731 => assumption); (case q1733 => rfl); (case q1734 => rfl); (case q1732 => decide)); ((with_reducible refine' EV_loc ?q1735 ?q1737 ?q1738 ?q1736 ?_); (case q1735 => assumption); (case q1737 => rfl); (case q1738 => rfl); (case q1736 => decide)); (with_reducible refine' BIN_add ?_); ((with_reducible refine' EV_loc ?q1739 ?q1741 ?q1742 ?q1740 ?_); (case q1739 => assumption); (case q1741 => rfl); (case q1742 => rfl); (case q1740 => decide)); (with_reducible refine' EV_bin ?_); ((with_reducible refine' EV_loc ?q1743 ?q1745 ?q1746 ?q1744 ?_); (case q1743 => assumption); (case q1745 => rfl); (case q1746 => rfl); (case q1744 => decide)); ((with_reducible refine' EV_lenN ?q1748 ?q1747 ?q1751 ?q1750 ?q1749 ?_); (case q1748 => assumption); (case q1747 => assumption); (case q1751 => rfl); (case q1750 => rfl); (case q1749 => rfl)); ((with_reducible refine' EV_loc ?q1752 ?q1754 ?q1755 ?q1753 ?_); (case q1752 => assumption); (case q1754 => rfl); (case q1755 => rfl); (case q1753 => decide)))
      (((refine' ⟨_, _, rfl, ?q1756, ?q1757, ?_⟩); (case q1756 => assumption); (case q1757 => ((lia)))))
      ((with_reducible refine' BIN_addN ?_))
      have hyb : cy ≤ Rk.getD (i + V.length) 0 + 2 ^ w := Nat.le_trans hcy (Nat.le_add_left _ _)
      refine ⟨_, Rk.getD (i + V.length) 0 + 2 ^ w - cy, _, _, _, _, rfl, rfl, rfl, bw2 hyb, rfl, hHa', by lia, by lia, ?_⟩
      intro H2 hH2 hH2'
      (((with_reducible refine' Cont_norm ?q1758 ?_); (case q1758 => ((dsimp only [frameOf, List.set_cons_zero, List.set_cons_succ]); (try exact rfl)))); (with_reducible refine' EX_seq ?_); (with_reducible refine' E1_return ?_); (with_reducible refine' EV_ite ?_); ((with_reducible refine' TS_cmp ?q1759 ?_); (case q1759 => rfl)); ((with_reducible refine' EV_loc ?q1760 ?q1762 ?q1763 ?q1761 ?_); (case q1760 => assumption); (case q1762 => rfl); (case q1763 => rfl); (case q1761 => decide)); ((with_reducible refine' EV_intN ?q1764 ?_); (case q1764 => first | exact Int.cast_ofNat_Int.symm | rfl)); (with_reducible refine' CMP_lt ?_))
      ((((with_reducible refine' And.intro (fun hc => ?_) (fun hc => ?_)) <;> (simp only [decide_eq_true_eq, decide_eq_false_iff_not, Bool.not_eq_true', Bool.not_eq_false', Bool.not_true, Bool.not_false, reduceCtorEq] at hc)) <;> (revert hc; intro _)))
      · (((with_reducible refine' EV_intN ?q1765 ?_); (case q1765 => first | exact Int.cast_ofNat_Int.symm | rfl)); (with_reducible refine' Cont_ret ?_); ((with_reducible refine' RetQ_ret ?_); try dsimp only))
        exact key _ 1 (bw1 hlt hyb) (Nat.le_refl 1) (bw3 hyb) H2 hH2 hH2'
      · rename_i h; first | exact absurd hlt h | exact absurd h hlt | lia
    · rename_i hlt
      (((with_reducible refine' EV_loc ?q1766 ?q1768 ?q1769 ?q1767 ?_); (case q1766 => assumption); (case q1768 => rfl); (case q1769 => rfl); (case q1767 => decide)); ((with_reducible refine' EV_loc ?q1770 ?q1772 ?q1773 ?q1771 ?_); (case q1770 => assumption); (case q1772 => rfl); (case q1773 => rfl); (case q1771 => decide)); (with_reducible refine' EV_bin ?_); ((with_reducible refine' EV_loc ?q1774 ?q1776 ?q1777 ?q1775 ?_); (case q1774 => assumption); (case q1776 => rfl); (case q1777 => rfl); (case q1775 => decide)); ((with_reducible refine' EV_lenN ?q1779 ?q1778 ?q1782 ?q1781 ?q1780 ?_); (case q1779 => assumption); (case q1778 => assumption); (case q1782 => rfl); (case q1781 => rfl); (case q1780 => rfl)); ((with_reducible refine' EV_loc ?q1783 ?q1785 ?q1786 ?q1784 ?_); (case q1783 => assumption); (case q1785 => rfl); (case q1786 => rfl); (case q1784 => decide)))
      (((refine' ⟨_, _, rfl, ?q1787, ?q1788, ?_⟩); (case q1787 => assumption); (case q1788 => ((lia)))))
      ((with_reducible refine' BIN_addN ?_))
      refine ⟨_, Rk.getD (i + V.length) 0 - cy, _, _, _, _, rfl, rfl, rfl, nb2 hlt, rfl, hHa', by lia, by lia, ?_⟩
      intro H2 hH2 hH2'
      (((with_reducible refine' Cont_norm ?q1789 ?_); (case q1789 => ((dsimp only [frameOf, List.set_cons_zero, List.set_cons_succ]); (try exact rfl)))); (with_reducible refine' EX_seq ?_); (with_reducible refine' E1_return ?_); (with_reducible refine' EV_ite ?_); ((with_reducible refine' TS_cmp ?q1790 ?_); (case q1790 => rfl)); ((with_reducible refine' EV_loc ?q1791 ?q1793 ?q1794 ?q1792 ?_); (case q1791 => assumption); (case q1793 => rfl); (case q1794 => rfl); (case q1792 => decide)); ((with_reducible refine' EV_intN ?q1795 ?_); (case q1795 => first | exact Int.cast_ofNat_Int.symm | rfl)); (with_reducible refine' CMP_lt ?_))
      ((((with_reducible refine' And.intro (fun hc => ?_) (fun hc => ?_)) <;> (simp only [decide_eq_true_eq, decide_eq_false_iff_not, Bool.not_eq_true', Bool.not_eq_false', Bool.not_true, Bool.not_false, reduceCtorEq] at hc)) <;> (revert hc; intro _)))
      · rename_i h; first | exact absurd hlt h | exact absurd h hlt | lia
      · (((with_reducible refine' EV_intN ?q1796 ?_); (case q1796 => first | exact Int.cast_ofNat_Int.symm | rfl)); (with_reducible refine' Cont_ret ?_); ((with_reducible refine' RetQ_ret ?_); try dsimp only))
        exact key _ 0 (nb1 hx) (Nat.zero_le 1) (nb3 hlt) H2 hH2 hH2'

inductive PbInv (a b : Addr) (R V : List Nat) (i w : Nat) (H0 : AH) (k : Nat) (σ₁ : AS) : Prop
  | intro (Rk : List Nat) (cy : Nat) (H' : AH) (f1 : Rk.length = R.length) (f2 : Lm (2 ^ w) Rk) (f3 : cy ≤ 1) (f4 : val (2 ^ w) Rk + (2 ^ w) ^ (i + k) * cy = val (2 ^ w) R + (2 ^ w) ^ i * val (2 ^ w) (V.take k)) (f5 : Rk.drop (i + V.length) = R.drop (i + V.length)) (f6 : H' a = some (nats Rk)) (f7 : (∀ x o, x ≠ a → x ≠ b → H0 x = some o → H' x = some o)) (f8 : σ₁ = { m := [some (.ref a), some (.ref b), some (.int (i : Nat)), some (.int (w : Nat)), some (.int (cy : Nat)), some (.int (2 ^ w - 1 : Nat)), none, none, none, none], H := H' })
theorem put_back_ok (G : FS W) (C : COk W c) (Rm : Room c 1) {a b : Addr} {i w : Nat} {R V : List Nat} {Q : AV → AS → Prop} (hw : 1 ≤ w) (hw2 : w ≤ 12) (ha : σ.H a = some (nats R)) (hb : σ.H b = some (nats V)) (hab : a ≠ b) (hR : Lm (2 ^ w) R) (hV : Lm (2 ^ w) V) (hlen : i + V.length < R.length) (hz : R.length ≤ 1000)
    (k : ∀ R1 c2 H', R1.length = R.length → Lm (2 ^ w) R1 → val (2 ^ w) R1 + (2 ^ w) ^ (i + V.length + 1) * c2 = val (2 ^ w) R + (2 ^ w) ^ i * val (2 ^ w) V → R1.drop (i + V.length + 1) = R.drop (i + V.length + 1) →
      H' a = some (nats R1) → (∀ x o, x ≠ a → σ.H x = some o → H' x = some o) → Q .none { σ with H := H' }) : CALL W c (.ref (G.f 21)) [.ref a, .ref b, .int (i : Int), .int (w : Int)] σ Q := by
  have hf' : IsFn W.K _ (G.f 21) _ _ _ := G.h21
  have B := G.B
  have hB := pw2 hw
  have hB2 := pw12 hw2
  refine CALL_fn (xs := [Str.ofString "rest", Str.ofString "b", Str.ofString "at", Str.ofString "w"]) C Rm hf' ?_ rfl (by decide) rfl rfl rfl rfl rfl (by decide) ?_
  · ((exact rfl))
  clear hf'
  intro r C' R'
  ((with_reducible refine' EX_seq ?_); ((with_reducible refine' E1_tup2 ?q1797 ?q1800 ?q1801 ?q1798 ?q1799 ?_); (case q1797 => assumption); (case q1800 => rfl); (case q1801 => rfl); (case q1798 => rfl); (case q1799 => rfl)); ((with_reducible refine' SP_cons ?q1802 ?_); (case q1802 => rfl)); ((with_reducible refine' EV_intN ?q1803 ?_); (case q1803 => first | exact Int.cast_ofNat_Int.symm | rfl)); ((with_reducible refine' SP_cons ?q1804 ?_); (case q1804 => rfl)); (with_reducible refine' EV_bin ?_); (with_reducible refine' EV_bin ?_); ((with_reducible refine' EV_intN ?q1805 ?_); (case q1805 => first | exact Int.cast_ofNat_Int.symm | rfl)); ((with_reducible refine' EV_loc ?q1806 ?q1808 ?q1809 ?q1807 ?_); (case q1806 => assumption); (case q1808 => rfl); (case q1809 => rfl); (case q1807 => decide)); ((with_reducible refine' BIN_shl1 ?q1810 ?_); (case q1810 => ((lia)))); ((with_reducible refine' EV_intN ?q1811 ?_); (case q1811 => first | exact Int.cast_ofNat_Int.symm | rfl)); ((with_reducible refine' BIN_subN ?q1812 ?_); (case q1812 => ((lia)))); (with_reducible refine' SP_nil ?_); (with_reducible refine' At2.intro _ _ ?_); ((with_reducible refine' Cont_norm ?q1813 ?_); (case q1813 => ((dsimp only [frameOf, List.set_cons_zero, List.set_cons_succ]); (try exact rfl)))); (with_reducible refine' EX_seq ?_))
  refine E1_enumN (by assumption) ⟨rfl, B.enumerate, by decide, by decide⟩ bb_enum rfl rfl rfl rfl (fun _ => rfl) (PbInv a b R V i w σ.H) ?_
  (((with_reducible refine' EV_loc ?q1814 ?q1816 ?q1817 ?q1815 ?_); (case q1814 => assumption); (case q1816 => rfl); (case q1817 => rfl); (case q1815 => decide)))
  refine ⟨b, V, rfl, hb, ⟨R, 0, del σ.H b, rfl, hR, by lia, by simp [val], rfl, del_of ha hab, fun x o _ h e => del_of e h, rfl⟩, ?_, ?_⟩
  · rintro j _ hj ⟨Rk, cy, H', l1, l2, hcy, hv, hdr, hHa, hHo, rfl⟩
    have hx := l2.get (by lia) (i + j)
    have hy := hV.get (by lia) j
    obtain ⟨t1, t2, t3, t4⟩ := put_turn hB (by lia) l2 hcy hy hx hv
    (((refine' EX_norm ?q1818 ?_); (case q1818 => ((dsimp only [frameOf, List.set_cons_zero, List.set_cons_succ]); (try exact rfl)))))
    ((with_reducible refine' EX_seq ?_); ((with_reducible refine' E1_aug ?q1819 ?q1820 ?q1821 ?_); (case q1819 => assumption); (case q1820 => rfl); (case q1821 => rfl)); (with_reducible refine' EV_bin ?_); ((with_reducible refine' EV_idxN ?q1822 ?_); (case q1822 => intro _ _ _; rfl)); ((with_reducible refine' EV_loc ?q1823 ?q1825 ?q1826 ?q1824 ?_); (case q1823 => assumption); (case q1825 => rfl); (case q1826 => rfl); (case q1824 => decide)); (with_reducible refine' EV_bin ?_); ((with_reducible refine' EV_loc ?q1827 ?q1829 ?q1830 ?q1828 ?_); (case q1827 => assumption); (case q1829 => rfl); (case q1830 => rfl); (case q1828 => decide)); ((with_reducible refine' EV_loc ?q1831 ?q1833 ?q1834 ?q1832 ?_); (case q1831 => assumption); (case q1833 => rfl); (case q1834 => rfl); (case q1832 => decide)); (with_reducible refine' BIN_addN ?_))
    refine ⟨_, _, _, _, rfl, rfl, rfl, hHa, by lia, by lia, ?_⟩
    (((with_reducible refine' EV_loc ?q1835 ?q1837 ?q1838 ?q1836 ?_); (case q1835 => assumption); (case q1837 => rfl); (case q1838 => rfl); (case q1836 => decide)); (with_reducible refine' BIN_addN ?_); (with_reducible refine' INP_addN ?_); ((with_reducible refine' Cont_norm ?q1839 ?_); (case q1839 => ((dsimp only [frameOf, List.set_cons_zero, List.set_cons_succ]); (try exact rfl)))); (with_reducible refine' EX_seq ?_); ((with_reducible refine' E1_setitemN ?q1840 ?_); (case q1840 => rfl)); (with_reducible refine' EV_bin ?_); ((with_reducible refine' EV_loc ?q1841 ?q1843 ?q1844 ?q1842 ?_); (case q1841 => assumption); (case q1843 => rfl); (case q1844 => rfl); (case q1842 => decide)); ((with_reducible refine' EV_loc ?q1845 ?q1847 ?q1848 ?q1846 ?_); (case q1845 => assumption); (case q1847 => rfl); (case q1848 => rfl); (case q1846 => decide)); (with_reducible refine' BIN_mask ?_); ((with_reducible refine' EV_loc ?q1849 ?q1851 ?q1852 ?q1850 ?_); (case q1849 => assumption); (case q1851 => rfl); (case q1852 => rfl); (case q1850 => decide)); (with_reducible refine' EV_bin ?_); ((with_reducible refine' EV_loc ?q1853 ?q1855 ?q1856 ?q1854 ?_); (case q1853 => assumption); (case q1855 => rfl); (case q1856 => rfl); (case q1854 => decide)); ((with_reducible refine' EV_loc ?q1857 ?q1859 ?q1860 ?q1858 ?_); (case q1857 => assumption); (case q1859 => rfl); (case q1860 => rfl); (case q1858 => decide)); (with_reducible refine' BIN_addN ?_))
    refine ⟨_, _, _, _, _, _, rfl, rfl, rfl, rfl, rfl, hHa, by lia, by lia, ?_⟩
    intro H2 hH2 hH2'
    (((with_reducible refine' Cont_norm ?q1861 ?_); (case q1861 => ((dsimp only [frameOf, List.set_cons_zero, List.set_cons_succ]); (try exact rfl)))); (with_reducible refine' EX_seq ?_); ((with_reducible refine' E1_aug ?q1862 ?q1863 ?q1864 ?_); (case q1862 => assumption); (case q1863 => rfl); (case q1864 => rfl)); ((with_reducible refine' EV_loc ?q1865 ?q1867 ?q1868 ?q1866 ?_); (case q1865 => assumption); (case q1867 => rfl); (case q1868 => rfl); (case q1866 => decide)); (with_reducible refine' INP_shrN ?_); ((with_reducible refine' Cont_norm ?q1869 ?_); (case q1869 => ((dsimp only [frameOf, List.set_cons_zero, List.set_cons_succ]); (try exact rfl)))); (with_reducible refine' EX_nil ?_))
    refine LoopQ_next { m := [some (.ref a), some (.ref b), some (.int (i : Nat)), some (.int (w : Nat)), some (.int ((cy + (Rk.getD (i + j) 0 + V.getD j 0)) / 2 ^ w : Nat)), some (.int (2 ^ w - 1 : Nat)), none, none, none, none], H := H2 } ?_
      ⟨_, _, H2, by rw [t1, l1], t2, t3, t4, by rw [drop_set_same (by lia), hdr], hH2, fun x o hxa hxb e => by rw [hH2' x hxa]; exact hHo x o hxa hxb e, rfl⟩
    ((refine' ⟨?q1871, ?q1870⟩; (case q1870 => first | exact Ext.refl _ | assumption); (case q1871 => repeat (first | exact MLe.nil _ | refine' MLe.none ?_ | refine' MLe.some' rfl ?_))))
  · rintro _ ⟨Rk, cy, H', l1, l2, hcy, hv, hdr, hHa, hHo, rfl⟩
    rw [List.take_length] at hv
    have hx := l2.get (by lia) (i + V.length)
    have hHa' := upd_of (o := nats V) hHa hab
    have hHb' : upd H' b (nats V) b = some (nats V) := upd_self
    have hold : ∀ x o, x ≠ a → σ.H x = some o → upd H' b (nats V) x = some o := by
      intro x o hxa e
      by_cases q : x = b
      · subst q
        rw [hb] at e; cases e
        exact upd_self
      · rw [upd_ne q]; exact hHo x o hxa q e
    generalize upd H' b (nats V) = H3 at *
    obtain ⟨t1, t2, t3⟩ := put_last hB (by lia) l2 hv
    (((with_reducible refine' Cont_norm ?q1872 ?_); (case q1872 => ((dsimp only [frameOf, List.set_cons_zero, List.set_cons_succ]); (try exact rfl)))); (with_reducible refine' EX_seq ?_); ((with_reducible refine' E1_setitemN ?q1873 ?_); (case q1873 => rfl)); (with_reducible refine' EV_bin ?_); (with_reducible refine' EV_bin ?_); ((with_reducible refine' EV_idxN ?q1874 ?_); (case q1874 => intro _ _ _; rfl)); ((with_reducible refine' EV_loc ?q1875 ?q1877 ?q1878 ?q1876 ?_); (case q1875 => assumption); (case q1877 => rfl); (case q1878 => rfl); (case q1876 => decide)); (with_reducible refine' EV_bin ?_); ((with_reducible refine' EV_loc ?q1879 ?q1881 ?q1882 ?q1880 ?_); (case q1879 => assumption); (case q1881 => rfl); (case q1882 => rfl); (case q1880 => decide)); ((with_reducible refine' EV_lenN ?q1884 ?q1883 ?q1887 ?q1886 ?q1885 ?_); (case q1884 => assumption); (case q1883 => assumption); (case q1887 => rfl); (case q1886 => rfl); (case q1885 => rfl)); ((with_reducible refine' EV_loc ?q1888 ?q1890 ?q1891 ?q1889 ?_); (case q1888 => assumption); (case q1890 => rfl); (case q1891 => rfl); (case q1889 => decide)))
    (((refine' ⟨_, _, rfl, ?q1892, ?q1893, ?_⟩); (case q1892 => assumption); (case q1893 => ((lia)))))
    ((with_reducible refine' BIN_addN ?_))
    refine ⟨_, _, _, _, rfl, rfl, rfl, hHa', by lia, by lia, ?_⟩
    (((with_reducible refine' EV_loc ?q1894 ?q1896 ?q1897 ?q1895 ?_); (case q1894 => assumption); (case q1896 => rfl); (case q1897 => rfl); (case q1895 => decide)); (with_reducible refine' BIN_addN ?_); ((with_reducible refine' EV_loc ?q1898 ?q1900 ?q1901 ?q1899 ?_); (case q1898 => assumption); (case q1900 => rfl); (case q1901 => rfl); (case q1899 => decide)); (with_reducible refine' BIN_mask ?_); ((with_reducible refine' EV_loc ?q1902 ?q1904 ?q1905 ?q1903 ?_); (case q1902 => assumption); (case q1904 => rfl); (case q1905 => rfl); (case q1903 => decide)); (with_reducible refine' EV_bin ?_); ((with_reducible refine' EV_loc ?q1906 ?q1908 ?q1909 ?q1907 ?_); (case q1906 => assumption); (case q1908 => rfl); (case q1909 => rfl); (case q1907 => decide)); ((with_reducible refine' EV_lenN ?q1911 ?q1910 ?q1914 ?q1913 ?q1912 ?_); (case q1911 => assumption); (case q1910 => assumption); (case q1914 => rfl); (case q1913 => rfl); (case q1912 => rfl)); ((with_reducible refine' EV_loc ?q1915 ?q1917 ?q1918 ?q1916 ?_); (case q1915 => assumption); (case q1917 => rfl); (case q1918 => rfl); (case q1916 => decide)))
    (((refine' ⟨_, _, rfl, ?q1919, ?q1920, ?_⟩); (case q1919 => assumption); (case q1920 => ((lia)))))
    ((with_reducible refine' BIN_addN ?_))
    refine ⟨_, _, _, _, _, _, rfl, rfl, rfl, rfl, rfl, hHa', by lia, by lia, ?_⟩
    intro H2 hH2 hH2'
    (((with_reducible refine' Cont_norm ?q1921 ?_); (case q1921 => ((dsimp only [frameOf, List.set_cons_zero, List.set_cons_succ]); (try exact rfl)))); (with_reducible refine' EX_nil ?_); ((with_reducible refine' RetQ_next ?_); try dsimp only))
    refine k _ _ H2 (by rw [t1, l1]) t2 t3 ?_ hH2 (fun x o hxa e => by rw [hH2' x hxa]; exact hold x o hxa e)
    rw [drop_set_same (by lia)]
    have := congrArg (List.drop 1) hdr
    rwa [List.drop_drop, List.drop_drop] at this

theorem take3 {L : List Nat} {x : Nat} (h : x + 3 ≤ L.length) : (L.drop x).take 3 = [L.getD x 0, L.getD (x + 1) 0, L.getD (x + 2) 0] := by
  rw [drop_get (by lia), drop_get (i := x + 1) (by (exact Nat.le_of_lt (by assumption))), drop_get (i := x + 1 + 1) (by (assumption))]
  rfl

inductive DrInv (a b l : Addr) (R0 V : List Nat) (T w : Nat) (H0 : AH) (j : Nat) (σ₁ : AS) : Prop
  | intro (F R : List Nat) (H' : AH) (f1 : F.length = T) (f2 : Lm (2 ^ w) F) (f3 : R.length = R0.length) (f4 : Lm (2 ^ w) R) (f5 : val (2 ^ w) R < (2 ^ w) ^ (T - j) * val (2 ^ w) V) (f6 : val (2 ^ w) R0 = val (2 ^ w) V * ((2 ^ w) ^ (T - j) * val (2 ^ w) (F.drop (T - j))) + val (2 ^ w) R) (f7 : H' l = some (nats F)) (f8 : H' a = some (nats R)) (f9 : (∀ x o, x ≠ a → H0 x = some o → H' x = some o)) (f10 : σ₁ = { m := [some (.ref a), some (.ref b), some (.int (w : Nat)), some (.int (V.length : Nat)), some (.ref l), none, none, none, none, none, none, none], H := H' })
theorem divide_rows_ok (G : FS W) (C : COk W c) (Rm : Room c 2) {a b : Addr} {w T : Nat} {R0 V : List Nat} {Q : AV → AS → Prop} (hw : 1 ≤ w) (hw2 : w ≤ 12) (ha : σ.H a = some (nats R0)) (hb : σ.H b = some (nats V)) (hab : a ≠ b) (hR0 : Lm (2 ^ w) R0) (hV : Lm (2 ^ w) V)
    (hn : 2 ≤ V.length) (hT : 1 ≤ T) (hlen : R0.length = V.length + T) (hz : R0.length ≤ 1000) (htop : 0 < V.getD (V.length - 1) 0) (hlt : val (2 ^ w) R0 < (2 ^ w) ^ T * val (2 ^ w) V)
    (k : ∀ l F R' H', Lm (2 ^ w) F → F.length = T → Lm (2 ^ w) R' → R'.length = R0.length → val (2 ^ w) R0 = val (2 ^ w) V * val (2 ^ w) F + val (2 ^ w) R' → val (2 ^ w) R' < val (2 ^ w) V → H' l = some (nats F) → H' a = some (nats R') → (∀ x o, x ≠ a → σ.H x = some o → H' x = some o) → Q (.ref l) { σ with H := H' }) :
    CALL W c (.ref (G.f 22)) [.ref a, .ref b, .int (w : Int)] σ Q := by
  have hf' : IsFn W.K _ (G.f 22) _ _ _ := G.h22
  have B := G.B
  have hn19 := G.n19
  have hn20 := G.n20
  have hn21 := G.n21
  have hB := pw2 hw
  have hB2 := pw12 hw2
  refine CALL_fn (xs := [Str.ofString "rest", Str.ofString "b", Str.ofString "w"]) C Rm hf' ?_ rfl (by decide) rfl rfl rfl rfl rfl (by decide) ?_
  · ((exact rfl))
  clear hf'
  intro r C' R'
  obtain ⟨vlo, hvlo, hVv⟩ := divisor_top hB hV hn
  have hVlt := val_lt hV
  have hv1 := hV.get (by lia) (V.length - 1)
  have hv2 := hV.get (by lia) (V.length - 2)
  have hVp : 0 < val (2 ^ w) V := by
    rw [hVv]
    have : 0 < V.getD (V.length - 1) 0 * 2 ^ w := Nat.mul_pos htop (by lia)
    have : 0 < (V.getD (V.length - 1) 0 * 2 ^ w + V.getD (V.length - 2) 0) * (2 ^ w) ^ (V.length - 2) := Nat.mul_pos (by (generalize 2 ^ _ = D at *; lia)) (Nat.pow_pos (by lia))
    (omega)
  ((with_reducible refine' EX_seq ?_); ((with_reducible refine' E1_assign ?q1922 ?q1923 ?q1924 ?_); (case q1922 => assumption); (case q1923 => rfl); (case q1924 => rfl)); ((with_reducible refine' EV_lenN ?q1926 ?q1925 ?q1929 ?q1928 ?q1927 ?_); (case q1926 => assumption); (case q1925 => assumption); (case q1929 => rfl); (case q1928 => rfl); (case q1927 => rfl)); ((with_reducible refine' EV_loc ?q1930 ?q1932 ?q1933 ?q1931 ?_); (case q1930 => assumption); (case q1932 => rfl); (case q1933 => rfl); (case q1931 => decide)))
  (((refine' ⟨_, _, rfl, ?q1934, ?q1935, ?_⟩); (case q1934 => assumption); (case q1935 => ((lia)))))
  (((with_reducible refine' Cont_norm ?q1936 ?_); (case q1936 => ((dsimp only [frameOf, List.set_cons_zero, List.set_cons_succ]); (try exact rfl)))); (with_reducible refine' EX_seq ?_); ((with_reducible refine' E1_assign ?q1937 ?q1938 ?q1939 ?_); (case q1937 => assumption); (case q1938 => rfl); (case q1939 => rfl)); (with_reducible refine' EV_bin ?_); ((with_reducible refine' EV_oneN ?q1940 ?_); (case q1940 => rfl)); ((with_reducible refine' EV_intN ?q1941 ?_); (case q1941 => first | exact Int.cast_ofNat_Int.symm | rfl)))
  (((refine' ⟨_, _, rfl, ?q1942, ?_⟩); (case q1942 => first | rfl | exact Int.cast_ofNat_Int.symm)))
  intro l0 H0 he0 hn0 hl0
  have he0 : Ext σ.H H0 := he0
  have ha0 := he0 _ _ ha
  ((with_reducible refine' EV_bin ?_); ((with_reducible refine' EV_lenN ?q1944 ?q1943 ?q1947 ?q1946 ?q1945 ?_); (case q1944 => assumption); (case q1943 => assumption); (case q1947 => rfl); (case q1946 => rfl); (case q1945 => rfl)); ((with_reducible refine' EV_loc ?q1948 ?q1950 ?q1951 ?q1949 ?_); (case q1948 => assumption); (case q1950 => rfl); (case q1951 => rfl); (case q1949 => decide)))
  (((refine' ⟨_, _, rfl, ?q1952, ?q1953, ?_⟩); (case q1952 => assumption); (case q1953 => ((lia)))))
  (((with_reducible refine' EV_loc ?q1954 ?q1956 ?q1957 ?q1955 ?_); (case q1954 => assumption); (case q1956 => rfl); (case q1957 => rfl); (case q1955 => decide)); ((with_reducible refine' BIN_subN ?q1958 ?_); (case q1958 => ((lia)))))
  (((refine' BIN_repN ?q1959 ?q1960 ?_); (case q1959 => assumption); (case q1960 => ((lia)))))
  intro l H1 he1 hn1 hl1
  have he1 : Ext H0 H1 := he1
  have hn1 : σ.H l = none := he0.fresh hn1
  have he01 := he0.trans he1
  have ha1 := he01 _ _ ha
  have hla := ne_fresh hn1 ha
  have hlb := ne_fresh hn1 hb
  (((with_reducible refine' Cont_norm ?q1961 ?_); (case q1961 => ((dsimp only [frameOf, List.set_cons_zero, List.set_cons_succ]); (try exact rfl)))); (with_reducible refine' EX_seq ?_))
  refine E1_range3 (by assumption) ⟨rfl, B.range, by decide, by decide⟩ bb_range rfl rfl rfl rfl rfl (fun _ => rfl) (DrInv a b l R0 V T w σ.H) ?_
  ((with_reducible refine' EV_bin ?_); (with_reducible refine' EV_bin ?_); ((with_reducible refine' EV_lenN ?q1963 ?q1962 ?q1966 ?q1965 ?q1964 ?_); (case q1963 => assumption); (case q1962 => assumption); (case q1966 => rfl); (case q1965 => rfl); (case q1964 => rfl)); ((with_reducible refine' EV_loc ?q1967 ?q1969 ?q1970 ?q1968 ?_); (case q1967 => assumption); (case q1969 => rfl); (case q1970 => rfl); (case q1968 => decide)))
  (((refine' ⟨_, _, rfl, ?q1971, ?q1972, ?_⟩); (case q1971 => assumption); (case q1972 => ((lia)))))
  (((with_reducible refine' EV_loc ?q1973 ?q1975 ?q1976 ?q1974 ?_); (case q1973 => assumption); (case q1975 => rfl); (case q1976 => rfl); (case q1974 => decide)); ((with_reducible refine' BIN_subN ?q1977 ?_); (case q1977 => ((lia)))); ((with_reducible refine' EV_intN ?q1978 ?_); (case q1978 => first | exact Int.cast_ofNat_Int.symm | rfl)); ((with_reducible refine' BIN_subN ?q1979 ?_); (case q1979 => ((lia)))); (with_reducible refine' EV_neg ?_); ((with_reducible refine' EV_intN ?q1980 ?_); (case q1980 => first | exact Int.cast_ofNat_Int.symm | rfl)); (with_reducible refine' AtI.intro _ ?_); (with_reducible refine' EV_neg ?_); ((with_reducible refine' EV_intN ?q1981 ?_); (case q1981 => first | exact Int.cast_ofNat_Int.symm | rfl)); (with_reducible refine' AtI.intro _ ?_))
  refine ⟨T, congrArg AV.int (by lia), by rfl, by rfl, by lia, ⟨List.replicate (R0.length - V.length) 0, R0, H1, by simp; lia, Lm.replicate (by lia) _, rfl, hR0, hlt, ?_, hl1, ha1, fun x o _ e => he01 x o e, rfl⟩, ?_, ?_⟩
  · rw [Nat.sub_zero, List.drop_of_length_le (by simp; lia)]; simp [val]
  · rintro j _ hj ⟨F, R, H', hF1, hF2, hR1, hR2, hRV, hsum, hHl, hHa, hHo, rfl⟩
    have hHb := hHo b _ (Ne.symm hab) hb
    have hi : T - j = T - 1 - j + 1 := tj1 hj
    rw [hi] at hRV hsum
    generalize hie : T - 1 - j = i at *
    have hil : i + V.length < R.length := il1 hR1 hlen hie hj
    obtain ⟨w0, wU, lo, hlo, hUv⟩ := window hB hR2 hn hVlt hRV hil
    have r0 := hR2.get (by lia) (i + V.length - 2)
    have r1 := hR2.get (by lia) (i + V.length - 1)
    have r2 := hR2.get (by lia) (i + V.length)
    have hqB : val (2 ^ w) (R.drop i) / val (2 ^ w) V < 2 ^ w := by
      rw [Nat.div_lt_iff_lt_mul hVp]; exact wU
    have h3 : cut (up R) (some ((i + V.length - 2 : Nat) : Int)) (some ((i + V.length + 1 : Nat) : Int)) = up [R.getD (i + V.length - 2) 0, R.getD (i + V.length - 1) 0, R.getD (i + V.length) 0] := by
      rw [cut_run, c31 hil hn, take3 (c32 hil hn), c33 hn, c34 hn]
    (((refine' EX_norm ?q1982 ?_); (case q1982 => ((dsimp only [frameOf, List.set_cons_zero, List.set_cons_succ]); (try exact rfl)))))
    ((with_reducible refine' EX_seq ?_); ((with_reducible refine' E1_assign ?q1983 ?q1984 ?q1985 ?_); (case q1983 => assumption); (case q1984 => rfl); (case q1985 => rfl)); ((with_reducible refine' EV_fnN ?q1986 ?q1991 ?q1992 ?q1990 ?q1989 ?q1987 ?q1988 ?_); (case q1986 => assumption); (case q1991 => with_reducible assumption); (case q1992 => rfl); (case q1990 => decide); (case q1989 => rfl); (case q1987 => rfl); (case q1988 => rfl)); ((with_reducible refine' SP_cons ?q1993 ?_); (case q1993 => rfl)); ((with_reducible refine' EV_sliceN ?q1994 ?q1995 ?_); (case q1994 => intro _ _; rfl); (case q1995 => intro _ _; rfl)); ((with_reducible refine' EV_loc ?q1996 ?q1998 ?q1999 ?q1997 ?_); (case q1996 => assumption); (case q1998 => rfl); (case q1999 => rfl); (case q1997 => decide)); (with_reducible refine' PT_some ?_); (with_reducible refine' EV_bin ?_); (with_reducible refine' EV_bin ?_); ((with_reducible refine' EV_loc ?q2000 ?q2002 ?q2003 ?q2001 ?_); (case q2000 => assumption); (case q2002 => rfl); (case q2003 => rfl); (case q2001 => decide)); ((with_reducible refine' EV_loc ?q2004 ?q2006 ?q2007 ?q2005 ?_); (case q2004 => assumption); (case q2006 => rfl); (case q2007 => rfl); (case q2005 => decide)); (with_reducible refine' BIN_addN ?_); ((with_reducible refine' EV_intN ?q2008 ?_); (case q2008 => first | exact Int.cast_ofNat_Int.symm | rfl)); ((with_reducible refine' BIN_subN ?q2009 ?_); (case q2009 => ((lia)))); (with_reducible refine' AtI.intro _ ?_); (with_reducible refine' PT_some ?_); (with_reducible refine' EV_bin ?_); (with_reducible refine' EV_bin ?_); ((with_reducible refine' EV_loc ?q2010 ?q2012 ?q2013 ?q2011 ?_); (case q2010 => assumption); (case q2012 => rfl); (case q2013 => rfl); (case q2011 => decide)); ((with_reducible refine' EV_loc ?q2014 ?q2016 ?q2017 ?q2015 ?_); (case q2014 => assumption); (case q2016 => rfl); (case q2017 => rfl); (case q2015 => decide)); (with_reducible refine' BIN_addN ?_); ((with_reducible refine' EV_intN ?q2018 ?_); (case q2018 => first | exact Int.cast_ofNat_Int.symm | rfl)); (with_reducible refine' BIN_addN ?_); (with_reducible refine' AtI.intro _ ?_))
    refine ⟨_, _, _, rfl, hHa, ⟨Int.natCast_nonneg _, Int.natCast_nonneg _⟩, by lia, h3, ?_⟩
    intro lt Ht het hnt hlt'
    have het : Ext H' Ht := het
    have hbt := het _ _ hHb
    have hat := het _ _ hHa
    have hlt2 := het _ _ hHl
    (((with_reducible refine' SP_cons ?q2019 ?_); (case q2019 => rfl)); ((with_reducible refine' EV_idxN ?q2020 ?_); (case q2020 => intro _ _ _; rfl)); ((with_reducible refine' EV_loc ?q2021 ?q2023 ?q2024 ?q2022 ?_); (case q2021 => assumption); (case q2023 => rfl); (case q2024 => rfl); (case q2022 => decide)); (with_reducible refine' EV_bin ?_); ((with_reducible refine' EV_loc ?q2025 ?q2027 ?q2028 ?q2026 ?_); (case q2025 => assumption); (case q2027 => rfl); (case q2028 => rfl); (case q2026 => decide)); ((with_reducible refine' EV_intN ?q2029 ?_); (case q2029 => first | exact Int.cast_ofNat_Int.symm | rfl)); ((with_reducible refine' BIN_subN ?q2030 ?_); (case q2030 => (((exact Nat.le_of_lt (by assumption)))))))
    (((refine' ⟨_, _, _, _, rfl, rfl, ?q2033, ?q2031, ?q2032, ?q2034, ?_⟩); (case q2033 => first | rfl | exact nat_sub1 (by first | assumption | lia)); (case q2031 => assumption); (case q2032 => ((lia))); (case q2034 => ((lia)))))
    (((with_reducible refine' SP_cons ?q2035 ?_); (case q2035 => rfl)); ((with_reducible refine' EV_idxN ?q2036 ?_); (case q2036 => intro _ _ _; rfl)); ((with_reducible refine' EV_loc ?q2037 ?q2039 ?q2040 ?q2038 ?_); (case q2037 => assumption); (case q2039 => rfl); (case q2040 => rfl); (case q2038 => decide)); (with_reducible refine' EV_bin ?_); ((with_reducible refine' EV_loc ?q2041 ?q2043 ?q2044 ?q2042 ?_); (case q2041 => assumption); (case q2043 => rfl); (case q2044 => rfl); (case q2042 => decide)); ((with_reducible refine' EV_intN ?q2045 ?_); (case q2045 => first | exact Int.cast_ofNat_Int.symm | rfl)); ((with_reducible refine' BIN_subN ?q2046 ?_); (case q2046 => ((assumption)))))
    (((refine' ⟨_, _, _, _, rfl, rfl, ?q2049, ?q2047, ?q2048, ?q2050, ?_⟩); (case q2049 => first | rfl | exact nat_sub1 (by first | assumption | lia)); (case q2047 => assumption); (case q2048 => ((lia))); (case q2050 => ((lia)))))
    (((with_reducible refine' SP_cons ?q2051 ?_); (case q2051 => rfl)); ((with_reducible refine' EV_loc ?q2052 ?q2054 ?q2055 ?q2053 ?_); (case q2052 => assumption); (case q2054 => rfl); (case q2055 => rfl); (case q2053 => decide)); (with_reducible refine' SP_nil ?_))
    refine guessed_limb_ok G (by assumption) (R'.mono (by lia)) hw hw2 hlt' r0 r1 r2 htop hv1 hv2 fun g hG => ?_
    obtain ⟨g1, g2⟩ := guess_true hB hUv hVv hlo hvlo r0 htop hv2 hqB hG
    have hgB := hG.lt
    (((with_reducible refine' Cont_norm ?q2056 ?_); (case q2056 => ((dsimp only [frameOf, List.set_cons_zero, List.set_cons_succ]); (try exact rfl)))); (with_reducible refine' EX_seq ?_); (with_reducible refine' E1_if ?_); ((with_reducible refine' TS_cmp ?q2057 ?_); (case q2057 => rfl)); ((with_reducible refine' EV_fnN ?q2058 ?q2063 ?q2064 ?q2062 ?q2061 ?q2059 ?q2060 ?_); (case q2058 => assumption); (case q2063 => with_reducible assumption); (case q2064 => rfl); (case q2062 => decide); (case q2061 => rfl); (case q2059 => rfl); (case q2060 => rfl)); ((with_reducible refine' SP_cons ?q2065 ?_); (case q2065 => rfl)); ((with_reducible refine' EV_loc ?q2066 ?q2068 ?q2069 ?q2067 ?_); (case q2066 => assumption); (case q2068 => rfl); (case q2069 => rfl); (case q2067 => decide)); ((with_reducible refine' SP_cons ?q2070 ?_); (case q2070 => rfl)); ((with_reducible refine' EV_loc ?q2071 ?q2073 ?q2074 ?q2072 ?_); (case q2071 => assumption); (case q2073 => rfl); (case q2074 => rfl); (case q2072 => decide)); ((with_reducible refine' SP_cons ?q2075 ?_); (case q2075 => rfl)); ((with_reducible refine' EV_loc ?q2076 ?q2078 ?q2079 ?q2077 ?_); (case q2076 => assumption); (case q2078 => rfl); (case q2079 => rfl); (case q2077 => decide)); ((with_reducible refine' SP_cons ?q2080 ?_); (case q2080 => rfl)); ((with_reducible refine' EV_loc ?q2081 ?q2083 ?q2084 ?q2082 ?_); (case q2081 => assumption); (case q2083 => rfl); (case q2084 => rfl); (case q2082 => decide)); ((with_reducible refine' SP_cons ?q2085 ?_); (case q2085 => rfl)); ((with_reducible refine' EV_loc ?q2086 ?q2088 ?q2089 ?q2087 ?_); (case q2086 => assumption); (case q2088 => rfl); (case q2089 => rfl); (case q2087 => decide)); (with_reducible refine' SP_nil ?_))
    refine take_away_ok G (by assumption) (R'.mono (by lia)) hw hw2 hat hbt hab hR2 hV hgB hil (by lia) fun R1 ret H2 t1 t2 t3 t4 t5 hH2 hH2o => ?_
    obtain ⟨c0, c1⟩ := rows_take hB hVp hR2 t2 t1 hil hVlt w0 wU t5 t3 t4 g1 g2
    have hb2 := hH2o b _ (Ne.symm hab) hbt
    have hl2 := hH2o l _ hla hlt2
    have ho2 : ∀ x o, x ≠ a → σ.H x = some o → H2 x = some o := fun x o hxa e => hH2o x o hxa (het _ _ (hHo x o hxa e))
    -- the end of a turn, for both ways
    have key : ∀ (q : Nat) (R2 : List Nat) (H3 : AH), q = val (2 ^ w) (R.drop i) / val (2 ^ w) V → R2.length = R0.length → Lm (2 ^ w) R2 → val (2 ^ w) R2 + (2 ^ w) ^ i * (q * val (2 ^ w) V) = val (2 ^ w) R → H3 a = some (nats R2) → (∀ x o, x ≠ a → σ.H x = some o → H3 x = some o) →
        ∀ (st : AS) (H4 : AH), H4 l = some (nats (F.set i q)) → (∀ b, b ≠ l → H4 b = H3 b) → Wk st { m := [some (.ref a), some (.ref b), some (.int (w : Nat)), some (.int (V.length : Nat)), some (.ref l), none, none, none, none, none, none, none], H := H4 } →
        ∃ σ'', Wk st σ'' ∧ DrInv a b l R0 V T w σ.H (j + 1) σ'' := by
      intro q R2 H3 hq x1 x2 x3 x4 x5 st H4 y1 y2 hwk
      obtain ⟨z1, z2⟩ := rows_next hB hVp hR2 (F := F) (by lia) (by lia) hq x3 hsum
      have hTi : T - (j + 1) = i := by lia
      refine ⟨_, hwk, F.set i q, R2, H4, by simp [hF1], ?_, x1, x2, by rw [hTi]; exact z1, by rw [hTi]; exact z2, y1, by rw [y2 a (Ne.symm hla)]; exact x4, fun x o hxa e => ?_, rfl⟩
      · intro x hx
        rcases List.mem_or_eq_of_mem_set hx with h | h
        · exact hF2 x h
        · rw [h, hq]; exact hqB
      · rw [y2 x (by rintro rfl; rw [hn1] at e; cases e)]
        exact x5 x o hxa e
    (((with_reducible refine' EV_intN ?q2090 ?_); (case q2090 => first | exact Int.cast_ofNat_Int.symm | rfl)); (with_reducible refine' CMP_eq ?_))
    ((((with_reducible refine' And.intro (fun hc => ?_) (fun hc => ?_)) <;> (simp only [decide_eq_true_eq, decide_eq_false_iff_not, Bool.not_eq_true', Bool.not_eq_false', Bool.not_true, Bool.not_false, reduceCtorEq] at hc)) <;> (revert hc; intro _)))
    · rename_i hr
      have hr1 : ret = 1 := by lia
      have hgq := c1 hr1
      subst hr1
      rw [Nat.mul_one] at t4
      have hg0 : 1 ≤ g := by rw [hgq]; exact Nat.le_add_left _ _
      ((with_reducible refine' EX_seq ?_); ((with_reducible refine' E1_aug ?q2091 ?q2092 ?q2093 ?_); (case q2091 => assumption); (case q2092 => rfl); (case q2093 => rfl)); ((with_reducible refine' EV_intN ?q2094 ?_); (case q2094 => first | exact Int.cast_ofNat_Int.symm | rfl)); ((with_reducible refine' INP_subN ?q2095 ?_); (case q2095 => ((assumption)))); ((with_reducible refine' Cont_norm ?q2096 ?_); (case q2096 => ((dsimp only [frameOf, List.set_cons_zero, List.set_cons_succ]); (try exact rfl)))); (with_reducible refine' EX_seq ?_); ((with_reducible refine' E1_expr ?q2097 ?q2098 ?_); (case q2097 => rfl); (case q2098 => rfl)); ((with_reducible refine' EV_fnN ?q2099 ?q2104 ?q2105 ?q2103 ?q2102 ?q2100 ?q2101 ?_); (case q2099 => assumption); (case q2104 => with_reducible assumption); (case q2105 => rfl); (case q2103 => decide); (case q2102 => rfl); (case q2100 => rfl); (case q2101 => rfl)); ((with_reducible refine' SP_cons ?q2106 ?_); (case q2106 => rfl)); ((with_reducible refine' EV_loc ?q2107 ?q2109 ?q2110 ?q2108 ?_); (case q2107 => assumption); (case q2109 => rfl); (case q2110 => rfl); (case q2108 => decide)); ((with_reducible refine' SP_cons ?q2111 ?_); (case q2111 => rfl)); ((with_reducible refine' EV_loc ?q2112 ?q2114 ?q2115 ?q2113 ?_); (case q2112 => assumption); (case q2114 => rfl); (case q2115 => rfl); (case q2113 => decide)); ((with_reducible refine' SP_cons ?q2116 ?_); (case q2116 => rfl)); ((with_reducible refine' EV_loc ?q2117 ?q2119 ?q2120 ?q2118 ?_); (case q2117 => assumption); (case q2119 => rfl); (case q2120 => rfl); (case q2118 => decide)); ((with_reducible refine' SP_cons ?q2121 ?_); (case q2121 => rfl)); ((with_reducible refine' EV_loc ?q2122 ?q2124 ?q2125 ?q2123 ?_); (case q2122 => assumption); (case q2124 => rfl); (case q2125 => rfl); (case q2123 => decide)); (with_reducible refine' SP_nil ?_))
      refine put_back_ok G (by assumption) (R'.mono (by lia)) hw hw2 hH2 hb2 hab t2 hV (by lia) (by lia) fun R2 c2 H3 p1 p2 p3 p4 hH3 hH3o => ?_
      have hl3 := hH3o l _ hla hl2
      have hrp := rows_put hB hVp hR2 p2 (by lia) hil hVlt w0 (p4.trans t5) rfl (by rw [← hgq]; exact t4) p3
      refine ⟨rfl, ?_⟩
      (((with_reducible refine' Cont_norm ?q2126 ?_); (case q2126 => ((dsimp only [frameOf, List.set_cons_zero, List.set_cons_succ]); (try exact rfl)))); (with_reducible refine' EX_nil ?_); ((with_reducible refine' Cont_norm ?q2127 ?_); (case q2127 => ((dsimp only [frameOf, List.set_cons_zero, List.set_cons_succ]); (try exact rfl)))); (with_reducible refine' EX_seq ?_); ((with_reducible refine' E1_setitemN ?q2128 ?_); (case q2128 => rfl)); ((with_reducible refine' EV_loc ?q2129 ?q2131 ?q2132 ?q2130 ?_); (case q2129 => assumption); (case q2131 => rfl); (case q2132 => rfl); (case q2130 => decide)); ((with_reducible refine' EV_loc ?q2133 ?q2135 ?q2136 ?q2134 ?_); (case q2133 => assumption); (case q2135 => rfl); (case q2136 => rfl); (case q2134 => decide)); ((with_reducible refine' EV_loc ?q2137 ?q2139 ?q2140 ?q2138 ?_); (case q2137 => assumption); (case q2139 => rfl); (case q2140 => rfl); (case q2138 => decide)))
      refine ⟨_, _, _, _, _, _, rfl, rfl, rfl, rfl, rfl, hl3, by lia, by lia, ?_⟩
      intro H4 hH4 hH4'
      (((with_reducible refine' Cont_norm ?q2141 ?_); (case q2141 => ((dsimp only [frameOf, List.set_cons_zero, List.set_cons_succ]); (try exact rfl)))); (with_reducible refine' EX_nil ?_))
      refine key (g - 1) R2 H3 (by rw [hgq]; exact Nat.add_sub_cancel _ _) (by lia) p2 ?_ hH3 (fun x o hxa e => hH3o x o hxa (ho2 x o hxa e)) _ H4 hH4 hH4' ?_
      · rw [hgq, Nat.add_sub_cancel]; exact hrp
      · ((refine' ⟨?q2143, ?q2142⟩; (case q2142 => first | exact Ext.refl _ | assumption); (case q2143 => repeat (first | exact MLe.nil _ | refine' MLe.none ?_ | refine' MLe.some' rfl ?_))))
    · rename_i hr
      have hr0 : ret = 0 := by lia
      have hgq := c0 hr0
      subst hr0
      rw [Nat.mul_zero, Nat.add_zero] at t4
      ((with_reducible refine' EX_nil ?_); ((with_reducible refine' Cont_norm ?q2144 ?_); (case q2144 => ((dsimp only [frameOf, List.set_cons_zero, List.set_cons_succ]); (try exact rfl)))); (with_reducible refine' EX_seq ?_); ((with_reducible refine' E1_setitemN ?q2145 ?_); (case q2145 => rfl)); ((with_reducible refine' EV_loc ?q2146 ?q2148 ?q2149 ?q2147 ?_); (case q2146 => assumption); (case q2148 => rfl); (case q2149 => rfl); (case q2147 => decide)); ((with_reducible refine' EV_loc ?q2150 ?q2152 ?q2153 ?q2151 ?_); (case q2150 => assumption); (case q2152 => rfl); (case q2153 => rfl); (case q2151 => decide)); ((with_reducible refine' EV_loc ?q2154 ?q2156 ?q2157 ?q2155 ?_); (case q2154 => assumption); (case q2156 => rfl); (case q2157 => rfl); (case q2155 => decide)))
      refine ⟨_, _, _, _, _, _, rfl, rfl, rfl, rfl, rfl, hl2, by lia, by lia, ?_⟩
      intro H4 hH4 hH4'
      (((with_reducible refine' Cont_norm ?q2158 ?_); (case q2158 => ((dsimp only [frameOf, List.set_cons_zero, List.set_cons_succ]); (try exact rfl)))); (with_reducible refine' EX_nil ?_))
      refine key g R1 H2 hgq (by lia) t2 t4 hH2 ho2 _ H4 hH4 hH4' ?_
      ((refine' ⟨?q2160, ?q2159⟩; (case q2159 => first | exact Ext.refl _ | assumption); (case q2160 => repeat (first | exact MLe.nil _ | refine' MLe.none ?_ | refine' MLe.some' rfl ?_))))
  · rintro _ ⟨F, R, H', hF1, hF2, hR1, hR2, hRV, hsum, hHl, hHa, hHo, rfl⟩
    rw [Nat.sub_self, Nat.pow_zero, Nat.one_mul] at hRV
    rw [Nat.sub_self, Nat.pow_zero, Nat.one_mul, List.drop_zero] at hsum
    (((with_reducible refine' Cont_norm ?q2161 ?_); (case q2161 => ((dsimp only [frameOf, List.set_cons_zero, List.set_cons_succ]); (try exact rfl)))); (with_reducible refine' EX_seq ?_); (with_reducible refine' E1_return ?_); ((with_reducible refine' EV_loc ?q2162 ?q2164 ?q2165 ?q2163 ?_); (case q2162 => assumption); (case q2164 => rfl); (case q2165 => rfl); (case q2163 => decide)); (with_reducible refine' Cont_ret ?_); ((with_reducible refine' RetQ_ret ?_); try dsimp only))
    exact k l F R H' hF2 hF1 hR2 hR1 hsum hRV hHl hHa hHo

theorem divrem_school_ok (G : FS W) (C : COk W c) (Rm : Room c 4) {a b : Addr} {A Bn w : Nat} {Q : AV → AS → Prop} (hw : 1 ≤ w) (hw2 : w ≤ 12) (ha : σ.H a = some (nats (dg (2 ^ w) A))) (hb : σ.H b = some (nats (dg (2 ^ w) Bn))) (hB0 : 0 < Bn) (hAB : Bn ≤ A) (hz : (dg (2 ^ w) A).length ≤ 700)
    (k : ∀ t l1 l2 H', Ext σ.H H' → σ.H l2 = none → H' t = some (.tup [.ref l1, .ref l2]) → H' l2 = some (nats (dg (2 ^ w) (A % Bn))) → Q (.ref t) { σ with H := H' }) : CALL W c (.ref (G.f 23)) [.ref a, .ref b, .int (w : Int)] σ Q := by
  have hf' : IsFn W.K _ (G.f 23) _ _ _ := G.h23
  have B := G.B
  have hn5 := G.n5
  have hn18 := G.n18
  have hn11 := G.n11
  have hn9 := G.n9
  have hn22 := G.n22
  have hn4 := G.n4
  have hn10 := G.n10
  have hB := pw2 hw
  have hB2 := pw12 hw2
  refine CALL_fn (xs := [Str.ofString "a", Str.ofString "b", Str.ofString "w"]) C Rm hf' ?_ rfl (by decide) rfl rfl rfl rfl rfl (by decide) ?_
  · ((exact rfl))
  clear hf'
  intro r C' R'
  have hlen := dg_len_mono hB hAB
  have hne : (dg (2 ^ w) Bn).length ≠ 0 := by
    intro h
    have := (dg_nil hB).mp (List.length_eq_zero_iff.mp h); lia
  have hVA := dg_val hB A
  have hVB := dg_val hB Bn
  ((with_reducible refine' EX_seq ?_); (with_reducible refine' E1_if ?_); ((with_reducible refine' TS_cmp ?q2166 ?_); (case q2166 => rfl)); ((with_reducible refine' EV_lenN ?q2168 ?q2167 ?q2171 ?q2170 ?q2169 ?_); (case q2168 => assumption); (case q2167 => assumption); (case q2171 => rfl); (case q2170 => rfl); (case q2169 => rfl)); ((with_reducible refine' EV_loc ?q2172 ?q2174 ?q2175 ?q2173 ?_); (case q2172 => assumption); (case q2174 => rfl); (case q2175 => rfl); (case q2173 => decide)))
  (((refine' ⟨_, _, rfl, ?q2176, ?q2177, ?_⟩); (case q2176 => assumption); (case q2177 => ((lia)))))
  (((with_reducible refine' EV_intN ?q2178 ?_); (case q2178 => first | exact Int.cast_ofNat_Int.symm | rfl)); (with_reducible refine' CMP_eq ?_))
  ((((with_reducible refine' And.intro (fun hc => ?_) (fun hc => ?_)) <;> (simp only [decide_eq_true_eq, decide_eq_false_iff_not, Bool.not_eq_true', Bool.not_eq_false', Bool.not_true, Bool.not_false, reduceCtorEq] at hc)) <;> (revert hc; intro _)))
  · rename_i h; lia
  (((refine' EX_norm ?q2179 ?_); (case q2179 => ((dsimp only [frameOf, List.set_cons_zero, List.set_cons_succ]); (try exact rfl)))))
  ((with_reducible refine' EX_nil ?_); ((with_reducible refine' Cont_norm ?q2180 ?_); (case q2180 => ((dsimp only [frameOf, List.set_cons_zero, List.set_cons_succ]); (try exact rfl)))); (with_reducible refine' EX_seq ?_); (with_reducible refine' E1_if ?_); ((with_reducible refine' TS_cmp ?q2181 ?_); (case q2181 => rfl)); ((with_reducible refine' EV_fnN ?q2182 ?q2187 ?q2188 ?q2186 ?q2185 ?q2183 ?q2184 ?_); (case q2182 => assumption); (case q2187 => with_reducible assumption); (case q2188 => rfl); (case q2186 => decide); (case q2185 => rfl); (case q2183 => rfl); (case q2184 => rfl)); ((with_reducible refine' SP_cons ?q2189 ?_); (case q2189 => rfl)); ((with_reducible refine' EV_loc ?q2190 ?q2192 ?q2193 ?q2191 ?_); (case q2190 => assumption); (case q2192 => rfl); (case q2193 => rfl); (case q2191 => decide)); ((with_reducible refine' SP_cons ?q2194 ?_); (case q2194 => rfl)); ((with_reducible refine' EV_loc ?q2195 ?q2197 ?q2198 ?q2196 ?_); (case q2195 => assumption); (case q2197 => rfl); (case q2198 => rfl); (case q2196 => decide)); (with_reducible refine' SP_nil ?_))
  refine compare_ok G.h5 B (by assumption) (R'.mono (by (exact Nat.succ_pos _))) ha hb hB (dg_nf hB A) (dg_nf hB Bn) (by (exact Nat.le_trans (by assumption) (by decide))) (by lia) fun r0 hr => ?_
  have hr0 : 0 ≤ r0 := by
    rcases hr with ⟨_, h⟩ | ⟨h, _⟩ | ⟨h, _⟩
    · rw [hVA, hVB] at h; lia
    · lia
    · lia
  (((with_reducible refine' EV_intN ?q2199 ?_); (case q2199 => first | exact Int.cast_ofNat_Int.symm | rfl)); (with_reducible refine' CMP_lt ?_))
  ((((with_reducible refine' And.intro (fun hc => ?_) (fun hc => ?_)) <;> (simp only [decide_eq_true_eq, decide_eq_false_iff_not, Bool.not_eq_true', Bool.not_eq_false', Bool.not_true, Bool.not_false, reduceCtorEq] at hc)) <;> (revert hc; intro _)))
  · rename_i h; lia
  (((refine' EX_norm ?q2200 ?_); (case q2200 => ((dsimp only [frameOf, List.set_cons_zero, List.set_cons_succ]); (try exact rfl)))))
  ((with_reducible refine' EX_nil ?_); ((with_reducible refine' Cont_norm ?q2201 ?_); (case q2201 => ((dsimp only [frameOf, List.set_cons_zero, List.set_cons_succ]); (try exact rfl)))); (with_reducible refine' EX_seq ?_); (with_reducible refine' E1_if ?_); ((with_reducible refine' TS_cmp ?q2202 ?_); (case q2202 => rfl)); ((with_reducible refine' EV_lenN ?q2204 ?q2203 ?q2207 ?q2206 ?q2205 ?_); (case q2204 => assumption); (case q2203 => assumption); (case q2207 => rfl); (case q2206 => rfl); (case q2205 => rfl)); ((with_reducible refine' EV_loc ?q2208 ?q2210 ?q2211 ?q2209 ?_); (case q2208 => assumption); (case q2210 => rfl); (case q2211 => rfl); (case q2209 => decide)))
  (((refine' ⟨_, _, rfl, ?q2212, ?q2213, ?_⟩); (case q2212 => assumption); (case q2213 => ((lia)))))
  (((with_reducible refine' EV_intN ?q2214 ?_); (case q2214 => first | exact Int.cast_ofNat_Int.symm | rfl)); (with_reducible refine' CMP_eq ?_))
  ((((with_reducible refine' And.intro (fun hc => ?_) (fun hc => ?_)) <;> (simp only [decide_eq_true_eq, decide_eq_false_iff_not, Bool.not_eq_true', Bool.not_eq_false', Bool.not_true, Bool.not_false, reduceCtorEq] at hc)) <;> (revert hc; intro _)))
  · rename_i h
    obtain ⟨h1, h2⟩ := dg_single hB (B := 2 ^ w) (Bn := Bn) (by lia)
    rw [h1] at hb
    ((with_reducible refine' EX_seq ?_); (with_reducible refine' E1_return ?_); ((with_reducible refine' EV_fnN ?q2215 ?q2220 ?q2221 ?q2219 ?q2218 ?q2216 ?q2217 ?_); (case q2215 => assumption); (case q2220 => with_reducible assumption); (case q2221 => rfl); (case q2219 => decide); (case q2218 => rfl); (case q2216 => rfl); (case q2217 => rfl)); ((with_reducible refine' SP_cons ?q2222 ?_); (case q2222 => rfl)); ((with_reducible refine' EV_loc ?q2223 ?q2225 ?q2226 ?q2224 ?_); (case q2223 => assumption); (case q2225 => rfl); (case q2226 => rfl); (case q2224 => decide)); ((with_reducible refine' SP_cons ?q2227 ?_); (case q2227 => rfl)); ((with_reducible refine' EV_loc ?q2228 ?q2230 ?q2231 ?q2229 ?_); (case q2228 => assumption); (case q2230 => rfl); (case q2231 => rfl); (case q2229 => decide)); ((with_reducible refine' SP_cons ?q2232 ?_); (case q2232 => rfl)); ((with_reducible refine' EV_loc ?q2233 ?q2235 ?q2236 ?q2234 ?_); (case q2233 => assumption); (case q2235 => rfl); (case q2236 => rfl); (case q2234 => decide)); (with_reducible refine' SP_nil ?_))
    refine divrem_small_ok G (by assumption) (R'.mono (by (exact Nat.le_refl _))) hw hw2 ha hb hB0 h2 (by (exact Nat.le_trans (by assumption) (by decide))) fun t l1 l2 H1 he hn ht hl => ?_
    ((with_reducible refine' Cont_ret ?_); (with_reducible refine' Cont_ret ?_); ((with_reducible refine' RetQ_ret ?_); try dsimp only))
    exact k t l1 l2 H1 he hn ht hl
  rename_i hone
  have hone : (dg (2 ^ w) Bn).length ≠ 1 := by lia
  obtain ⟨s1, s2, s3, s4⟩ := school_facts hw hB0 hAB rfl
  have htop := dg_top hB hB0
  have hxx := (dg_lm hB Bn).get (by lia) ((dg (2 ^ w) Bn).length - 1)
  obtain ⟨i1, i2, _, _⟩ := intBits_facts (by (exact Nat.pos_of_ne_zero (by assumption))) hxx
  (((refine' EX_norm ?q2237 ?_); (case q2237 => ((dsimp only [frameOf, List.set_cons_zero, List.set_cons_succ]); (try exact rfl)))))
  ((with_reducible refine' EX_nil ?_); ((with_reducible refine' Cont_norm ?q2238 ?_); (case q2238 => ((dsimp only [frameOf, List.set_cons_zero, List.set_cons_succ]); (try exact rfl)))); (with_reducible refine' EX_seq ?_); ((with_reducible refine' E1_assign ?q2239 ?q2240 ?q2241 ?_); (case q2239 => assumption); (case q2240 => rfl); (case q2241 => rfl)); (with_reducible refine' EV_bin ?_); ((with_reducible refine' EV_loc ?q2242 ?q2244 ?q2245 ?q2243 ?_); (case q2242 => assumption); (case q2244 => rfl); (case q2245 => rfl); (case q2243 => decide)); ((with_reducible refine' EV_fnN ?q2246 ?q2251 ?q2252 ?q2250 ?q2249 ?q2247 ?q2248 ?_); (case q2246 => assumption); (case q2251 => with_reducible assumption); (case q2252 => rfl); (case q2250 => decide); (case q2249 => rfl); (case q2247 => rfl); (case q2248 => rfl)); ((with_reducible refine' SP_cons ?q2253 ?_); (case q2253 => rfl)); ((with_reducible refine' EV_oneN ?q2254 ?_); (case q2254 => rfl)); ((with_reducible show EV _ _ (Expr.Subscript _ (Expr.UnaryOp _ _ _) _) _ _); (with_reducible refine' EV_idxB ?q2255 ?_); (case q2255 => intro _ _ _; rfl)); ((with_reducible refine' EV_loc ?q2256 ?q2258 ?q2259 ?q2257 ?_); (case q2256 => assumption); (case q2258 => rfl); (case q2259 => rfl); (case q2257 => decide)); (with_reducible refine' EV_neg ?_); ((with_reducible refine' EV_intN ?q2260 ?_); (case q2260 => first | exact Int.cast_ofNat_Int.symm | rfl)); (with_reducible refine' AtI.intro _ ?_))
  (((refine' ⟨_, _, _, _, rfl, rfl, ?q2264, ?q2261, ?q2262, ?q2263, ?q2265, ?_⟩); (case q2264 => rfl); (case q2261 => decide); (case q2262 => assumption); (case q2263 => (((exact Nat.pos_of_ne_zero (by assumption))))); (case q2265 => decide)))
  skip
  (((refine' ⟨_, _, rfl, ?q2266, ?_⟩); (case q2266 => first | rfl | exact Int.cast_ofNat_Int.symm)))
  intro lx Hx hex hnx hlx
  have hex : Ext σ.H Hx := hex
  (((with_reducible refine' SP_cons ?q2267 ?_); (case q2267 => rfl)); ((with_reducible refine' EV_loc ?q2268 ?q2270 ?q2271 ?q2269 ?_); (case q2268 => assumption); (case q2270 => rfl); (case q2271 => rfl); (case q2269 => decide)); (with_reducible refine' SP_nil ?_))
  refine bits_ok G (by assumption) (R'.mono (by lia)) hlx hw2 ?_
  (((with_reducible refine' BIN_subN ?q2272 ?_); (case q2272 => ((assumption)))); ((with_reducible refine' Cont_norm ?q2273 ?_); (case q2273 => ((dsimp only [frameOf, List.set_cons_zero, List.set_cons_succ]); (try exact rfl)))); (with_reducible refine' EX_seq ?_); ((with_reducible refine' E1_assign ?q2274 ?q2275 ?q2276 ?_); (case q2274 => assumption); (case q2275 => rfl); (case q2276 => rfl)); ((with_reducible refine' EV_fnN ?q2277 ?q2282 ?q2283 ?q2281 ?q2280 ?q2278 ?q2279 ?_); (case q2277 => assumption); (case q2282 => with_reducible assumption); (case q2283 => rfl); (case q2281 => decide); (case q2280 => rfl); (case q2278 => rfl); (case q2279 => rfl)); ((with_reducible refine' SP_cons ?q2284 ?_); (case q2284 => rfl)); ((with_reducible refine' EV_loc ?q2285 ?q2287 ?q2288 ?q2286 ?_); (case q2285 => assumption); (case q2287 => rfl); (case q2288 => rfl); (case q2286 => decide)); ((with_reducible refine' SP_cons ?q2289 ?_); (case q2289 => rfl)); ((with_reducible refine' EV_loc ?q2290 ?q2292 ?q2293 ?q2291 ?_); (case q2290 => assumption); (case q2292 => rfl); (case q2293 => rfl); (case q2291 => decide)); ((with_reducible refine' SP_cons ?q2294 ?_); (case q2294 => rfl)); ((with_reducible refine' EV_loc ?q2295 ?q2297 ?q2298 ?q2296 ?_); (case q2295 => assumption); (case q2297 => rfl); (case q2298 => rfl); (case q2296 => decide)); (with_reducible refine' SP_nil ?_))
  generalize hs : w - Builtin.Int.intBits (((dg (2 ^ w) Bn).getD ((dg (2 ^ w) Bn).length - 1) 0 : Nat) : Int) = s at *
  have hbx := hex _ _ hb
  have hax := hex _ _ ha
  refine shift_left_ok G (by assumption) (R'.mono (by lia)) hw hw2 hbx s1 (by lia) fun ld Hd hed hnd hld => ?_
  have hed : Ext Hx Hd := hed
  have had := hed _ _ hax
  (((with_reducible refine' Cont_norm ?q2299 ?_); (case q2299 => ((dsimp only [frameOf, List.set_cons_zero, List.set_cons_succ]); (try exact rfl)))); (with_reducible refine' EX_seq ?_); ((with_reducible refine' E1_assign ?q2300 ?q2301 ?q2302 ?_); (case q2300 => assumption); (case q2301 => rfl); (case q2302 => rfl)); ((with_reducible refine' EV_fnN ?q2303 ?q2308 ?q2309 ?q2307 ?q2306 ?q2304 ?q2305 ?_); (case q2303 => assumption); (case q2308 => with_reducible assumption); (case q2309 => rfl); (case q2307 => decide); (case q2306 => rfl); (case q2304 => rfl); (case q2305 => rfl)); ((with_reducible refine' SP_cons ?q2310 ?_); (case q2310 => rfl)); ((with_reducible refine' EV_loc ?q2311 ?q2313 ?q2314 ?q2312 ?_); (case q2311 => assumption); (case q2313 => rfl); (case q2314 => rfl); (case q2312 => decide)); ((with_reducible refine' SP_cons ?q2315 ?_); (case q2315 => rfl)); ((with_reducible refine' EV_loc ?q2316 ?q2318 ?q2319 ?q2317 ?_); (case q2316 => assumption); (case q2318 => rfl); (case q2319 => rfl); (case q2317 => decide)); ((with_reducible refine' SP_cons ?q2320 ?_); (case q2320 => rfl)); ((with_reducible refine' EV_loc ?q2321 ?q2323 ?q2324 ?q2322 ?_); (case q2321 => assumption); (case q2323 => rfl); (case q2324 => rfl); (case q2322 => decide)); (with_reducible refine' SP_nil ?_))
  refine shift_left_ok G (by assumption) (R'.mono (by lia)) hw hw2 had s1 (by lia) fun lr Hr her hnr hlr => ?_
  have her : Ext Hd Hr := her
  have har := her _ _ had
  have hldr := her _ _ hld
  have hAs : A * 2 ^ s < (2 ^ w) ^ ((dg (2 ^ w) A).length + 1) := by
    have := val_lt (dg_lm hB A)
    rw [hVA] at this
    rw [Nat.pow_succ]
    have h2 : 2 ^ s ≤ 2 ^ w := Nat.pow_le_pow_right (by lia) (by (exact Nat.le_of_lt (by assumption)))
    exact Nat.mul_lt_mul_of_lt_of_le this h2 (Nat.two_pow_pos w)
  have hlr1 := dg_len_le hB hAs
  (((with_reducible refine' Cont_norm ?q2325 ?_); (case q2325 => ((dsimp only [frameOf, List.set_cons_zero, List.set_cons_succ]); (try exact rfl)))); (with_reducible refine' EX_seq ?_); ((with_reducible refine' E1_assign ?q2326 ?q2327 ?q2328 ?_); (case q2326 => assumption); (case q2327 => rfl); (case q2328 => rfl)); (with_reducible refine' EV_bin ?_); ((with_reducible refine' EV_loc ?q2329 ?q2331 ?q2332 ?q2330 ?_); (case q2329 => assumption); (case q2331 => rfl); (case q2332 => rfl); (case q2330 => decide)); (with_reducible refine' EV_bin ?_); ((with_reducible refine' EV_oneN ?q2333 ?_); (case q2333 => rfl)); ((with_reducible refine' EV_intN ?q2334 ?_); (case q2334 => first | exact Int.cast_ofNat_Int.symm | rfl)))
  (((refine' ⟨_, _, rfl, ?q2335, ?_⟩); (case q2335 => first | rfl | exact Int.cast_ofNat_Int.symm)))
  intro l0 H0 he0 hn0 hl0
  have he0 : Ext Hr H0 := he0
  have ha0 := he0 _ _ har
  have hlr0 := he0 _ _ hlr
  ((with_reducible refine' EV_bin ?_); (with_reducible refine' EV_bin ?_); ((with_reducible refine' EV_lenN ?q2337 ?q2336 ?q2340 ?q2339 ?q2338 ?_); (case q2337 => assumption); (case q2336 => assumption); (case q2340 => rfl); (case q2339 => rfl); (case q2338 => rfl)); ((with_reducible refine' EV_loc ?q2341 ?q2343 ?q2344 ?q2342 ?_); (case q2341 => assumption); (case q2343 => rfl); (case q2344 => rfl); (case q2342 => decide)))
  (((refine' ⟨_, _, rfl, ?q2345, ?q2346, ?_⟩); (case q2345 => assumption); (case q2346 => ((lia)))))
  (((with_reducible refine' EV_intN ?q2347 ?_); (case q2347 => first | exact Int.cast_ofNat_Int.symm | rfl)); (with_reducible refine' BIN_addN ?_); ((with_reducible refine' EV_lenN ?q2349 ?q2348 ?q2352 ?q2351 ?q2350 ?_); (case q2349 => assumption); (case q2348 => assumption); (case q2352 => rfl); (case q2351 => rfl); (case q2350 => rfl)); ((with_reducible refine' EV_loc ?q2353 ?q2355 ?q2356 ?q2354 ?_); (case q2353 => assumption); (case q2355 => rfl); (case q2356 => rfl); (case q2354 => decide)))
  (((refine' ⟨_, _, rfl, ?q2357, ?q2358, ?_⟩); (case q2357 => assumption); (case q2358 => ((lia)))))
  (((with_reducible refine' BIN_subN ?q2359 ?_); (case q2359 => ((assumption)))))
  (((refine' BIN_repN ?q2360 ?q2361 ?_); (case q2360 => assumption); (case q2361 => ((lia)))))
  intro lp Hp hep hnp hlp
  have hep : Ext H0 Hp := hep
  have hlrp := hep _ _ hlr0
  skip
  refine BIN_catN hlrp hlp (by rw [List.length_replicate]; lia) fun lc Hc hec hnc hlc => ?_
  have hec : Ext Hp Hc := hec
  have hall : Ext Hd Hp := (her.trans he0).trans hep
  have hldc := hec _ _ (hall _ _ hld)
  have hfr : σ.H lc = none := ((hex.trans hed).trans hall).fresh hnc
  have hcd : lc ≠ ld := ne_fresh hnc (hall _ _ hld)
  have hLc : Lm (2 ^ w) (dg (2 ^ w) (A * 2 ^ s) ++ List.replicate ((dg (2 ^ w) A).length + 1 - (dg (2 ^ w) (A * 2 ^ s)).length) 0) := (dg_lm hB _).append (Lm.replicate (by lia) _)
  have hVc : val (2 ^ w) (dg (2 ^ w) (A * 2 ^ s) ++ List.replicate ((dg (2 ^ w) A).length + 1 - (dg (2 ^ w) (A * 2 ^ s)).length) 0) = A * 2 ^ s := by
    rw [val_append, dg_val hB, val_replicate]; (simp; done)
  have hlenc : (dg (2 ^ w) (A * 2 ^ s) ++ List.replicate ((dg (2 ^ w) A).length + 1 - (dg (2 ^ w) (A * 2 ^ s)).length) 0).length = (dg (2 ^ w) A).length + 1 := by
    rw [List.length_append, List.length_replicate]; lia
  (((with_reducible refine' Cont_norm ?q2362 ?_); (case q2362 => ((dsimp only [frameOf, List.set_cons_zero, List.set_cons_succ]); (try exact rfl)))); (with_reducible refine' EX_seq ?_); ((with_reducible refine' E1_assign ?q2363 ?q2364 ?q2365 ?_); (case q2363 => assumption); (case q2364 => rfl); (case q2365 => rfl)); ((with_reducible refine' EV_fnN ?q2366 ?q2371 ?q2372 ?q2370 ?q2369 ?q2367 ?q2368 ?_); (case q2366 => assumption); (case q2371 => with_reducible assumption); (case q2372 => rfl); (case q2370 => decide); (case q2369 => rfl); (case q2367 => rfl); (case q2368 => rfl)); ((with_reducible refine' SP_cons ?q2373 ?_); (case q2373 => rfl)); ((with_reducible refine' EV_loc ?q2374 ?q2376 ?q2377 ?q2375 ?_); (case q2374 => assumption); (case q2376 => rfl); (case q2377 => rfl); (case q2375 => decide)); ((with_reducible refine' SP_cons ?q2378 ?_); (case q2378 => rfl)); ((with_reducible refine' EV_loc ?q2379 ?q2381 ?q2382 ?q2380 ?_); (case q2379 => assumption); (case q2381 => rfl); (case q2382 => rfl); (case q2380 => decide)); ((with_reducible refine' SP_cons ?q2383 ?_); (case q2383 => rfl)); ((with_reducible refine' EV_loc ?q2384 ?q2386 ?q2387 ?q2385 ?_); (case q2384 => assumption); (case q2386 => rfl); (case q2387 => rfl); (case q2385 => decide)); (with_reducible refine' SP_nil ?_))
  have hs0 : 0 < Bn * 2 ^ s := Nat.mul_pos hB0 (Nat.two_pow_pos s)
  refine divide_rows_ok G (by assumption) (R'.mono (by (decide))) (T := (dg (2 ^ w) A).length + 1 - (dg (2 ^ w) Bn).length) hw hw2 hlc hldc hcd hLc (dg_lm hB _) (by lia) (by lia) (by lia) (by lia) ?_ ?_ fun lq F R' Hq hF1 hF2 hR1 hR2 hsum hRV hHq hHc hHo => ?_
  · have := dg_top hB hs0; (exact Nat.pos_of_ne_zero (by assumption))
  · rw [hVc, dg_val hB]
    rw [s4] at s3
    exact s3
  rw [hVc, dg_val hB] at hsum
  rw [dg_val hB] at hRV
  have hrest := school_rest hsum hRV
  have heq : Ext σ.H Hq := fun x o e => hHo x o (by rintro rfl; rw [hfr] at e; cases e) (hec _ _ (hall _ _ (hed _ _ (hex _ _ e))))
  (((with_reducible refine' Cont_norm ?q2388 ?_); (case q2388 => ((dsimp only [frameOf, List.set_cons_zero, List.set_cons_succ]); (try exact rfl)))); (with_reducible refine' EX_seq ?_); (with_reducible refine' E1_return ?_); (with_reducible refine' EV_tuple ?_); ((with_reducible refine' SP_cons ?q2389 ?_); (case q2389 => rfl)); ((with_reducible refine' EV_fnN ?q2390 ?q2395 ?q2396 ?q2394 ?q2393 ?q2391 ?q2392 ?_); (case q2390 => assumption); (case q2395 => with_reducible assumption); (case q2396 => rfl); (case q2394 => decide); (case q2393 => rfl); (case q2391 => rfl); (case q2392 => rfl)); ((with_reducible refine' SP_cons ?q2397 ?_); (case q2397 => rfl)); ((with_reducible refine' EV_loc ?q2398 ?q2400 ?q2401 ?q2399 ?_); (case q2398 => assumption); (case q2400 => rfl); (case q2401 => rfl); (case q2399 => decide)); (with_reducible refine' SP_nil ?_))
  refine normal_ok G.h4 B (by assumption) (Room.mono (by assumption) (by lia)) hHq (by lia) fun ln Hn hen hnn hln => ?_
  have hen : Ext Hq Hn := hen
  have hHcn := hen _ _ hHc
  (((with_reducible refine' SP_cons ?q2402 ?_); (case q2402 => rfl)); ((with_reducible refine' EV_fnN ?q2403 ?q2408 ?q2409 ?q2407 ?q2406 ?q2404 ?q2405 ?_); (case q2403 => assumption); (case q2408 => with_reducible assumption); (case q2409 => rfl); (case q2407 => decide); (case q2406 => rfl); (case q2404 => rfl); (case q2405 => rfl)); ((with_reducible refine' SP_cons ?q2410 ?_); (case q2410 => rfl)); ((with_reducible refine' EV_fnN ?q2411 ?q2416 ?q2417 ?q2415 ?q2414 ?q2412 ?q2413 ?_); (case q2411 => assumption); (case q2416 => with_reducible assumption); (case q2417 => rfl); (case q2415 => decide); (case q2414 => rfl); (case q2412 => rfl); (case q2413 => rfl)); ((with_reducible refine' SP_cons ?q2418 ?_); (case q2418 => rfl)); ((with_reducible refine' EV_loc ?q2419 ?q2421 ?q2422 ?q2420 ?_); (case q2419 => assumption); (case q2421 => rfl); (case q2422 => rfl); (case q2420 => decide)); (with_reducible refine' SP_nil ?_))
  refine normal_ok G.h4 B (by assumption) (Room.mono (by assumption) (by lia)) hHcn (by lia) fun ln2 Hn2 hen2 hnn2 hln2 => ?_
  have hen2 : Ext Hn Hn2 := hen2
  rw [nrm_eq hB hR1] at hln2
  (((with_reducible refine' SP_cons ?q2423 ?_); (case q2423 => rfl)); ((with_reducible refine' EV_loc ?q2424 ?q2426 ?q2427 ?q2425 ?_); (case q2424 => assumption); (case q2426 => rfl); (case q2427 => rfl); (case q2425 => decide)); ((with_reducible refine' SP_cons ?q2428 ?_); (case q2428 => rfl)); ((with_reducible refine' EV_loc ?q2429 ?q2431 ?q2432 ?q2430 ?_); (case q2429 => assumption); (case q2431 => rfl); (case q2432 => rfl); (case q2430 => decide)); (with_reducible refine' SP_nil ?_))
  refine shift_right_ok G (by assumption) (Room.mono (by assumption) (by lia)) hw hw2 hln2 (dg_lm hB _) (by (generalize 2 ^ _ = D at *; lia)) ?_ fun lz Hz hez hnz hlz => ?_
  · have := dg_len_le hB (val_lt hR1)
    lia
  rw [dg_val hB, hrest] at hlz
  have hez : Ext Hn2 Hz := hez
  have hfz : σ.H lz = none := ((heq.trans hen).trans hen2).fresh hnz
  ((with_reducible refine' SP_nil ?_))
  refine ⟨Nat.le_of_ble_eq_true rfl, ?_⟩
  intro t Ht het hnt hlt
  have het : Ext Hz Ht := het
  ((with_reducible refine' Cont_ret ?_); ((with_reducible refine' RetQ_ret ?_); try dsimp only))
  exact k t ln lz Ht ((((heq.trans hen).trans hen2).trans hez).trans het) hfz hlt (het _ _ hlz)

theorem place_lt {w A : Nat} (hw : 1 ≤ w) (hA : 0 < A) : A < 2 ^ (((dg (2 ^ w) A).length - 1) * w + Builtin.Int.intBits (((dg (2 ^ w) A).getD ((dg (2 ^ w) A).length - 1) 0 : Nat) : Int)) := by
  have hB := pw2 hw
  have hL := dg_lm hB A
  have hV := dg_val hB A
  have ht := dg_top hB hA
  have hn : 1 ≤ (dg (2 ^ w) A).length := by
    rcases Nat.eq_zero_or_pos (dg (2 ^ w) A).length with h | h
    · have := (dg_nil hB).mp (List.length_eq_zero_iff.mp h); lia
    · exact h
  have hx := hL.get (by lia) ((dg (2 ^ w) A).length - 1)
  have hvt := val_top (B := 2 ^ w) hn
  have hlow := val_lt (hL.take ((dg (2 ^ w) A).length - 1))
  rw [List.length_take, Nat.min_eq_left (by lia)] at hlow
  obtain ⟨f1, f2, f3, f4⟩ := intBits_facts (x := (dg (2 ^ w) A).getD ((dg (2 ^ w) A).length - 1) 0) (by lia) hx
  rw [hV] at hvt
  generalize Builtin.Int.intBits (((dg (2 ^ w) A).getD ((dg (2 ^ w) A).length - 1) 0 : Nat) : Int) = ib at *
  generalize (dg (2 ^ w) A).getD ((dg (2 ^ w) A).length - 1) 0 = x at *
  generalize val (2 ^ w) ((dg (2 ^ w) A).take ((dg (2 ^ w) A).length - 1)) = lo at *
  generalize (dg (2 ^ w) A).length - 1 = n at *
  rw [Nat.pow_add, Nat.mul_comm n w, Nat.pow_mul]
  have t : (2 ^ w) ^ n * (x + 1) ≤ (2 ^ w) ^ n * 2 ^ ib := Nat.mul_le_mul_left _ f4
  rw [Nat.mul_add, Nat.mul_one] at t
  (subst_vars; lia)

inductive LrEnd (a b f : Addr) (A w : Nat) (H0 : AH) (σ₁ : AS) : Prop
  | intro (P : Nat) (f1 : A < 2 ^ (P + w)) (f2 : P ≤ 1000) (f3 : σ₁ = { m := [some (.ref a), some (.ref b), some (.int (w : Int)), some (.ref (f)), some (.int (P : Int)), none, none, none, none, none, none, none, none], H := H0 })
theorem lehmer_round_ok (G : FS W) (C : COk W c) (Rm : Room c 5) {a b : Addr} {A Bn w : Nat} {Q : AV → AS → Prop} (hw : 1 ≤ w) (hw2 : w ≤ 12) (ha : σ.H a = some (nats (dg (2 ^ w) A))) (hb : σ.H b = some (nats (dg (2 ^ w) Bn))) (hB0 : 0 < Bn) (hAB : Bn ≤ A) (hz : (dg (2 ^ w) A).length ≤ 70)
    (k : ∀ t l1 l2 H' K, 1 ≤ K → (eu A Bn K).2 ≤ (eu A Bn K).1 → Ext σ.H H' → H' t = some (.tup [.ref l1, .ref l2]) → H' l1 = some (nats (dg (2 ^ w) (eu A Bn K).1)) → H' l2 = some (nats (dg (2 ^ w) (eu A Bn K).2)) → Q (.ref t) { σ with H := H' }) : CALL W c (.ref (G.f 16)) [.ref a, .ref b, .int (w : Int), .ref (G.f 23)] σ Q := by
  have hf' : IsFn W.K _ (G.f 16) _ _ _ := G.h16
  have B := G.B
  have hn13 := G.n13
  have hn14 := G.n14
  have hn15 := G.n15
  have hn23 := G.n23
  have hB := pw2 hw
  have hB2 := pw12 hw2
  have hpc : ((2 ^ w : Nat) : Int) = (2 : Int) ^ w := by simp
  refine CALL_fn (xs := [Str.ofString "a", Str.ofString "b", Str.ofString "w", Str.ofString "divrem"]) C Rm hf' ?_ rfl (by decide) rfl rfl rfl rfl rfl (by decide) ?_
  · ((exact rfl))
  clear hf'
  intro r C' R'
  have hlen := dg_len_mono hB hAB
  have hne : (dg (2 ^ w) A).length ≠ 0 := by
    intro h
    have := (dg_nil hB).mp (List.length_eq_zero_iff.mp h); lia
  have hpl := place_lt hw (A := A) (by (exact Nat.lt_of_lt_of_le (by assumption) (by assumption)))
  have htop := dg_top hB (n := A) (by lia)
  have hxx := (dg_lm hB A).get (by lia) ((dg (2 ^ w) A).length - 1)
  obtain ⟨i1, i2, _, _⟩ := intBits_facts (by lia) hxx
  have hmw : ((dg (2 ^ w) A).length - 1) * w ≤ 70 * 12 := Nat.mul_le_mul (by (omega)) hw2
  ((with_reducible refine' EX_seq ?_); ((with_reducible refine' E1_assign ?q2433 ?q2434 ?q2435 ?_); (case q2433 => assumption); (case q2434 => rfl); (case q2435 => rfl)); (with_reducible refine' EV_bin ?_); (with_reducible refine' EV_bin ?_); (with_reducible refine' EV_bin ?_); (with_reducible refine' EV_bin ?_); ((with_reducible refine' EV_lenN ?q2437 ?q2436 ?q2440 ?q2439 ?q2438 ?_); (case q2437 => assumption); (case q2436 => assumption); (case q2440 => rfl); (case q2439 => rfl); (case q2438 => rfl)); ((with_reducible refine' EV_loc ?q2441 ?q2443 ?q2444 ?q2442 ?_); (case q2441 => assumption); (case q2443 => rfl); (case q2444 => rfl); (case q2442 => decide)))
  (((refine' ⟨_, _, rfl, ?q2445, ?q2446, ?_⟩); (case q2445 => assumption); (case q2446 => ((lia)))))
  (((with_reducible refine' EV_intN ?q2447 ?_); (case q2447 => first | exact Int.cast_ofNat_Int.symm | rfl)); ((with_reducible refine' BIN_subN ?q2448 ?_); (case q2448 => (((exact Nat.pos_of_ne_zero (by assumption)))))); ((with_reducible refine' EV_loc ?q2449 ?q2451 ?q2452 ?q2450 ?_); (case q2449 => assumption); (case q2451 => rfl); (case q2452 => rfl); (case q2450 => decide)); ((with_reducible refine' BIN_mulN ?q2453 ?_); (case q2453 => (((omega))))); ((with_reducible refine' EV_bitlen ?q2454 ?_); (case q2454 => rfl)); ((with_reducible show EV _ _ (Expr.Subscript _ (Expr.UnaryOp _ _ _) _) _ _); (with_reducible refine' EV_idxB ?q2455 ?_); (case q2455 => intro _ _ _; rfl)); ((with_reducible refine' EV_loc ?q2456 ?q2458 ?q2459 ?q2457 ?_); (case q2456 => assumption); (case q2458 => rfl); (case q2459 => rfl); (case q2457 => decide)); (with_reducible refine' EV_neg ?_); ((with_reducible refine' EV_intN ?q2460 ?_); (case q2460 => first | exact Int.cast_ofNat_Int.symm | rfl)); (with_reducible refine' AtI.intro _ ?_))
  (((refine' ⟨_, _, _, _, rfl, rfl, ?q2464, ?q2461, ?q2462, ?q2463, ?q2465, ?_⟩); (case q2464 => rfl); (case q2461 => decide); (case q2462 => assumption); (case q2463 => ((lia))); (case q2465 => decide)))
  refine ⟨_, ?_⟩
  repeat (((with_reducible refine' BIN_addN ?_); ((with_reducible refine' EV_loc ?q2466 ?q2468 ?q2469 ?q2467 ?_); (case q2466 => assumption); (case q2468 => rfl); (case q2469 => rfl); (case q2467 => decide)); (with_reducible refine' BIN_sub ?_)))
  (((with_reducible refine' Cont_norm ?q2470 ?_); (case q2470 => ((dsimp only [frameOf, List.set_cons_zero, List.set_cons_succ]); (try exact rfl)))))
  ((with_reducible refine' EX_seq ?_))
  refine E1_ifX (LrEnd a b (G.f 23) A w σ.H) ?_ ?_
  · (((with_reducible refine' TS_cmp ?q2471 ?_); (case q2471 => rfl)); ((with_reducible refine' EV_loc ?q2472 ?q2474 ?q2475 ?q2473 ?_); (case q2472 => assumption); (case q2474 => rfl); (case q2475 => rfl); (case q2473 => decide)); ((with_reducible refine' EV_intN ?q2476 ?_); (case q2476 => first | exact Int.cast_ofNat_Int.symm | rfl)); (with_reducible refine' CMP_lt ?_))
    ((((with_reducible refine' And.intro (fun hc => ?_) (fun hc => ?_)) <;> (simp only [decide_eq_true_eq, decide_eq_false_iff_not, Bool.not_eq_true', Bool.not_eq_false', Bool.not_true, Bool.not_false, reduceCtorEq] at hc)) <;> (revert hc; intro _)))
    · rename_i h
      ((with_reducible refine' EX_seq ?_); ((with_reducible refine' E1_assign ?q2477 ?q2478 ?q2479 ?_); (case q2477 => assumption); (case q2478 => rfl); (case q2479 => rfl)); ((with_reducible refine' EV_intN ?q2480 ?_); (case q2480 => first | exact Int.cast_ofNat_Int.symm | rfl)); ((with_reducible refine' Cont_norm ?q2481 ?_); (case q2481 => ((dsimp only [frameOf, List.set_cons_zero, List.set_cons_succ]); (try exact rfl)))); (with_reducible refine' EX_nil ?_))
      refine ExQ_next ⟨0, Nat.lt_of_lt_of_le hpl (Nat.pow_le_pow_right (by lia) (by lia)), by (exact Nat.zero_le _), rfl⟩
    · rename_i h
      ((with_reducible refine' EX_nil ?_))
      refine ExQ_next ⟨((dg (2 ^ w) A).length - 1) * w + Builtin.Int.intBits (((dg (2 ^ w) A).getD ((dg (2 ^ w) A).length - 1) 0 : Nat) : Int) - w, by rw [Nat.sub_add_cancel (by (omega))]; exact hpl, by lia, ?_⟩
      rw [Int.natCast_sub (by lia)]
  rintro _ ⟨P, hP, hP2, rfl⟩
  have hXp : 0 < 2 ^ P := Nat.two_pow_pos P
  have hx0 : A / 2 ^ P < 2 ^ w := by
    rw [Nat.div_lt_iff_lt_mul hXp, ← Nat.pow_add, Nat.add_comm]; exact hP
  have hy0 : Bn / 2 ^ P < 2 ^ w := by
    rw [Nat.div_lt_iff_lt_mul hXp, ← Nat.pow_add, Nat.add_comm]; (exact Nat.lt_of_le_of_lt (by assumption) (by assumption))
  (((with_reducible refine' Cont_norm ?q2482 ?_); (case q2482 => ((dsimp only [frameOf, List.set_cons_zero, List.set_cons_succ]); (try exact rfl)))); (with_reducible refine' EX_seq ?_); ((with_reducible refine' E1_unp4 ?q2483 ?q2488 ?q2489 ?q2484 ?q2485 ?q2486 ?q2487 ?_); (case q2483 => assumption); (case q2488 => rfl); (case q2489 => rfl); (case q2484 => rfl); (case q2485 => rfl); (case q2486 => rfl); (case q2487 => rfl)); ((with_reducible refine' EV_fnN ?q2490 ?q2495 ?q2496 ?q2494 ?q2493 ?q2491 ?q2492 ?_); (case q2490 => assumption); (case q2495 => with_reducible assumption); (case q2496 => rfl); (case q2494 => decide); (case q2493 => rfl); (case q2491 => rfl); (case q2492 => rfl)); ((with_reducible refine' SP_cons ?q2497 ?_); (case q2497 => rfl)); ((with_reducible refine' EV_fnN ?q2498 ?q2503 ?q2504 ?q2502 ?q2501 ?q2499 ?q2500 ?_); (case q2498 => assumption); (case q2503 => with_reducible assumption); (case q2504 => rfl); (case q2502 => decide); (case q2501 => rfl); (case q2499 => rfl); (case q2500 => rfl)); ((with_reducible refine' SP_cons ?q2505 ?_); (case q2505 => rfl)); ((with_reducible refine' EV_loc ?q2506 ?q2508 ?q2509 ?q2507 ?_); (case q2506 => assumption); (case q2508 => rfl); (case q2509 => rfl); (case q2507 => decide)); ((with_reducible refine' SP_cons ?q2510 ?_); (case q2510 => rfl)); ((with_reducible refine' EV_loc ?q2511 ?q2513 ?q2514 ?q2512 ?_); (case q2511 => assumption); (case q2513 => rfl); (case q2514 => rfl); (case q2512 => decide)); ((with_reducible refine' SP_cons ?q2515 ?_); (case q2515 => rfl)); ((with_reducible refine' EV_loc ?q2516 ?q2518 ?q2519 ?q2517 ?_); (case q2516 => assumption); (case q2518 => rfl); (case q2519 => rfl); (case q2517 => decide)); (with_reducible refine' SP_nil ?_))
  refine limb_from_ok G (by assumption) (R'.mono (by (decide))) hw hw2 ha hP2 (by (exact Nat.le_trans (by assumption) (by decide))) fun H1 he1 => ?_
  have he1 : Ext σ.H H1 := he1
  have hb1 := he1 _ _ hb
  have ha1 := he1 _ _ ha
  rw [Nat.mod_eq_of_lt hx0]
  (((with_reducible refine' SP_cons ?q2520 ?_); (case q2520 => rfl)); ((with_reducible refine' EV_fnN ?q2521 ?q2526 ?q2527 ?q2525 ?q2524 ?q2522 ?q2523 ?_); (case q2521 => assumption); (case q2526 => with_reducible assumption); (case q2527 => rfl); (case q2525 => decide); (case q2524 => rfl); (case q2522 => rfl); (case q2523 => rfl)); ((with_reducible refine' SP_cons ?q2528 ?_); (case q2528 => rfl)); ((with_reducible refine' EV_loc ?q2529 ?q2531 ?q2532 ?q2530 ?_); (case q2529 => assumption); (case q2531 => rfl); (case q2532 => rfl); (case q2530 => decide)); ((with_reducible refine' SP_cons ?q2533 ?_); (case q2533 => rfl)); ((with_reducible refine' EV_loc ?q2534 ?q2536 ?q2537 ?q2535 ?_); (case q2534 => assumption); (case q2536 => rfl); (case q2537 => rfl); (case q2535 => decide)); ((with_reducible refine' SP_cons ?q2538 ?_); (case q2538 => rfl)); ((with_reducible refine' EV_loc ?q2539 ?q2541 ?q2542 ?q2540 ?_); (case q2539 => assumption); (case q2541 => rfl); (case q2542 => rfl); (case q2540 => decide)); (with_reducible refine' SP_nil ?_))
  refine limb_from_ok G (by assumption) (R'.mono (by lia)) hw hw2 hb1 hP2 (by lia) fun H2 he2 => ?_
  have he2 : Ext H1 H2 := he2
  have hb2 := he2 _ _ hb1
  have ha2 := he2 _ _ ha1
  rw [Nat.mod_eq_of_lt hy0]
  ((with_reducible refine' SP_nil ?_))
  refine lehmer_steps_ok G (by assumption) (R'.mono (by (exact Nat.succ_pos _))) (a := A) (b := Bn) (X := 2 ^ P) (M := 2 ^ w - 1) (al := A % 2 ^ P) (be := Bn % 2 ^ P) hXp (Nat.div_add_mod _ _).symm (Nat.div_add_mod _ _).symm (Nat.mod_lt _ hXp) (Nat.mod_lt _ hXp) (by lia) (by lia) (by lia) (by lia) hAB fun t H3 K e x y p q rr ss I he3 ht3 => ?_
  have he3 : Ext H2 H3 := he3
  have hb3 := he3 _ _ hb2
  have ha3 := he3 _ _ ha2
  refine ⟨t, _, _, _, _, rfl, ht3, ?_⟩
  (((with_reducible refine' Cont_norm ?q2543 ?_); (case q2543 => ((dsimp only [frameOf, List.set_cons_zero, List.set_cons_succ]); (try exact rfl)))); (with_reducible refine' EX_seq ?_); (with_reducible refine' E1_if ?_); ((with_reducible refine' TS_cmp ?q2544 ?_); (case q2544 => rfl)); ((with_reducible refine' EV_loc ?q2545 ?q2547 ?q2548 ?q2546 ?_); (case q2545 => assumption); (case q2547 => rfl); (case q2548 => rfl); (case q2546 => decide)); ((with_reducible refine' EV_intN ?q2549 ?_); (case q2549 => first | exact Int.cast_ofNat_Int.symm | rfl)); (with_reducible refine' CMP_eq ?_))
  ((((with_reducible refine' And.intro (fun hc => ?_) (fun hc => ?_)) <;> (simp only [decide_eq_true_eq, decide_eq_false_iff_not, Bool.not_eq_true', Bool.not_eq_false', Bool.not_true, Bool.not_false, reduceCtorEq] at hc)) <;> (revert hc; intro _)))
  · rename_i h
    have hK : K = 0 := by
      rcases Nat.eq_zero_or_pos K with h' | h'
      · exact h'
      · exact absurd h (I.z1 h')
    ((with_reducible refine' EX_seq ?_))
    ((with_reducible refine' E1_return ?_))
    ((with_reducible refine' EV_tuple ?_))
    (((with_reducible refine' SP_cons ?q2550 ?_); (case q2550 => rfl)))
    (((with_reducible refine' EV_loc ?q2551 ?q2553 ?q2554 ?q2552 ?_); (case q2551 => assumption); (case q2553 => rfl); (case q2554 => rfl); (case q2552 => decide)))
    (((with_reducible refine' SP_cons ?q2555 ?_); (case q2555 => rfl)))
    refine EV_idxT (fun _ _ _ => rfl) ?_
    refine EV_call (by assumption) rfl rfl rfl ?_
    (((with_reducible refine' EV_loc ?q2556 ?q2558 ?q2559 ?q2557 ?_); (case q2556 => assumption); (case q2558 => rfl); (case q2559 => rfl); (case q2557 => decide)))
    refine ⟨_, rfl, hn23.2, ?_⟩
    (((with_reducible refine' SP_cons ?q2560 ?_); (case q2560 => rfl)); ((with_reducible refine' EV_loc ?q2561 ?q2563 ?q2564 ?q2562 ?_); (case q2561 => assumption); (case q2563 => rfl); (case q2564 => rfl); (case q2562 => decide)); ((with_reducible refine' SP_cons ?q2565 ?_); (case q2565 => rfl)); ((with_reducible refine' EV_loc ?q2566 ?q2568 ?q2569 ?q2567 ?_); (case q2566 => assumption); (case q2568 => rfl); (case q2569 => rfl); (case q2567 => decide)); ((with_reducible refine' SP_cons ?q2570 ?_); (case q2570 => rfl)); ((with_reducible refine' EV_loc ?q2571 ?q2573 ?q2574 ?q2572 ?_); (case q2571 => assumption); (case q2573 => rfl); (case q2574 => rfl); (case q2572 => decide)); (with_reducible refine' SP_nil ?_))
    refine divrem_school_ok G (by assumption) (R'.mono (by (exact Nat.le_refl _))) hw hw2 ha3 hb3 hB0 hAB (by (exact Nat.le_trans (by assumption) (by decide))) fun t4 l1 l2 H4 he4 hn4 ht4 hl4 => ?_
    have he4 : Ext H3 H4 := he4
    (((with_reducible refine' EV_intN ?q2575 ?_); (case q2575 => first | exact Int.cast_ofNat_Int.symm | rfl)))
    refine ⟨t4, _, _, 1, rfl, rfl, ht4, by decide, rfl, ?_⟩
    ((with_reducible refine' SP_nil ?_))
    refine ⟨Nat.le_of_ble_eq_true rfl, ?_⟩
    intro t5 H5 he5 hn5 ht5
    have he5 : Ext H4 H5 := he5
    ((with_reducible refine' Cont_ret ?_); (with_reducible refine' Cont_ret ?_); ((with_reducible refine' RetQ_ret ?_); try dsimp only))
    exact k t5 b l2 H5 1 (by lia) (Nat.le_of_lt (Nat.mod_lt _ hB0)) ((((he1.trans he2).trans he3).trans he4).trans he5) ht5 (he5 _ _ (he4 _ _ hb3)) (he5 _ _ hl4)
  · rename_i h
    have hK : 1 ≤ K := by
      rcases Nat.eq_zero_or_pos K with h' | h'
      · exact absurd (I.z0 h') h
      · exact h'
    obtain ⟨p1, p2⟩ := I.bp
    obtain ⟨q1, q2⟩ := I.bq
    obtain ⟨r1, r2⟩ := I.br
    obtain ⟨s1, s2⟩ := I.bs
    have hM : (((2 ^ w - 1 : Nat)) : Int) = 2 ^ w - 1 := by rw [← hpc]; lia
    rw [hM] at p1 p2 q1 q2 r1 r2 s1 s2
    have g1 : (0 ≤ p ∧ q ≤ 0) ∨ (p ≤ 0 ∧ 0 ≤ q) := by
      have := I.sp; have := I.sq
      rcases I.he with h | h <;> subst h <;> lia
    have g2 : (0 ≤ rr ∧ ss ≤ 0) ∨ (rr ≤ 0 ∧ 0 ≤ ss) := by
      have := I.sr; have := I.ss
      rcases I.he with h | h <;> subst h <;> lia
    ((with_reducible refine' EX_nil ?_); ((with_reducible refine' Cont_norm ?q2576 ?_); (case q2576 => ((dsimp only [frameOf, List.set_cons_zero, List.set_cons_succ]); (try exact rfl)))); (with_reducible refine' EX_seq ?_); (with_reducible refine' E1_return ?_); (with_reducible refine' EV_tuple ?_); ((with_reducible refine' SP_cons ?q2577 ?_); (case q2577 => rfl)); ((with_reducible refine' EV_fnN ?q2578 ?q2583 ?q2584 ?q2582 ?q2581 ?q2579 ?q2580 ?_); (case q2578 => assumption); (case q2583 => with_reducible assumption); (case q2584 => rfl); (case q2582 => decide); (case q2581 => rfl); (case q2579 => rfl); (case q2580 => rfl)); ((with_reducible refine' SP_cons ?q2585 ?_); (case q2585 => rfl)); ((with_reducible refine' EV_loc ?q2586 ?q2588 ?q2589 ?q2587 ?_); (case q2586 => assumption); (case q2588 => rfl); (case q2589 => rfl); (case q2587 => decide)); ((with_reducible refine' SP_cons ?q2590 ?_); (case q2590 => rfl)); ((with_reducible refine' EV_loc ?q2591 ?q2593 ?q2594 ?q2592 ?_); (case q2591 => assumption); (case q2593 => rfl); (case q2594 => rfl); (case q2592 => decide)); ((with_reducible refine' SP_cons ?q2595 ?_); (case q2595 => rfl)); ((with_reducible refine' EV_loc ?q2596 ?q2598 ?q2599 ?q2597 ?_); (case q2596 => assumption); (case q2598 => rfl); (case q2599 => rfl); (case q2597 => decide)); ((with_reducible refine' SP_cons ?q2600 ?_); (case q2600 => rfl)); ((with_reducible refine' EV_loc ?q2601 ?q2603 ?q2604 ?q2602 ?_); (case q2601 => assumption); (case q2603 => rfl); (case q2604 => rfl); (case q2602 => decide)); ((with_reducible refine' SP_cons ?q2605 ?_); (case q2605 => rfl)); ((with_reducible refine' EV_loc ?q2606 ?q2608 ?q2609 ?q2607 ?_); (case q2606 => assumption); (case q2608 => rfl); (case q2609 => rfl); (case q2607 => decide)); (with_reducible refine' SP_nil ?_))
    refine mixed_ok G (by assumption) (R'.mono (by lia)) hw hw2 ha3 hb3 (by lia) (by lia) (by lia) (by lia) g1 I.hu (by (exact Nat.le_trans (by assumption) (by decide))) (by lia) fun l1 H4 he4 hn4 hl4 => ?_
    have he4 : Ext H3 H4 := he4
    have ha4 := he4 _ _ ha3
    have hb4 := he4 _ _ hb3
    (((with_reducible refine' SP_cons ?q2610 ?_); (case q2610 => rfl)); ((with_reducible refine' EV_fnN ?q2611 ?q2616 ?q2617 ?q2615 ?q2614 ?q2612 ?q2613 ?_); (case q2611 => assumption); (case q2616 => with_reducible assumption); (case q2617 => rfl); (case q2615 => decide); (case q2614 => rfl); (case q2612 => rfl); (case q2613 => rfl)); ((with_reducible refine' SP_cons ?q2618 ?_); (case q2618 => rfl)); ((with_reducible refine' EV_loc ?q2619 ?q2621 ?q2622 ?q2620 ?_); (case q2619 => assumption); (case q2621 => rfl); (case q2622 => rfl); (case q2620 => decide)); ((with_reducible refine' SP_cons ?q2623 ?_); (case q2623 => rfl)); ((with_reducible refine' EV_loc ?q2624 ?q2626 ?q2627 ?q2625 ?_); (case q2624 => assumption); (case q2626 => rfl); (case q2627 => rfl); (case q2625 => decide)); ((with_reducible refine' SP_cons ?q2628 ?_); (case q2628 => rfl)); ((with_reducible refine' EV_loc ?q2629 ?q2631 ?q2632 ?q2630 ?_); (case q2629 => assumption); (case q2631 => rfl); (case q2632 => rfl); (case q2630 => decide)); ((with_reducible refine' SP_cons ?q2633 ?_); (case q2633 => rfl)); ((with_reducible refine' EV_loc ?q2634 ?q2636 ?q2637 ?q2635 ?_); (case q2634 => assumption); (case q2636 => rfl); (case q2637 => rfl); (case q2635 => decide)); ((with_reducible refine' SP_cons ?q2638 ?_); (case q2638 => rfl)); ((with_reducible refine' EV_loc ?q2639 ?q2641 ?q2642 ?q2640 ?_); (case q2639 => assumption); (case q2641 => rfl); (case q2642 => rfl); (case q2640 => decide)); (with_reducible refine' SP_nil ?_))
    refine mixed_ok G (by assumption) (R'.mono (by lia)) hw hw2 ha4 hb4 (by lia) (by lia) (by lia) (by lia) g2 I.hv (by lia) (by lia) fun l2 H5 he5 hn5 hl5 => ?_
    have he5 : Ext H4 H5 := he5
    ((with_reducible refine' SP_nil ?_))
    refine ⟨Nat.le_of_ble_eq_true rfl, ?_⟩
    intro t6 H6 he6 hn6 ht6
    have he6 : Ext H5 H6 := he6
    ((with_reducible refine' Cont_ret ?_); ((with_reducible refine' RetQ_ret ?_); try dsimp only))
    exact k t6 l1 l2 H6 K hK I.huv (((((he1.trans he2).trans he3).trans he4).trans he5).trans he6) ht6 (he6 _ _ (he5 _ _ hl4)) (he6 _ _ hl5)


theorem law_sifted_ok (G : FS W) (C : COk W c) (Rm : Room c 1) {t l : Addr} {i m : Nat} {L : List Nat} {Q : AV → AS → Prop} (ht : σ.H t = some (.vals [.int (i : Int), .ref l])) (hl : σ.H l = some (nats L)) (hi : i ≤ 100) (hL : L.length ≤ 100) (hm : 0 < m)
    (k : ∀ (r : Nat) H', r < m → H' t = some (.vals [.int ((i + 1 : Nat) : Int), .ref l]) → H' l = some (nats L) → Q (.int (r : Int)) { σ with H := H' }) : CALL W c (.ref (G.f 25)) [.ref t, .int (m : Int)] σ Q := by
  have hf' : IsFn W.K _ (G.f 25) _ _ _ := G.h25
  have B := G.B
  have htl : l ≠ t := by rintro rfl; rw [hl] at ht; cases ht
  refine CALL_fn (xs := [Str.ofString "tub", Str.ofString "many"]) C Rm hf' ?_ rfl (by decide) rfl rfl rfl rfl rfl (by decide) ?_
  · ((exact rfl))
  clear hf'
  intro r C' R'
  ((with_reducible refine' EX_seq ?_))
  refine E1_setitemV rfl ?_
  ((with_reducible refine' EV_bin ?_); ((with_reducible refine' EV_idxV ?q2651 ?_); (case q2651 => intro _ _ _; rfl); (((with_reducible refine' EV_loc ?q2643 ?q2645 ?q2646 ?q2644 ?_); (case q2643 => assumption); (case q2645 => rfl); (case q2646 => rfl); (case q2644 => decide))); (((with_reducible refine' EV_intN ?q2647 ?_); (case q2647 => first | exact Int.cast_ofNat_Int.symm | rfl))); (refine' ⟨_, _, _, _, rfl, rfl, ?q2650, ?q2648, ?q2649, ?q2652, ?_⟩); (case q2650 => assumption); (case q2648 => decide); (case q2649 => decide); (case q2652 => rfl)); ((with_reducible refine' EV_intN ?q2653 ?_); (case q2653 => first | exact Int.cast_ofNat_Int.symm | rfl)); (with_reducible refine' BIN_addN ?_); ((with_reducible refine' EV_loc ?q2654 ?q2656 ?q2657 ?q2655 ?_); (case q2654 => assumption); (case q2656 => rfl); (case q2657 => rfl); (case q2655 => decide)); ((with_reducible refine' EV_intN ?q2658 ?_); (case q2658 => first | exact Int.cast_ofNat_Int.symm | rfl)))
  refine ⟨_, _, _, rfl, rfl, ht, by decide, by simp only [List.length_cons, List.length_nil]; decide, by decide, ?_⟩
  intro H1 hH1 hH1'
  have hl1 : H1 l = some (nats L) := (hH1' l htl).trans hl
  have ht1 : H1 t = some (.vals [.int ((i + 1 : Nat) : Int), .ref l]) := hH1
  (((with_reducible refine' Cont_norm ?q2659 ?_); (case q2659 => ((dsimp only [frameOf, List.set_cons_zero, List.set_cons_succ]); (try exact rfl)))); (with_reducible refine' EX_seq ?_); (with_reducible refine' E1_if ?_); ((with_reducible refine' TS_cmp ?q2660 ?_); (case q2660 => rfl)); ((with_reducible refine' EV_idxV ?q2669 ?_); (case q2669 => intro _ _ _; rfl); (((with_reducible refine' EV_loc ?q2661 ?q2663 ?q2664 ?q2662 ?_); (case q2661 => assumption); (case q2663 => rfl); (case q2664 => rfl); (case q2662 => decide))); (((with_reducible refine' EV_intN ?q2665 ?_); (case q2665 => first | exact Int.cast_ofNat_Int.symm | rfl))); (refine' ⟨_, _, _, _, rfl, rfl, ?q2668, ?q2666, ?q2667, ?q2670, ?_⟩); (case q2668 => assumption); (case q2666 => decide); (case q2667 => decide); (case q2670 => rfl)); ((with_reducible refine' EV_lenN ?q2672 ?q2671 ?q2675 ?q2674 ?q2673 ?_); (case q2672 => assumption); (case q2671 => assumption); (case q2675 => rfl); (case q2674 => rfl); (case q2673 => rfl)); ((with_reducible refine' EV_idxV ?q2684 ?_); (case q2684 => intro _ _ _; rfl); (((with_reducible refine' EV_loc ?q2676 ?q2678 ?q2679 ?q2677 ?_); (case q2676 => assumption); (case q2678 => rfl); (case q2679 => rfl); (case q2677 => decide))); (((with_reducible refine' EV_intN ?q2680 ?_); (case q2680 => first | exact Int.cast_ofNat_Int.symm | rfl))); (refine' ⟨_, _, _, _, rfl, rfl, ?q2683, ?q2681, ?q2682, ?q2685, ?_⟩); (case q2683 => assumption); (case q2681 => decide); (case q2682 => decide); (case q2685 => rfl)))
  (((refine' ⟨_, _, rfl, ?q2686, ?q2687, ?_⟩); (case q2686 => assumption); (case q2687 => ((lia)))))
  ((with_reducible refine' CMP_le ?_))
  ((((with_reducible refine' And.intro (fun hc => ?_) (fun hc => ?_)) <;> (simp only [decide_eq_true_eq, decide_eq_false_iff_not, Bool.not_eq_true', Bool.not_eq_false', Bool.not_true, Bool.not_false, reduceCtorEq] at hc)) <;> (revert hc; intro _)))
  · rename_i h
    ((with_reducible refine' EX_seq ?_); (with_reducible refine' E1_return ?_); (with_reducible refine' EV_bin ?_); ((with_reducible refine' EV_idxN ?q2688 ?_); (case q2688 => intro _ _ _; rfl)); ((with_reducible refine' EV_idxV ?q2697 ?_); (case q2697 => intro _ _ _; rfl); (((with_reducible refine' EV_loc ?q2689 ?q2691 ?q2692 ?q2690 ?_); (case q2689 => assumption); (case q2691 => rfl); (case q2692 => rfl); (case q2690 => decide))); (((with_reducible refine' EV_intN ?q2693 ?_); (case q2693 => first | exact Int.cast_ofNat_Int.symm | rfl))); (refine' ⟨_, _, _, _, rfl, rfl, ?q2696, ?q2694, ?q2695, ?q2698, ?_⟩); (case q2696 => assumption); (case q2694 => decide); (case q2695 => decide); (case q2698 => rfl)); (with_reducible refine' EV_bin ?_); ((with_reducible refine' EV_idxV ?q2707 ?_); (case q2707 => intro _ _ _; rfl); (((with_reducible refine' EV_loc ?q2699 ?q2701 ?q2702 ?q2700 ?_); (case q2699 => assumption); (case q2701 => rfl); (case q2702 => rfl); (case q2700 => decide))); (((with_reducible refine' EV_intN ?q2703 ?_); (case q2703 => first | exact Int.cast_ofNat_Int.symm | rfl))); (refine' ⟨_, _, _, _, rfl, rfl, ?q2706, ?q2704, ?q2705, ?q2708, ?_⟩); (case q2706 => assumption); (case q2704 => decide); (case q2705 => decide); (case q2708 => rfl)); ((with_reducible refine' EV_intN ?q2709 ?_); (case q2709 => first | exact Int.cast_ofNat_Int.symm | rfl)); ((with_reducible refine' BIN_subN ?q2710 ?_); (case q2710 => ((lia)))))
    (((refine' ⟨_, _, _, _, rfl, rfl, ?q2713, ?q2711, ?q2712, ?q2714, ?_⟩); (case q2713 => first | rfl | exact nat_sub1 (by first | assumption | lia)); (case q2711 => assumption); (case q2712 => ((lia))); (case q2714 => ((lia)))))
    (((with_reducible refine' EV_loc ?q2715 ?q2717 ?q2718 ?q2716 ?_); (case q2715 => assumption); (case q2717 => rfl); (case q2718 => rfl); (case q2716 => decide)); ((with_reducible refine' BIN_modN ?q2719 ?_); (case q2719 => ((lia)))); (with_reducible refine' Cont_ret ?_); (with_reducible refine' Cont_ret ?_); ((with_reducible refine' RetQ_ret ?_); try dsimp only))
    exact k _ H1 (Nat.mod_lt _ hm) ht1 hl1
  · rename_i h
    ((with_reducible refine' EX_nil ?_); ((with_reducible refine' Cont_norm ?q2720 ?_); (case q2720 => ((dsimp only [frameOf, List.set_cons_zero, List.set_cons_succ]); (try exact rfl)))); (with_reducible refine' EX_seq ?_); (with_reducible refine' E1_return ?_); (with_reducible refine' EV_bin ?_); (with_reducible refine' EV_bin ?_); (with_reducible refine' EV_bin ?_); (with_reducible refine' EV_bin ?_); ((with_reducible refine' EV_intN ?q2721 ?_); (case q2721 => first | exact Int.cast_ofNat_Int.symm | rfl)); ((with_reducible refine' EV_idxV ?q2730 ?_); (case q2730 => intro _ _ _; rfl); (((with_reducible refine' EV_loc ?q2722 ?q2724 ?q2725 ?q2723 ?_); (case q2722 => assumption); (case q2724 => rfl); (case q2725 => rfl); (case q2723 => decide))); (((with_reducible refine' EV_intN ?q2726 ?_); (case q2726 => first | exact Int.cast_ofNat_Int.symm | rfl))); (refine' ⟨_, _, _, _, rfl, rfl, ?q2729, ?q2727, ?q2728, ?q2731, ?_⟩); (case q2729 => assumption); (case q2727 => decide); (case q2728 => decide); (case q2731 => rfl)); ((with_reducible refine' BIN_mulN ?q2732 ?_); (case q2732 => (((simp; done))))); (with_reducible refine' EV_bin ?_); ((with_reducible refine' EV_idxV ?q2741 ?_); (case q2741 => intro _ _ _; rfl); (((with_reducible refine' EV_loc ?q2733 ?q2735 ?q2736 ?q2734 ?_); (case q2733 => assumption); (case q2735 => rfl); (case q2736 => rfl); (case q2734 => decide))); (((with_reducible refine' EV_intN ?q2737 ?_); (case q2737 => first | exact Int.cast_ofNat_Int.symm | rfl))); (refine' ⟨_, _, _, _, rfl, rfl, ?q2740, ?q2738, ?q2739, ?q2742, ?_⟩); (case q2740 => assumption); (case q2738 => decide); (case q2739 => decide); (case q2742 => rfl)); ((with_reducible refine' EV_intN ?q2743 ?_); (case q2743 => first | exact Int.cast_ofNat_Int.symm | rfl)); ((with_reducible refine' BIN_divN ?q2744 ?q2745 ?_); (case q2744 => ((lia))); (case q2745 => (((decide))))); (with_reducible refine' BIN_addN ?_); ((with_reducible refine' EV_intN ?q2746 ?_); (case q2746 => first | exact Int.cast_ofNat_Int.symm | rfl)); (with_reducible refine' BIN_addN ?_); ((with_reducible refine' EV_loc ?q2747 ?q2749 ?q2750 ?q2748 ?_); (case q2747 => assumption); (case q2749 => rfl); (case q2750 => rfl); (case q2748 => decide)); ((with_reducible refine' BIN_modN ?q2751 ?_); (case q2751 => ((lia)))); (with_reducible refine' Cont_ret ?_); ((with_reducible refine' RetQ_ret ?_); try dsimp only))
    exact k _ H1 (Nat.mod_lt _ hm) ht1 hl1

inductive LimInv (l : Addr) (N w : Nat) (H0 : AH) (n : Nat) (σ₁ : AS) : Prop
  | intro (F : List Nat) (H' : AH) (f1 : F ++ dg (2 ^ w) n = dg (2 ^ w) N) (f2 : Ext H0 H') (f3 : H' l = some (nats F)) (f4 : σ₁ = { m := [some (.int (n : Int)), some (.int (w : Int)), some (.ref l)], H := H' })
theorem law_limbs_ok (G : FS W) (C : COk W c) (Rm : Room c 1) {N w : Nat} {Q : AV → AS → Prop} (hw : 1 ≤ w) (hw2 : w ≤ 12) (hz : (dg (2 ^ w) N).length ≤ 1000)
    (k : ∀ l H', Ext σ.H H' → σ.H l = none → H' l = some (nats (dg (2 ^ w) N)) → Q (.ref l) { σ with H := H' }) : CALL W c (.ref (G.f 26)) [.int (N : Int), .int (w : Int)] σ Q := by
  have hf' : IsFn W.K _ (G.f 26) _ _ _ := G.h26
  have B := G.B
  have hB := pw2 hw
  have hB2 := pw12 hw2
  refine CALL_fn (xs := [Str.ofString "number", Str.ofString "w"]) C Rm hf' ?_ rfl (by decide) rfl rfl rfl rfl rfl (by decide) ?_
  · ((exact rfl))
  clear hf'
  intro r C' R'
  ((with_reducible refine' EX_seq ?_); ((with_reducible refine' E1_assign ?q2752 ?q2753 ?q2754 ?_); (case q2752 => assumption); (case q2753 => rfl); (case q2754 => rfl)); (with_reducible refine' EV_nilN ?_))
  intro l H1 he1 hn1 hl1
  have he1 : Ext σ.H H1 := he1
  have hn1 : σ.H l = none := hn1
  (((with_reducible refine' Cont_norm ?q2755 ?_); (case q2755 => ((dsimp only [frameOf, List.set_cons_zero, List.set_cons_succ]); (try exact rfl)))); (with_reducible refine' EX_seq ?_))
  refine E1_wh (LimInv l N w σ.H) N ⟨[], H1, rfl, he1, hl1, rfl⟩ ?_
  rintro n _ ⟨F, H', hF, hE, hl', rfl⟩
  (((with_reducible refine' TS_cmp ?q2756 ?_); (case q2756 => rfl)); ((with_reducible refine' EV_loc ?q2757 ?q2759 ?q2760 ?q2758 ?_); (case q2757 => assumption); (case q2759 => rfl); (case q2760 => rfl); (case q2758 => decide)); ((with_reducible refine' EV_intN ?q2761 ?_); (case q2761 => first | exact Int.cast_ofNat_Int.symm | rfl)); (with_reducible refine' CMP_gt ?_))
  ((((with_reducible refine' And.intro (fun hc => ?_) (fun hc => ?_)) <;> (simp only [decide_eq_true_eq, decide_eq_false_iff_not, Bool.not_eq_true', Bool.not_eq_false', Bool.not_true, Bool.not_false, reduceCtorEq] at hc)) <;> (revert hc; intro _)))
  · rename_i hc
    have hn : 0 < n := by lia
    have hlen : F.length ≤ 1000 := by
      rw [← hF, List.length_append] at hz; lia
    ((with_reducible refine' EX_seq ?_); ((with_reducible refine' E1_expr ?q2762 ?q2763 ?_); (case q2762 => rfl); (case q2763 => rfl)); ((with_reducible refine' EV_appendN ?q2765 ?q2764 ?_); (case q2765 => rfl); (case q2764 => rfl)); ((with_reducible refine' EV_loc ?q2766 ?q2768 ?q2769 ?q2767 ?_); (case q2766 => assumption); (case q2768 => rfl); (case q2769 => rfl); (case q2767 => decide)))
    (((refine' ⟨_, _, rfl, ?q2770, ?_⟩); (case q2770 => assumption)))
    ((with_reducible refine' EV_bin ?_); ((with_reducible refine' EV_loc ?q2771 ?q2773 ?q2774 ?q2772 ?_); (case q2771 => assumption); (case q2773 => rfl); (case q2774 => rfl); (case q2772 => decide)); (with_reducible refine' EV_bin ?_); ((with_reducible refine' EV_intN ?q2775 ?_); (case q2775 => first | exact Int.cast_ofNat_Int.symm | rfl)); ((with_reducible refine' EV_loc ?q2776 ?q2778 ?q2779 ?q2777 ?_); (case q2776 => assumption); (case q2778 => rfl); (case q2779 => rfl); (case q2777 => decide)); ((with_reducible refine' BIN_powN ?q2780 ?_); (case q2780 => ((lia)))); ((with_reducible refine' BIN_modN ?q2781 ?_); (case q2781 => ((lia)))))
    (((refine' ⟨_, _, _, rfl, ?q2783, ?q2782, ?q2784, ?_⟩); (case q2783 => rfl); (case q2782 => assumption); (case q2784 => ((lia)))))
    intro H2 hH2 hH2'
    refine ⟨rfl, ?_⟩
    (((with_reducible refine' Cont_norm ?q2785 ?_); (case q2785 => ((dsimp only [frameOf, List.set_cons_zero, List.set_cons_succ]); (try exact rfl)))); (with_reducible refine' EX_seq ?_); ((with_reducible refine' E1_assign ?q2786 ?q2787 ?q2788 ?_); (case q2786 => assumption); (case q2787 => rfl); (case q2788 => rfl)); (with_reducible refine' EV_bin ?_); ((with_reducible refine' EV_loc ?q2789 ?q2791 ?q2792 ?q2790 ?_); (case q2789 => assumption); (case q2791 => rfl); (case q2792 => rfl); (case q2790 => decide)); (with_reducible refine' EV_bin ?_); ((with_reducible refine' EV_intN ?q2793 ?_); (case q2793 => first | exact Int.cast_ofNat_Int.symm | rfl)); ((with_reducible refine' EV_loc ?q2794 ?q2796 ?q2797 ?q2795 ?_); (case q2794 => assumption); (case q2796 => rfl); (case q2797 => rfl); (case q2795 => decide)); ((with_reducible refine' BIN_powN ?q2798 ?_); (case q2798 => ((lia)))); ((with_reducible refine' BIN_divN ?q2799 ?q2800 ?_); (case q2799 => ((lia))); (case q2800 => ((lia)))); ((with_reducible refine' Cont_norm ?q2801 ?_); (case q2801 => ((dsimp only [frameOf, List.set_cons_zero, List.set_cons_succ]); (try exact rfl)))); (with_reducible refine' EX_nil ?_))
    refine WhQ_next { m := [some (.int ((n / 2 ^ w : Nat) : Int)), some (.int (w : Int)), some (.ref l)], H := H2 } (n / 2 ^ w) ?_ (Nat.div_lt_self hn (by (assumption))) ⟨F ++ [n % 2 ^ w], H2, ?_, hE.step hn1 hH2', hH2, rfl⟩
    · ((refine' ⟨?q2803, ?q2802⟩; (case q2802 => first | exact Ext.refl _ | assumption); (case q2803 => repeat (first | exact MLe.nil _ | refine' MLe.none ?_ | refine' MLe.some' rfl ?_))))
    · rw [← hF, dg_pos hB hn, List.append_assoc]; rfl
  · rename_i hc
    have : n = 0 := by lia
    subst this
    (((with_reducible refine' Cont_norm ?q2804 ?_); (case q2804 => ((dsimp only [frameOf, List.set_cons_zero, List.set_cons_succ]); (try exact rfl)))); (with_reducible refine' EX_seq ?_); (with_reducible refine' E1_return ?_); ((with_reducible refine' EV_loc ?q2805 ?q2807 ?q2808 ?q2806 ?_); (case q2805 => assumption); (case q2807 => rfl); (case q2808 => rfl); (case q2806 => decide)); (with_reducible refine' Cont_ret ?_); ((with_reducible refine' RetQ_ret ?_); try dsimp only))
    refine k l H' hE hn1 ?_
    rw [hl', ← hF, dg_zero hB, List.append_nil]

inductive RowInv (l : Addr) (a b : Nat) (H0 : AH) (j : Nat) (σ₁ : AS) : Prop
  | intro (H' : AH) (x y : Option AV) (f1 : (∀ i, i < j → 0 < (eu a b i).2)) (f2 : Ext H0 H') (f3 : H' l = some (nats (rowL a b j))) (f4 : σ₁ = { m := [some (.int (a : Int)), some (.int (b : Int)), some (.ref l), x, y], H := H' })
theorem law_row_ok (G : FS W) (C : COk W c) (Rm : Room c 1) {a b : Nat} {Q : AV → AS → Prop} (hab : b ≤ a) (ha : a < 2 ^ 24)
    (k : ∀ l H' K, K < 60 → Ext σ.H H' → H' l = some (nats (rowL a b K)) → (∀ j, j < K → 0 < (eu a b j).2) → (eu a b K).2 = 0 → Q (.ref l) { σ with H := H' }) : CALL W c (.ref (G.f 27)) [.int (a : Int), .int (b : Int)] σ Q := by
  have hf' : IsFn W.K _ (G.f 27) _ _ _ := G.h27
  have B := G.B
  refine CALL_fn (xs := [Str.ofString "one", Str.ofString "other"]) C Rm hf' ?_ rfl (by decide) rfl rfl rfl rfl rfl (by decide) ?_
  · ((exact rfl))
  clear hf'
  intro r C' R'
  ((with_reducible refine' EX_seq ?_); ((with_reducible refine' E1_assign ?q2809 ?q2810 ?q2811 ?_); (case q2809 => assumption); (case q2810 => rfl); (case q2811 => rfl)); ((with_reducible refine' EV_twoN ?q2812 ?q2813 ?_); (case q2812 => rfl); (case q2813 => rfl)); ((with_reducible refine' EV_loc ?q2814 ?q2816 ?q2817 ?q2815 ?_); (case q2814 => assumption); (case q2816 => rfl); (case q2817 => rfl); (case q2815 => decide)); ((with_reducible refine' EV_loc ?q2818 ?q2820 ?q2821 ?q2819 ?_); (case q2818 => assumption); (case q2820 => rfl); (case q2821 => rfl); (case q2819 => decide)))
  refine ⟨_, _, rfl, rfl, ?_⟩
  intro l H1 he1 hn1 hl1
  have he1 : Ext σ.H H1 := he1
  have hn1 : σ.H l = none := hn1
  (((with_reducible refine' Cont_norm ?q2822 ?_); (case q2822 => ((dsimp only [frameOf, List.set_cons_zero, List.set_cons_succ]); (try exact rfl)))); (with_reducible refine' EX_seq ?_))
  refine E1_range1 (by assumption) ⟨rfl, B.range, by decide, by decide⟩ bb_range rfl rfl rfl (fun _ => rfl) (RowInv l a b σ.H) ?_
  (((with_reducible refine' EV_intN ?q2823 ?_); (case q2823 => first | exact Int.cast_ofNat_Int.symm | rfl)); (with_reducible refine' AtN.intro _ ?_))
  refine ⟨by (decide), ⟨H1, none, none, by (simp; done), he1, by rw [hl1, rowL_zero], rfl⟩, ?_, ?_⟩
  · rintro j _ hj ⟨H', x, y, hp, hE, hl, rfl⟩
    have hlen := rowL_len (a := a) (b := b) (K := j)
    have g1 : (rowL a b j).getD ((rowL a b j).length - 1) 0 = (eu a b j).2 := by rw [hlen, rowL_get (by (exact Nat.le_refl _)), show j + 2 - 1 = j + 1 by (simp; done)]; rfl
    have g2 : (rowL a b j).getD ((rowL a b j).length - 2) 0 = (eu a b j).1 := by rw [hlen, rowL_get (by (simp; done)), show j + 2 - 2 = j by lia]
    (((refine' EX_norm ?q2824 ?_); (case q2824 => ((dsimp only [frameOf, List.set_cons_zero, List.set_cons_succ]); (try exact rfl)))))
    ((with_reducible refine' EX_seq ?_); (with_reducible refine' E1_if ?_); ((with_reducible refine' TS_cmp ?q2825 ?_); (case q2825 => rfl)); ((with_reducible show EV _ _ (Expr.Subscript _ (Expr.UnaryOp _ _ _) _) _ _); (with_reducible refine' EV_idxB ?q2826 ?_); (case q2826 => intro _ _ _; rfl)); ((with_reducible refine' EV_loc ?q2827 ?q2829 ?q2830 ?q2828 ?_); (case q2827 => assumption); (case q2829 => rfl); (case q2830 => rfl); (case q2828 => decide)); (with_reducible refine' EV_neg ?_); ((with_reducible refine' EV_intN ?q2831 ?_); (case q2831 => first | exact Int.cast_ofNat_Int.symm | rfl)); (with_reducible refine' AtI.intro _ ?_))
    (((refine' ⟨_, _, _, _, rfl, rfl, ?q2835, ?q2832, ?q2833, ?q2834, ?q2836, ?_⟩); (case q2835 => rfl); (case q2832 => decide); (case q2833 => assumption); (case q2834 => ((lia))); (case q2836 => decide)))
    rw [g1]
    (((with_reducible refine' EV_intN ?q2837 ?_); (case q2837 => first | exact Int.cast_ofNat_Int.symm | rfl)); (with_reducible refine' CMP_eq ?_))
    ((((with_reducible refine' And.intro (fun hc => ?_) (fun hc => ?_)) <;> (simp only [decide_eq_true_eq, decide_eq_false_iff_not, Bool.not_eq_true', Bool.not_eq_false', Bool.not_true, Bool.not_false, reduceCtorEq] at hc)) <;> (revert hc; intro _)))
    · rename_i h
      ((with_reducible refine' EX_seq ?_); (with_reducible refine' E1_break ?_); (with_reducible refine' Cont_brk ?_); (with_reducible refine' Cont_brk ?_); (with_reducible refine' LoopQ_brk ?_); ((with_reducible refine' Cont_norm ?q2838 ?_); (case q2838 => ((dsimp only [frameOf, List.set_cons_zero, List.set_cons_succ]); (try exact rfl)))); (with_reducible refine' EX_seq ?_); (with_reducible refine' E1_return ?_); ((with_reducible refine' EV_loc ?q2839 ?q2841 ?q2842 ?q2840 ?_); (case q2839 => assumption); (case q2841 => rfl); (case q2842 => rfl); (case q2840 => decide)); (with_reducible refine' Cont_ret ?_); ((with_reducible refine' RetQ_ret ?_); try dsimp only))
      exact k l H' j hj hE hl hp (by lia)
    · rename_i h
      (((refine' EX_norm ?q2843 ?_); (case q2843 => ((dsimp only [frameOf, List.set_cons_zero, List.set_cons_succ]); (try exact rfl)))))
      ((with_reducible refine' EX_nil ?_); ((with_reducible refine' Cont_norm ?q2844 ?_); (case q2844 => ((dsimp only [frameOf, List.set_cons_zero, List.set_cons_succ]); (try exact rfl)))); (with_reducible refine' EX_seq ?_); ((with_reducible refine' E1_expr ?q2845 ?q2846 ?_); (case q2845 => rfl); (case q2846 => rfl)); ((with_reducible refine' EV_appendN ?q2848 ?q2847 ?_); (case q2848 => rfl); (case q2847 => rfl)); ((with_reducible refine' EV_loc ?q2849 ?q2851 ?q2852 ?q2850 ?_); (case q2849 => assumption); (case q2851 => rfl); (case q2852 => rfl); (case q2850 => decide)))
      (((refine' ⟨_, _, rfl, ?q2853, ?_⟩); (case q2853 => assumption)))
      ((with_reducible refine' EV_bin ?_); ((with_reducible show EV _ _ (Expr.Subscript _ (Expr.UnaryOp _ _ _) _) _ _); (with_reducible refine' EV_idxB ?q2854 ?_); (case q2854 => intro _ _ _; rfl)); ((with_reducible refine' EV_loc ?q2855 ?q2857 ?q2858 ?q2856 ?_); (case q2855 => assumption); (case q2857 => rfl); (case q2858 => rfl); (case q2856 => decide)); (with_reducible refine' EV_neg ?_); ((with_reducible refine' EV_intN ?q2859 ?_); (case q2859 => first | exact Int.cast_ofNat_Int.symm | rfl)); (with_reducible refine' AtI.intro _ ?_))
      (((refine' ⟨_, _, _, _, rfl, rfl, ?q2863, ?q2860, ?q2861, ?q2862, ?q2864, ?_⟩); (case q2863 => rfl); (case q2860 => decide); (case q2861 => assumption); (case q2862 => ((lia))); (case q2864 => decide)))
      rw [g2]
      (((with_reducible show EV _ _ (Expr.Subscript _ (Expr.UnaryOp _ _ _) _) _ _); (with_reducible refine' EV_idxB ?q2865 ?_); (case q2865 => intro _ _ _; rfl)); ((with_reducible refine' EV_loc ?q2866 ?q2868 ?q2869 ?q2867 ?_); (case q2866 => assumption); (case q2868 => rfl); (case q2869 => rfl); (case q2867 => decide)); (with_reducible refine' EV_neg ?_); ((with_reducible refine' EV_intN ?q2870 ?_); (case q2870 => first | exact Int.cast_ofNat_Int.symm | rfl)); (with_reducible refine' AtI.intro _ ?_))
      (((refine' ⟨_, _, _, _, rfl, rfl, ?q2874, ?q2871, ?q2872, ?q2873, ?q2875, ?_⟩); (case q2874 => rfl); (case q2871 => decide); (case q2872 => assumption); (case q2873 => ((lia))); (case q2875 => decide)))
      rw [g1]
      (((with_reducible refine' BIN_modN ?q2876 ?_); (case q2876 => ((lia)))))
      (((refine' ⟨_, _, _, rfl, ?q2878, ?q2877, ?q2879, ?_⟩); (case q2878 => rfl); (case q2877 => assumption); (case q2879 => ((lia)))))
      intro H2 hH2 hH2'
      refine ⟨rfl, ?_⟩
      (((with_reducible refine' Cont_norm ?q2880 ?_); (case q2880 => ((dsimp only [frameOf, List.set_cons_zero, List.set_cons_succ]); (try exact rfl)))); (with_reducible refine' EX_nil ?_))
      refine LoopQ_next { m := [some (.int (a : Int)), some (.int (b : Int)), some (.ref l), some (.int (j : Nat)), none], H := H2 } ?_ ⟨H2, _, _, fun i hi => ?_, hE.step hn1 hH2', by rw [hH2, rowL_succ]; rfl, rfl⟩
      · ((refine' ⟨?q2882, ?q2881⟩; (case q2881 => first | exact Ext.refl _ | assumption); (case q2882 => repeat (first | exact MLe.nil _ | refine' MLe.none ?_ | refine' MLe.some' rfl ?_))))
      · by_cases e : i = j
        · subst e; lia
        · exact hp i (by lia)
  · rintro _ ⟨H', x, y, hp, hE, hl, rfl⟩
    exact absurd (eu_short hab ha hp) id

inductive SpotInv (ro a b : Addr) (least m w : Nat) (H0 : AH) (j : Nat) (σ₁ : AS) : Prop
  | intro (H' : AH) (x : Option AV) (f1 : least + j ≤ m) (f2 : Ext H0 H') (f3 : σ₁ = { m := [some (.ref ro), some (.int (w : Int)), some (.ref a), some (.ref b), some (.int (least : Int)), x, none, none, none], H := H' })
theorem law_spot_ok (G : FS W) (C : COk W c) (Rm : Room c 2) {ro a b : Addr} {A Bn K m w least : Nat} {Q : AV → AS → Prop} (hw : 1 ≤ w) (hw2 : w ≤ 12) (hr : σ.H ro = some (nats (rowL A Bn K))) (ha : σ.H a = some (nats (dg (2 ^ w) (eu A Bn m).1))) (hb : σ.H b = some (nats (dg (2 ^ w) (eu A Bn m).2)))
    (hAB : Bn ≤ A) (hp : ∀ j, j < K → 0 < (eu A Bn j).2) (hm : m ≤ K) (hlm : least ≤ m) (hK : K ≤ 60) (hz : (dg (2 ^ w) A).length ≤ 70)
    (k : ∀ (at_ : Nat) H', least ≤ at_ → at_ ≤ K → eu A Bn at_ = eu A Bn m → Ext σ.H H' → Q (.int (at_ : Int)) { σ with H := H' }) : CALL W c (.ref (G.f 28)) [.ref ro, .int (w : Int), .ref a, .ref b, .int (least : Int)] σ Q := by
  have hf' : IsFn W.K _ (G.f 28) _ _ _ := G.h28
  have B := G.B
  have hn26 := G.n26
  have hB := pw2 hw
  have hB2 := pw12 hw2
  refine CALL_fn (xs := [Str.ofString "row", Str.ofString "w", Str.ofString "a", Str.ofString "b", Str.ofString "least"]) C Rm hf' ?_ rfl (by decide) rfl rfl rfl rfl rfl (by decide) ?_
  · ((exact rfl))
  clear hf'
  intro r C' R'
  have hun := R'.u
  have hrl := rowL_len (a := A) (b := Bn) (K := K)
  ((with_reducible refine' EX_seq ?_))
  refine E1_range2 (by assumption) ⟨rfl, B.range, by decide, by decide⟩ bb_range rfl rfl rfl rfl (fun _ => rfl) (SpotInv ro a b least m w σ.H) ?_
  (((with_reducible refine' EV_loc ?q2883 ?q2885 ?q2886 ?q2884 ?_); (case q2883 => assumption); (case q2885 => rfl); (case q2886 => rfl); (case q2884 => decide)); (with_reducible refine' EV_bin ?_); ((with_reducible refine' EV_lenN ?q2888 ?q2887 ?q2891 ?q2890 ?q2889 ?_); (case q2888 => assumption); (case q2887 => assumption); (case q2891 => rfl); (case q2890 => rfl); (case q2889 => rfl)); ((with_reducible refine' EV_loc ?q2892 ?q2894 ?q2895 ?q2893 ?_); (case q2892 => assumption); (case q2894 => rfl); (case q2895 => rfl); (case q2893 => decide)))
  (((refine' ⟨_, _, rfl, ?q2896, ?q2897, ?_⟩); (case q2896 => assumption); (case q2897 => ((lia)))))
  (((with_reducible refine' EV_intN ?q2898 ?_); (case q2898 => first | exact Int.cast_ofNat_Int.symm | rfl)); ((with_reducible refine' BIN_subN ?q2899 ?_); (case q2899 => ((lia)))))
  refine ⟨least, (rowL A Bn K).length - 1, rfl, rfl, by lia, by lia, ⟨_, none, by (omega), Ext.refl _, rfl⟩, ?_, ?_⟩
  · rintro j _ hj ⟨H', x, hlj, hE, rfl⟩
    have hr1 := hE _ _ hr
    have ha1 := hE _ _ ha
    have hb1 := hE _ _ hb
    have hq1 : ∀ i, i ≤ K → (eu A Bn i).1 ≤ A := fun i hi => eu_mono1 hAB i fun j hj => hp j (by (exact Nat.lt_of_lt_of_le (by assumption) (by assumption)))
    have hq2 : ∀ i, i ≤ K → (eu A Bn i).2 ≤ A := fun i hi => Nat.le_trans (eu_le hAB i fun j hj => hp j (by lia)) (hq1 i hi)
    have d1 := dg_len_mono hB (hq1 (least + j) (by (exact Nat.le_trans (by assumption) (by assumption))))
    have d2 := dg_len_mono hB (hq2 (least + j) (by lia))
    have g1 : (rowL A Bn K).getD (least + j) 0 = (eu A Bn (least + j)).1 := rowL_get (by lia)
    have g2 : (rowL A Bn K).getD (least + j + 1) 0 = (eu A Bn (least + j)).2 := rowL_get (by lia)
    (((refine' EX_norm ?q2900 ?_); (case q2900 => ((dsimp only [frameOf, List.set_cons_zero, List.set_cons_succ]); (try exact rfl)))))
    ((with_reducible refine' EX_seq ?_); (with_reducible refine' E1_if ?_); (with_reducible refine' TS_and2 ?_); ((with_reducible refine' TS_cmp ?q2901 ?_); (case q2901 => rfl)); ((with_reducible refine' EV_fnN ?q2902 ?q2907 ?q2908 ?q2906 ?q2905 ?q2903 ?q2904 ?_); (case q2902 => assumption); (case q2907 => with_reducible assumption); (case q2908 => rfl); (case q2906 => decide); (case q2905 => rfl); (case q2903 => rfl); (case q2904 => rfl)); ((with_reducible refine' SP_cons ?q2909 ?_); (case q2909 => rfl)); ((with_reducible refine' EV_idxN ?q2910 ?_); (case q2910 => intro _ _ _; rfl)); ((with_reducible refine' EV_loc ?q2911 ?q2913 ?q2914 ?q2912 ?_); (case q2911 => assumption); (case q2913 => rfl); (case q2914 => rfl); (case q2912 => decide)); ((with_reducible refine' EV_loc ?q2915 ?q2917 ?q2918 ?q2916 ?_); (case q2915 => assumption); (case q2917 => rfl); (case q2918 => rfl); (case q2916 => decide)))
    (((refine' ⟨_, _, _, _, rfl, rfl, ?q2921, ?q2919, ?q2920, ?q2922, ?_⟩); (case q2921 => first | rfl | exact nat_sub1 (by first | assumption | lia)); (case q2919 => assumption); (case q2920 => ((lia))); (case q2922 => ((lia)))))
    rw [g1]
    (((with_reducible refine' SP_cons ?q2923 ?_); (case q2923 => rfl)); ((with_reducible refine' EV_loc ?q2924 ?q2926 ?q2927 ?q2925 ?_); (case q2924 => assumption); (case q2926 => rfl); (case q2927 => rfl); (case q2925 => decide)); (with_reducible refine' SP_nil ?_))
    refine law_limbs_ok G (by assumption) (R'.mono (by lia)) hw hw2 (by lia) fun l1 H1 he1 hn1 hl1 => ?_
    have he1 : Ext H' H1 := he1
    have ha2 := he1 _ _ ha1
    have hr2 := he1 _ _ hr1
    have hb2 := he1 _ _ hb1
    (((with_reducible refine' EV_loc ?q2928 ?q2930 ?q2931 ?q2929 ?_); (case q2928 => assumption); (case q2930 => rfl); (case q2931 => rfl); (case q2929 => decide)))
    refine CMP_eqLN (by lia) hl1 ha2 ?_
    ((((with_reducible refine' And.intro (fun hc => ?_) (fun hc => ?_)) <;> (simp only [decide_eq_true_eq, decide_eq_false_iff_not, Bool.not_eq_true', Bool.not_eq_false', Bool.not_true, Bool.not_false, reduceCtorEq] at hc)) <;> (revert hc; intro _)))
    · rename_i h1
      have h1 := dg_inj hB h1
      (((with_reducible refine' TS_cmp ?q2932 ?_); (case q2932 => rfl)); ((with_reducible refine' EV_fnN ?q2933 ?q2938 ?q2939 ?q2937 ?q2936 ?q2934 ?q2935 ?_); (case q2933 => assumption); (case q2938 => with_reducible assumption); (case q2939 => rfl); (case q2937 => decide); (case q2936 => rfl); (case q2934 => rfl); (case q2935 => rfl)); ((with_reducible refine' SP_cons ?q2940 ?_); (case q2940 => rfl)); ((with_reducible refine' EV_idxN ?q2941 ?_); (case q2941 => intro _ _ _; rfl)); ((with_reducible refine' EV_loc ?q2942 ?q2944 ?q2945 ?q2943 ?_); (case q2942 => assumption); (case q2944 => rfl); (case q2945 => rfl); (case q2943 => decide)); (with_reducible refine' EV_bin ?_); ((with_reducible refine' EV_loc ?q2946 ?q2948 ?q2949 ?q2947 ?_); (case q2946 => assumption); (case q2948 => rfl); (case q2949 => rfl); (case q2947 => decide)); ((with_reducible refine' EV_intN ?q2950 ?_); (case q2950 => first | exact Int.cast_ofNat_Int.symm | rfl)); (with_reducible refine' BIN_addN ?_))
      (((refine' ⟨_, _, _, _, rfl, rfl, ?q2953, ?q2951, ?q2952, ?q2954, ?_⟩); (case q2953 => first | rfl | exact nat_sub1 (by first | assumption | lia)); (case q2951 => assumption); (case q2952 => ((lia))); (case q2954 => ((lia)))))
      rw [g2]
      (((with_reducible refine' SP_cons ?q2955 ?_); (case q2955 => rfl)); ((with_reducible refine' EV_loc ?q2956 ?q2958 ?q2959 ?q2957 ?_); (case q2956 => assumption); (case q2958 => rfl); (case q2959 => rfl); (case q2957 => decide)); (with_reducible refine' SP_nil ?_))
      refine law_limbs_ok G (by assumption) (R'.mono (by lia)) hw hw2 (by lia) fun l2 H2 he2 hn2 hl2 => ?_
      have he2 : Ext H1 H2 := he2
      have hb3 := he2 _ _ hb2
      (((with_reducible refine' EV_loc ?q2960 ?q2962 ?q2963 ?q2961 ?_); (case q2960 => assumption); (case q2962 => rfl); (case q2963 => rfl); (case q2961 => decide)))
      refine CMP_eqLN (by lia) hl2 hb3 ?_
      ((((with_reducible refine' And.intro (fun hc => ?_) (fun hc => ?_)) <;> (simp only [decide_eq_true_eq, decide_eq_false_iff_not, Bool.not_eq_true', Bool.not_eq_false', Bool.not_true, Bool.not_false, reduceCtorEq] at hc)) <;> (revert hc; intro _)))
      · rename_i h2
        have h2 := dg_inj hB h2
        ((with_reducible refine' EX_seq ?_); (with_reducible refine' E1_return ?_); ((with_reducible refine' EV_loc ?q2964 ?q2966 ?q2967 ?q2965 ?_); (case q2964 => assumption); (case q2966 => rfl); (case q2967 => rfl); (case q2965 => decide)); (with_reducible refine' Cont_ret ?_); (with_reducible refine' Cont_ret ?_); (with_reducible refine' LoopQ_ret ?_); (with_reducible refine' Cont_ret ?_); ((with_reducible refine' RetQ_ret ?_); try dsimp only))
        exact k (least + j) H2 (by (exact Nat.le_add_right _ _)) (by lia) (Prod.ext h1 h2) ((hE.trans he1).trans he2)
      · rename_i h2
        have : least + j ≠ m := by rintro e; exact h2 (by rw [e])
        ((with_reducible refine' EX_nil ?_); ((with_reducible refine' Cont_norm ?q2968 ?_); (case q2968 => ((dsimp only [frameOf, List.set_cons_zero, List.set_cons_succ]); (try exact rfl)))); (with_reducible refine' EX_nil ?_))
        refine LoopQ_next { m := [some (.ref ro), some (.int (w : Int)), some (.ref a), some (.ref b), some (.int (least : Int)), none, none, none, none], H := H2 } ?_ ⟨H2, _, by lia, (hE.trans he1).trans he2, rfl⟩
        ((refine' ⟨?q2970, ?q2969⟩; (case q2969 => first | exact Ext.refl _ | assumption); (case q2970 => repeat (first | exact MLe.nil _ | refine' MLe.none ?_ | refine' MLe.some' rfl ?_))))
    · rename_i h1
      have : least + j ≠ m := by rintro e; exact h1 (by rw [e])
      ((with_reducible refine' And.intro (fun (h : false = true) => nomatch h) (fun (_ : false = false) => ?_)); (with_reducible refine' EX_nil ?_); ((with_reducible refine' Cont_norm ?q2971 ?_); (case q2971 => ((dsimp only [frameOf, List.set_cons_zero, List.set_cons_succ]); (try exact rfl)))); (with_reducible refine' EX_nil ?_))
      refine LoopQ_next { m := [some (.ref ro), some (.int (w : Int)), some (.ref a), some (.ref b), some (.int (least : Int)), none, none, none, none], H := H1 } ?_ ⟨H1, _, by lia, hE.trans he1, rfl⟩
      ((refine' ⟨?q2973, ?q2972⟩; (case q2972 => first | exact Ext.refl _ | assumption); (case q2973 => repeat (first | exact MLe.nil _ | refine' MLe.none ?_ | refine' MLe.some' rfl ?_))))
  · rintro _ ⟨H', x, hlj, hE, rfl⟩
    lia

inductive RoundsInv (ro : Addr) (A Bn K w : Nat) (H0 : AH) (j : Nat) (σ₁ : AS) : Prop
  | intro (a b : Addr) (at_ : Nat) (H' : AH) (x1 x2 x3 x4 : Option AV) (f1 : j ≤ at_) (f2 : at_ ≤ K) (f3 : H' ro = some (nats (rowL A Bn K))) (f4 : H' a = some (nats (dg (2 ^ w) (eu A Bn at_).1))) (f5 : H' b = some (nats (dg (2 ^ w) (eu A Bn at_).2))) (f6 : Ext H0 H') (f7 : σ₁ = { m := [some (.ref ro), some (.int (w : Int)), some (.ref a), some (.ref b), some (.int ((at_ : Nat) : Int)), x1, x2, x3, x4, none, none, none, none, none, none], H := H' })
theorem law_rounds_ok (G : FS W) (C : COk W c) (Rm : Room c 6) {ro : Addr} {A Bn K w : Nat} {Q : AV → AS → Prop} (hw : 1 ≤ w) (hw2 : w ≤ 12) (hr : σ.H ro = some (nats (rowL A Bn K)))
    (hAB : Bn ≤ A) (hp : ∀ j, j < K → 0 < (eu A Bn j).2) (hlast : (eu A Bn K).2 = 0) (hK : K ≤ 60) (hz : (dg (2 ^ w) A).length ≤ 70)
    (k : ∀ H', Ext σ.H H' → Q (.bool true) { σ with H := H' }) : CALL W c (.ref (G.f 29)) [.ref ro, .int (w : Int)] σ Q := by
  have hf' : IsFn W.K _ (G.f 29) _ _ _ := G.h29
  have B := G.B
  have hn26 := G.n26
  have hn16 := G.n16
  have hn23 := G.n23
  have hn28 := G.n28
  have hB := pw2 hw
  have hB2 := pw12 hw2
  refine CALL_fn (xs := [Str.ofString "row", Str.ofString "w"]) C Rm hf' ?_ rfl (by decide) rfl rfl rfl rfl rfl (by decide) ?_
  · ((exact rfl))
  clear hf'
  intro r C' R'
  have hun := R'.u
  have hrl := rowL_len (a := A) (b := Bn) (K := K)
  have hq1 : ∀ i, i ≤ K → (eu A Bn i).1 ≤ A := fun i hi => eu_mono1 hAB i fun j hj => hp j (by lia)
  have hq0 : ∀ i, i ≤ K → (eu A Bn i).2 ≤ (eu A Bn i).1 := fun i hi => eu_le hAB i fun j hj => hp j (by lia)
  have hq2 : ∀ i, i ≤ K → (eu A Bn i).2 ≤ A := fun i hi => Nat.le_trans (hq0 i hi) (hq1 i hi)
  have g1 : (rowL A Bn K).getD 0 0 = A := rowL_get (by (exact Nat.succ_pos _))
  have g2 : (rowL A Bn K).getD 1 0 = Bn := rowL_get (i := 1) (by (simp; done))
  have d0 := dg_len_mono hB hAB
  ((with_reducible refine' EX_seq ?_); ((with_reducible refine' E1_tup3 ?q2974 ?q2978 ?q2979 ?q2975 ?q2976 ?q2977 ?_); (case q2974 => assumption); (case q2978 => rfl); (case q2979 => rfl); (case q2975 => rfl); (case q2976 => rfl); (case q2977 => rfl)); ((with_reducible refine' SP_cons ?q2980 ?_); (case q2980 => rfl)); ((with_reducible refine' EV_fnN ?q2981 ?q2986 ?q2987 ?q2985 ?q2984 ?q2982 ?q2983 ?_); (case q2981 => assumption); (case q2986 => with_reducible assumption); (case q2987 => rfl); (case q2985 => decide); (case q2984 => rfl); (case q2982 => rfl); (case q2983 => rfl)); ((with_reducible refine' SP_cons ?q2988 ?_); (case q2988 => rfl)); ((with_reducible refine' EV_idxN ?q2989 ?_); (case q2989 => intro _ _ _; rfl)); ((with_reducible refine' EV_loc ?q2990 ?q2992 ?q2993 ?q2991 ?_); (case q2990 => assumption); (case q2992 => rfl); (case q2993 => rfl); (case q2991 => decide)); ((with_reducible refine' EV_intN ?q2994 ?_); (case q2994 => first | exact Int.cast_ofNat_Int.symm | rfl)))
  (((refine' ⟨_, _, _, _, rfl, rfl, ?q2997, ?q2995, ?q2996, ?q2998, ?_⟩); (case q2997 => first | rfl | exact nat_sub1 (by first | assumption | lia)); (case q2995 => assumption); (case q2996 => ((lia))); (case q2998 => ((lia)))))
  rw [g1]
  (((with_reducible refine' SP_cons ?q2999 ?_); (case q2999 => rfl)); ((with_reducible refine' EV_loc ?q3000 ?q3002 ?q3003 ?q3001 ?_); (case q3000 => assumption); (case q3002 => rfl); (case q3003 => rfl); (case q3001 => decide)); (with_reducible refine' SP_nil ?_))
  refine law_limbs_ok G (by assumption) (R'.mono (by (exact Nat.succ_pos _))) hw hw2 (by (exact Nat.le_trans (by assumption) (by decide))) fun a0 H1 he1 hn1 hl1 => ?_
  have he1 : Ext σ.H H1 := he1
  have hr1 := he1 _ _ hr
  (((with_reducible refine' SP_cons ?q3004 ?_); (case q3004 => rfl)); ((with_reducible refine' EV_fnN ?q3005 ?q3010 ?q3011 ?q3009 ?q3008 ?q3006 ?q3007 ?_); (case q3005 => assumption); (case q3010 => with_reducible assumption); (case q3011 => rfl); (case q3009 => decide); (case q3008 => rfl); (case q3006 => rfl); (case q3007 => rfl)); ((with_reducible refine' SP_cons ?q3012 ?_); (case q3012 => rfl)); ((with_reducible refine' EV_idxN ?q3013 ?_); (case q3013 => intro _ _ _; rfl)); ((with_reducible refine' EV_loc ?q3014 ?q3016 ?q3017 ?q3015 ?_); (case q3014 => assumption); (case q3016 => rfl); (case q3017 => rfl); (case q3015 => decide)); ((with_reducible refine' EV_intN ?q3018 ?_); (case q3018 => first | exact Int.cast_ofNat_Int.symm | rfl)))
  (((refine' ⟨_, _, _, _, rfl, rfl, ?q3021, ?q3019, ?q3020, ?q3022, ?_⟩); (case q3021 => first | rfl | exact nat_sub1 (by first | assumption | lia)); (case q3019 => assumption); (case q3020 => ((lia))); (case q3022 => ((lia)))))
  rw [g2]
  (((with_reducible refine' SP_cons ?q3023 ?_); (case q3023 => rfl)); ((with_reducible refine' EV_loc ?q3024 ?q3026 ?q3027 ?q3025 ?_); (case q3024 => assumption); (case q3026 => rfl); (case q3027 => rfl); (case q3025 => decide)); (with_reducible refine' SP_nil ?_))
  refine law_limbs_ok G (by assumption) (R'.mono (by lia)) hw hw2 (by lia) fun b0 H2 he2 hn2 hl2 => ?_
  have he2 : Ext H1 H2 := he2
  have hr2 := he2 _ _ hr1
  have hl12 := he2 _ _ hl1
  (((with_reducible refine' SP_cons ?q3028 ?_); (case q3028 => rfl)); ((with_reducible refine' EV_intN ?q3029 ?_); (case q3029 => first | exact Int.cast_ofNat_Int.symm | rfl)); (with_reducible refine' SP_nil ?_); (with_reducible refine' At3.intro _ _ _ ?_); ((with_reducible refine' Cont_norm ?q3030 ?_); (case q3030 => ((dsimp only [frameOf, List.set_cons_zero, List.set_cons_succ]); (try exact rfl)))); (with_reducible refine' EX_seq ?_))
  refine E1_range1 (by assumption) ⟨rfl, B.range, by decide, by decide⟩ bb_range rfl rfl rfl (fun _ => rfl) (RoundsInv ro A Bn K w σ.H) ?_
  (((with_reducible refine' EV_lenN ?q3032 ?q3031 ?q3035 ?q3034 ?q3033 ?_); (case q3032 => assumption); (case q3031 => assumption); (case q3035 => rfl); (case q3034 => rfl); (case q3033 => rfl)); ((with_reducible refine' EV_loc ?q3036 ?q3038 ?q3039 ?q3037 ?_); (case q3036 => assumption); (case q3038 => rfl); (case q3039 => rfl); (case q3037 => decide)))
  (((refine' ⟨_, _, rfl, ?q3040, ?q3041, ?_⟩); (case q3040 => assumption); (case q3041 => ((lia)))))
  ((with_reducible refine' AtN.intro _ ?_))
  refine ⟨by lia, ⟨a0, b0, 0, H2, none, none, none, none, by (exact Nat.le_refl _), by (exact Nat.zero_le _), hr2, hl12, hl2, he1.trans he2, rfl⟩, ?_, ?_⟩
  · rintro j _ hj ⟨a, b, at_, H3, x1, x2, x3, x4, hja, haK, hr3, ha3, hb3, hE, rfl⟩
    have d1 := dg_len_mono hB (hq1 at_ haK)
    have d2 := dg_len_mono hB (hq2 at_ haK)
    (((refine' EX_norm ?q3042 ?_); (case q3042 => ((dsimp only [frameOf, List.set_cons_zero, List.set_cons_succ]); (try exact rfl)))))
    ((with_reducible refine' EX_seq ?_); (with_reducible refine' E1_if ?_); ((with_reducible refine' TS_cmp ?q3043 ?_); (case q3043 => rfl)); ((with_reducible refine' EV_loc ?q3044 ?q3046 ?q3047 ?q3045 ?_); (case q3044 => assumption); (case q3046 => rfl); (case q3047 => rfl); (case q3045 => decide)); (with_reducible refine' EV_nilN ?_))
    intro l4 H4 he4 hn4 hl4
    have he4 : Ext H3 H4 := he4
    have hr4 := he4 _ _ hr3
    have ha4 := he4 _ _ ha3
    have hb4 := he4 _ _ hb3
    skip
    refine CMP_eqLN (by lia) hb4 hl4 ?_
    ((((with_reducible refine' And.intro (fun hc => ?_) (fun hc => ?_)) <;> (simp only [decide_eq_true_eq, decide_eq_false_iff_not, Bool.not_eq_true', Bool.not_eq_false', Bool.not_true, Bool.not_false, reduceCtorEq] at hc)) <;> (revert hc; intro _)))
    · rename_i h
      have h := (dg_nil hB).mp h
      have hat : at_ = K := by
        by_cases e : at_ = K
        · exact e
        · have := hp at_ (by lia); lia
      subst hat
      ((with_reducible refine' EX_seq ?_); (with_reducible refine' E1_return ?_); ((with_reducible refine' EV_cmp ?q3048 ?_); (case q3048 => rfl)); ((with_reducible refine' EV_loc ?q3049 ?q3051 ?q3052 ?q3050 ?_); (case q3049 => assumption); (case q3051 => rfl); (case q3052 => rfl); (case q3050 => decide)); (with_reducible refine' EV_bin ?_); ((with_reducible refine' EV_lenN ?q3054 ?q3053 ?q3057 ?q3056 ?q3055 ?_); (case q3054 => assumption); (case q3053 => assumption); (case q3057 => rfl); (case q3056 => rfl); (case q3055 => rfl)); ((with_reducible refine' EV_loc ?q3058 ?q3060 ?q3061 ?q3059 ?_); (case q3058 => assumption); (case q3060 => rfl); (case q3061 => rfl); (case q3059 => decide)))
      (((refine' ⟨_, _, rfl, ?q3062, ?q3063, ?_⟩); (case q3062 => assumption); (case q3063 => ((lia)))))
      (((with_reducible refine' EV_intN ?q3064 ?_); (case q3064 => first | exact Int.cast_ofNat_Int.symm | rfl)); ((with_reducible refine' BIN_subN ?q3065 ?_); (case q3065 => ((lia)))); (with_reducible refine' CMP_eq ?_); (with_reducible refine' Cont_ret ?_); (with_reducible refine' Cont_ret ?_); (with_reducible refine' LoopQ_ret ?_); (with_reducible refine' Cont_ret ?_); ((with_reducible refine' RetQ_ret ?_); try dsimp only))
      have e : decide (((at_ : Nat) : Int) = (((rowL A Bn at_).length - 2 : Nat) : Int)) = true := by
        rw [hrl]; exact decide_eq_true (by (simp; done))
      rw [e]
      exact k H4 (hE.trans he4)
    · rename_i h
      have hv0 : 0 < (eu A Bn at_).2 := by
        rcases Nat.eq_zero_or_pos (eu A Bn at_).2 with h' | h'
        · exact absurd ((dg_nil hB).mpr h') h
        · exact h'
      have hlt : at_ < K := by
        by_cases e : at_ = K
        · subst e; lia
        · lia
      (((refine' EX_norm ?q3066 ?_); (case q3066 => ((dsimp only [frameOf, List.set_cons_zero, List.set_cons_succ]); (try exact rfl)))))
      ((with_reducible refine' EX_nil ?_); ((with_reducible refine' Cont_norm ?q3067 ?_); (case q3067 => ((dsimp only [frameOf, List.set_cons_zero, List.set_cons_succ]); (try exact rfl)))); (with_reducible refine' EX_seq ?_); ((with_reducible refine' E1_tup2 ?q3068 ?q3071 ?q3072 ?q3069 ?q3070 ?_); (case q3068 => assumption); (case q3071 => rfl); (case q3072 => rfl); (case q3069 => rfl); (case q3070 => rfl)); ((with_reducible refine' SP_cons ?q3073 ?_); (case q3073 => rfl)); ((with_reducible refine' EV_sliceN ?q3074 ?q3075 ?_); (case q3074 => intro _ _; rfl); (case q3075 => intro _ _; rfl)); ((with_reducible refine' EV_loc ?q3076 ?q3078 ?q3079 ?q3077 ?_); (case q3076 => assumption); (case q3078 => rfl); (case q3079 => rfl); (case q3077 => decide)); (with_reducible refine' PT_none ?_); (with_reducible refine' PT_none ?_))
      (((refine' ⟨_, _, _, rfl, ?q3080, ?q3082, ?q3083, ?q3081, ?_⟩); (case q3080 => assumption); (case q3082 => first | exact trivial | exact Int.natCast_nonneg _ | exact ⟨Int.natCast_nonneg _, Int.natCast_nonneg _⟩); (case q3083 => ((lia))); (case q3081 => first | exact cut_to _ _ | exact cut_all _ | exact cut_run _ _ _)))
      intro l5 H5 he5 hn5 hl5
      have he5 : Ext H4 H5 := he5
      have ha5 := he5 _ _ ha4
      have hb5 := he5 _ _ hb4
      have hr5 := he5 _ _ hr4
      (((with_reducible refine' SP_cons ?q3084 ?_); (case q3084 => rfl)); ((with_reducible refine' EV_sliceN ?q3085 ?q3086 ?_); (case q3085 => intro _ _; rfl); (case q3086 => intro _ _; rfl)); ((with_reducible refine' EV_loc ?q3087 ?q3089 ?q3090 ?q3088 ?_); (case q3087 => assumption); (case q3089 => rfl); (case q3090 => rfl); (case q3088 => decide)); (with_reducible refine' PT_none ?_); (with_reducible refine' PT_none ?_))
      (((refine' ⟨_, _, _, rfl, ?q3091, ?q3093, ?q3094, ?q3092, ?_⟩); (case q3091 => assumption); (case q3093 => first | exact trivial | exact Int.natCast_nonneg _ | exact ⟨Int.natCast_nonneg _, Int.natCast_nonneg _⟩); (case q3094 => ((lia))); (case q3092 => first | exact cut_to _ _ | exact cut_all _ | exact cut_run _ _ _)))
      intro l6 H6 he6 hn6 hl6
      have he6 : Ext H5 H6 := he6
      have ha6 := he6 _ _ ha5
      have hb6 := he6 _ _ hb5
      have hr6 := he6 _ _ hr5
      have hl56 := he6 _ _ hl5
      ((with_reducible refine' SP_nil ?_); (with_reducible refine' At2.intro _ _ ?_); ((with_reducible refine' Cont_norm ?q3095 ?_); (case q3095 => ((dsimp only [frameOf, List.set_cons_zero, List.set_cons_succ]); (try exact rfl)))); (with_reducible refine' EX_seq ?_); ((with_reducible refine' E1_assign ?q3096 ?q3097 ?q3098 ?_); (case q3096 => assumption); (case q3097 => rfl); (case q3098 => rfl)); ((with_reducible refine' EV_fnN ?q3099 ?q3104 ?q3105 ?q3103 ?q3102 ?q3100 ?q3101 ?_); (case q3099 => assumption); (case q3104 => with_reducible assumption); (case q3105 => rfl); (case q3103 => decide); (case q3102 => rfl); (case q3100 => rfl); (case q3101 => rfl)); ((with_reducible refine' SP_cons ?q3106 ?_); (case q3106 => rfl)); ((with_reducible refine' EV_loc ?q3107 ?q3109 ?q3110 ?q3108 ?_); (case q3107 => assumption); (case q3109 => rfl); (case q3110 => rfl); (case q3108 => decide)); ((with_reducible refine' SP_cons ?q3111 ?_); (case q3111 => rfl)); ((with_reducible refine' EV_loc ?q3112 ?q3114 ?q3115 ?q3113 ?_); (case q3112 => assumption); (case q3114 => rfl); (case q3115 => rfl); (case q3113 => decide)); ((with_reducible refine' SP_cons ?q3116 ?_); (case q3116 => rfl)); ((with_reducible refine' EV_loc ?q3117 ?q3119 ?q3120 ?q3118 ?_); (case q3117 => assumption); (case q3119 => rfl); (case q3120 => rfl); (case q3118 => decide)); ((with_reducible refine' SP_cons ?q3121 ?_); (case q3121 => rfl)))
      refine EV_glob (by assumption) rfl hn23.1 (by decide) ?_
      ((with_reducible refine' SP_nil ?_))
      refine lehmer_round_ok G (by assumption) (R'.mono (by (exact Nat.le_refl _))) hw hw2 ha6 hb6 hv0 (hq0 at_ haK) (by (exact Nat.le_trans (by assumption) (by assumption))) fun t l1 l2 H7 Z hZ hZv he7 ht hu hv => ?_
      have he7 : Ext H6 H7 := he7
      rw [eu_add] at hZv hu hv
      obtain ⟨m, hm1, hm2, hme⟩ : ∃ m, at_ + 1 ≤ m ∧ m ≤ K ∧ eu A Bn (at_ + Z) = eu A Bn m := by
        by_cases e : at_ + Z ≤ K
        · exact ⟨at_ + Z, by lia, e, rfl⟩
        · exact ⟨K, by (assumption), Nat.le_refl _, eu_fold hlast (by lia) hZv⟩
      rw [hme] at hu hv
      have ha7 := he7 _ _ ha6
      have hb7 := he7 _ _ hb6
      have hr7 := he7 _ _ hr6
      have hl57 := he7 _ _ hl56
      have hl67 := he7 _ _ hl6
      (((with_reducible refine' Cont_norm ?q3122 ?_); (case q3122 => ((dsimp only [frameOf, List.set_cons_zero, List.set_cons_succ]); (try exact rfl)))); (with_reducible refine' EX_seq ?_); (with_reducible refine' E1_if ?_); (with_reducible refine' TS_or2 ?_); ((with_reducible refine' TS_cmp ?q3123 ?_); (case q3123 => rfl)); ((with_reducible refine' EV_loc ?q3124 ?q3126 ?q3127 ?q3125 ?_); (case q3124 => assumption); (case q3126 => rfl); (case q3127 => rfl); (case q3125 => decide)); ((with_reducible refine' EV_loc ?q3128 ?q3130 ?q3131 ?q3129 ?_); (case q3128 => assumption); (case q3130 => rfl); (case q3131 => rfl); (case q3129 => decide)))
      refine CMP_neLN (by lia) ha7 hl57 ?_
      ((((with_reducible refine' And.intro (fun hc => ?_) (fun hc => ?_)) <;> (simp only [decide_eq_true_eq, decide_eq_false_iff_not, Bool.not_eq_true', Bool.not_eq_false', Bool.not_true, Bool.not_false, reduceCtorEq] at hc)) <;> (revert hc; intro _)))
      rotate_left
      · rename_i h; exact absurd trivial h
      (((with_reducible refine' TS_cmp ?q3132 ?_); (case q3132 => rfl)); ((with_reducible refine' EV_loc ?q3133 ?q3135 ?q3136 ?q3134 ?_); (case q3133 => assumption); (case q3135 => rfl); (case q3136 => rfl); (case q3134 => decide)); ((with_reducible refine' EV_loc ?q3137 ?q3139 ?q3140 ?q3138 ?_); (case q3137 => assumption); (case q3139 => rfl); (case q3140 => rfl); (case q3138 => decide)))
      refine CMP_neLN (by lia) hb7 hl67 ?_
      ((((with_reducible refine' And.intro (fun hc => ?_) (fun hc => ?_)) <;> (simp only [decide_eq_true_eq, decide_eq_false_iff_not, Bool.not_eq_true', Bool.not_eq_false', Bool.not_true, Bool.not_false, reduceCtorEq] at hc)) <;> (revert hc; intro _)))
      · rename_i h; exact absurd trivial h
      (((refine' EX_norm ?q3141 ?_); (case q3141 => ((dsimp only [frameOf, List.set_cons_zero, List.set_cons_succ]); (try exact rfl)))))
      ((with_reducible refine' EX_nil ?_); ((with_reducible refine' Cont_norm ?q3142 ?_); (case q3142 => ((dsimp only [frameOf, List.set_cons_zero, List.set_cons_succ]); (try exact rfl)))); (with_reducible refine' EX_seq ?_); ((with_reducible refine' E1_unp2 ?q3143 ?q3146 ?q3147 ?q3144 ?q3145 ?_); (case q3143 => assumption); (case q3146 => rfl); (case q3147 => rfl); (case q3144 => rfl); (case q3145 => rfl)); ((with_reducible refine' EV_loc ?q3148 ?q3150 ?q3151 ?q3149 ?_); (case q3148 => assumption); (case q3150 => rfl); (case q3151 => rfl); (case q3149 => decide)))
      refine ⟨t, _, _, rfl, ht, ?_⟩
      (((with_reducible refine' Cont_norm ?q3152 ?_); (case q3152 => ((dsimp only [frameOf, List.set_cons_zero, List.set_cons_succ]); (try exact rfl)))); (with_reducible refine' EX_seq ?_); ((with_reducible refine' E1_assign ?q3153 ?q3154 ?q3155 ?_); (case q3153 => assumption); (case q3154 => rfl); (case q3155 => rfl)); ((with_reducible refine' EV_fnN ?q3156 ?q3161 ?q3162 ?q3160 ?q3159 ?q3157 ?q3158 ?_); (case q3156 => assumption); (case q3161 => with_reducible assumption); (case q3162 => rfl); (case q3160 => decide); (case q3159 => rfl); (case q3157 => rfl); (case q3158 => rfl)); ((with_reducible refine' SP_cons ?q3163 ?_); (case q3163 => rfl)); ((with_reducible refine' EV_loc ?q3164 ?q3166 ?q3167 ?q3165 ?_); (case q3164 => assumption); (case q3166 => rfl); (case q3167 => rfl); (case q3165 => decide)); ((with_reducible refine' SP_cons ?q3168 ?_); (case q3168 => rfl)); ((with_reducible refine' EV_loc ?q3169 ?q3171 ?q3172 ?q3170 ?_); (case q3169 => assumption); (case q3171 => rfl); (case q3172 => rfl); (case q3170 => decide)); ((with_reducible refine' SP_cons ?q3173 ?_); (case q3173 => rfl)); ((with_reducible refine' EV_loc ?q3174 ?q3176 ?q3177 ?q3175 ?_); (case q3174 => assumption); (case q3176 => rfl); (case q3177 => rfl); (case q3175 => decide)); ((with_reducible refine' SP_cons ?q3178 ?_); (case q3178 => rfl)); ((with_reducible refine' EV_loc ?q3179 ?q3181 ?q3182 ?q3180 ?_); (case q3179 => assumption); (case q3181 => rfl); (case q3182 => rfl); (case q3180 => decide)); ((with_reducible refine' SP_cons ?q3183 ?_); (case q3183 => rfl)); (with_reducible refine' EV_bin ?_); ((with_reducible refine' EV_loc ?q3184 ?q3186 ?q3187 ?q3185 ?_); (case q3184 => assumption); (case q3186 => rfl); (case q3187 => rfl); (case q3185 => decide)); ((with_reducible refine' EV_intN ?q3188 ?_); (case q3188 => first | exact Int.cast_ofNat_Int.symm | rfl)); (with_reducible refine' BIN_addN ?_); (with_reducible refine' SP_nil ?_))
      refine law_spot_ok G (by assumption) (R'.mono (by (decide))) hw hw2 hr7 hu hv hAB hp hm2 hm1 hK hz fun at2 H8 q1 q2 q3 he8 => ?_
      have he8 : Ext H7 H8 := he8
      (((with_reducible refine' Cont_norm ?q3189 ?_); (case q3189 => ((dsimp only [frameOf, List.set_cons_zero, List.set_cons_succ]); (try exact rfl)))); (with_reducible refine' EX_seq ?_); (with_reducible refine' E1_if ?_); ((with_reducible refine' TS_cmp ?q3190 ?_); (case q3190 => rfl)); ((with_reducible refine' EV_loc ?q3191 ?q3193 ?q3194 ?q3192 ?_); (case q3191 => assumption); (case q3193 => rfl); (case q3194 => rfl); (case q3192 => decide)); (with_reducible refine' EV_none ?_))
      refine CMP_isN_int ?_
      ((with_reducible refine' And.intro (fun (h : false = true) => nomatch h) (fun (_ : false = false) => ?_)); (with_reducible refine' EX_nil ?_); ((with_reducible refine' Cont_norm ?q3195 ?_); (case q3195 => ((dsimp only [frameOf, List.set_cons_zero, List.set_cons_succ]); (try exact rfl)))); (with_reducible refine' EX_nil ?_))
      refine LoopQ_next { m := [some (.ref ro), some (.int (w : Int)), some (.ref l1), some (.ref l2), some (.int ((at2 : Nat) : Int)), none, none, none, none, none, none, none, none, none, none], H := H8 } ?_ ⟨l1, l2, at2, H8, none, none, none, none, by (exact Nat.lt_of_le_of_lt (by assumption) (by assumption)), q2, he8 _ _ hr7, ?_, ?_, ((((hE.trans he4).trans he5).trans he6).trans he7).trans he8, rfl⟩
      · ((refine' ⟨?q3197, ?q3196⟩; (case q3196 => first | exact Ext.refl _ | assumption); (case q3197 => repeat (first | exact MLe.nil _ | refine' MLe.none ?_ | refine' MLe.some' rfl ?_))))
      · rw [q3]; exact he8 _ _ hu
      · rw [q3]; exact he8 _ _ hv
  · rintro _ ⟨a, b, at_, H3, x1, x2, x3, x4, hja, haK, _⟩
    lia

theorem imax (a b : Nat) : (if (b : Int) > a then (b : Int) else a) = ((max a b : Nat) : Int) := by split <;> lia
theorem imin (a b : Nat) : (if (b : Int) < a then (b : Int) else a) = ((min a b : Nat) : Int) := by split <;> lia
theorem mul_cap {g x c d : Nat} (h : g ≤ c) (k : x ≤ d) : g * x ≤ c * d := Nat.mul_le_mul h k
def BodyOf : Stmt → List Stmt → Scope → Prop
  | .FunctionDef name params body _ _ _ scope _ _ _, b, s => b = body ∧ s = scope
  | _, _, _ => False

theorem law_tail (G : FS W) (r : Cr) {st0 : Stmt} {tail : List Stmt} {scope : Scope} (hb : BodyOf (stAt 30) (st0 :: tail) scope) (C : COk W (r.on scope)) (Rm : Room (r.on scope) 7) {t l : Addr} {L : List Nat} {H : AH} (ht : H t = some (.vals [.int ((0 : Nat) : Int), .ref l])) (hl : H l = some (nats L)) (hL : L.length ≤ 100) :
    EX W (r.on scope) tail { m := [none, some (.ref t), none, none, none, none, none, none, none, none, none, none, none], H := H } (fun f _ => f = .ret (.bool true)) := by
  have hn25 := G.n25
  have hn27 := G.n27
  have hn29 := G.n29
  have B := G.B
  obtain ⟨e1, e2⟩ := hb
  cases e1
  cases e2
  ((with_reducible refine' EX_seq ?_); ((with_reducible refine' E1_tup3 ?q3198 ?q3202 ?q3203 ?q3199 ?q3200 ?q3201 ?_); (case q3198 => assumption); (case q3202 => rfl); (case q3203 => rfl); (case q3199 => rfl); (case q3200 => rfl); (case q3201 => rfl)); ((with_reducible refine' SP_cons ?q3204 ?_); (case q3204 => rfl)); (with_reducible refine' EV_bin ?_); ((with_reducible refine' EV_intN ?q3205 ?_); (case q3205 => first | exact Int.cast_ofNat_Int.symm | rfl)); ((with_reducible refine' EV_fnN ?q3206 ?q3211 ?q3212 ?q3210 ?q3209 ?q3207 ?q3208 ?_); (case q3206 => assumption); (case q3211 => with_reducible assumption); (case q3212 => rfl); (case q3210 => decide); (case q3209 => rfl); (case q3207 => rfl); (case q3208 => rfl)); ((with_reducible refine' SP_cons ?q3213 ?_); (case q3213 => rfl)); ((with_reducible refine' EV_loc ?q3214 ?q3216 ?q3217 ?q3215 ?_); (case q3214 => assumption); (case q3216 => rfl); (case q3217 => rfl); (case q3215 => decide)); ((with_reducible refine' SP_cons ?q3218 ?_); (case q3218 => rfl)); ((with_reducible refine' EV_intN ?q3219 ?_); (case q3219 => first | exact Int.cast_ofNat_Int.symm | rfl)); (with_reducible refine' SP_nil ?_))
  refine law_sifted_ok G (by assumption) (Rm.mono (by (exact Nat.succ_pos _))) ht hl (by (exact Nat.zero_le _)) hL (by (exact Nat.succ_pos _)) fun r1 H1 hr1 ht1 hl1 => ?_
  ((with_reducible refine' BIN_addN ?_); ((with_reducible refine' SP_cons ?q3220 ?_); (case q3220 => rfl)); (with_reducible refine' EV_bin ?_); ((with_reducible refine' EV_intN ?q3221 ?_); (case q3221 => first | exact Int.cast_ofNat_Int.symm | rfl)); ((with_reducible refine' EV_fnN ?q3222 ?q3227 ?q3228 ?q3226 ?q3225 ?q3223 ?q3224 ?_); (case q3222 => assumption); (case q3227 => with_reducible assumption); (case q3228 => rfl); (case q3226 => decide); (case q3225 => rfl); (case q3223 => rfl); (case q3224 => rfl)); ((with_reducible refine' SP_cons ?q3229 ?_); (case q3229 => rfl)); ((with_reducible refine' EV_loc ?q3230 ?q3232 ?q3233 ?q3231 ?_); (case q3230 => assumption); (case q3232 => rfl); (case q3233 => rfl); (case q3231 => decide)); ((with_reducible refine' SP_cons ?q3234 ?_); (case q3234 => rfl)); ((with_reducible refine' EV_intN ?q3235 ?_); (case q3235 => first | exact Int.cast_ofNat_Int.symm | rfl)); (with_reducible refine' SP_nil ?_))
  refine law_sifted_ok G (by assumption) (Rm.mono (by lia)) ht1 hl1 (by (exact Nat.succ_pos _)) hL (by (exact Nat.succ_pos _)) fun r2 H2 hr2 ht2 hl2 => ?_
  ((with_reducible refine' BIN_addN ?_); ((with_reducible refine' SP_cons ?q3236 ?_); (case q3236 => rfl)); (with_reducible refine' EV_bin ?_); ((with_reducible refine' EV_intN ?q3237 ?_); (case q3237 => first | exact Int.cast_ofNat_Int.symm | rfl)); ((with_reducible refine' EV_fnN ?q3238 ?q3243 ?q3244 ?q3242 ?q3241 ?q3239 ?q3240 ?_); (case q3238 => assumption); (case q3243 => with_reducible assumption); (case q3244 => rfl); (case q3242 => decide); (case q3241 => rfl); (case q3239 => rfl); (case q3240 => rfl)); ((with_reducible refine' SP_cons ?q3245 ?_); (case q3245 => rfl)); ((with_reducible refine' EV_loc ?q3246 ?q3248 ?q3249 ?q3247 ?_); (case q3246 => assumption); (case q3248 => rfl); (case q3249 => rfl); (case q3247 => decide)); ((with_reducible refine' SP_cons ?q3250 ?_); (case q3250 => rfl)); ((with_reducible refine' EV_intN ?q3251 ?_); (case q3251 => first | exact Int.cast_ofNat_Int.symm | rfl)); (with_reducible refine' SP_nil ?_))
  refine law_sifted_ok G (by assumption) (Rm.mono (by lia)) ht2 hl2 (by (decide)) hL (by (exact Nat.succ_pos _)) fun r3 H3 hr3 ht3 hl3 => ?_
  ((with_reducible refine' BIN_addN ?_); (with_reducible refine' SP_nil ?_); (with_reducible refine' At3.intro _ _ _ ?_); ((with_reducible refine' Cont_norm ?q3252 ?_); (case q3252 => ((dsimp only [frameOf, List.set_cons_zero, List.set_cons_succ]); (try exact rfl)))); (with_reducible refine' EX_seq ?_); ((with_reducible refine' E1_assign ?q3253 ?q3254 ?q3255 ?_); (case q3253 => assumption); (case q3254 => rfl); (case q3255 => rfl)); (with_reducible refine' EV_bin ?_); ((with_reducible refine' EV_loc ?q3256 ?q3258 ?q3259 ?q3257 ?_); (case q3256 => assumption); (case q3258 => rfl); (case q3259 => rfl); (case q3257 => decide)); (with_reducible refine' EV_bin ?_); (with_reducible refine' EV_bin ?_); ((with_reducible refine' EV_intN ?q3260 ?_); (case q3260 => first | exact Int.cast_ofNat_Int.symm | rfl)); (with_reducible refine' EV_bin ?_); ((with_reducible refine' EV_intN ?q3261 ?_); (case q3261 => first | exact Int.cast_ofNat_Int.symm | rfl)); ((with_reducible refine' EV_fnN ?q3262 ?q3267 ?q3268 ?q3266 ?q3265 ?q3263 ?q3264 ?_); (case q3262 => assumption); (case q3267 => with_reducible assumption); (case q3268 => rfl); (case q3266 => decide); (case q3265 => rfl); (case q3263 => rfl); (case q3264 => rfl)); ((with_reducible refine' SP_cons ?q3269 ?_); (case q3269 => rfl)); ((with_reducible refine' EV_loc ?q3270 ?q3272 ?q3273 ?q3271 ?_); (case q3270 => assumption); (case q3272 => rfl); (case q3273 => rfl); (case q3271 => decide)); ((with_reducible refine' SP_cons ?q3274 ?_); (case q3274 => rfl)); ((with_reducible refine' EV_intN ?q3275 ?_); (case q3275 => first | exact Int.cast_ofNat_Int.symm | rfl)); (with_reducible refine' SP_nil ?_))
  refine law_sifted_ok G (by assumption) (Rm.mono (by lia)) ht3 hl3 (by (decide)) hL (by (exact Nat.succ_pos _)) fun r4 H4 hr4 ht4 hl4 => ?_
  (((with_reducible refine' BIN_mulN ?q3276 ?_); (case q3276 => (((simp; done))))); (with_reducible refine' BIN_addN ?_); ((with_reducible refine' EV_fnN ?q3277 ?q3282 ?q3283 ?q3281 ?q3280 ?q3278 ?q3279 ?_); (case q3277 => assumption); (case q3282 => with_reducible assumption); (case q3283 => rfl); (case q3281 => decide); (case q3280 => rfl); (case q3278 => rfl); (case q3279 => rfl)); ((with_reducible refine' SP_cons ?q3284 ?_); (case q3284 => rfl)); ((with_reducible refine' EV_loc ?q3285 ?q3287 ?q3288 ?q3286 ?_); (case q3285 => assumption); (case q3287 => rfl); (case q3288 => rfl); (case q3286 => decide)); ((with_reducible refine' SP_cons ?q3289 ?_); (case q3289 => rfl)); ((with_reducible refine' EV_intN ?q3290 ?_); (case q3290 => first | exact Int.cast_ofNat_Int.symm | rfl)); (with_reducible refine' SP_nil ?_))
  refine law_sifted_ok G (by assumption) (Rm.mono (by lia)) ht4 hl4 (by (decide)) hL (by (exact Nat.succ_pos _)) fun r5 H5 hr5 ht5 hl5 => ?_
  ((with_reducible refine' BIN_addN ?_); ((with_reducible refine' BIN_mulN ?q3291 ?_); (case q3291 => ((lia)))); ((with_reducible refine' Cont_norm ?q3292 ?_); (case q3292 => ((dsimp only [frameOf, List.set_cons_zero, List.set_cons_succ]); (try exact rfl)))); (with_reducible refine' EX_seq ?_); ((with_reducible refine' E1_assign ?q3293 ?q3294 ?q3295 ?_); (case q3293 => assumption); (case q3294 => rfl); (case q3295 => rfl)); (with_reducible refine' EV_bin ?_); ((with_reducible refine' EV_loc ?q3296 ?q3298 ?q3299 ?q3297 ?_); (case q3296 => assumption); (case q3298 => rfl); (case q3299 => rfl); (case q3297 => decide)); (with_reducible refine' EV_bin ?_); (with_reducible refine' EV_bin ?_); ((with_reducible refine' EV_intN ?q3300 ?_); (case q3300 => first | exact Int.cast_ofNat_Int.symm | rfl)); (with_reducible refine' EV_bin ?_); ((with_reducible refine' EV_intN ?q3301 ?_); (case q3301 => first | exact Int.cast_ofNat_Int.symm | rfl)); ((with_reducible refine' EV_fnN ?q3302 ?q3307 ?q3308 ?q3306 ?q3305 ?q3303 ?q3304 ?_); (case q3302 => assumption); (case q3307 => with_reducible assumption); (case q3308 => rfl); (case q3306 => decide); (case q3305 => rfl); (case q3303 => rfl); (case q3304 => rfl)); ((with_reducible refine' SP_cons ?q3309 ?_); (case q3309 => rfl)); ((with_reducible refine' EV_loc ?q3310 ?q3312 ?q3313 ?q3311 ?_); (case q3310 => assumption); (case q3312 => rfl); (case q3313 => rfl); (case q3311 => decide)); ((with_reducible refine' SP_cons ?q3314 ?_); (case q3314 => rfl)); ((with_reducible refine' EV_intN ?q3315 ?_); (case q3315 => first | exact Int.cast_ofNat_Int.symm | rfl)); (with_reducible refine' SP_nil ?_))
  refine law_sifted_ok G (by assumption) (Rm.mono (by lia)) ht5 hl5 (by (decide)) hL (by lia) fun r6 H6 hr6 ht6 hl6 => ?_
  (((with_reducible refine' BIN_mulN ?q3316 ?_); (case q3316 => ((lia)))); (with_reducible refine' BIN_addN ?_); ((with_reducible refine' EV_fnN ?q3317 ?q3322 ?q3323 ?q3321 ?q3320 ?q3318 ?q3319 ?_); (case q3317 => assumption); (case q3322 => with_reducible assumption); (case q3323 => rfl); (case q3321 => decide); (case q3320 => rfl); (case q3318 => rfl); (case q3319 => rfl)); ((with_reducible refine' SP_cons ?q3324 ?_); (case q3324 => rfl)); ((with_reducible refine' EV_loc ?q3325 ?q3327 ?q3328 ?q3326 ?_); (case q3325 => assumption); (case q3327 => rfl); (case q3328 => rfl); (case q3326 => decide)); ((with_reducible refine' SP_cons ?q3329 ?_); (case q3329 => rfl)); ((with_reducible refine' EV_intN ?q3330 ?_); (case q3330 => first | exact Int.cast_ofNat_Int.symm | rfl)); (with_reducible refine' SP_nil ?_))
  refine law_sifted_ok G (by assumption) (Rm.mono (by lia)) ht6 hl6 (by (decide)) hL (by lia) fun r7 H7 hr7 ht7 hl7 => ?_
  have c1 : (1 + r3) * (1 + 211 * r4 + r5) ≤ 30 * 18990 := mul_cap (by lia) (by lia)
  have c2 : (1 + r3) * (1 + 211 * r6 + r7) ≤ 30 * 18990 := mul_cap (by lia) (by lia)
  ((with_reducible refine' BIN_addN ?_); ((with_reducible refine' BIN_mulN ?q3331 ?_); (case q3331 => ((lia)))); ((with_reducible refine' Cont_norm ?q3332 ?_); (case q3332 => ((dsimp only [frameOf, List.set_cons_zero, List.set_cons_succ]); (try exact rfl)))); (with_reducible refine' EX_seq ?_); ((with_reducible refine' E1_assign ?q3333 ?q3334 ?q3335 ?_); (case q3333 => assumption); (case q3334 => rfl); (case q3335 => rfl)); ((with_reducible refine' EV_fnN ?q3336 ?q3341 ?q3342 ?q3340 ?q3339 ?q3337 ?q3338 ?_); (case q3336 => assumption); (case q3341 => with_reducible assumption); (case q3342 => rfl); (case q3340 => decide); (case q3339 => rfl); (case q3337 => rfl); (case q3338 => rfl)); ((with_reducible refine' SP_cons ?q3343 ?_); (case q3343 => rfl)); ((with_reducible refine' EV_max ?q3345 ?q3344 ?q3349 ?q3348 ?q3346 ?q3347 ?_); (case q3345 => assumption); (case q3344 => assumption); (case q3349 => rfl); (case q3348 => rfl); (case q3346 => rfl); (case q3347 => rfl)); ((with_reducible refine' EV_loc ?q3350 ?q3352 ?q3353 ?q3351 ?_); (case q3350 => assumption); (case q3352 => rfl); (case q3353 => rfl); (case q3351 => decide)); ((with_reducible refine' EV_loc ?q3354 ?q3356 ?q3357 ?q3355 ?_); (case q3354 => assumption); (case q3356 => rfl); (case q3357 => rfl); (case q3355 => decide)))
  generalize (1 + r3) * (1 + 211 * r4 + r5) = one at *
  generalize (1 + r3) * (1 + 211 * r6 + r7) = other at *
  refine ⟨_, _, rfl, rfl, ?_⟩
  rw [imax]
  (((with_reducible refine' SP_cons ?q3358 ?_); (case q3358 => rfl)); ((with_reducible refine' EV_min ?q3360 ?q3359 ?q3364 ?q3363 ?q3361 ?q3362 ?_); (case q3360 => assumption); (case q3359 => assumption); (case q3364 => rfl); (case q3363 => rfl); (case q3361 => rfl); (case q3362 => rfl)); ((with_reducible refine' EV_loc ?q3365 ?q3367 ?q3368 ?q3366 ?_); (case q3365 => assumption); (case q3367 => rfl); (case q3368 => rfl); (case q3366 => decide)); ((with_reducible refine' EV_loc ?q3369 ?q3371 ?q3372 ?q3370 ?_); (case q3369 => assumption); (case q3371 => rfl); (case q3372 => rfl); (case q3370 => decide)))
  refine ⟨_, _, rfl, rfl, ?_⟩
  rw [imin]
  ((with_reducible refine' SP_nil ?_))
  refine law_row_ok G (by assumption) (Rm.mono (by lia)) (by lia) (by lia) fun lr H8 K hK he8 hl8 hp hlast => ?_
  (((with_reducible refine' Cont_norm ?q3373 ?_); (case q3373 => ((dsimp only [frameOf, List.set_cons_zero, List.set_cons_succ]); (try exact rfl)))); (with_reducible refine' EX_seq ?_); (with_reducible refine' E1_return ?_))
  have hlen : ∀ w : Nat, 1 ≤ w → (dg (2 ^ w) (max one other)).length ≤ 70 := by
    intro w hw
    refine Nat.le_trans (dg_len_le (pw2 hw) (k := 24) ?_) (by (decide))
    have : 2 ^ 24 ≤ (2 ^ w) ^ 24 := Nat.pow_le_pow_left (pw2 hw) 24
    lia
  refine EV_and2 ?_
  (((with_reducible refine' EV_fnN ?q3374 ?q3379 ?q3380 ?q3378 ?q3377 ?q3375 ?q3376 ?_); (case q3374 => assumption); (case q3379 => with_reducible assumption); (case q3380 => rfl); (case q3378 => decide); (case q3377 => rfl); (case q3375 => rfl); (case q3376 => rfl)); ((with_reducible refine' SP_cons ?q3381 ?_); (case q3381 => rfl)); ((with_reducible refine' EV_loc ?q3382 ?q3384 ?q3385 ?q3383 ?_); (case q3382 => assumption); (case q3384 => rfl); (case q3385 => rfl); (case q3383 => decide)); ((with_reducible refine' SP_cons ?q3386 ?_); (case q3386 => rfl)); ((with_reducible refine' EV_loc ?q3387 ?q3389 ?q3390 ?q3388 ?_); (case q3387 => assumption); (case q3389 => rfl); (case q3390 => rfl); (case q3388 => decide)); (with_reducible refine' SP_nil ?_))
  refine law_rounds_ok G (by assumption) (Rm.mono (by (decide))) (by lia) (by lia) hl8 (by lia) hp hlast (by (exact Nat.le_of_lt (by assumption))) (hlen _ (by lia)) fun H9 he9 => ?_
  have hl9 := he9 _ _ hl8
  refine ⟨true, rfl, fun _ => ?_, fun h => nomatch h⟩
  (((with_reducible refine' EV_fnN ?q3391 ?q3396 ?q3397 ?q3395 ?q3394 ?q3392 ?q3393 ?_); (case q3391 => assumption); (case q3396 => with_reducible assumption); (case q3397 => rfl); (case q3395 => decide); (case q3394 => rfl); (case q3392 => rfl); (case q3393 => rfl)); ((with_reducible refine' SP_cons ?q3398 ?_); (case q3398 => rfl)); ((with_reducible refine' EV_loc ?q3399 ?q3401 ?q3402 ?q3400 ?_); (case q3399 => assumption); (case q3401 => rfl); (case q3402 => rfl); (case q3400 => decide)); ((with_reducible refine' SP_cons ?q3403 ?_); (case q3403 => rfl)); ((with_reducible refine' EV_loc ?q3404 ?q3406 ?q3407 ?q3405 ?_); (case q3404 => assumption); (case q3406 => rfl); (case q3407 => rfl); (case q3405 => decide)); (with_reducible refine' SP_nil ?_))
  refine law_rounds_ok G (by assumption) (Rm.mono (by lia)) (by lia) (by lia) hl9 (by lia) hp hlast (by lia) (hlen _ (by lia)) fun H10 he10 => ?_
  ((with_reducible refine' Cont_ret ?_))
  rfl

section
set_option maxHeartbeats 4000000
theorem topFS (w : World) (mean : ExcName → Option Value) (mg mb : Str → Option Value) : Nonempty (FS ⟨PySem.Challenge.rw_tk0047_01.row.prog, w, Mine.hd.heap_39 w.params, Mine.hd.view_39, looseW Mine.hd.view_39 [], mean, mg, mb⟩) := by
  have h : ∀ i ∈ fnIx, ∃ a, FnOk (Mine.hd.heap_39 w.params) a (stAt i) := (List.forall_mem_cons.2 ⟨⟨_, rfl, ⟨_, _, _, _, _, _, _, _, _, rfl, rfl⟩⟩, (List.forall_mem_cons.2 ⟨⟨_, rfl, ⟨_, _, _, _, _, _, _, _, _, rfl, rfl⟩⟩, (List.forall_mem_cons.2 ⟨⟨_, rfl, ⟨_, _, _, _, _, _, _, _, _, rfl, rfl⟩⟩, (List.forall_mem_cons.2 ⟨⟨_, rfl, ⟨_, _, _, _, _, _, _, _, _, rfl, rfl⟩⟩, (List.forall_mem_cons.2 ⟨⟨_, rfl, ⟨_, _, _, _, _, _, _, _, _, rfl, rfl⟩⟩, (List.forall_mem_cons.2 ⟨⟨_, rfl, ⟨_, _, _, _, _, _, _, _, _, rfl, rfl⟩⟩, (List.forall_mem_cons.2 ⟨⟨_, rfl, ⟨_, _, _, _, _, _, _, _, _, rfl, rfl⟩⟩, (List.forall_mem_cons.2 ⟨⟨_, rfl, ⟨_, _, _, _, _, _, _, _, _, rfl, rfl⟩⟩, (List.forall_mem_cons.2 ⟨⟨_, rfl, ⟨_, _, _, _, _, _, _, _, _, rfl, rfl⟩⟩, (List.forall_mem_cons.2 ⟨⟨_, rfl, ⟨_, _, _, _, _, _, _, _, _, rfl, rfl⟩⟩, (List.forall_mem_cons.2 ⟨⟨_, rfl, ⟨_, _, _, _, _, _, _, _, _, rfl, rfl⟩⟩, (List.forall_mem_cons.2 ⟨⟨_, rfl, ⟨_, _, _, _, _, _, _, _, _, rfl, rfl⟩⟩, (List.forall_mem_cons.2 ⟨⟨_, rfl, ⟨_, _, _, _, _, _, _, _, _, rfl, rfl⟩⟩, (List.forall_mem_cons.2 ⟨⟨_, rfl, ⟨_, _, _, _, _, _, _, _, _, rfl, rfl⟩⟩, (List.forall_mem_cons.2 ⟨⟨_, rfl, ⟨_, _, _, _, _, _, _, _, _, rfl, rfl⟩⟩, (List.forall_mem_cons.2 ⟨⟨_, rfl, ⟨_, _, _, _, _, _, _, _, _, rfl, rfl⟩⟩, (List.forall_mem_cons.2 ⟨⟨_, rfl, ⟨_, _, _, _, _, _, _, _, _, rfl, rfl⟩⟩, (List.forall_mem_cons.2 ⟨⟨_, rfl, ⟨_, _, _, _, _, _, _, _, _, rfl, rfl⟩⟩, (List.forall_mem_cons.2 ⟨⟨_, rfl, ⟨_, _, _, _, _, _, _, _, _, rfl, rfl⟩⟩, (List.forall_mem_cons.2 ⟨⟨_, rfl, ⟨_, _, _, _, _, _, _, _, _, rfl, rfl⟩⟩, (List.forall_mem_cons.2 ⟨⟨_, rfl, ⟨_, _, _, _, _, _, _, _, _, rfl, rfl⟩⟩, (List.forall_mem_cons.2 ⟨⟨_, rfl, ⟨_, _, _, _, _, _, _, _, _, rfl, rfl⟩⟩, (List.forall_mem_cons.2 ⟨⟨_, rfl, ⟨_, _, _, _, _, _, _, _, _, rfl, rfl⟩⟩, (fun _ h => nomatch h)⟩)⟩)⟩)⟩)⟩)⟩)⟩)⟩)⟩)⟩)⟩)⟩)⟩)⟩)⟩)⟩)⟩)⟩)⟩)⟩)⟩)⟩)⟩)
  exact ⟨⟨by constructor <;> rfl, fun i => if q : i ∈ fnIx then (h i q).choose else default, fun i q => by rw [dif_pos q]; exact (h i q).choose_spec⟩⟩
end

theorem law_end {w : World} {mean : ExcName → Option Value} {mg mb : Str → Option Value} {h0 : Heap} {fa L : Addr} {cdv : Value} {st0 : Stmt} {tail : List Stmt} {scope : Scope} {s : Shared} {m : Str → Option Value} {t d x : Addr} {tok : Tok} {ys : List Value} {o : Obj} {ns : List Int}
    (hb : BodyOf (stAt 30) (st0 :: tail) scope) (KX : (Mine.hd.heap_39 w.params).In h0) (T : Top Mine.hd.view_39 (looseW Mine.hd.view_39 []) mean mg mb h0)
    (F : Fr h0 L s.heap m) (hm : m (Str.ofString "tub") = some (.ref t)) (N : News h0 L s.heap [(t, PySem.W.listOf #[.int 0 tok, .ref d] 0), (d, LCg.lst ys), (x, o)]) (ne : d < t)
    (hI : IntsAre ys (List.map (fun k' => if k' < 0 then -k' else k') (List.take 7 ns))) :
    wpAny (model PySem.Challenge.rw_tk0047_01.row.prog w) (callerA.deeper (envOf (Str.ofString "law") scope L fa cdv)) (execs tail (envOf (Str.ofString "law") scope L fa cdv))
      (fun f s' => f = .ret (.bool true) ∧ ∃ h' tk' m', s' = { s with heap := h', toks := tk' } ∧ Fr h0 L h' m') NoE s := by
  obtain ⟨G⟩ := topFS w mean mg mb
  obtain ⟨e1, e2⟩ := hb
  cases e1
  cases e2
  have hL : (List.map (fun k' : Int => if k' < 0 then -k' else k') (List.take 7 ns)) = up ((List.take 7 ns).map Int.natAbs) := by
    simp only [up, List.map_map]
    refine List.map_congr_left fun a _ => ?_
    simp only [Function.comp]
    split <;> lia
  rw [hL] at hI
  have key := law_tail G ⟨callerA.deeper (envOf (Str.ofString "law") _ L fa cdv), h0, L, fa, Str.ofString "law", cdv, h0, [], callerA⟩ ⟨rfl, rfl⟩ ⟨rfl, below_caller h0, rfl, KX, T, rfl⟩ ⟨Nat.le_of_ble_eq_true rfl, Nat.le_of_ble_eq_true rfl⟩
    (t := t) (l := d) (L := (List.take 7 ns).map Int.natAbs) (H := fun a => if a = t then some (.vals [.int ((0 : Nat) : Int), .ref d]) else if a = d then some (nats ((List.take 7 ns).map Int.natAbs)) else none)
    (if_pos rfl) ((if_neg (Nat.ne_of_lt ne)).trans (if_pos rfl)) (by simp; lia) [] s ⟨m, _, F, ?_, N, ?_, (fun p hp => nomatch hp), (fun p hp => nomatch hp)⟩
  · refine wpAny_mono key (fun f s' ⟨af, σ', h', tk', e, hf, ⟨m', news', r⟩, q⟩ => ?_) fun _ _ x => x
    subst q
    obtain ⟨v, e2, e3⟩ := hf
    rw [show v = .bool true from e3] at e2
    exact ⟨e2, h', tk', m', e, r.F⟩
  · intro y i av hi hv
    have h1 : i = 1 ∧ some (AV.ref t) = some av := by
      rcases i with _ | _ | _ | _ | _ | _ | _ | _ | _ | _ | _ | _ | _ | i
      · cases hv
      · exact ⟨rfl, Option.some.inj hv⟩
      all_goals cases hv
    obtain ⟨rfl, h2⟩ := h1
    cases h2
    have : y = Str.ofString "tub" := slot_inj hi rfl
    subst this
    exact ⟨_, hm, rfl⟩
  · intro a ob ha
    dsimp only at ha
    split at ha
    · rename_i e
      subst e
      cases ha
      exact ⟨_, ⟨_, _, rfl, _, _, rfl, ⟨tok, rfl⟩, _, _, rfl, rfl, rfl⟩, .head _⟩
    · split at ha
      · rename_i e
        subst e
        cases ha
        exact ⟨_, ⟨ys, ys.length, rfl, hI⟩, .tail _ (.head _)⟩
      · cases ha

end Mine


open PySem PySem.W PyProof.Rows
set_option maxRecDepth 100000 in
set_option maxHeartbeats 8000000 in
theorem PySem.Challenge.cw_tk0047_01_holds : PySem.Challenge.rw_tk0047_01.Holds := by
  exact Mine.hd (by w_strict (k_go0; (all_goals try k_fold); (iterate 7 (first | (k_unfold; (try dsimp only)) | walk1 | (dsimp only; walk1) | (leave1; (try dsimp only)))); (focus k_steps); (iterate 6 (first | (k_unfold; (try dsimp only)) | walk1 | (dsimp only; walk1) | (leave1; (try dsimp only)))); refine wpAny_mono (Mine.law_end ⟨rfl, rfl⟩ (by assumption) (by assumption) (by assumption) (if_pos rfl) (by assumption) (And.left (by assumption)) (by assumption)) ?_ (fun _ _ x => False.elim x); (rintro _ _ ⟨rfl, h', tk', m', rfl, F'⟩; refine goodW_bool F' (by first | assumption | (dsimp only; assumption)) (raisesW_false ?_) ?_; (· wrow_none_raised); (· wrow_post))))
