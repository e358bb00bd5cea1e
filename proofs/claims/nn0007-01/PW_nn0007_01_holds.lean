import PyProof.Rows.All
import Wide.All
import OpenK.AllK
import Wide.FinOn
import Lean
import PySem.Challenge.RW_nn0007_01
open PySem PySem.W PyProof.Rows
set_option Elab.async false
set_option maxRecDepth 100000
set_option maxHeartbeats 40000000
section
namespace Mine
/-- the text's own statements, its three `__name__` rows left out -/
def vw : Program := { PySem.Challenge.rw_nn0007_01.row.toRowW.prog with main := { PySem.Challenge.rw_nn0007_01.row.toRowW.prog.main with body := (PySem.Challenge.rw_nn0007_01.row.toRowW.prog.main.body.take 10).drop 1 ++ ((PySem.Challenge.rw_nn0007_01.row.toRowW.prog.main.body.take 19).drop 11 ++ PySem.Challenge.rw_nn0007_01.row.toRowW.prog.main.body.drop 20) } }

/-- the top's run and the looks behind it, by the library's quick twins -/
theorem left_quick {p q : Program} {loose : List Str} {Xt : Shared → Bool} {α : Type} {Yf : Shared → α} {Ya : World → α} {N m₀ : Nat} {ann : Option Value}
    (e : opening p = plainProg p.main.scope.names) (hN : Nat.ble 600 N = true) (f : ∀ s, fenceModules? p s = some s)
    (size : ∀ w : World, ((boot_heap w.params).isNs mainGlobals, (boot_heap w.params).objs.size, (boot_heap w.params).nsMap mainGlobals "__annotations__") = (true, m₀, ann))
    (h : ∀ w : World, (fun os => (PySem.W.Fast.tw14082659384304107361 PySem.W.Fast.tw14364793385576792824 p w m₀ ann N ⟨boot_heap w.params, Array.mk [], boot_drawn, boot_toks, os⟩ (topStub p)).map fun s =>
      ((staticsOk (importedModules p.main.body) (boot_heap w.params) s.heap && namesBound p s.heap && gensDone s && laidKept (boot_heap w.params) s.heap), PySem.W.Fast.tw4187177175401517315 q loose (importedModules p.main.body) Xt true s, Yf s)) = fun _ => some (true, openGood q loose, Ya w)) :
    LeftO p q loose Xt Yf Ya N := fun w => by
  obtain ⟨⟨h', gs, d, k, os⟩, e1, e2⟩ := Option.map_eq_some_iff.mp (boot_open e hN f w)
  obtain ⟨rfl, rfl, rfl, rfl⟩ : h' = boot_heap w.params ∧ gs = Array.mk [] ∧ d = boot_drawn ∧ k = boot_toks := by simpa using e2
  obtain ⟨z1, z2, z3⟩ : _ ∧ _ ∧ _ := by simpa only [Prod.mk.injEq] using size w
  obtain ⟨s₁, r, l⟩ := Option.map_eq_some_iff.mp (congrFun (h w) os)
  obtain ⟨l1, l2, l3⟩ : _ ∧ _ ∧ _ := by simpa only [Prod.mk.injEq] using l
  rw [← PySem.W.Fast.te14082659384304107361, ← PySem.W.Fast.te14364793385576792824] at r
  rw [← PySem.W.Fast.te4187177175401517315] at l2
  have t : topFrom treeTable p w N ⟨boot_heap w.params, Array.mk [], boot_drawn, boot_toks, os⟩ = some s₁ := by
    unfold topFrom
    dsimp only
    rw [z1, z2, z3, r]
    show (match staticsOk (importedModules p.main.body) (boot_heap w.params) s₁.heap && namesBound p s₁.heap && gensDone s₁ && laidKept (boot_heap w.params) s₁.heap with | true => _ | false => _) = _
    rw [l1]
  unfold openEnds
  rw [e1]
  show (topFrom treeTable p w N _).map _ = _
  rw [t]
  exact congrArg some (Prod.ext l2 l3)
section
local macro_rules
  | `(tactic| o_head $H) => `(tactic| (
    refine holds_open (q := vw) (loose := []) (Xt := fun s => xlAt vw [] s && recOk (RowW.records (OpenRow.toRowW PySem.Challenge.rw_nn0007_01.row)) s) (XP := XL vw []) (Yf := Hook.obs $H) (Ya := Hook.val $H) (YP := Hook.says $H) (N := 3022) ?hl (Hook.of $H) (Hook.keeps $H) (fun s e => xl_of s (Bool.and_eq_true_iff.mp e).1) XL.keeps (by rfl) (by rfl) (by rfl) (fun s e => recFacts_of (Bool.and_eq_true_iff.mp e).2) (by rfl) (by first | assumption | decide +kernel) (by decide +kernel) ⟨rfl, rfl, rfl, rfl, rfl, by decide +kernel⟩ ?hw ?hc
    case hl => (refine left_quick (m₀ := 11) (ann := some (.ref 6)) (by kernel_rfl) (by kernel_rfl) (fun s => by kernel_rfl) (fun w => by kernel_rfl) ?_; intro w; kernel_rfl)))
open_top hd for PySem.Challenge.rw_nn0007_01
end
end Mine
end
section
namespace Mine

/-- the limb at place i -/
def dig (B n i : Nat) : Nat := n / B ^ i % B
/-- the first k limbs, as ints -/
def digs (B n k : Nat) : List Int := (List.range k).map fun i => ((dig B n i : Nat) : Int)
/-- how many limbs n has -/
def len (B n : Nat) : Nat := if h : 2 ≤ B ∧ 0 < n then len B (n / B) + 1 else 0
termination_by n
decreasing_by exact Nat.div_lt_self h.2 h.1
/-- the canonical row -/
def row (B n : Nat) : List Int := digs B n (len B n)

theorem len_zero (B : Nat) : len B 0 = 0 := by rw [len]; simp
theorem len_pos {B n : Nat} (hB : 2 ≤ B) (hn : 0 < n) : len B n = len B (n / B) + 1 := by rw [len, dif_pos ⟨hB, hn⟩]
theorem pow_pos' {B : Nat} (hB : 2 ≤ B) (k : Nat) : 0 < B ^ k := Nat.pow_pos (by (first | lia | omega))

theorem lt_pow_len {B : Nat} (hB : 2 ≤ B) (n : Nat) : n < B ^ len B n := by
  induction n using Nat.strongRecOn with
  | ind n ih =>
    rcases Nat.eq_zero_or_pos n with h | h
    · subst h; exact pow_pos' hB _
    · rw [len_pos hB h, Nat.pow_succ]
      have h1 := ih (n / B) (Nat.div_lt_self h hB)
      have h2 : n = n % B + B * (n / B) := (Nat.mod_add_div n B).symm
      have h3 : n % B < B := Nat.mod_lt _ (by (first | lia | omega))
      have h4 : B * (n / B) + B ≤ B ^ len B (n / B) * B := by
        have : B * (n / B + 1) ≤ B * B ^ len B (n / B) := Nat.mul_le_mul_left _ h1
        rw [Nat.mul_comm (B ^ _) B]
        rw [Nat.mul_add, Nat.mul_one] at this; exact this
      (first | lia | omega)
theorem pow_le_of_len {B : Nat} (hB : 2 ≤ B) : ∀ {n k : Nat}, len B n = k + 1 → B ^ k ≤ n := by
  intro n
  induction n using Nat.strongRecOn with
  | ind n ih =>
    intro k hk
    rcases Nat.eq_zero_or_pos n with h | h
    · subst h; rw [len_zero] at hk; (first | lia | omega)
    · rw [len_pos hB h] at hk
      have e : len B (n / B) = k := by (first | lia | omega)
      cases k with
      | zero => simp only [Nat.pow_zero]; (first | lia | omega)
      | succ k =>
        have h1 := ih (n / B) (Nat.div_lt_self h hB) e
        have h2 : B * (n / B) ≤ n := Nat.mul_div_le n B
        have h3 := Nat.mul_le_mul_left B h1
        rw [Nat.pow_succ, Nat.mul_comm]; (first | lia | omega)
theorem len_le_iff {B : Nat} (hB : 2 ≤ B) {n k : Nat} : len B n ≤ k ↔ n < B ^ k := by
  constructor
  · intro h; exact Nat.lt_of_lt_of_le (lt_pow_len hB n) (Nat.pow_le_pow_right (by (first | lia | omega)) h)
  · intro h
    by_cases hk : len B n ≤ k
    · exact hk
    · obtain ⟨j, hj⟩ : ∃ j, len B n = j + 1 := ⟨len B n - 1, by (first | lia | omega)⟩
      have h1 := pow_le_of_len hB hj
      have h2 : B ^ k ≤ B ^ j := Nat.pow_le_pow_right (by (first | lia | omega)) (by (first | lia | omega))
      (first | lia | omega)
theorem lt_len_iff {B : Nat} (hB : 2 ≤ B) {n k : Nat} : k < len B n ↔ B ^ k ≤ n := by
  rw [← Nat.not_le, len_le_iff hB, Nat.not_lt]
theorem len_eq {B : Nat} (hB : 2 ≤ B) {n k : Nat} (h1 : n < B ^ k) (h2 : k = 0 ∨ B ^ (k - 1) ≤ n) : len B n = k := by
  have := (len_le_iff hB).mpr h1
  rcases h2 with h | h
  · (first | lia | omega)
  · have := (lt_len_iff hB).mpr h; (first | lia | omega)
theorem len_mono {B : Nat} (hB : 2 ≤ B) {n k : Nat} (h : n ≤ k) : len B n ≤ len B k :=
  (len_le_iff hB).mpr (Nat.lt_of_le_of_lt h (lt_pow_len hB k))
theorem len_eq_zero {B : Nat} (hB : 2 ≤ B) {n : Nat} : len B n = 0 ↔ n = 0 := by
  constructor
  · intro h; have := lt_pow_len hB n; rw [h] at this; simpa using this
  · rintro rfl; exact len_zero B

theorem digs_length (B n k : Nat) : (digs B n k).length = k := by simp [digs]
theorem row_length (B n : Nat) : (row B n).length = len B n := digs_length _ _ _
theorem digs_zero (B n : Nat) : digs B n 0 = [] := rfl
theorem digs_succ (B n k : Nat) : digs B n (k + 1) = digs B n k ++ [((dig B n k : Nat) : Int)] := by
  simp [digs, List.range_succ]
theorem digs_get {B n k i : Nat} (h : i < k) : (digs B n k)[i]? = some ((dig B n i : Nat) : Int) := by
  simp [digs, h]
theorem digs_getD {B n k i : Nat} (h : i < k) : (digs B n k).getD i 0 = ((dig B n i : Nat) : Int) := by
  simp [List.getD, digs_get h]
theorem digs_take {B n k j : Nat} (h : j ≤ k) : (digs B n k).take j = digs B n j := by
  simp only [digs, ← List.map_take, List.take_range, Nat.min_eq_left h]
theorem digs_eq {B n k : Nat} (hB : 2 ≤ B) (h1 : n < B ^ k) (h2 : k = 0 ∨ B ^ (k - 1) ≤ n) : digs B n k = row B n := by
  rw [row, len_eq hB h1 h2]
theorem row_zero (B : Nat) : row B 0 = [] := by rw [row, len_zero]; rfl
theorem dig_lt {B n i : Nat} (hB : 2 ≤ B) : dig B n i < B := Nat.mod_lt _ (by (first | lia | omega))
theorem dig_high {B n i : Nat} (h : n < B ^ i) : dig B n i = 0 := by
  rw [dig, Nat.div_eq_of_lt h, Nat.zero_mod]
theorem mod_succ (B n i : Nat) : n % B ^ (i + 1) = n % B ^ i + B ^ i * dig B n i := by
  rw [Nat.pow_succ, Nat.mod_mul]; rfl
/-- the limbs from j on are nought: the number is below B ^ j -/
theorem lt_of_digs {B n : Nat} (hB : 2 ≤ B) : ∀ {k j : Nat}, j ≤ k → n < B ^ k → (∀ i, j ≤ i → i < k → dig B n i = 0) → n < B ^ j := by
  intro k
  induction k with
  | zero => intro j hj h _; have : j = 0 := by (first | lia | omega)
            subst this; exact h
  | succ k ih =>
    intro j hj h hz
    by_cases e : j = k + 1
    · subst e; exact h
    · have hk := hz k (by (first | lia | omega)) (by (first | lia | omega))
      have h1 : n % B ^ (k + 1) = n := Nat.mod_eq_of_lt h
      rw [mod_succ, hk, Nat.mul_zero, Nat.add_zero] at h1
      have h2 : n % B ^ k < B ^ k := Nat.mod_lt _ (pow_pos' hB k)
      exact ih (by (first | lia | omega)) (by (first | lia | omega)) (fun i a b => hz i a (by (first | lia | omega)))
/-- a limb that is not nought bounds from below -/
theorem pow_le_of_dig {B n i : Nat} (h : dig B n i ≠ 0) : B ^ i ≤ n := by
  by_cases h1 : n < B ^ i
  · exact absurd (dig_high h1) h
  · (first | lia | omega)
theorem dig_top {B n k : Nat} (hB : 2 ≤ B) (h : len B n = k + 1) : dig B n k ≠ 0 := by
  intro e
  have h1 := lt_pow_len hB n
  rw [h] at h1
  have h2 := pow_le_of_len hB h
  have h3 : n < B ^ k := lt_of_digs hB (Nat.le_succ k) h1 (fun i a b => by have : i = k := by (first | lia | omega)
                                                                           subst this; exact e)
  (first | lia | omega)
theorem dig_div (B n j i : Nat) : dig B (n / B ^ j) i = dig B n (j + i) := by
  rw [dig, dig, Nat.div_div_eq_div_mul, ← Nat.pow_add]
theorem digs_drop (B n k j : Nat) : (digs B n k).drop j = digs B (n / B ^ j) (k - j) := by
  apply List.ext_getElem?
  intro i
  rw [List.getElem?_drop]
  by_cases h : j + i < k
  · rw [digs_get h, digs_get (by (first | lia | omega)), dig_div]
  · rw [List.getElem?_eq_none (by rw [digs_length]; (first | lia | omega)), List.getElem?_eq_none (by rw [digs_length]; (first | lia | omega))]
theorem len_div {B : Nat} (hB : 2 ≤ B) (n j : Nat) : len B (n / B ^ j) = len B n - j := by
  have hp := pow_pos' hB j
  by_cases h : len B n ≤ j
  · rw [Nat.div_eq_of_lt ((len_le_iff hB).mp h), len_zero]; (first | lia | omega)
  · apply len_eq hB
    · apply Nat.div_lt_of_lt_mul
      rw [← Nat.pow_add]
      have : j + (len B n - j) = len B n := by (first | lia | omega)
      rw [this]; exact lt_pow_len hB n
    · right
      rw [Nat.le_div_iff_mul_le hp, ← Nat.pow_add]
      apply pow_le_of_len hB; (first | lia | omega)
theorem row_drop {B : Nat} (hB : 2 ≤ B) (n j : Nat) : (row B n).drop j = row B (n / B ^ j) := by
  rw [row, digs_drop, row, len_div hB]
theorem len_mul {B : Nat} (hB : 2 ≤ B) {n : Nat} (hn : 0 < n) (j : Nat) : len B (n * B ^ j) = len B n + j := by
  obtain ⟨k, hk⟩ : ∃ k, len B n = k + 1 := by
    have := (lt_len_iff hB (n := n) (k := 0)).mpr (by simp only [Nat.pow_zero]; (first | lia | omega))
    exact ⟨len B n - 1, by (first | lia | omega)⟩
  apply len_eq hB
  · rw [Nat.pow_add]; exact Nat.mul_lt_mul_of_pos_right (lt_pow_len hB n) (pow_pos' hB j)
  · right
    have : len B n + j - 1 = k + j := by (first | lia | omega)
    rw [this, Nat.pow_add]; exact Nat.mul_le_mul_right _ (pow_le_of_len hB hk)
theorem row_get {B n i : Nat} (h : i < len B n) : (row B n)[i]? = some ((dig B n i : Nat) : Int) := digs_get h
theorem row_getD {B : Nat} (hB : 2 ≤ B) (n i : Nat) : (row B n).getD i 0 = ((dig B n i : Nat) : Int) := by
  by_cases h : i < len B n
  · exact digs_getD h
  · rw [dig_high ((len_le_iff hB).mp (Nat.not_lt.mp h))]
    simp [List.getD, List.getElem?_eq_none (show (row B n).length ≤ i by rw [row_length]; (first | lia | omega))]
theorem row_mul {B : Nat} (hB : 2 ≤ B) {n : Nat} (hn : 0 < n) (j : Nat) : List.replicate j 0 ++ row B n = row B (n * B ^ j) := by
  apply List.ext_getElem?
  intro i
  by_cases h : i < j
  · rw [List.getElem?_append_left (by simpa using h), row_get (by rw [len_mul hB hn]; (first | lia | omega))]
    have e : n * B ^ j = n * B ^ (j - i - 1) * B * B ^ i := by
      rw [Nat.mul_assoc, Nat.mul_assoc, ← Nat.pow_succ', ← Nat.pow_add]
      have : j - i - 1 + (i + 1) = j := by (first | lia | omega)
      rw [this]
    rw [dig, e, Nat.mul_div_cancel _ (pow_pos' hB i), Nat.mul_mod_left]
    simp [h]
  · rw [List.getElem?_append_right (by simp; (first | lia | omega)), List.length_replicate]
    by_cases h2 : i < len B n + j
    · rw [row_get (by (first | lia | omega)), row_get (by rw [len_mul hB hn]; (first | lia | omega))]
      have e : i = j + (i - j) := by (first | lia | omega)
      rw [e, ← dig_div, Nat.mul_div_cancel _ (pow_pos' hB j)]
      have : j + (i - j) - j = i - j := by (first | lia | omega)
      rw [this]
    · rw [List.getElem?_eq_none (by rw [row_length]; (first | lia | omega)), List.getElem?_eq_none (by rw [row_length, len_mul hB hn]; (first | lia | omega))]
theorem row_one {B : Nat} (hB : 2 ≤ B) : row B 1 = [1] := by
  have h1 : len B 1 = 1 := len_eq hB (by simp only [Nat.pow_one]; (first | lia | omega)) (by right; simp)
  rw [row, h1, digs_succ, digs_zero]
  have : dig B 1 0 = 1 := by rw [dig]; simp; exact Nat.mod_eq_of_lt hB
  rw [this]; rfl
theorem row_pow {B : Nat} (hB : 2 ≤ B) (k : Nat) : row B (B ^ k) = List.replicate k 0 ++ [1] := by
  have := row_mul hB (n := 1) (by (first | lia | omega)) k
  rw [Nat.one_mul, row_one hB] at this; exact this.symm
theorem digs_inj {B : Nat} (hB : 2 ≤ B) {n m k : Nat} (hn : n < B ^ k) (hm : m < B ^ k) (h : ∀ i, i < k → dig B n i = dig B m i) : n = m := by
  induction k generalizing n m with
  | zero => simp at hn hm; (first | lia | omega)
  | succ k ih =>
    have e1 : n % B ^ (k + 1) = n := Nat.mod_eq_of_lt hn
    have e2 : m % B ^ (k + 1) = m := Nat.mod_eq_of_lt hm
    rw [mod_succ] at e1 e2
    have h3 := h k (by (first | lia | omega))
    have h4 : ∀ x i, i < k → dig B (x % B ^ k) i = dig B x i := by
      intro x i hi
      rw [dig, dig]
      have e : B ^ k = B ^ i * (B * B ^ (k - i - 1)) := by
        rw [← Nat.pow_succ', ← Nat.pow_add]
        have : i + (k - i - 1 + 1) = k := by (first | lia | omega)
        rw [this]
      rw [e, Nat.mod_mul_right_div_self, Nat.mod_mul_right_mod]
    have h5 : n % B ^ k = m % B ^ k := ih (Nat.mod_lt _ (pow_pos' hB k)) (Nat.mod_lt _ (pow_pos' hB k)) (fun i hi => by rw [h4 _ _ hi, h4 _ _ hi]; exact h i (by (first | lia | omega)))
    rw [← e1, ← e2, h5, h3]
theorem row_inj {B : Nat} (hB : 2 ≤ B) {n m : Nat} (h : row B n = row B m) : n = m := by
  have hl : len B n = len B m := by rw [← row_length, ← row_length, h]
  refine digs_inj hB (lt_pow_len hB n) (by rw [hl]; exact lt_pow_len hB m) (fun i hi => ?_)
  have h1 := row_get hi
  rw [h, row_get (by (first | lia | omega))] at h1
  have := Option.some.inj h1
  (first | lia | omega)
/-- of two numbers of one length: the first differing limb from above decides -/
theorem lt_of_dig_lt {B : Nat} (hB : 2 ≤ B) {n m k : Nat} (hab : ∀ i, k < i → dig B n i = dig B m i) (h : dig B n k < dig B m k) : n < m := by
  -- the parts above agree
  have hup : n / B ^ (k + 1) = m / B ^ (k + 1) := by
    have hN : ∃ K, n / B ^ (k + 1) < B ^ K ∧ m / B ^ (k + 1) < B ^ K := by
      refine ⟨max (len B (n / B ^ (k + 1))) (len B (m / B ^ (k + 1))), ?_, ?_⟩
      · exact (len_le_iff hB).mp (Nat.le_max_left _ _)
      · exact (len_le_iff hB).mp (Nat.le_max_right _ _)
    obtain ⟨K, h1, h2⟩ := hN
    refine digs_inj hB h1 h2 (fun i _ => ?_)
    rw [dig_div, dig_div]; exact hab _ (by (first | lia | omega))
  have e1 := Nat.mod_add_div n (B ^ (k + 1))
  have e2 := Nat.mod_add_div m (B ^ (k + 1))
  rw [mod_succ] at e1 e2
  rw [hup] at e1
  generalize B ^ (k + 1) * (m / B ^ (k + 1)) = Z at e1 e2
  have h1 : n % B ^ k < B ^ k := Nat.mod_lt _ (pow_pos' hB k)
  have h2 : B ^ k * dig B n k + B ^ k ≤ B ^ k * dig B m k := by
    have := Nat.mul_le_mul_left (B ^ k) (show dig B n k + 1 ≤ dig B m k by (first | lia | omega))
    rw [Nat.mul_add, Nat.mul_one] at this; exact this
  generalize m % B ^ k = f at e2
  generalize n % B ^ k = f' at e1 h1
  (first | lia | omega)
end Mine
end
section
namespace Mine
/-- what is borrowed from place i when y is taken from x -/
def bor (B x y i : Nat) : Nat := if x % B ^ i < y % B ^ i then 1 else 0
theorem bor_zero (B x y : Nat) : bor B x y 0 = 0 := by simp [bor, Nat.mod_one]
theorem bor_le (B x y i : Nat) : bor B x y i ≤ 1 := by rw [bor]; split <;> (first | lia | omega)
theorem div_of {n P q r : Nat} (hP : 0 < P) (h : n = r + P * q) (hr : r < P) : n / P = q := by
  rw [h, Nat.add_mul_div_left _ _ hP, Nat.div_eq_of_lt hr, Nat.zero_add]
theorem mod_of {n P q r : Nat} (h : n = r + P * q) (hr : r < P) : n % P = r := by
  rw [h, Nat.add_mul_mod_self_left, Nat.mod_eq_of_lt hr]
theorem sub_mod {B q1 q2 : Nat} (hB : 2 ≤ B) (h : q2 ≤ q1) :
    (q2 % B ≤ q1 % B → (q1 - q2) % B = q1 % B - q2 % B) ∧ (q1 % B < q2 % B → (q1 - q2) % B = q1 % B + B - q2 % B) := by
  have e1 := Nat.mod_add_div q1 B
  have e2 := Nat.mod_add_div q2 B
  have l1 : q1 % B < B := Nat.mod_lt _ (by (first | lia | omega))
  have l2 : q2 % B < B := Nat.mod_lt _ (by (first | lia | omega))
  generalize q1 % B = a at *
  generalize q2 % B = b at *
  constructor
  · intro hab
    have hd : q2 / B ≤ q1 / B := Nat.div_le_div_right h
    refine mod_of (q := q1 / B - q2 / B) ?_ (by (first | lia | omega))
    rw [Nat.mul_sub]
    have := Nat.mul_le_mul_left B hd
    (first | lia | omega)
  · intro hab
    have hd : q2 / B < q1 / B := by
      rcases Nat.lt_or_ge (q2 / B) (q1 / B) with h1 | h1
      · exact h1
      · exfalso
        have := Nat.mul_le_mul_left B h1
        (first | lia | omega)
    refine mod_of (q := q1 / B - q2 / B - 1) ?_ (by (first | lia | omega))
    have e3 : B * (q1 / B - q2 / B - 1) = B * (q1 / B) - B * (q2 / B) - B := by
      rw [Nat.mul_sub, Nat.mul_sub, Nat.mul_one]
    have := Nat.mul_le_mul_left B (Nat.succ_le_of_lt hd)
    rw [Nat.succ_eq_add_one, Nat.mul_add, Nat.mul_one] at this
    (first | lia | omega)
theorem sub_div {P x y : Nat} (hP : 0 < P) (h : y ≤ x) :
    (y % P ≤ x % P → (x - y) / P = x / P - y / P) ∧ (x % P < y % P → (x - y) / P = x / P - y / P - 1 ∧ y / P < x / P) := by
  have e1 := Nat.mod_add_div x P
  have e2 := Nat.mod_add_div y P
  have l1 : x % P < P := Nat.mod_lt _ hP
  have l2 : y % P < P := Nat.mod_lt _ hP
  generalize x % P = a at *
  generalize y % P = b at *
  constructor
  · intro hab
    have hd : y / P ≤ x / P := Nat.div_le_div_right h
    refine div_of (r := a - b) hP ?_ (by (first | lia | omega))
    rw [Nat.mul_sub]
    have := Nat.mul_le_mul_left P hd
    (first | lia | omega)
  · intro hab
    have hd : y / P < x / P := by
      rcases Nat.lt_or_ge (y / P) (x / P) with h1 | h1
      · exact h1
      · exfalso
        have := Nat.mul_le_mul_left P h1
        (first | lia | omega)
    refine ⟨div_of (r := a + P - b) hP ?_ (by (first | lia | omega)), hd⟩
    have e3 : P * (x / P - y / P - 1) = P * (x / P) - P * (y / P) - P := by
      rw [Nat.mul_sub, Nat.mul_sub, Nat.mul_one]
    have := Nat.mul_le_mul_left P (Nat.succ_le_of_lt hd)
    rw [Nat.succ_eq_add_one, Nat.mul_add, Nat.mul_one] at this
    (first | lia | omega)
theorem dig_sub {B x y : Nat} (hB : 2 ≤ B) (h : y ≤ x) (i : Nat) :
    (dig B y i + bor B x y i ≤ dig B x i → dig B (x - y) i = dig B x i - bor B x y i - dig B y i) ∧
    (dig B x i < dig B y i + bor B x y i → dig B (x - y) i = dig B x i + B - bor B x y i - dig B y i) := by
  have hp := pow_pos' hB i
  have hd := sub_div hp h
  have l1 : dig B x i < B := dig_lt hB
  have l2 : dig B y i < B := dig_lt hB
  by_cases hb : x % B ^ i < y % B ^ i
  · have eb : bor B x y i = 1 := by rw [bor, if_pos hb]
    obtain ⟨e, hlt⟩ := hd.2 hb
    have hle : y / B ^ i + 1 ≤ x / B ^ i := hlt
    have e2 : dig B (x - y) i = (x / B ^ i - (y / B ^ i + 1)) % B := by rw [dig, e]; congr 1
    have hm := sub_mod hB hle
    have e3 : dig B x i = x / B ^ i % B := rfl
    have e4 : dig B y i = y / B ^ i % B := rfl
    rw [eb, e2]
    by_cases hw : dig B y i + 1 < B
    · have e5 : (y / B ^ i + 1) % B = dig B y i + 1 := by
        rw [Nat.add_mod, ← e4, Nat.mod_eq_of_lt (show 1 < B by (first | lia | omega)), Nat.mod_eq_of_lt hw]
      rw [e5, ← e3] at hm
      constructor
      · intro h1; rw [hm.1 h1]; (first | lia | omega)
      · intro h1; rw [hm.2 h1]; (first | lia | omega)
    · have e5 : (y / B ^ i + 1) % B = 0 := by
        rw [Nat.add_mod, ← e4, Nat.mod_eq_of_lt (show 1 < B by (first | lia | omega))]
        have : dig B y i + 1 = B := by (first | lia | omega)
        rw [this, Nat.mod_self]
      rw [e5, ← e3] at hm
      have := hm.1 (Nat.zero_le _)
      constructor
      · intro h1; (first | lia | omega)
      · intro h1; (first | lia | omega)
  · have eb : bor B x y i = 0 := by rw [bor, if_neg hb]
    have e := hd.1 (by (first | lia | omega))
    have hle : y / B ^ i ≤ x / B ^ i := Nat.div_le_div_right h
    have e2 : dig B (x - y) i = (x / B ^ i - y / B ^ i) % B := by rw [dig, e]
    have hm := sub_mod hB hle
    have e3 : dig B x i = x / B ^ i % B := rfl
    have e4 : dig B y i = y / B ^ i % B := rfl
    rw [← e3, ← e4] at hm
    rw [eb, e2]
    constructor
    · intro h1; rw [hm.1 (by (first | lia | omega))]; (first | lia | omega)
    · intro h1; rw [hm.2 (by (first | lia | omega))]; (first | lia | omega)
theorem bor_step {B x y : Nat} (hB : 2 ≤ B) (i : Nat) :
    (dig B y i + bor B x y i ≤ dig B x i → bor B x y (i + 1) = 0) ∧ (dig B x i < dig B y i + bor B x y i → bor B x y (i + 1) = 1) := by
  have hp := pow_pos' hB i
  have e1 := mod_succ B x i
  have e2 := mod_succ B y i
  have l1 : x % B ^ i < B ^ i := Nat.mod_lt _ hp
  have l2 : y % B ^ i < B ^ i := Nat.mod_lt _ hp
  constructor
  · intro h
    rw [bor, if_neg]
    rw [e1, e2]
    by_cases hb : x % B ^ i < y % B ^ i
    · rw [bor, if_pos hb] at h
      have := Nat.mul_le_mul_left (B ^ i) h
      rw [Nat.mul_add, Nat.mul_one] at this
      generalize x % B ^ i = a at *; generalize y % B ^ i = b at *
      (first | lia | omega)
    · rw [bor, if_neg hb] at h
      have := Nat.mul_le_mul_left (B ^ i) h
      rw [Nat.add_zero] at this
      generalize x % B ^ i = a at *; generalize y % B ^ i = b at *
      (first | lia | omega)
  · intro h
    rw [bor, if_pos]
    rw [e1, e2]
    by_cases hb : x % B ^ i < y % B ^ i
    · rw [bor, if_pos hb] at h
      have := Nat.mul_le_mul_left (B ^ i) (Nat.le_of_lt_succ h)
      generalize x % B ^ i = a at *; generalize y % B ^ i = b at *
      (first | lia | omega)
    · rw [bor, if_neg hb] at h
      have := Nat.mul_le_mul_left (B ^ i) (Nat.succ_le_of_lt h)
      rw [Nat.succ_eq_add_one, Nat.mul_add, Nat.mul_one, Nat.add_zero] at this
      generalize x % B ^ i = a at *; generalize y % B ^ i = b at *
      (first | lia | omega)
/-- one place of a subtraction, in ints -/
theorem sub_place {B x y : Nat} (hB : 2 ≤ B) (h : y ≤ x) (i : Nat) :
    ((dig B x i : Int) - bor B x y i - dig B y i < 0 → (dig B (x - y) i : Int) = dig B x i - bor B x y i - dig B y i + B ∧ bor B x y (i + 1) = 1) ∧
    (¬ (dig B x i : Int) - bor B x y i - dig B y i < 0 → (dig B (x - y) i : Int) = dig B x i - bor B x y i - dig B y i ∧ bor B x y (i + 1) = 0) := by
  have h1 := dig_sub hB h i
  have h2 := bor_step (x := x) (y := y) hB i
  have l2 : dig B y i < B := dig_lt hB
  have l3 := bor_le B x y i
  constructor
  · intro h3
    have h4 := h1.2 (by (first | lia | omega))
    exact ⟨by (first | lia | omega), h2.2 (by (first | lia | omega))⟩
  · intro h3
    have h4 := h1.1 (by (first | lia | omega))
    exact ⟨by (first | lia | omega), h2.1 (by (first | lia | omega))⟩
theorem bits_zero {r b : Nat} (h : r < b) : r * 2 ^ 0 % b = r ∧ r * 2 ^ 0 / b = 0 := by
  rw [Nat.pow_zero, Nat.mul_one]; exact ⟨Nat.mod_eq_of_lt h, Nat.div_eq_of_lt h⟩
theorem bits_step {r b i : Nat} (hb : 0 < b) :
    (b ≤ 2 * (r * 2 ^ i % b) → r * 2 ^ (i + 1) % b = 2 * (r * 2 ^ i % b) - b ∧ r * 2 ^ (i + 1) / b = 2 * (r * 2 ^ i / b) + 1) ∧
    (2 * (r * 2 ^ i % b) < b → r * 2 ^ (i + 1) % b = 2 * (r * 2 ^ i % b) ∧ r * 2 ^ (i + 1) / b = 2 * (r * 2 ^ i / b)) := by
  have e := Nat.mod_add_div (r * 2 ^ i) b
  have l := Nat.mod_lt (r * 2 ^ i) hb
  have e2 : r * 2 ^ (i + 1) = 2 * (r * 2 ^ i) := by rw [Nat.pow_succ, ← Nat.mul_assoc, Nat.mul_comm]
  rw [e2]
  generalize hR : r * 2 ^ i % b = R at *
  generalize hQ : r * 2 ^ i / b = Q at *
  have e3 : 2 * (r * 2 ^ i) = 2 * R + b * (2 * Q) := by rw [← e, Nat.mul_add, Nat.mul_left_comm]
  rw [e3]
  constructor
  · intro h
    have e4 : 2 * R + b * (2 * Q) = (2 * R - b) + b * (2 * Q + 1) := by rw [Nat.mul_add, Nat.mul_one]; (first | lia | omega)
    exact ⟨mod_of e4 (by (first | lia | omega)), div_of hb e4 (by (first | lia | omega))⟩
  · intro h
    exact ⟨mod_of rfl h, div_of hb rfl h⟩
theorem len_double {B x b : Nat} (hB : 2 ≤ B) (h : x < b) : len B (2 * x) ≤ len B b + 1 := by
  refine (len_le_iff hB).mpr ?_
  have h1 := lt_pow_len hB b
  rw [Nat.pow_succ]
  have h2 : B ^ len B b * 2 ≤ B ^ len B b * B := Nat.mul_le_mul_left _ hB
  (first | lia | omega)
theorem len_two_pow {B n x : Nat} (hB : 2 ≤ B) (h : x ≤ 2 ^ n) : len B x ≤ n + 1 := by
  refine (len_le_iff hB).mpr ?_
  have h1 : 2 ^ (n + 1) ≤ B ^ (n + 1) := Nat.pow_le_pow_left hB _
  have h2 : 2 ^ n < 2 ^ (n + 1) := Nat.pow_lt_pow_right (by (first | lia | omega)) (by (first | lia | omega))
  (first | lia | omega)
theorem one_len {B : Nat} (hB : 2 ≤ B) : len B 1 = 1 := len_eq hB (by rw [Nat.pow_one]; (first | lia | omega)) (.inr (by simp))
theorem pow_len {B : Nat} (hB : 2 ≤ B) (j : Nat) : len B (1 * B ^ j) = j + 1 := by
  rw [len_mul hB (by (first | lia | omega)), one_len hB]; (first | lia | omega)
theorem first_le {B b : Nat} (hB : 2 ≤ B) (hb : 0 < b) : 1 * B ^ (len B b - 1) ≤ b := by
  rw [Nat.one_mul]
  have h : len B b ≠ 0 := fun h => by have := (len_eq_zero hB).mp h; (first | lia | omega)
  exact pow_le_of_len hB (by (first | lia | omega))
theorem len_pos_of {B b : Nat} (hB : 2 ≤ B) (hb : 0 < b) : 0 < len B b := by
  have h : len B b ≠ 0 := fun h => by have := (len_eq_zero hB).mp h; (first | lia | omega)
  (first | lia | omega)
theorem whole_end0 {B b n : Nat} (hB : 2 ≤ B) (hl : 0 < len B b) (hn : len B b ≤ n + 1) (h : 1 * B ^ (len B b - 1) = b) : 1 * B ^ (n + 1 - len B b) = B ^ n / b := by
  have hp := pow_pos' hB (len B b - 1)
  rw [Nat.one_mul] at *
  have e : B ^ n = b * B ^ (n + 1 - len B b) := by
    rw [← h, ← Nat.pow_add]
    have hlen : len B (B ^ (len B b - 1)) = len B b := by rw [h]
    rw [hlen]
    congr 1; (first | lia | omega)
  rw [e, Nat.mul_div_cancel_left _ (by (first | lia | omega))]
theorem whole_end1 {B b n k : Nat} (hBk : B = 2 ^ k) (hl : 0 < len B b) (hn : len B b ≤ n + 1) : 1 * B ^ (len B b - 1) * 2 ^ (k * (n + 1 - len B b)) / b = B ^ n / b := by
  rw [Nat.one_mul, Nat.pow_mul, ← hBk, ← Nat.pow_add]
  congr 2; (first | lia | omega)
theorem hor_step {B x n i : Nat} (h : i < n) : x / B ^ (n - i) * B + dig B x (n - 1 - i) = x / B ^ (n - (i + 1)) := by
  have e : n - i = (n - 1 - i) + 1 := by (first | lia | omega)
  have e2 : n - (i + 1) = n - 1 - i := by (first | lia | omega)
  rw [e, e2, Nat.pow_succ, ← Nat.div_div_eq_div_mul, dig]
  have := Nat.mod_add_div (x / B ^ (n - 1 - i)) B
  rw [Nat.mul_comm]; (first | lia | omega)
theorem row_end {B v i : Nat} (hB : 2 ≤ B) (h0 : v / B ^ i = 0) (h1 : i = 0 ∨ B ^ (i - 1) ≤ v) : digs B v i = row B v :=
  digs_eq hB (by
    have hp := pow_pos' hB i
    rcases Nat.lt_or_ge v (B ^ i) with h | h
    · exact h
    · have := Nat.div_pos h hp; (first | lia | omega)) h1
theorem row_place {B v i : Nat} (hB : 2 ≤ B) (h : 0 < v / B ^ i) : B ^ i ≤ v := by
  have hp := pow_pos' hB i
  exact (Nat.div_pos_iff.mp h).2
theorem row_small {B v i : Nat} (hB : 2 ≤ B) (h : 0 < v / B ^ i) : i < len B v := (lt_len_iff hB).mpr (row_place hB h)
theorem row_less {B v i : Nat} (hB : 2 ≤ B) (h : 0 < v / B ^ i) : v / B ^ (i + 1) < v / B ^ i := by
  rw [Nat.pow_succ, ← Nat.div_div_eq_div_mul]; exact Nat.div_lt_self h hB
theorem len_prod {B x y : Nat} (hB : 2 ≤ B) : len B (x * y) ≤ len B x + len B y := by
  refine (len_le_iff hB).mpr ?_
  rw [Nat.pow_add]
  exact Nat.mul_lt_mul'' (lt_pow_len hB x) (lt_pow_len hB y)
theorem quot_le {r b i : Nat} (h : r < b) : r * 2 ^ i / b ≤ 2 ^ i := by
  refine Nat.div_le_of_le_mul ?_
  exact Nat.mul_le_mul_right _ (Nat.le_of_lt h)
end Mine
end
section
namespace Mine
theorem pos_of_len {B x : Nat} (h : 0 < len B x) : 0 < x := by
  rcases Nat.eq_zero_or_pos x with e | e
  · subst e; rw [len_zero] at h; omega
  · exact e
theorem high_len {B b K : Nat} (hB : 2 ≤ B) (hK : K ≤ len B b) : len B (b / B ^ (len B b - K)) = K := by
  rw [len_div hB]; omega
theorem quot_len {B N h : Nat} (hB : 2 ≤ B) : len B (B ^ N / h) ≤ N + 1 := by
  refine (len_le_iff hB).mpr ?_
  have h1 : B ^ N / h ≤ B ^ N := Nat.div_le_self _ _
  have h2 : B ^ N < B ^ (N + 1) := Nat.pow_lt_pow_right (by omega) (by omega)
  omega
theorem twice_len {B x g n : Nat} (hB : 2 ≤ B) (h : x ≤ 2 * g) (hg : len B g ≤ n) : len B x ≤ n + 1 := by
  refine (len_le_iff hB).mpr ?_
  have h1 := (len_le_iff hB).mp hg
  rw [Nat.pow_succ]
  have h2 : B ^ n * 2 ≤ B ^ n * B := Nat.mul_le_mul_left _ hB
  omega
theorem guess_le {B b K R m n : Nat} (hB : 2 ≤ B) (hK : K ≤ len B b) (hK0 : 0 < K) (hR : R + 1 ≤ m) (hn : n + 1 = len B b + m) :
    B ^ (K + R) / (b / B ^ (len B b - K)) * B ^ (m - R - 1) * b ≤ 2 * B ^ n := by
  have hP := pow_pos' hB (len B b - K)
  have hh : 0 < b / B ^ (len B b - K) := pos_of_len (B := B) (by rw [high_len hB hK]; exact hK0)
  have hb : b ≤ B ^ (len B b - K) * (2 * (b / B ^ (len B b - K))) := by
    have h1 := Nat.mod_add_div b (B ^ (len B b - K))
    have h2 := Nat.mod_lt b hP
    have h3 := Nat.mul_le_mul_left (B ^ (len B b - K)) hh
    rw [Nat.mul_left_comm]
    omega
  have hn2 : B ^ n = B ^ (K + R) * B ^ (m - R - 1) * B ^ (len B b - K) := by
    rw [← Nat.pow_add, ← Nat.pow_add]; congr 1; omega
  have hq : B ^ (K + R) / (b / B ^ (len B b - K)) * (b / B ^ (len B b - K)) ≤ B ^ (K + R) := Nat.div_mul_le_self _ _
  rw [hn2]
  generalize b / B ^ (len B b - K) = h at *
  generalize B ^ (len B b - K) = P at *
  generalize B ^ (m - R - 1) = T at *
  generalize B ^ (K + R) = S at *
  calc S / h * T * b ≤ S / h * T * (P * (2 * h)) := Nat.mul_le_mul_left _ hb
    _ = (S / h * h) * (2 * (T * P)) := by ac_rfl
    _ ≤ S * (2 * (T * P)) := Nat.mul_le_mul_right _ hq
    _ = 2 * (S * T * P) := by ac_rfl
theorem small_end {B b n : Nat} (hB : 2 ≤ B) (hn : n + 1 ≤ len B b) : (1 * B ^ n < b → B ^ n / b = 0) ∧ (b ≤ 1 * B ^ n → B ^ n / b = 1) := by
  rw [Nat.one_mul]
  have hb0 : 0 < b := pos_of_len (B := B) (by omega)
  have h1 : B ^ n ≤ b := (lt_len_iff hB).mp hn
  refine ⟨fun h => Nat.div_eq_of_lt h, fun h => ?_⟩
  have e : B ^ n = b := by omega
  rw [e]; exact Nat.div_self hb0
theorem quot_mul_le {a P b : Nat} : a * (P / b) / P * b ≤ a := by
  rcases Nat.eq_zero_or_pos P with h | h
  · subst h; simp
  · have h1 : P / b * b ≤ P := Nat.div_mul_le_self _ _
    have h2 : a * (P / b) / P * P ≤ a * (P / b) := Nat.div_mul_le_self _ _
    generalize a * (P / b) / P = q at *
    have h3 : q * b * P ≤ a * P := by
      calc q * b * P = q * P * b := by ac_rfl
        _ ≤ a * (P / b) * b := Nat.mul_le_mul_right _ h2
        _ = a * (P / b * b) := by ac_rfl
        _ ≤ a * P := Nat.mul_le_mul_left _ h1
    exact Nat.le_of_mul_le_mul_right h3 h
theorem total_step {v z : Int} {i : Nat} (h : 0 ≤ v ∧ v < (65536 : Int) ^ i) : 0 ≤ v * 65536 + z.fmod 65536 ∧ v * 65536 + z.fmod 65536 < (65536 : Int) ^ (i + 1) := by
  rw [Int.fmod_eq_emod_of_nonneg _ (by decide), Int.pow_succ]
  generalize (65536 : Int) ^ i = P at *
  omega
theorem total_end {v : Int} {n : Nat} (h : 0 ≤ v ∧ v < (65536 : Int) ^ n) (hn : n ≤ 24) : v.toNat.log2 < 400 := by
  by_cases h0 : v.toNat = 0
  · rw [h0, Nat.log2_zero]; omega
  · rw [Nat.log2_lt h0]
    have h1 : (65536 : Int) ^ n = ((65536 ^ n : Nat) : Int) := by rw [Int.natCast_pow]; rfl
    have h2 : (65536 : Nat) ^ n ≤ 65536 ^ 24 := Nat.pow_le_pow_right (by decide) hn
    have h3 : (65536 : Nat) ^ 24 ≤ 2 ^ 400 := by decide +kernel
    omega
theorem total_zero : 0 ≤ (0 : Int) ∧ (0 : Int) < (65536 : Int) ^ 0 := ⟨by decide, by decide⟩
theorem share_b {B k b : Nat} (hB : 2 ≤ B) (hBk : B = 2 ^ k) (h : b ≤ 2 ^ (k * 6)) : len B b ≤ 7 := by
  refine (len_le_iff hB).mpr ?_
  have e : 2 ^ (k * 6) = B ^ 6 := by rw [hBk, ← Nat.pow_mul]
  have h2 : B ^ 6 < B ^ 7 := Nat.pow_lt_pow_right (by omega) (by omega)
  omega
theorem share_a {B k a : Nat} (hB : 2 ≤ B) (hBk : B = 2 ^ k) (h : a ≤ 2 ^ (k * 6) * 2 ^ (k * 6) + 2 ^ (k * 6)) : len B a ≤ 13 := by
  refine (len_le_iff hB).mpr ?_
  have e : 2 ^ (k * 6) = B ^ 6 := by rw [hBk, ← Nat.pow_mul]
  have h1 : B ^ 6 * B ^ 6 = B ^ 12 := by rw [← Nat.pow_add]
  have h2 : B ^ 6 < B ^ 12 := Nat.pow_lt_pow_right (by omega) (by omega)
  have h3 : B ^ 13 = B ^ 12 * B := Nat.pow_succ ..
  have h4 : B ^ 12 * 2 ≤ B ^ 12 * B := Nat.mul_le_mul_left _ hB
  rw [e, h1] at h
  omega
theorem len_succ {B n : Nat} (hB : 2 ≤ B) : len B (n + 1) ≤ len B n + 1 := by
  refine (len_le_iff hB).mpr ?_
  have h1 := lt_pow_len hB n
  have h2 : B ^ len B n < B ^ (len B n + 1) := Nat.pow_lt_pow_right (by omega) (by omega)
  omega
end Mine
end
section
namespace Mine
open PySem.Challenge

def Tell (prog : Program) (w : World) (f : Addr) (vs : List Value) (k : Nat) (news : List (Addr × Obj)) (Ret : Value → List (Addr × Obj) → Prop) : Prop :=
  ∀ (dp un : Nat) (gd : Option (List Code)) (cn : Str) (cs : Scope) (a : Addr) (ccd : Value) (cl : List (Str × Addr)) (outer : List Env) (A₀ : Around) (base h₀ : Heap) (L : Addr) (m : Str → Option Value) (s : Shared) (mean : ExcName → Option Value) (mg mb : Str → Option Value)
    (Q E : Value → Shared → Prop),
    Below A₀ base outer h₀ → Fr h₀ L s.heap m → (hd.heap_39 w.params).In h₀ → News h₀ L s.heap news → Top topProg (looseW vw [] ++ (recsOf vw).map (·.name) ++ (litsOf vw).map (·.1) ++ (clssOf vw (looseW vw [])).map (·.name)) mean mg mb h₀ → cs.kind = .function → dp + k < recursionLimit → un + 8 * k < cLine →
    (∀ r news' h' tk', Fr h₀ L h' m → News h₀ L h' news' → Ret r news' → Q r { s with heap := h', toks := tk' }) →
    wpAny (model prog w) (ktrTop dp un gd cn cs L a ccd cl outer) (call (.ref f) vs) Q E s
end Mine
end
section
namespace Mine
open PySem.Challenge

/-- the ledger has grown by one list, whose ints are the row of n -/
def NewRow (B n : Nat) (news : List (Addr × Obj)) (r : Value) (news' : List (Addr × Obj)) : Prop :=
  ∃ l vs c, r = .ref l ∧ news' = (l, listOf vs.toArray c) :: news ∧ (∀ p ∈ news, p.1 < l) ∧ IntsAre vs (row B n)

theorem news_sub {h₀ h : Heap} {L : Addr} {l l' : List (Addr × Obj)} (N : News h₀ L h l) (hs : ∀ p ∈ l', p ∈ l) : News h₀ L h l' := fun p hp => N p (hs p hp)
theorem fr_ps {h₀ h : Heap} {L : Addr} {m : Str → Option Value} {ps : List (Str × Value)} (F : Fr h₀ L h m) (hk : ∀ p ∈ ps, m p.1 = some p.2) : Fr h₀ L h (kstB m ps) := by
  have e : kstB m ps = m := by funext z; exact kstB_eq hk fun _ => rfl
  rw [e]; exact F
theorem fr_ps1 {h₀ h : Heap} {L : Addr} {m : Str → Option Value} {x : Str} {v : Value} {ps : List (Str × Value)} (F : Fr h₀ L h (fun y => if y = x then some v else m y)) (hk : ∀ p ∈ ps, m p.1 = some p.2) :
    Fr h₀ L h (fun y => if y = x then some v else kstB m ps y) := by
  have e : kstB m ps = m := by funext z; exact kstB_eq hk fun _ => rfl
  rw [e]; exact F

section
variable {prog : Program} {w : World} {A : Around} {E : Value → Shared → Prop} {s : Shared} {env : Env} {h₀ : Heap} {L : Addr} {x : Str} {body : List Stmt} {Q : Flow → Shared → Prop} {σ : Type}

def FEnd (h₀ : Heap) (L : Addr) (s : Shared) (Led : σ → List (Addr × Obj)) (ps : σ → List (Str × Value)) (P : σ → Prop) (I : Addr) (it : Obj) (s₂ : Shared) : Prop :=
  ∃ (c' : σ) (h' : Heap) (tk : Nat) (m' : Str → Option Value), s₂ = { s with heap := h', toks := tk } ∧ Fr h₀ L h' m' ∧ News h₀ L h' ((I, it) :: Led c') ∧ (∀ p ∈ Led c', p.1 ≠ I) ∧ (∀ p ∈ ps c', m' p.1 = some p.2) ∧ P c'
def FPost (h₀ : Heap) (L : Addr) (s : Shared) (Led : σ → List (Addr × Obj)) (ps : σ → List (Str × Value)) (P : σ → Prop) (I : Addr) (it : Obj) (Q : Flow → Shared → Prop) (f : Flow) (s₂ : Shared) : Prop :=
  match f with
  | .ret v => Q (.ret v) s₂
  | .brk => Q .next s₂
  | _ => FEnd h₀ L s Led ps P I it s₂
theorem FEnd.mk {Led : σ → List (Addr × Obj)} {ps : σ → List (Str × Value)} {P : σ → Prop} {I : Addr} {it : Obj} {h' : Heap} {tk : Nat} {m' : Str → Option Value} (c' : σ) (F : Fr h₀ L h' m') (N : News h₀ L h' ((I, it) :: Led c'))
    (hI : ∀ p ∈ Led c', p.1 ≠ I) (hk : ∀ p ∈ ps c', m' p.1 = some p.2) (hp : P c') : FEnd h₀ L s Led ps P I it { s with heap := h', toks := tk } := ⟨c', h', tk, m', rfl, F, N, hI, hk, hp⟩

theorem forR {r : Addr} {a₀ b₀ d₀ : Int} {t₀ u₀ v₀ : Tok} {m₀ : Str → Option Value} (Led : σ → List (Addr × Obj)) (ps : σ → List (Str × Value)) (P : Nat → σ → Prop) (n : Nat) (c₀ : σ)
    (hh : A.handled = none) (hr : IsRange s.heap r a₀ b₀ d₀ t₀ u₀ v₀) (hsmall : Builtin.Range.small a₀ b₀ d₀ = true) (hn : Builtin.Range.rangeSize a₀ b₀ d₀ = (n : Int))
    (F : Fr h₀ env.locals s.heap m₀) (N : News h₀ env.locals s.heap (Led c₀)) (hk : ∀ p ∈ ps c₀, m₀ p.1 = some p.2) (hp : P 0 c₀)
    (turn : ∀ i c (u : Str → Option Value) t I it h tk, i < n → P i c → (∀ p ∈ Led c, p.1 ≠ I) → Fr h₀ env.locals h (fun y => if y = x then some (.int (a₀ + (i : Int) * d₀) t) else kstB u (ps c) y) → News h₀ env.locals h ((I, it) :: Led c) →
      wpAny (model prog w) A (execs body env) (FPost h₀ env.locals { s with heap := h, toks := tk } Led ps (P (i + 1)) I it Q) E { s with heap := h, toks := tk })
    (done : ∀ c (u : Str → Option Value) h tk, P n c → Fr h₀ env.locals h (kstB u (ps c)) → News h₀ env.locals h (Led c) → Q .next { s with heap := h, toks := tk }) :
    wpAny (model prog w) A (pyIter (.ref r)) (fun it s₂ => LoopAtV prog w A h₀ env x body Q E it s₂) E s := by
  refine wpAny_pyIter_range hr hsmall ?_
  have W : Walks prog w A s.heap.objs.size [s.heap.objs.size] [s.heap.objs.size] n (fun i v => ∃ t, v = .int (a₀ + i * d₀) t)
      (fun i h => IsRangeIter h s.heap.objs.size (a₀ + (i : Nat) * d₀) ((n : Int) - (i : Nat)) d₀) := Walks.range hh _ a₀ d₀ n
  let J : Nat → (Str → Option Value) → List (Addr × Obj) → Prop := fun i m nx => ∃ c : σ, nx = Led c ∧ (∀ p ∈ ps c, m p.1 = some p.2) ∧ P i c
  refine ⟨_, _, _, n, _, _, m₀, Led c₀, J, rfl, W, ?_, ?_, ?_, (by show IsRangeIter _ _ _ _ _; rw [hn]; simpa using Heap.get?_push_size _ rfl), F.push _, (fun p hp => ⟨Heap.get?_push_of_some _ (N p hp).1, (N p hp).2⟩), ⟨c₀, rfl, hk, hp⟩, ?_, ?_⟩
  · intro hm
    exact absurd F.ns.lt ((List.mem_singleton.mp hm) ▸ Nat.lt_irrefl _)
  · intro b hb
    rw [List.mem_singleton.mp hb]
    exact next_is_new F
  · intro p hp hI
    exact absurd (Heap.lt_size (N p hp).1) ((List.mem_singleton.mp hI) ▸ Nat.lt_irrefl _)
  · rintro i v m₁ news₁ s₁ own ⟨hh', tk', rfl⟩ hin ⟨t, rfl⟩ ⟨c, rfl, hk', hp'⟩ hoff hsub hget hall hst F₁ N₁
    obtain ⟨it, hit⟩ : ∃ it, hh'.get? s.heap.objs.size = some it := ⟨_, hst⟩
    have hown : (s.heap.objs.size, it) ∈ own := hall _ (List.mem_singleton.mpr rfl) (next_is_new F) _ hit
    refine wpAny_mono (turn i c m₁ t _ it hh' tk' hin hp' (fun p hp hI => hoff p hp (List.mem_singleton.mpr hI)) (fr_ps1 F₁ hk') (fun p hp => ?_)) (fun f s₂ p => ?_) fun _ _ e => e
    · rcases List.mem_cons.mp hp with rfl | hp
      · exact N₁ _ (List.mem_append.mpr (.inl hown))
      · exact N₁ _ (List.mem_append.mpr (.inr hp))
    · have fin : FEnd h₀ env.locals { s with heap := hh', toks := tk' } Led ps (P (i + 1)) s.heap.objs.size it s₂ → LoopStepU h₀ env.locals [s.heap.objs.size] own (J (i + 1)) { s with heap := hh', toks := tk' } .next s₂ := by
        rintro ⟨c', h', tk, m', rfl, F', N', hI, hk2, hp2⟩
        refine LoopStepU.intro F' (news₂ := Led c') (fun p hp => ?_) (fun p hp hq => hI p hp (List.mem_singleton.mp hq)) ⟨c', rfl, hk2, hp2⟩
        rcases List.mem_append.mp hp with hp | hp
        · have e1 : p.1 = s.heap.objs.size := List.mem_singleton.mp (hsub p hp)
          have e2 := hget p hp
          rw [e1] at e2
          have e3 : some p.2 = some it := e2.symm.trans hit
          have e4 : p = (s.heap.objs.size, it) := Prod.ext e1 (Option.some.inj e3)
          rw [e4]
          exact N' _ (.head _)
        · exact N' _ (.tail _ hp)
      cases f with
      | ret v => exact .ret p
      | brk => exact .brk p
      | next => exact .next (fin p)
      | cont => exact .cont (fin p)
  · rintro h' tk m' news' F' N' _ ⟨c, rfl, hk', hp'⟩
    exact done c m' h' tk hp' (fr_ps F' hk') N'

theorem forL {l : Addr} {vs : List Value} {ns : List Int} {nn : Nat} {m₀ : Str → Option Value} (Led : σ → List (Addr × Obj)) (ps : σ → List (Str × Value)) (P : Nat → σ → Prop) (c₀ : σ)
    (hh : A.handled = none) (hl : ∀ c, (l, listOf vs.toArray nn) ∈ Led c) (hi : IntsAre vs ns)
    (F : Fr h₀ env.locals s.heap m₀) (N : News h₀ env.locals s.heap (Led c₀)) (hk : ∀ p ∈ ps c₀, m₀ p.1 = some p.2) (hp : P 0 c₀)
    (turn : ∀ i c (u : Str → Option Value) k t I it h tk, i < ns.length → ns[i]? = some k → P i c → (∀ p ∈ Led c, p.1 ≠ I) → Fr h₀ env.locals h (fun y => if y = x then some (.int k t) else kstB u (ps c) y) → News h₀ env.locals h ((I, it) :: Led c) →
      wpAny (model prog w) A (execs body env) (FPost h₀ env.locals { s with heap := h, toks := tk } Led ps (P (i + 1)) I it Q) E { s with heap := h, toks := tk })
    (done : ∀ c (u : Str → Option Value) h tk, P ns.length c → Fr h₀ env.locals h (kstB u (ps c)) → News h₀ env.locals h (Led c) → Q .next { s with heap := h, toks := tk }) :
    wpAny (model prog w) A (pyIter (.ref l)) (fun it s₂ => LoopAtV prog w A h₀ env x body Q E it s₂) E s := by
  have hol : s.heap.get? l = some (listOf vs.toArray nn) := (N _ (hl c₀)).1
  have hls : s.heap.IsList l vs.toArray := ⟨_, hol, rfl, nn, rfl⟩
  have hne : l ≠ s.heap.objs.size := Nat.ne_of_lt (Heap.lt_size hol)
  refine wpAny_pyIter_list hls ?_
  have W := Walks.list (prog := prog) (w := w) hh s.heap.objs.size l hne vs.toArray
  have hlen : vs.toArray.size = ns.length := by simp [hi.length]
  rw [hlen] at W
  let J : Nat → (Str → Option Value) → List (Addr × Obj) → Prop := fun i m nx => ∃ c : σ, nx = Led c ∧ (∀ p ∈ ps c, m p.1 = some p.2) ∧ P i c
  refine ⟨_, _, _, ns.length, _, _, m₀, Led c₀, J, rfl, W, ?_, ?_, ?_, ⟨⟨_, Heap.get?_push_size _ rfl, rfl, rfl⟩, hls.at fun o e => Heap.get?_push_of_some _ e⟩, F.push _, (fun p hp => ⟨Heap.get?_push_of_some _ (N p hp).1, (N p hp).2⟩), ⟨c₀, rfl, hk, hp⟩, ?_, ?_⟩
  · intro hm
    rcases List.mem_cons.mp hm with e | hm
    · exact absurd F.ns.lt (e ▸ Nat.lt_irrefl _)
    · exact absurd (List.mem_singleton.mp hm) (Ne.symm (N _ (hl c₀)).2.1)
  · intro b hb
    rw [List.mem_singleton.mp hb]
    exact next_is_new F
  · intro p hp hI
    exact absurd (Heap.lt_size (N p hp).1) ((List.mem_singleton.mp hI) ▸ Nat.lt_irrefl _)
  · rintro i v m₁ news₁ s₁ own ⟨hh', tk', rfl⟩ hin hP ⟨c, rfl, hk', hp'⟩ hoff hsub hget hall hst F₁ N₁
    obtain ⟨it, hit, _⟩ := hst.1
    have hown : (s.heap.objs.size, it) ∈ own := hall _ (.head _) (next_is_new F) _ hit
    obtain ⟨t, hx⟩ := hi.get i ns[i] (by simp [hin])
    have hv : v = .int ns[i] t := by
      have hP' : vs[i]? = some v := by simpa using hP
      rw [hx] at hP'; exact (Option.some.inj hP').symm
    subst hv
    refine wpAny_mono (turn i c m₁ ns[i] t _ it hh' tk' hin (by simp [hin]) hp' (fun p hp hI => hoff p hp (List.mem_singleton.mpr hI)) (fr_ps1 F₁ hk') (fun p hp => ?_)) (fun f s₂ p => ?_) fun _ _ e => e
    · rcases List.mem_cons.mp hp with rfl | hp
      · exact N₁ _ (List.mem_append.mpr (.inl hown))
      · exact N₁ _ (List.mem_append.mpr (.inr hp))
    · have fin : FEnd h₀ env.locals { s with heap := hh', toks := tk' } Led ps (P (i + 1)) s.heap.objs.size it s₂ → LoopStepU h₀ env.locals [s.heap.objs.size] own (J (i + 1)) { s with heap := hh', toks := tk' } .next s₂ := by
        rintro ⟨c', h', tk, m', rfl, F', N', hI, hk2, hp2⟩
        refine LoopStepU.intro F' (news₂ := Led c') (fun p hp => ?_) (fun p hp hq => hI p hp (List.mem_singleton.mp hq)) ⟨c', rfl, hk2, hp2⟩
        rcases List.mem_append.mp hp with hp | hp
        · rcases List.mem_cons.mp (hsub p hp) with e1 | e1
          · have e2 := hget p hp
            rw [e1] at e2
            have e3 : some p.2 = some it := e2.symm.trans hit
            have e4 : p = (s.heap.objs.size, it) := Prod.ext e1 (Option.some.inj e3)
            rw [e4]
            exact N' _ (.head _)
          · have e1 := List.mem_singleton.mp e1
            have e2 := hget p hp
            rw [e1] at e2
            have hl2 : hh'.get? l = some (listOf vs.toArray nn) := (N₁ _ (List.mem_append.mpr (.inr (hl c)))).1
            have e3 : some p.2 = some (listOf vs.toArray nn) := e2.symm.trans hl2
            have e4 : p = (l, listOf vs.toArray nn) := Prod.ext e1 (Option.some.inj e3)
            rw [e4]
            exact N' _ (.tail _ (hl c'))
        · exact N' _ (.tail _ hp)
      cases f with
      | ret v => exact .ret p
      | brk => exact .brk p
      | next => exact .next (fin p)
      | cont => exact .cont (fin p)
  · rintro h' tk m' news' F' N' _ ⟨c, rfl, hk', hp'⟩
    exact done c m' h' tk hp' (fr_ps F' hk') N'

def WEnd (h₀ : Heap) (L : Addr) (s : Shared) (Led : σ → List (Addr × Obj)) (ps : σ → List (Str × Value)) (P : σ → Prop) (μ : σ → Nat) (c : σ) (s₂ : Shared) : Prop :=
  ∃ (c' : σ) (h' : Heap) (tk : Nat) (m' : Str → Option Value), s₂ = { s with heap := h', toks := tk } ∧ Fr h₀ L h' m' ∧ News h₀ L h' (Led c') ∧ (∀ p ∈ ps c', m' p.1 = some p.2) ∧ P c' ∧ μ c' < μ c
def WPost (h₀ : Heap) (L : Addr) (s : Shared) (Led : σ → List (Addr × Obj)) (ps : σ → List (Str × Value)) (P : σ → Prop) (μ : σ → Nat) (Q : Flow → Shared → Prop) (c : σ) (f : Flow) (s₂ : Shared) : Prop :=
  match f with
  | .ret v => Q (.ret v) s₂
  | .brk => Q .next s₂
  | _ => WEnd h₀ L s Led ps P μ c s₂
theorem WEnd.mk {Led : σ → List (Addr × Obj)} {ps : σ → List (Str × Value)} {P : σ → Prop} {μ : σ → Nat} {c : σ} {h' : Heap} {tk : Nat} {m' : Str → Option Value} (c' : σ) (F : Fr h₀ L h' m') (N : News h₀ L h' (Led c'))
    (hk : ∀ p ∈ ps c', m' p.1 = some p.2) (hp : P c') (hm : μ c' < μ c) : WEnd h₀ L s Led ps P μ c { s with heap := h', toks := tk } := ⟨c', h', tk, m', rfl, F, N, hk, hp, hm⟩
theorem whileR {test : Expr} {pos : Pos} {m₀ : Str → Option Value} (Led : σ → List (Addr × Obj)) (ps : σ → List (Str × Value)) (P : σ → Prop) (μ : σ → Nat) (c₀ : σ)
    (F : Fr h₀ L s.heap m₀) (N : News h₀ L s.heap (Led c₀)) (hk : ∀ p ∈ ps c₀, m₀ p.1 = some p.2) (hp : P c₀)
    (turn : ∀ (c : σ) (u : Str → Option Value) h tk, P c → Fr h₀ L h (kstB u (ps c)) → News h₀ L h (Led c) →
      wpAny (model prog w) A (isTrue test env (eval test env)) (fun b s₂ =>
        if b = true then wpAny (model prog w) A (execs body env) (WPost h₀ L s Led ps P μ Q c) E s₂ else Q .next s₂) E { s with heap := h, toks := tk })
    (hE : PassesOwn (model prog w) A env E := by passes_own) :
    wpAny (model prog w) A (exec (.While test body [] pos) env) Q E s := by
  refine While_inv2 (fun n m nx => ∃ c : σ, nx = Led c ∧ μ c = n ∧ (∀ p ∈ ps c, m p.1 = some p.2) ∧ P c) F N ⟨c₀, rfl, rfl, hk, hp⟩ ?_ hE
  rintro n m₁ nx h tk F₁ N₁ ⟨c, hnx, hsz, h1, hp'⟩
  rw [hnx] at N₁
  rw [← hsz]
  refine wpAny_mono (turn c m₁ h tk hp' (fr_ps F₁ h1) N₁) (fun b s₂ p => ?_) fun _ _ x => x
  cases b with
  | false => simpa using p
  | true =>
    simp only [if_true] at p ⊢
    refine wpAny_mono p (fun f s₃ q => ?_) fun _ _ x => x
    cases f with
    | ret v => exact q
    | brk => exact q
    | next =>
      obtain ⟨c', h', tk', m', rfl, F', N', hk9, hp9, hm9⟩ := q
      exact ⟨h', tk', m', Led c', μ c', rfl, F', N', hm9, c', rfl, rfl, hk9, hp9⟩
    | cont =>
      obtain ⟨c', h', tk', m', rfl, F', N', hk9, hp9, hm9⟩ := q
      exact ⟨h', tk', m', Led c', μ c', rfl, F', N', hm9, c', rfl, rfl, hk9, hp9⟩
end

section
variable {prog : Program} {w : World} {f : Addr} {vs : List Value} {k : Nat} {news : List (Addr × Obj)} {Ret : Value → List (Addr × Obj) → Prop}
theorem Tell.use (H : Tell prog w f vs k news Ret) {dp un : Nat} {gd : Option (List Code)} {cn : Str} {cs : Scope} {a : Addr} {ccd : Value} {cl : List (Str × Addr)} {outer : List Env} {A₀ : Around} {base h₀ : Heap} {L : Addr} {m : Str → Option Value} {s : Shared} {mean : ExcName → Option Value} {mg mb : Str → Option Value}
    {Q E : Value → Shared → Prop}
    (B : Below A₀ base outer h₀) (F : Fr h₀ L s.heap m) (X : (hd.heap_39 w.params).In h₀) (N : News h₀ L s.heap news) (T : Top topProg (looseW vw [] ++ (recsOf vw).map (·.name) ++ (litsOf vw).map (·.1) ++ (clssOf vw (looseW vw [])).map (·.name)) mean mg mb h₀) (hk : cs.kind = .function) (hd : dp + k < recursionLimit) (hu : un + 8 * k < cLine)
    (ret : ∀ r news' h' tk', Fr h₀ L h' m → News h₀ L h' news' → Ret r news' → Q r { s with heap := h', toks := tk' }) :
    wpAny (model prog w) (ktrTop dp un gd cn cs L a ccd cl outer) (call (.ref f) vs) Q E s :=
  H dp un gd cn cs a ccd cl outer A₀ base h₀ L m s mean mg mb Q E B F X N T hk hd hu ret
end
end Mine
end
section
namespace Mine
open PySem.Challenge

section
variable {prog : Program} {w : World} {A : Around} {E : Value → Shared → Prop} {s : Shared} {h₀ : Heap} {L l : Addr} {news : List (Addr × Obj)} {vs : List Value} {B x : Nat} {t u : Tok} {Q : Value → Shared → Prop}
theorem row_item {value slice : Expr} {c i : Nat}
    (N : News h₀ L s.heap news) (hm : (l, listOf vs.toArray c) ∈ news) (hi : IntsAre vs (row B x)) (h1 : i < len B x) (h2 : len B x ≤ 1000) (h : ∀ t, Q (.int ((dig B x i : Nat) : Int) t) s)
    (hs : subscripted slice false (.ref l) (.int (i : Int) u) = operate [.ref l, .int (i : Int) u] (getItem (.ref l) (.int (i : Int) u)) := by with_unfolding_all rfl) (hg : ∀ r, letTemporaryGo value (.ref l) r = pure () := by intro _; with_unfolding_all rfl) :
    wpAny (model prog w) A (subscriptTail value slice (.ref l) (.int (i : Int) u)) Q E s := by
  refine item_list_ints (News.isList N hm) hi (by (first | lia | omega)) (by rw [row_length]; (first | lia | omega)) (by (first | lia | omega)) (fun t => ?_) hs hg
  rw [Int.toNat_natCast, row, digs_getD h1]
  exact h t
theorem row_len {c : Nat} (N : News h₀ L s.heap news) (hm : (l, listOf vs.toArray c) ∈ news) (hi : IntsAre vs (row B x)) (h2 : len B x ≤ 1000)
    (h : Q (.int ((len B x : Nat) : Int) (s.toks + 1)) { s with toks := s.toks + 1 + 1 }) : wpAny (model prog w) A (call (.builtin "len") [.ref l]) Q E s := by
  refine len_ints_fit (News.isList N hm) hi (by rw [row_length]; (first | lia | omega)) ?_
  rw [row_length]; exact h
theorem row_append {m : Str → Option Value} {news' : List (Addr × Obj)} {c n i : Nat} {v : Value} {Q : Value → Shared → Prop} (F : Fr h₀ L s.heap m) (N : News h₀ L s.heap news) (U : Upd l (listOf vs.toArray c) (listOf (vs ++ [v]).toArray (c + 1)) news news') (hi : IntsAre vs (digs B n i)) (hz : i ≤ 1000000)
    (h : ∀ h', Fr h₀ L h' m → News h₀ L h' news' → Q .none { s with heap := h' }) : wpAny (model prog w) A (call (.builtin "list.append") [.ref l, v]) Q E s := by
  refine append_K F N (its := vs.toArray) (n := c) (by rw [List.push_toArray]; exact U) h ?_
  rw [List.size_toArray, hi.length, digs_length, sizeLine_eq]
  (first | lia | omega)
theorem add_nat {a b : Nat} (h : Q (.int ((a + b : Nat) : Int) s.toks) { s with toks := s.toks + 1 }) : wpAny (model prog w) A (binaryOp .Add (.int (a : Int) t) (.int (b : Int) u)) Q E s :=
  PyProof.Rows.add_int (by rw [← Int.natCast_add]; exact h)
theorem iadd_nat {a b : Nat} (h : Q (.int ((a + b : Nat) : Int) s.toks) { s with toks := s.toks + 1 }) : wpAny (model prog w) A (inplaceOp .Add (.int (a : Int) t) (.int (b : Int) u)) Q E s :=
  PyProof.Rows.iadd_int (by rw [← Int.natCast_add]; exact h)
theorem shl_one {k : Nat} (hk : k ≤ 1000000) (h : Q (.int ((2 ^ k : Nat) : Int) s.toks) { s with toks := s.toks + 1 }) : wpAny (model prog w) A (binaryOp .LShift (.int 1 t) (.int (k : Int) u)) Q E s :=
  lshift_int_small (by (first | lia | omega)) (by (first | lia | omega)) (by decide) (by
    rw [Int.toNat_natCast, Int.one_mul, ← kbt_cast]; exact h)
theorem shl_by_one {a : Nat} {o : Int} (ho : o = 1) (ha : a < 2 ^ 64) (h : Q (.int ((2 * a : Nat) : Int) s.toks) { s with toks := s.toks + 1 }) : wpAny (model prog w) A (binaryOp .LShift (.int (a : Int) t) (.int o u)) Q E s := by
  subst ho
  refine lshift_int_small (by (first | lia | omega)) (by (first | lia | omega)) (by simpa using ha) ?_
  have e : (a : Int) * 2 ^ (1 : Int).toNat = ((2 * a : Nat) : Int) := by
    show (a : Int) * 2 ^ 1 = _
    (first | lia | omega)
  rw [e]; exact h
theorem and_mask {a k : Nat} (h : Q (.int ((a % 2 ^ k : Nat) : Int) s.toks) { s with toks := s.toks + 1 }) : wpAny (model prog w) A (binaryOp .BitAnd (.int (a : Int) t) (.int (((2 ^ k : Nat) : Int) - 1) u)) Q E s := by
  refine and_int ?_
  rw [kbt_cast, kbt_mask, ← kbt_cast, ← Int.natCast_emod]; exact h
theorem ishr_nat {a k : Nat} (h : Q (.int ((a / 2 ^ k : Nat) : Int) s.toks) { s with toks := s.toks + 1 }) : wpAny (model prog w) A (inplaceOp .RShift (.int (a : Int) t) (.int (k : Int) u)) Q E s := by
  refine irshift_int (by (first | lia | omega)) ?_
  rw [Int.toNat_natCast, ← kbt_cast, ← Int.ofNat_fdiv]; exact h
theorem ior_even {c a : Nat} (hc : c ≤ 1) (h : Q (.int ((c + 2 * a : Nat) : Int) s.toks) { s with toks := s.toks + 1 }) : wpAny (model prog w) A (inplaceOp .BitOr (.int (c : Int) t) (.int ((2 * a : Nat) : Int) u)) Q E s := by
  refine ior_int ?_
  have e : Builtin.bitOr (c : Int) ((2 * a : Nat) : Int) = ((c + 2 * a : Nat) : Int) := by
    rw [bitOr_and, bitAnd_pp (by (first | lia | omega)) (by (first | lia | omega)), Int.toNat_natCast, Int.toNat_natCast]
    have h0 : c &&& 2 * a = 0 := by
      have h1 := Nat.and_div_two (a := c) (b := 2 * a)
      have h2 := @Nat.and_mod_two_eq_one c (2 * a)
      have h3 : c / 2 = 0 := by (first | lia | omega)
      rw [h3, Nat.zero_and] at h1
      (first | lia | omega)
    rw [h0]; (first | lia | omega)
  rw [e]; exact h
end

section
variable {d : Addr} {l : List (Addr × Obj)} {a b c e f : Prop}
theorem ltl1 (h : AllLt d l) : ∀ p ∈ l, p.1 < d := ktn_ltOf h
theorem ltl2 (h : a ∧ AllLt d l) : ∀ p ∈ l, p.1 < d := ktn_ltOf h.2
theorem ltl3 (h : a ∧ b ∧ AllLt d l) : ∀ p ∈ l, p.1 < d := ktn_ltOf h.2.2
theorem ltl4 (h : a ∧ b ∧ c ∧ AllLt d l) : ∀ p ∈ l, p.1 < d := ktn_ltOf h.2.2.2
theorem ltl5 (h : a ∧ b ∧ c ∧ e ∧ AllLt d l) : ∀ p ∈ l, p.1 < d := ktn_ltOf h.2.2.2.2
theorem ltl6 (h : a ∧ b ∧ c ∧ e ∧ f ∧ AllLt d l) : ∀ p ∈ l, p.1 < d := ktn_ltOf h.2.2.2.2.2
theorem ne_of_lt_all (h : ∀ p ∈ l, p.1 < d) : ∀ p ∈ l, p.1 ≠ d := fun p hp => Nat.ne_of_lt (h p hp)
end

/-- what is carried into place i when x and y are added -/
def carr (B x y i : Nat) : Nat := (x % B ^ i + y % B ^ i) / B ^ i
theorem carr_zero (B x y : Nat) : carr B x y 0 = 0 := by simp [carr, Nat.mod_one]
theorem carr_step {B : Nat} (hB : 2 ≤ B) (x y i : Nat) : (carr B x y i + (dig B x i + dig B y i)) / B = carr B x y (i + 1) := by
  have hp := pow_pos' hB i
  rw [carr, carr, mod_succ, mod_succ, Nat.pow_succ, ← Nat.div_div_eq_div_mul]
  congr 1
  have e : x % B ^ i + B ^ i * dig B x i + (y % B ^ i + B ^ i * dig B y i) = x % B ^ i + y % B ^ i + B ^ i * (dig B x i + dig B y i) := by
    rw [Nat.mul_add]; (first | lia | omega)
  rw [e, Nat.add_mul_div_left _ _ hp]
theorem carr_dig {B : Nat} (hB : 2 ≤ B) (x y i : Nat) : (carr B x y i + (dig B x i + dig B y i)) % B = dig B (x + y) i := by
  have hp := pow_pos' hB i
  have e : (x + y) / B ^ i = carr B x y i + (x / B ^ i + y / B ^ i) := by
    have h1 := Nat.mod_add_div x (B ^ i)
    have h2 := Nat.mod_add_div y (B ^ i)
    have h3 : x + y = x % B ^ i + y % B ^ i + B ^ i * (x / B ^ i + y / B ^ i) := by rw [Nat.mul_add]; (first | lia | omega)
    rw [carr, ← Nat.add_mul_div_left _ _ hp, ← h3]
  have h1 : (dig B x i + dig B y i) % B = (x / B ^ i + y / B ^ i) % B := (Nat.add_mod _ _ _).symm
  have h2 : dig B (x + y) i = (x + y) / B ^ i % B := rfl
  rw [h2, e, Nat.add_mod, h1, ← Nat.add_mod]
theorem carr_step0 {B : Nat} (hB : 2 ≤ B) (x : Nat) {y i : Nat} (hy : len B y ≤ i) : (carr B x y i + dig B x i) / B = carr B x y (i + 1) := by
  have h := carr_step hB x y i
  rw [dig_high ((len_le_iff hB).mp hy), Nat.add_zero] at h
  exact h
theorem carr_dig0 {B : Nat} (hB : 2 ≤ B) (x : Nat) {y i : Nat} (hy : len B y ≤ i) : (carr B x y i + dig B x i) % B = dig B (x + y) i := by
  have h := carr_dig hB x y i
  rw [dig_high ((len_le_iff hB).mp hy), Nat.add_zero] at h
  exact h
theorem int_snoc {vs : List Value} {B n i a : Nat} {t : Tok} (hv : IntsAre vs (digs B n i)) (e : a = dig B n i) : IntsAre (vs ++ [.int (a : Int) t]) (digs B n (i + 1)) := by
  rw [digs_succ, ← e]; exact IntsAre.append hv (.cons _ _ .nil)
theorem carr_le {B : Nat} (hB : 2 ≤ B) (x y i : Nat) : carr B x y i ≤ 1 := by
  have hp := pow_pos' hB i
  have h1 : x % B ^ i < B ^ i := Nat.mod_lt _ hp
  have h2 : y % B ^ i < B ^ i := Nat.mod_lt _ hp
  rw [carr, Nat.div_le_iff_le_mul_add_pred hp]
  (first | lia | omega)
theorem carr_end {B : Nat} {x y k : Nat} (hx : x < B ^ k) (hy : y < B ^ k) : carr B x y k = (x + y) / B ^ k := by
  rw [carr, Nat.mod_eq_of_lt hx, Nat.mod_eq_of_lt hy]
/-- the end of an addition: no carry -/
theorem add_end0 {B : Nat} (hB : 2 ≤ B) {x y : Nat} (hl : len B y ≤ len B x) (h : carr B x y (len B x) = 0) : digs B (x + y) (len B x) = row B (x + y) := by
  have hp := pow_pos' hB (len B x)
  have hy := (len_le_iff hB).mp hl
  rw [carr_end (lt_pow_len hB x) hy, Nat.div_eq_zero_iff] at h
  refine digs_eq hB (by (first | lia | omega)) ?_
  by_cases h0 : len B x = 0
  · exact .inl h0
  · right
    have := pow_le_of_len hB (n := x) (k := len B x - 1) (by (first | lia | omega))
    (first | lia | omega)
theorem add_end1 {B : Nat} (hB : 2 ≤ B) {x y : Nat} (hl : len B y ≤ len B x) (h : 0 < carr B x y (len B x)) :
    digs B (x + y) (len B x) ++ [((carr B x y (len B x) : Nat) : Int)] = row B (x + y) := by
  have hp := pow_pos' hB (len B x)
  have hy := (len_le_iff hB).mp hl
  have hx := lt_pow_len hB x
  have hc := carr_le hB x y (len B x)
  have e : carr B x y (len B x) = dig B (x + y) (len B x) := by
    have h1 := carr_dig hB x y (len B x)
    rw [dig_high hx, dig_high hy] at h1
    rw [← h1, Nat.mod_eq_of_lt (by (first | lia | omega))]; (first | lia | omega)
  rw [e, ← digs_succ]
  have h2 : B ^ len B x ≤ x + y := by
    have h1 := carr_end hx hy
    have := Nat.div_pos_iff.mp (show 0 < (x + y) / B ^ len B x by (first | lia | omega))
    exact this.2
  refine digs_eq hB ?_ (.inr (by simpa using h2))
  rw [Nat.pow_succ]
  have : B ^ len B x * 2 ≤ B ^ len B x * B := Nat.mul_le_mul_left _ hB
  (first | lia | omega)
end Mine
end
section
namespace Mine
open PySem.Challenge
def cmp (x y : Nat) : Int := if x < y then -1 else if x = y then 0 else 1
theorem cmp_lt {x y : Nat} (h : x < y) : cmp x y = -1 := by rw [cmp, if_pos h]
theorem cmp_gt {x y : Nat} (h : y < x) : cmp x y = 1 := by rw [cmp, if_neg (by (first | lia | omega)), if_neg (by (first | lia | omega))]
theorem cmp_eq {x y : Nat} (h : x = y) : cmp x y = 0 := by rw [cmp, if_neg (by (first | lia | omega)), if_pos h]
theorem lt_of_len_lt {B : Nat} (hB : 2 ≤ B) {x y : Nat} (h : len B x < len B y) : x < y := by
  by_cases h1 : x < y
  · exact h1
  · have := len_mono hB (Nat.not_lt.mp h1); (first | lia | omega)
theorem eq_of_digs {B : Nat} (hB : 2 ≤ B) {x y : Nat} (hl : len B x = len B y) (h : ∀ j, dig B x j = dig B y j) : x = y :=
  digs_inj hB (lt_pow_len hB x) (by rw [hl]; exact lt_pow_len hB y) fun i _ => h i

theorem cmp_neg {x y : Nat} : cmp x y < 0 ↔ x < y := by
  unfold cmp; split
  · (first | lia | omega)
  · split <;> (first | lia | omega)
theorem cmp_zero {x y : Nat} : cmp x y = 0 ↔ x = y := by
  unfold cmp; split
  · (first | lia | omega)
  · split <;> (first | lia | omega)
theorem cmp_pos {x y : Nat} : 0 < cmp x y ↔ y < x := by
  unfold cmp; split
  · (first | lia | omega)
  · split <;> (first | lia | omega)
theorem int_snocI {vs : List Value} {B n i : Nat} {v : Int} {t : Tok} (hv : IntsAre vs (digs B n i)) (e : v = (dig B n i : Nat)) : IntsAre (vs ++ [.int v t]) (digs B n (i + 1)) := by
  rw [digs_succ, ← e]; exact IntsAre.append hv (.cons _ _ .nil)

theorem lt_sub {d : Addr} {l l' : List (Addr × Obj)} (h : ∀ p ∈ l, p.1 < d) (hs : ∀ p ∈ l', p ∈ l) : ∀ p ∈ l', p.1 < d := fun p hp => h p (hs p hp)
section
variable {prog : Program} {w : World} {A : Around} {E : Value → Shared → Prop} {s : Shared} {h₀ : Heap} {L l : Addr} {m : Str → Option Value} {news : List (Addr × Obj)} {vs us : List Value} {B x c e : Nat} {t u : Tok} {Q : Value → Shared → Prop} {value slice : PySem.Expr} {ns ms : List Int}
theorem size_row (hi : IntsAre vs (row B x)) (hx : len B x ≤ 1000) : vs.toArray.size ≤ sizeLine := by
  rw [List.size_toArray, hi.length, row_length, sizeLine_eq]; (first | lia | omega)
theorem row_from {j : Nat} (F : Fr h₀ L s.heap m) (N : News h₀ L s.heap news) (hm : (l, listOf vs.toArray c) ∈ news) (hi : IntsAre vs (row B x)) (hB : 2 ≤ B) (hx : len B x ≤ 1000)
    (h : ∀ D ws h', Fr h₀ L h' m → News h₀ L h' ((D, listOf (List.toArray ws) 0) :: news) → (∀ p ∈ news, p.1 < D) → IntsAre ws (row B (x / B ^ j)) → Q (.ref D) { s with heap := h' })
    (hs : subscripted slice false (.ref l) (.ref s.heap.objs.size) = operate [.ref s.heap.objs.size, .ref l] (getItem (.ref l) (.ref s.heap.objs.size))) (ht : ∀ r, letTemporaryGo value (.ref l) r = pure ()) :
    wpAny (model prog w) A (subscriptTail value slice (.ref l) (.ref s.heap.objs.size)) Q E { s with heap := s.heap.push { cls := .type "slice", data := .fields #[.int (j : Int) t, .none, .none] } } := by
  refine kmk_slice_ints F N (News.isList N hm) (IsPart.int _ _) IsPart.none hi (kmk_from hi (by (first | lia | omega))) rfl (fun D ws h' F' N' l1 hI _ _ => h D ws h' F' N' l1 ?_) hs ht (size_row hi hx)
  rw [Int.toNat_natCast, row_drop hB] at hI; exact hI
theorem row_all (F : Fr h₀ L s.heap m) (N : News h₀ L s.heap news) (hm : (l, listOf vs.toArray c) ∈ news) (hi : IntsAre vs (row B x)) (hx : len B x ≤ 1000)
    (h : ∀ D ws h', Fr h₀ L h' m → News h₀ L h' ((D, listOf (List.toArray ws) 0) :: news) → (∀ p ∈ news, p.1 < D) → IntsAre ws (row B x) → Q (.ref D) { s with heap := h' })
    (hs : subscripted slice false (.ref l) (.ref s.heap.objs.size) = operate [.ref s.heap.objs.size, .ref l] (getItem (.ref l) (.ref s.heap.objs.size))) (ht : ∀ r, letTemporaryGo value (.ref l) r = pure ()) :
    wpAny (model prog w) A (subscriptTail value slice (.ref l) (.ref s.heap.objs.size)) Q E { s with heap := s.heap.push { cls := .type "slice", data := .fields #[.none, .none, .none] } } :=
  kmk_slice_ints F N (News.isList N hm) IsPart.none IsPart.none hi (kmk_all hi) rfl (fun D ws h' F' N' l1 hI _ _ => h D ws h' F' N' l1 hI) hs ht (size_row hi hx)
theorem row_rev {ops : List Value} {o : Int} (ho : o = -1) (F : Fr h₀ L s.heap m) (N : News h₀ L s.heap news) (hm : (l, listOf vs.toArray c) ∈ news) (hi : IntsAre vs (row B x)) (hx : len B x ≤ 1000)
    (h : ∀ D ws h', Fr h₀ L h' m → News h₀ L h' ((D, listOf (List.toArray ws) 0) :: news) → (∀ p ∈ news, p.1 < D) → IntsAre ws (row B x).reverse → Q (.ref D) { s with heap := h' })
    (hs : subscripted slice false (.ref l) (.ref s.heap.objs.size) = operate ops (getItem (.ref l) (.ref s.heap.objs.size))) (ht : ∀ r, letTemporaryGo value (.ref l) r = pure ()) :
    wpAny (model prog w) A (subscriptTail value slice (.ref l) (.ref s.heap.objs.size)) Q E { s with heap := s.heap.push { cls := .type "slice", data := .fields #[.none, .none, .int o t] } } := by
  subst ho
  exact krv_ints F N (News.isList N hm) (IsPart.int _ _) hi (fun D ws h' F' N' l1 hI _ => h D ws h' F' N' l1 hI) hs ht (size_row hi hx)
theorem zeros_mul {j : Nat} (F : Fr h₀ L s.heap m) (N : News h₀ L s.heap news) (hm : (l, listOf vs.toArray c) ∈ news) (hi : IntsAre vs [0]) (hj : j ≤ 1000)
    (h : ∀ D ws h', Fr h₀ L h' m → News h₀ L h' ((D, listOf (List.toArray ws) 0) :: news) → (∀ p ∈ news, p.1 < D) → IntsAre ws (List.replicate j 0) → Q (.ref D) { s with heap := h' }) : wpAny (model prog w) A (binaryOp .Mult (.ref l) (.int (j : Int) u)) Q E s := by
  have hv : vs.length = 1 := by rw [hi.length]; rfl
  refine KM.mul F N (News.isList N hm) hi (by (first | lia | omega)) (by (first | lia | omega)) (by rw [hv, Int.toNat_natCast]; (first | lia | omega)) (fun D h' F' N' l1 hI n _ _ _ _ => h D _ h' F' N' l1 ?_)
  rw [Int.toNat_natCast] at *
  rw [List.flatten_replicate_singleton] at hI
  exact hI
theorem cat_ints {a b : Addr} (F : Fr h₀ L s.heap m) (N : News h₀ L s.heap news) (ha : (a, listOf vs.toArray c) ∈ news) (hb : (b, listOf us.toArray e) ∈ news) (hi : IntsAre vs ns) (hj : IntsAre us ms) (hz : ns.length + ms.length ≤ 100000)
    (h : ∀ D ws h', Fr h₀ L h' m → News h₀ L h' ((D, listOf (List.toArray ws) 0) :: news) → (∀ p ∈ news, p.1 < D) → IntsAre ws (ns ++ ms) → Q (.ref D) { s with heap := h' }) : wpAny (model prog w) A (binaryOp .Add (.ref a) (.ref b)) Q E s :=
  kmk_add_ints F N (News.isList N ha) (News.isList N hb) hi hj h (by rw [sizeLine_eq]; (first | lia | omega))
theorem mul_small {a : Nat} {b : Int} (ha : a ≤ 1000) (h : Q (.int ((a : Int) * b) s.toks) { s with toks := s.toks + 1 }) : wpAny (model prog w) A (binaryOp .Mult (.int (a : Int) t) (.int b u)) Q E s :=
  PySem.P.mul_int h (PySem.IntMulOk.of_left (PySem.intBits_le_64 (by (first | lia | omega)) (by (first | lia | omega))))
theorem pow_two {k : Nat} (hk : k ≤ 1000000) (h : Q (.int ((2 ^ k : Nat) : Int) s.toks) { s with toks := s.toks + 1 }) : wpAny (model prog w) A (binaryOp .Pow (.int 2 t) (.int (k : Int) u)) Q E s :=
  pow_int_small (by (first | lia | omega)) (by (first | lia | omega)) (by decide) (by rw [Int.toNat_natCast, ← kbt_cast]; exact h)
theorem mul_natp {a c : Nat} (hc : c ≤ 2 ^ 60) (h : Q (.int ((a * c : Nat) : Int) s.toks) { s with toks := s.toks + 1 }) : wpAny (model prog w) A (binaryOp .Mult (.int (a : Int) t) (.int (c : Int) u)) Q E s :=
  PySem.P.mul_int (by rw [← Int.natCast_mul]; exact h) (PySem.IntMulOk.of_right (PySem.intBits_le_64 (by (first | lia | omega)) (by (first | lia | omega))))
theorem bits_le {a n : Nat} (h : a.log2 < n) : Builtin.Int.intBits (a : Int) ≤ n := by
  unfold Builtin.Int.intBits
  split
  · (first | lia | omega)
  · rw [Int.natAbs_natCast]; (first | lia | omega)
theorem mul_big {a c : Nat} (ha : a.log2 < 20000) (hc : c.log2 < 20000) (h : Q (.int ((a * c : Nat) : Int) s.toks) { s with toks := s.toks + 1 }) : wpAny (model prog w) A (binaryOp .Mult (.int (a : Int) t) (.int (c : Int) u)) Q E s := by
  refine PySem.P.mul_int (by rw [← Int.natCast_mul]; exact h) ?_
  have h1 := bits_le ha
  have h2 := bits_le hc
  unfold PySem.IntMulOk
  intro hh
  simp only [Bool.and_eq_true, decide_eq_true_eq] at hh
  have h3 := hh.2
  unfold Builtin.Int.intTooBig at h3
  have h4 : (bitsLine : Int) < Builtin.Int.intBits (a : Int) + Builtin.Int.intBits (c : Int) := by simpa using h3
  have h5 : (40000 : Int) ≤ bitsLine := by decide
  (first | lia | omega)
theorem fdiv_nat {a c : Nat} (h0 : 0 < c) (hc : c < 2 ^ 30) (h : Q (.int ((a / c : Nat) : Int) s.toks) { s with toks := s.toks + 1 }) : wpAny (model prog w) A (binaryOp .FloorDiv (.int (a : Int) t) (.int (c : Int) u)) Q E s := by
  refine floordiv_int (by (first | lia | omega)) ?_ (Or.inl (PyProof.noPylong_small (by rw [Int.natAbs_natCast]; (first | lia | omega))))
  rw [← Int.ofNat_fdiv]; exact h
theorem fdiv_natl {a c : Nat} (h0 : 0 < c) (hc : c.log2 < 9000) (h : Q (.int ((a / c : Nat) : Int) s.toks) { s with toks := s.toks + 1 }) : wpAny (model prog w) A (binaryOp .FloorDiv (.int (a : Int) t) (.int (c : Int) u)) Q E s := by
  refine floordiv_int (by (first | lia | omega)) ?_ (Or.inl (PyProof.noPylong_of_log2 (by rw [Int.natAbs_natCast]; exact hc)))
  rw [← Int.ofNat_fdiv]; exact h
theorem fmod_nat {a c : Nat} (h0 : 0 < c) (h : Q (.int ((a % c : Nat) : Int) s.toks) { s with toks := s.toks + 1 }) : wpAny (model prog w) A (binaryOp .Mod (.int (a : Int) t) (.int (c : Int) u)) Q E s := by
  refine mod_int' (by (first | lia | omega)) ?_
  rw [Int.fmod_eq_emod_of_nonneg _ (by (first | lia | omega)), ← Int.natCast_emod]; exact h
theorem log2_of_len {B x k n N : Nat} (hBk : B = 2 ^ k) (hB : 2 ≤ B) (hk : k ≤ 20) (h : len B x ≤ n) (hN : 20 * n < N) : x.log2 < N := by
  by_cases h0 : x = 0
  · subst h0; rw [Nat.log2_zero]; (first | lia | omega)
  · rw [Nat.log2_lt h0]
    have h1 := (len_le_iff hB).mp h
    rw [hBk, ← Nat.pow_mul] at h1
    exact Nat.lt_of_lt_of_le h1 (Nat.pow_le_pow_right (by (first | lia | omega)) (Nat.le_trans (Nat.mul_le_mul_right n hk) (by (first | lia | omega))))
theorem fdiv_one {k : Nat} {o : Int} (ho : o = 1) (hk : 2 ≤ k) (hk2 : k ≤ 1000) (h : Q (.int ((0 : Nat) : Int) s.toks) { s with toks := s.toks + 1 }) : wpAny (model prog w) A (binaryOp .FloorDiv (.int o t) (.int (k : Int) u)) Q E s := by
  subst ho
  refine floordiv_int (by (first | lia | omega)) ?_ (Or.inl (PyProof.noPylong_small (by (first | lia | omega))))
  have e : (1 : Int).fdiv (k : Int) = ((0 : Nat) : Int) := by
    rw [Int.fdiv_eq_ediv_of_nonneg _ (by (first | lia | omega))]
    exact Int.ediv_eq_zero_of_lt (by (first | lia | omega)) (by (first | lia | omega))
  rw [e]; exact h
theorem fmod_one {k : Nat} {o : Int} (ho : o = 1) (hk : 2 ≤ k) (h : Q (.int 1 s.toks) { s with toks := s.toks + 1 }) : wpAny (model prog w) A (binaryOp .Mod (.int o t) (.int (k : Int) u)) Q E s := by
  subst ho
  refine mod_int' (by (first | lia | omega)) ?_
  have e : (1 : Int).fmod (k : Int) = 1 := by
    rw [Int.fmod_eq_emod_of_nonneg _ (by (first | lia | omega))]
    exact Int.emod_eq_of_lt (by (first | lia | omega)) (by (first | lia | omega))
  rw [e]; exact h
end
section
variable {prog : Program} {w : World} {A : Around} {E : Value → Shared → Prop} {s : Shared} {env : Env} {h₀ : Heap} {L : Addr} {x : Str} {body : List Stmt} {Q : Flow → Shared → Prop} {σ : Type}
theorem forLx {l : Addr} {vs : List Value} {ns : List Int} {nn : Nat} {m₀ : Str → Option Value} (Led : σ → List (Addr × Obj)) (ps : σ → List (Str × Value)) (P : Nat → σ → Prop) (c₀ : σ)
    (hh : A.handled = none) (hi : IntsAre vs ns)
    (F : Fr h₀ env.locals s.heap m₀) (N : News h₀ env.locals s.heap ((l, listOf vs.toArray nn) :: Led c₀)) (hk : ∀ p ∈ ps c₀, m₀ p.1 = some p.2) (hp : P 0 c₀)
    (turn : ∀ i c (u : Str → Option Value) k t I it h tk, i < ns.length → ns[i]? = some k → P i c → (∀ p ∈ (l, listOf vs.toArray nn) :: Led c, p.1 ≠ I) → Fr h₀ env.locals h (fun y => if y = x then some (.int k t) else kstB u (ps c) y) → News h₀ env.locals h ((I, it) :: (l, listOf vs.toArray nn) :: Led c) →
      wpAny (model prog w) A (execs body env) (FPost h₀ env.locals { s with heap := h, toks := tk } (fun c => (l, listOf vs.toArray nn) :: Led c) ps (P (i + 1)) I it Q) E { s with heap := h, toks := tk })
    (done : ∀ c (u : Str → Option Value) h tk, P ns.length c → Fr h₀ env.locals h (kstB u (ps c)) → News h₀ env.locals h ((l, listOf vs.toArray nn) :: Led c) → Q .next { s with heap := h, toks := tk }) :
    wpAny (model prog w) A (pyIter (.ref l)) (fun it s₂ => LoopAtV prog w A h₀ env x body Q E it s₂) E s :=
  forL (fun c => (l, listOf vs.toArray nn) :: Led c) ps P c₀ hh (fun _ => .head _) hi F N hk hp turn done
end
def NewPair (B x y : Nat) (news : List (Addr × Obj)) (r : Value) (news' : List (Addr × Obj)) : Prop :=
  ∃ lt lq vq cq lr vr cr, r = .ref lt ∧ news' = (lt, { cls := .type "tuple", data := .seq #[.ref lq, .ref lr] }) :: (lq, listOf vq.toArray cq) :: (lr, listOf vr.toArray cr) :: news ∧ (∀ p ∈ news, p.1 < lt) ∧ (∀ p ∈ news, p.1 < lq) ∧ (∀ p ∈ news, p.1 < lr) ∧ IntsAre vq (row B x) ∧ IntsAre vr (row B y)
section
variable {prog : Program} {w : World} {A : Around} {E : Value → Shared → Prop} {s : Shared} {h₀ : Heap} {L l : Addr} {m : Str → Option Value} {news news' : List (Addr × Obj)} {n : Nat} {a b x : Int} {ta tb t u : Tok} {value slice : PySem.Expr}
theorem box_get0 {Q : Value → Shared → Prop} (N : News h₀ L s.heap news) (hm : (l, listOf #[.int a ta, .int b tb] n) ∈ news) (h : ∀ t, Q (.int a t) s)
    (hs : subscripted slice false (.ref l) (.int 0 u) = operate [.ref l, .int 0 u] (getItem (.ref l) (.int 0 u)) := by with_unfolding_all rfl) :
    wpAny (model prog w) A (subscriptTail value slice (.ref l) (.int 0 u)) Q E s :=
  ksa_sub (ns := [a, b]) N hm (.cons _ _ (.cons _ _ .nil)) (by decide) (by simp only [List.length_cons, List.length_nil]; (first | lia | omega)) (by decide) h hs
theorem box_get1 {Q : Value → Shared → Prop} (N : News h₀ L s.heap news) (hm : (l, listOf #[.int a ta, .int b tb] n) ∈ news) (h : ∀ t, Q (.int b t) s)
    (hs : subscripted slice false (.ref l) (.int 1 u) = operate [.ref l, .int 1 u] (getItem (.ref l) (.int 1 u)) := by with_unfolding_all rfl) :
    wpAny (model prog w) A (subscriptTail value slice (.ref l) (.int 1 u)) Q E s :=
  ksa_sub (ns := [a, b]) N hm (.cons _ _ (.cons _ _ .nil)) (by decide) (by simp only [List.length_cons, List.length_nil]; (first | lia | omega)) (by decide) h hs
theorem box_set0 {Q : Unit → Shared → Prop} (F : Fr h₀ L s.heap m) (N : News h₀ L s.heap news) (U : Upd l (listOf #[.int a ta, .int b tb] n) (listOf #[.int x t, .int b tb] n) news news')
    (h : ∀ h', Fr h₀ L h' m → News h₀ L h' news' → Q () { s with heap := h' }) : wpAny (model prog w) A (setItem (.ref l) (.int 0 u) (.int x t)) Q E s :=
  ksa_set (ns := [a, b]) F N U (.cons _ _ (.cons _ _ .nil)) (by decide) (by simp only [List.length_cons, List.length_nil]; (first | lia | omega)) (by decide) fun h' F' N' _ _ _ => h h' F' N'
theorem box_set1 {Q : Unit → Shared → Prop} (F : Fr h₀ L s.heap m) (N : News h₀ L s.heap news) (U : Upd l (listOf #[.int a ta, .int b tb] n) (listOf #[.int a ta, .int x t] n) news news')
    (h : ∀ h', Fr h₀ L h' m → News h₀ L h' news' → Q () { s with heap := h' }) : wpAny (model prog w) A (setItem (.ref l) (.int 1 u) (.int x t)) Q E s :=
  ksa_set (ns := [a, b]) F N U (.cons _ _ (.cons _ _ .nil)) (by decide) (by simp only [List.length_cons, List.length_nil]; (first | lia | omega)) (by decide) fun h' F' N' _ _ _ => h h' F' N'
theorem add_natc {a : Nat} {c : Int} (hc : 0 ≤ c) {Q : Value → Shared → Prop} (h : Q (.int ((a + c.toNat : Nat) : Int) s.toks) { s with toks := s.toks + 1 }) : wpAny (model prog w) A (binaryOp .Add (.int (a : Int) t) (.int c u)) Q E s := by
  obtain ⟨n, rfl⟩ := Int.eq_ofNat_of_zero_le hc
  exact add_nat h
end
section
open LCg LCt
variable {prog : Program} {w : World} {A : Around} {s : Shared} {h₀ : Heap} {L : Addr} {m : Str → Option Value} {env : Env}
theorem rest_skip {ct elt : PySem.Expr} {x : Str} {scope : Scope} {cl : List (Str × Addr)} {S : List (Addr × Obj) → Prop} {P : Nat → Value → Prop} {Fin : List Value → List (Addr × Obj) → Prop} {news : List (Addr × Obj)} (hS : S news) (fin : Fin [] news)
    (turn : ∀ i v I oI C oC D m₂ h tk (E' : Value → Shared → Prop), P i v → NsObj oC m₂ → m₂ x = some v → Fr h₀ L h m → News h₀ L h ((I, oI) :: (C, oC) :: (D, lst []) :: news) →
      wpAny (model prog w) A (isTrue ct (compEnvC scope cl C env) (eval ct (compEnvC scope cl C env))) (fun ok s' => ok = false ∧ ∃ h' tk', s' = { s with heap := h', toks := tk' } ∧ Fr h₀ L h' m ∧ News h₀ L h' ((I, oI) :: (C, oC) :: (D, lst []) :: news)) E' { s with heap := h, toks := tk }) :
    ∀ k i, CompRestT prog w A h₀ L m env ct elt x scope cl s S P Fin k i [] news
  | 0, _ => fin
  | k + 1, i => CompRestT.succ fun v I oI C oC D m₂ h tk E' hv hC hx F N off _ => wpAny_mono (turn i v I oI C oC D m₂ h tk E' hv hC hx F N) (fun ok s' => by
      rintro ⟨rfl, h', tk', rfl, F', N'⟩
      rw [if_neg Bool.false_ne_true]
      exact CompEnd.intro F' N' news (fun p hp => hp) off hS (rest_skip hS fin turn k (i + 1))) fun _ _ e => e
theorem row_value {vs : List Value} {B x i : Nat} {v : Value} (hi : IntsAre vs (row B x)) (h : vs.toArray[i]? = some v) : ∃ t, v = .int ((dig B x i : Nat) : Int) t := by
  have h1 : vs[i]? = some v := by simpa using h
  have hl : i < vs.length := by
    rcases Nat.lt_or_ge i vs.length with h2 | h2
    · exact h2
    · rw [List.getElem?_eq_none h2] at h1; cases h1
  rw [hi.length, row_length] at hl
  obtain ⟨t, ht⟩ := hi.get i _ (row_get hl)
  rw [h1] at ht
  exact ⟨t, Option.some.inj ht⟩
end
section
variable {prog : Program} {w : World} {A : Around} {E : Value → Shared → Prop} {s : Shared} {h₀ : Heap} {L a b : Addr} {news : List (Addr × Obj)} {vs us : List Value} {c e : Nat} {ns ms : List Int} {r : Bool} {Q : Value → Shared → Prop}
theorem eq_ints (N : News h₀ L s.heap news) (ha : (a, listOf vs.toArray c) ∈ news) (hb : (b, listOf us.toArray e) ∈ news) (hi : IntsAre vs ns) (hj : IntsAre us ms) (hr : decide (ns = ms) = r) (hu : A.units + 64 < cLine)
    (h : Q (.bool r) s) : wpAny (model prog w) A (compareOp .Eq (.ref a) (.ref b)) Q E s :=
  eq_intsK (News.isList N ha) hi (News.isList N hb) hj hu (hr ▸ h)
theorem ne_ints (N : News h₀ L s.heap news) (ha : (a, listOf vs.toArray c) ∈ news) (hb : (b, listOf us.toArray e) ∈ news) (hi : IntsAre vs ns) (hj : IntsAre us ms) (hr : (!decide (ns = ms)) = r) (hu : A.units + 64 < cLine)
    (h : Q (.bool r) s) : wpAny (model prog w) A (compareOp .NotEq (.ref a) (.ref b)) Q E s :=
  ne_intsK (News.isList N ha) hi (News.isList N hb) hj hu (hr ▸ h)
end
theorem row_last {prog : Program} {w : World} {A : Around} {E : Value → Shared → Prop} {s : Shared} {h₀ : Heap} {L l : Addr} {news : List (Addr × Obj)} {vs : List Value} {c B x : Nat} {u : Tok} {Q : Value → Shared → Prop} {value slice : PySem.Expr}
    (N : News h₀ L s.heap news) (hm : (l, listOf vs.toArray c) ∈ news) (hi : IntsAre vs (row B x)) (h0 : 0 < len B x) (h : ∀ t, Q (.int ((dig B x (len B x - 1) : Nat) : Int) t) s)
    (hs : subscripted slice false (.ref l) (.int (-1) u) = operate [.ref l, .int (-1) u] (getItem (.ref l) (.int (-1) u)) := by with_unfolding_all rfl) :
    wpAny (model prog w) A (subscriptTail value slice (.ref l) (.int (-1) u)) Q E s := by
  refine item_list_ints_negR (News.isList N hm) hi (by decide) (by rw [row_length]; (first | lia | omega)) (by decide) (fun t => ?_) hs
  have e : (-1 + ((row B x).length : Int)).toNat = len B x - 1 := by rw [row_length]; (first | lia | omega)
  rw [e, row, digs_getD (by (first | lia | omega))]
  exact h t
theorem row_nil {B x : Nat} (h : decide (row B x = []) = false) : 0 < len B x := by
  have h1 : row B x ≠ [] := of_decide_eq_false h
  rcases Nat.eq_zero_or_pos (len B x) with e | e
  · exact absurd (List.eq_nil_of_length_eq_zero (by rw [row_length]; exact e)) h1
  · exact e
theorem top_pos {B x : Nat} (hB : 2 ≤ B) (h : 0 < len B x) : 0 < dig B x (len B x - 1) :=
  Nat.pos_of_ne_zero (dig_top hB (by (first | lia | omega)))
section
variable {prog : Program} {w : World} {A : Around} {E : Value → Shared → Prop} {s : Shared} {h₀ : Heap} {L l : Addr} {news : List (Addr × Obj)} {t u : Tok} {Q : Value → Shared → Prop}
theorem one_add {a : Nat} {o : Int} (ho : o = 1) (h : Q (.int ((a + 1 : Nat) : Int) s.toks) { s with toks := s.toks + 1 }) : wpAny (model prog w) A (binaryOp .Add (.int o t) (.int (a : Int) u)) Q E s := by
  subst ho
  exact PyProof.Rows.add_int (by rw [Int.add_comm, ← Int.natCast_add_one]; exact h)
theorem add_one {a : Nat} {o : Int} (ho : o = 1) (h : Q (.int ((a + 1 : Nat) : Int) s.toks) { s with toks := s.toks + 1 }) : wpAny (model prog w) A (binaryOp .Add (.int (a : Int) t) (.int o u)) Q E s := by
  subst ho
  exact PyProof.Rows.add_int (by rw [← Int.natCast_add_one]; exact h)
theorem mul_nats {a c : Nat} (ha : a ≤ 1000) (h : Q (.int ((a * c : Nat) : Int) s.toks) { s with toks := s.toks + 1 }) : wpAny (model prog w) A (binaryOp .Mult (.int (a : Int) t) (.int (c : Int) u)) Q E s :=
  mul_small ha (by rw [← Int.natCast_mul]; exact h)
theorem pow_twoe {z : Int} {k : Nat} (hz : z = (k : Int)) (hk : k ≤ 1000000) (h : Q (.int ((2 ^ k : Nat) : Int) s.toks) { s with toks := s.toks + 1 }) : wpAny (model prog w) A (binaryOp .Pow (.int 2 t) (.int z u)) Q E s := by
  subst hz
  exact pow_two hk h
theorem menu_item {value slice : PySem.Expr} {n j m : Nat} {a b c : Int} {t1 t2 t3 : Tok} (N : News h₀ L s.heap news) (hm : (l, listOf #[.int a t1, .int b t2, .int c t3] n) ∈ news) (hj : j < 3) (ha : 0 ≤ a ∧ a < (m : Int)) (hb : 0 ≤ b ∧ b < (m : Int)) (hc : 0 ≤ c ∧ c < (m : Int))
    (h : ∀ t (y : Nat), y < m → Q (.int (y : Int) t) s)
    (hs : subscripted slice false (.ref l) (.int (j : Int) u) = operate [.ref l, .int (j : Int) u] (getItem (.ref l) (.int (j : Int) u)) := by with_unfolding_all rfl) :
    wpAny (model prog w) A (subscriptTail value slice (.ref l) (.int (j : Int) u)) Q E s := by
  refine ksa_sub (ns := [a, b, c]) N hm (.cons _ _ (.cons _ _ (.cons _ _ .nil))) (by (first | lia | omega)) (by simp only [List.length_cons, List.length_nil]; (first | lia | omega)) (by (first | lia | omega)) (fun t => ?_) hs
  rw [Int.toNat_natCast]
  have key : ∀ z : Int, 0 ≤ z ∧ z < (m : Int) → Q (.int z t) s := fun z hz => by
    obtain ⟨y, hy⟩ := Int.eq_ofNat_of_zero_le hz.1
    have := h t y (by (first | lia | omega))
    rw [← hy] at this; exact this
  have e : j = 0 ∨ j = 1 ∨ j = 2 := by (first | lia | omega)
  rcases e with rfl | rfl | rfl
  · exact key a ha
  · exact key b hb
  · exact key c hc
theorem log2_mono {a b n : Nat} (h : a ≤ b) (hb : b.log2 < n) : a.log2 < n := by
  rcases Nat.eq_zero_or_pos a with e | e
  · subst e; rw [Nat.log2_zero]; (first | lia | omega)
  · rw [Nat.log2_lt (by (first | lia | omega))]
    exact Nat.lt_of_le_of_lt h ((Nat.log2_lt (by (first | lia | omega))).mp hb)
end
section
variable {prog : Program} {w : World} {A : Around} {E : Value → Shared → Prop} {s : Shared} {t u : Tok} {Q : Value → Shared → Prop}
theorem lit_add (n : Nat) {a : Nat} {o : Int} (ho : o = (n : Int)) (h : Q (.int ((a + n : Nat) : Int) s.toks) { s with toks := s.toks + 1 }) : wpAny (model prog w) A (binaryOp .Add (.int o t) (.int (a : Int) u)) Q E s := by
  subst ho
  exact PyProof.Rows.add_int (by rw [Int.add_comm, ← Int.natCast_add]; exact h)
theorem add_lit (n : Nat) {a : Nat} {o : Int} (ho : o = (n : Int)) (h : Q (.int ((a + n : Nat) : Int) s.toks) { s with toks := s.toks + 1 }) : wpAny (model prog w) A (binaryOp .Add (.int (a : Int) t) (.int o u)) Q E s := by
  subst ho
  exact add_nat h
end
theorem news_tail {h₀ h : Heap} {L : Addr} {p : Addr × Obj} {l : List (Addr × Obj)} (N : News h₀ L h (p :: l)) : ∃ G, G = l ∧ News h₀ L h (p :: G) := ⟨_, rfl, N⟩
theorem pow_cells {B k mm : Nat} (hBk : B = 2 ^ k) : 2 ^ (k * mm) = B ^ mm := by rw [hBk, ← Nat.pow_mul]
abbrev tupOf (vs : List Value) : Obj := { cls := .type "tuple", data := .seq vs.toArray }
section
variable {prog : Program} {w : World} {A : Around} {E : Value → Shared → Prop} {s : Shared} {env : Env} {h₀ : Heap} {L : Addr} {x : Str} {body : List Stmt} {Q : Flow → Shared → Prop} {σ : Type}
theorem forT {l : Addr} {vs : List Value} {ns : List Int} {m₀ : Str → Option Value} (Led : σ → List (Addr × Obj)) (ps : σ → List (Str × Value)) (P : Nat → σ → Prop) (c₀ : σ)
    (hh : A.handled = none) (hl : ∀ c, (l, tupOf vs) ∈ Led c) (hi : IntsAre vs ns)
    (F : Fr h₀ env.locals s.heap m₀) (N : News h₀ env.locals s.heap (Led c₀)) (hk : ∀ p ∈ ps c₀, m₀ p.1 = some p.2) (hp : P 0 c₀)
    (turn : ∀ i c (u : Str → Option Value) k t I it h tk, i < ns.length → ns[i]? = some k → P i c → (∀ p ∈ Led c, p.1 ≠ I) → Fr h₀ env.locals h (fun y => if y = x then some (.int k t) else kstB u (ps c) y) → News h₀ env.locals h ((I, it) :: Led c) →
      wpAny (model prog w) A (execs body env) (FPost h₀ env.locals { s with heap := h, toks := tk } Led ps (P (i + 1)) I it Q) E { s with heap := h, toks := tk })
    (done : ∀ c (u : Str → Option Value) h tk, P ns.length c → Fr h₀ env.locals h (kstB u (ps c)) → News h₀ env.locals h (Led c) → Q .next { s with heap := h, toks := tk }) :
    wpAny (model prog w) A (pyIter (.ref l)) (fun it s₂ => LoopAtV prog w A h₀ env x body Q E it s₂) E s := by
  have hol : s.heap.get? l = some (tupOf vs) := (N _ (hl c₀)).1
  have hls : s.heap.IsTuple l vs.toArray := ⟨_, hol, rfl, _, rfl⟩
  have hne : l ≠ s.heap.objs.size := Nat.ne_of_lt (Heap.lt_size hol)
  refine wpAny_pyIter_tuple hls ?_
  have W := Walks.tuple (prog := prog) (w := w) hh s.heap.objs.size l hne vs.toArray
  have hlen : vs.toArray.size = ns.length := by simp [hi.length]
  rw [hlen] at W
  let J : Nat → (Str → Option Value) → List (Addr × Obj) → Prop := fun i m nx => ∃ c : σ, nx = Led c ∧ (∀ p ∈ ps c, m p.1 = some p.2) ∧ P i c
  refine ⟨_, _, _, ns.length, _, _, m₀, Led c₀, J, rfl, W, ?_, ?_, ?_, ⟨⟨_, Heap.get?_push_size _ rfl, rfl, rfl⟩, hls.at fun o e => Heap.get?_push_of_some _ e⟩, F.push _, (fun p hp => ⟨Heap.get?_push_of_some _ (N p hp).1, (N p hp).2⟩), ⟨c₀, rfl, hk, hp⟩, ?_, ?_⟩
  · intro hm
    rcases List.mem_cons.mp hm with e | hm
    · exact absurd F.ns.lt (e ▸ Nat.lt_irrefl _)
    · exact absurd (List.mem_singleton.mp hm) (Ne.symm (N _ (hl c₀)).2.1)
  · intro b hb
    rw [List.mem_singleton.mp hb]
    exact next_is_new F
  · intro p hp hI
    exact absurd (Heap.lt_size (N p hp).1) ((List.mem_singleton.mp hI) ▸ Nat.lt_irrefl _)
  · rintro i v m₁ news₁ s₁ own ⟨hh', tk', rfl⟩ hin hP ⟨c, rfl, hk', hp'⟩ hoff hsub hget hall hst F₁ N₁
    obtain ⟨it, hit, _⟩ := hst.1
    have hown : (s.heap.objs.size, it) ∈ own := hall _ (.head _) (next_is_new F) _ hit
    obtain ⟨t, hx⟩ := hi.get i ns[i] (by simp [hin])
    have hv : v = .int ns[i] t := by
      have hP' : vs[i]? = some v := by simpa using hP
      rw [hx] at hP'; exact (Option.some.inj hP').symm
    subst hv
    refine wpAny_mono (turn i c m₁ ns[i] t _ it hh' tk' hin (by simp [hin]) hp' (fun p hp hI => hoff p hp (List.mem_singleton.mpr hI)) (fr_ps1 F₁ hk') (fun p hp => ?_)) (fun f s₂ p => ?_) fun _ _ e => e
    · rcases List.mem_cons.mp hp with rfl | hp
      · exact N₁ _ (List.mem_append.mpr (.inl hown))
      · exact N₁ _ (List.mem_append.mpr (.inr hp))
    · have fin : FEnd h₀ env.locals { s with heap := hh', toks := tk' } Led ps (P (i + 1)) s.heap.objs.size it s₂ → LoopStepU h₀ env.locals [s.heap.objs.size] own (J (i + 1)) { s with heap := hh', toks := tk' } .next s₂ := by
        rintro ⟨c', h', tk, m', rfl, F', N', hI, hk2, hp2⟩
        refine LoopStepU.intro F' (news₂ := Led c') (fun p hp => ?_) (fun p hp hq => hI p hp (List.mem_singleton.mp hq)) ⟨c', rfl, hk2, hp2⟩
        rcases List.mem_append.mp hp with hp | hp
        · rcases List.mem_cons.mp (hsub p hp) with e1 | e1
          · have e2 := hget p hp
            rw [e1] at e2
            have e3 : some p.2 = some it := e2.symm.trans hit
            have e4 : p = (s.heap.objs.size, it) := Prod.ext e1 (Option.some.inj e3)
            rw [e4]
            exact N' _ (.head _)
          · have e1 := List.mem_singleton.mp e1
            have e2 := hget p hp
            rw [e1] at e2
            have hl2 : hh'.get? l = some (tupOf vs) := (N₁ _ (List.mem_append.mpr (.inr (hl c)))).1
            have e3 : some p.2 = some (tupOf vs) := e2.symm.trans hl2
            have e4 : p = (l, tupOf vs) := Prod.ext e1 (Option.some.inj e3)
            rw [e4]
            exact N' _ (.tail _ (hl c'))
        · exact N' _ (.tail _ hp)
      cases f with
      | ret v => exact .ret p
      | brk => exact .brk p
      | next => exact .next (fin p)
      | cont => exact .cont (fin p)
  · rintro h' tk m' news' F' N' _ ⟨c, rfl, hk', hp'⟩
    exact done c m' h' tk hp' (fr_ps F' hk') N'

theorem forTx {l : Addr} {vs : List Value} {ns : List Int} {m₀ : Str → Option Value} (Led : σ → List (Addr × Obj)) (ps : σ → List (Str × Value)) (P : Nat → σ → Prop) (c₀ : σ)
    (hh : A.handled = none) (hi : IntsAre vs ns)
    (F : Fr h₀ env.locals s.heap m₀) (N : News h₀ env.locals s.heap ((l, tupOf vs) :: Led c₀)) (hk : ∀ p ∈ ps c₀, m₀ p.1 = some p.2) (hp : P 0 c₀)
    (turn : ∀ i c (u : Str → Option Value) k t I it h tk, i < ns.length → ns[i]? = some k → P i c → (∀ p ∈ (l, tupOf vs) :: Led c, p.1 ≠ I) → Fr h₀ env.locals h (fun y => if y = x then some (.int k t) else kstB u (ps c) y) → News h₀ env.locals h ((I, it) :: (l, tupOf vs) :: Led c) →
      wpAny (model prog w) A (execs body env) (FPost h₀ env.locals { s with heap := h, toks := tk } (fun c => (l, tupOf vs) :: Led c) ps (P (i + 1)) I it Q) E { s with heap := h, toks := tk })
    (done : ∀ c (u : Str → Option Value) h tk, P ns.length c → Fr h₀ env.locals h (kstB u (ps c)) → News h₀ env.locals h ((l, tupOf vs) :: Led c) → Q .next { s with heap := h, toks := tk }) :
    wpAny (model prog w) A (pyIter (.ref l)) (fun it s₂ => LoopAtV prog w A h₀ env x body Q E it s₂) E s :=
  forT (fun c => (l, tupOf vs) :: Led c) ps P c₀ hh (fun _ => .head _) hi F N hk hp turn done
end
theorem zeros_mulz {prog : Program} {w : World} {A : Around} {E : Value → Shared → Prop} {s : Shared} {h₀ : Heap} {L l : Addr} {m : Str → Option Value} {news : List (Addr × Obj)} {vs : List Value} {c : Nat} {u : Tok} {Q : Value → Shared → Prop} {z : Int} {j : Nat} (F : Fr h₀ L s.heap m) (N : News h₀ L s.heap news) (hm : (l, listOf vs.toArray c) ∈ news) (hi : IntsAre vs [0]) (hz : z = (j : Int)) (hj : j ≤ 1000)
    (h : ∀ D ws h', Fr h₀ L h' m → News h₀ L h' ((D, listOf (List.toArray ws) 0) :: news) → (∀ p ∈ news, p.1 < D) → IntsAre ws (List.replicate j 0) → Q (.ref D) { s with heap := h' }) : wpAny (model prog w) A (binaryOp .Mult (.ref l) (.int z u)) Q E s := by
  subst hz
  exact zeros_mul F N hm hi hj h
theorem zeros_cmp {B mm sp : Nat} (hB : 2 ≤ B) (h : sp ≤ mm) : (!decide (row B (B ^ mm / B ^ sp) = List.replicate (mm - sp) 0 ++ [1])) = false := by
  rw [Nat.pow_div h (by (first | lia | omega)), row_pow hB, decide_eq_true rfl]; rfl
section
open PyProof.V PySem.Spec PySem.SeqAt
variable {prog : Program} {w : World} {A : Around} {E : Value → Shared → Prop} {s : Shared} {h₀ : Heap} {L a b a1 a2 b1 b2 : Addr} {news : List (Addr × Obj)} {va1 va2 vb1 vb2 : List Value} {c1 c2 e1 e2 : Nat} {ns ms : List Int} {Q : Value → Shared → Prop}
theorem shaped_pair (ns ms : List Int) : shaped (.tuple [.list (ns.map PyData.int), .list (ms.map PyData.int)]) = true := by
  have h1 := PySem.W.depthAll_ints ns
  have h2 := PySem.W.depthAll_ints ms
  have h3 : PyData.depth (.tuple [.list (ns.map PyData.int), .list (ms.map PyData.int)]) ≤ 64 := by simp only [PyData.depth, PyData.depthAll]; (first | lia | omega)
  show (PyData.canLay0 _ && decide _) = true
  rw [Bool.and_eq_true]
  exact ⟨by simp [PyData.canLay0, PyData.canLayAll0, canLayAll0_ints], decide_eq_true h3⟩
theorem ne_pairs (N : News h₀ L s.heap news) (ha : (a, tupOf [.ref a1, .ref a2]) ∈ news) (hb : (b, tupOf [.ref b1, .ref b2]) ∈ news)
    (h1 : (a1, listOf va1.toArray c1) ∈ news) (h2 : (a2, listOf va2.toArray c2) ∈ news) (h3 : (b1, listOf vb1.toArray e1) ∈ news) (h4 : (b2, listOf vb2.toArray e2) ∈ news)
    (i1 : IntsAre va1 ns) (i2 : IntsAre va2 ms) (j1 : IntsAre vb1 ns) (j2 : IntsAre vb2 ms) (hu : A.units + 64 < cLine)
    (h : Q (.bool false) s) : wpAny (model prog w) A (compareOp .NotEq (.ref a) (.ref b)) Q E s := by
  have ra : Reads s.heap (.ref a) (.tuple [.list (ns.map PyData.int), .list (ms.map PyData.int)]) _ :=
    Reads.tuple (vs := #[.ref a1, .ref a2]) (N _ ha).1 rfl rfl (.cons (reads_of_ints (News.isList N h1) i1) (.cons (reads_of_ints (News.isList N h2) i2) .nil))
  have rb : Reads s.heap (.ref b) (.tuple [.list (ns.map PyData.int), .list (ms.map PyData.int)]) _ :=
    Reads.tuple (vs := #[.ref b1, .ref b2]) (N _ hb).1 rfl rfl (.cons (reads_of_ints (News.isList N h3) j1) (.cons (reads_of_ints (News.isList N h4) j2) .nil))
  refine ne_dataH_same ra rb (shaped_pair ns ms) (shaped_pair ns ms) hu ?_ ?_
  · simp [noMix, noMixAll, noMix_ints]
  · have e : PySem.Spec.same (.tuple [.list (ns.map PyData.int), .list (ms.map PyData.int)]) (.tuple [.list (ns.map PyData.int), .list (ms.map PyData.int)]) = true := by
      simp [PySem.Spec.same, PySem.Spec.sameAll, same_ints]
    rw [e]; exact h
end
/-- a frame with cells is left by a raised exception that is on its way -/
theorem leave_cells {M : Model} {A : Around} {E : Value → Shared → Prop} {s' : Shared} {base g g₂ : Heap} {outer : List Env} {L a e t : Addr} {m : Str → Option Value} {name : Str} {scope : Scope} {cd cls : Value} {cl : List (Str × Addr)} {vs : List Value} {Q : Unit → Shared → Prop} {news : List (Addr × Obj)}
    (K : Below A base outer g) (F : Fr g L g₂ m) (R : RaisedK base (envX name scope L a cd cl :: outer) e cls t vs news s'.heap) (U : g₂.UpToSlots s'.heap)
    (go : ∀ h', RaisedK base outer e cls t vs news h' → g.UpToSlots h' → Q () { s' with heap := h' }) :
    wpAny M (A.deeper (envX name scope L a cd cl)) (leaving (envX name scope L a cd cl) (.ref e)) Q E s' := by
  rcases R with ⟨⟨B₁, st, ents, fly, unborn⟩, tup⟩
  refine wpAny_leaves_onW (Around.frames_deeper K.stack) rfl fly fun h₁ fly₁ up₁ => go h₁ ⟨⟨B₁, st, ents, fly₁, unborn⟩, tup.of_slots up₁⟩ ?_
  exact (Heap.UpToSlots.of_keeps F.keep).trans (U.trans up₁)
end Mine
end
section
open PySem PySem.W PyProof.Rows PySem.Spec PySem.Calls
namespace Mine
section
variable {prog : Program} {w : World} {A A₀ : Around} {s s' : Shared} {base h₀ g h : Heap} {L L₁ a : Addr} {m m₁ : Str → Option Value} {K : Frag} {p : Program} {loose : List Str} {mean : ExcName → Option Value} {mg mb : Str → Option Value} {env : Env} {outer : List Env} {news : List (Addr × Obj)}
/-- a frame over a wider ground is one over the narrow ground -/
theorem fr_low (F : Fr g L h m) (st : h₀.StaysIn g) (hs : h₀.objs.size ≤ L) : Fr h₀ L h m := ⟨F.ns, fun b o e => F.keep b o (st b o e), hs⟩
/-- a def is called; its end is the caller's affair -/
theorem call_low {R : Result → Shared → Prop} {name qual : Str} {params : Arguments} {body : List Stmt} {scope : Scope} {dV kV doc pm cdv ct oc : Value} {an od : Option Addr} {osl : Array (Option Value)} {f : Addr} {args : Args} {binds : List (Str × Value)}
    (B : Below A₀ base outer h₀) (F : Fr h₀ L s.heap m) (X₀ : K.In h₀) (N : News h₀ L s.heap news) (T : Top p loose mean mg mb h₀) (hA : A.frames = some (env :: outer)) (hf : env.frame = some L) (hke : env.scope.kind = .function)
    (ho : K.lookup f = some ⟨oc, od, .func (fnOf name qual params body scope dV kV doc pm an cdv ct), osl⟩) (hcd : codeIn K cdv qual = true) (hroom : A.depth < recursionLimit)
    (hbind : BindsTo s (fnOf name qual params body scope dV kV doc pm an cdv ct) args binds) (hloc : ∀ y ∈ binds, scope.names.lookup y.1 = some .local)
    (go : ∀ g L' h₁, Fr h₀ L g m → Fr g L' h₁ (fun y => binds.reverse.lookup y) → News g L' h₁ news → Below A base (env :: outer) g → K.In g → Top p loose mean mg mb g → h₀.StaysIn g → L < L' →
      wpAny (model prog w) (A.deeper (envOf qual scope L' f cdv)) (execs body (envOf qual scope L' f cdv)) (fun fl s' => R (.ok (.ret (match fl with | .ret v => v | _ => .none))) s')
        (fun e s' => wpAny (model prog w) (A.deeper (envOf qual scope L' f cdv)) (leaving (envOf qual scope L' f cdv) e) (fun _ s'' => R (.error e) s'') (fun e' s'' => R (.error e') s'') s')
        { s with heap := h₁, toks := s.toks + binds.length })
    (hco : scope.isCoroutine = false) (hgen : scope.isGenerator = false) (hk : scope.kind = .function)
    (hcell : ∀ x ∈ scope.names, x.2 ≠ .cell) : codeAny (model prog w) A (.call (.ref f) args) R s := by
  obtain ⟨FG, BG, st, _⟩ := groundX (R := R) B F N hA hf hke
  have X := X₀.keeps F.keep
  refine codeAny_call_def (fd := fnOf name qual params body scope dV kV doc pm an cdv ct) (body := body) (binds := binds) hroom (X _ _ ho) rfl (T.nolimit.keeps F.keep) (codeRec_of X hcd) rfl hbind hcell hloc (fun h₁ born kept => ?_) hco hgen hk
  exact go _ s.heap.objs.size h₁ FG ⟨born, fun b o e => kept b o (of_hideAll _ e), Nat.le_of_eq (hideAll_size _ _)⟩
    (fun q hq => ⟨kept _ _ (N q hq).1, Nat.ne_of_lt (Heap.lt_size (N q hq).1), hideAll_none _ (List.mem_map_of_mem hq)⟩) BG (X₀.keeps st) (T.keeps st) st F.ns.lt
/-- an own exception is caught in a frame that is not the first; the caller's frame is one more thing of the ledger -/
theorem caught_low {E : Value → Shared → Prop} {e t C : Addr} {name : Str} {scope : Scope} {cd : Value} {vs bmB : List Value} {newId : String} {b₀ : Stmt} {suite : List Stmt} {pos np : Pos} {rest : List ExceptHandler} {Q : Flow → Shared → Prop} {x : Str}
    (stack : A₀.frames = some outer) (F : Fr h₀ L h m) (F₁ : Fr h₀ L₁ h m₁) (apart : L₁ ≠ L) (up : h.UpToSlots s'.heap) (R : RaisedK h₀ (envOf name scope L a cd :: outer) e (.ref C) t vs news s'.heap)
    (X : K.In h₀) (T : TopRead p loose mg mb h₀) (ex : nsIn K mainGlobals x = some (some (.ref C))) (q : excIn K C bmB newId = true) (hbase : bmB.contains (.type "BaseException") = true)
    (go : ∀ h' o₁, Fr h₀ L h' m → LCg.NsObj o₁ m₁ → News h₀ L h' ((L₁, o₁) :: news) →
      wpAny (model prog w) ((A₀.deeper (envOf name scope L a cd)).mark (some (.ref e))) (execs (b₀ :: suite) (envOf name scope L a cd)) Q E { s' with heap := h' })
    (hk : scope.kind = .function := by rfl) (hx : (envOf name scope L a cd).kindOf x = some .globalImplicit := by rfl) (hd : (x == ("__debug__" : Str)) = false := by decide)
    (hE : PassesOwnAt (model prog w) ((A₀.deeper (envOf name scope L a cd)).mark (some (.ref e))) (A₀.deeper (envOf name scope L a cd)) (envOf name scope L a cd) E := by passes_own) :
    wpAny (model prog w) (A₀.deeper (envOf name scope L a cd)) (noteFrame (.ref e) (envOf name scope L a cd))
      (fun _ s₂ => wpAny (model prog w) (A₀.deeper (envOf name scope L a cd)) (setFlight (.ref e) none) (fun _ s₃ =>
        wpAny (model prog w) (A₀.deeper (envOf name scope L a cd)) (handleBy (.ref e) (envOf name scope L a cd) (.ExceptHandler (some (.Name x np)) none (b₀ :: suite) pos :: rest)) Q E s₃) E s₂) E s' := by
  rcases R with ⟨⟨B, stB, ents, fly, unborn⟩, tup⟩
  have hidden : B.get? L = none := by
    obtain ⟨_, ⟨L', _, hf, hn', _⟩, _⟩ := fly.2.2.1
    cases Option.some.inj hf
    exact hn'
  refine wpAny_looks_onW (Around.frames_deeper stack) rfl fly fun h₁ held₁ up₁ => wpAny_landsW held₁ fun h₂ held₂ up₂' => ?_
  have up₂ := up₁.trans up₂'
  have low₂ := flyingW_base stB held₂
  have F₂ := F.of_stays low₂.1 (up.trans up₂)
  obtain ⟨ob, hob, hobc⟩ := low₂.there
  refine wpAny_handleBy_cons (codeAny_handlers_test (name_K F₂ X T ex ?_ hk hx hd)) (by intro z; cases z)
  obtain ⟨bm, N, nm, qn, bs, hdct, sn, sub, ab, col, dd, k0, k1, k2, k3, k5, mN, hC, hN, hni, TL⟩ := ((own_of_in X T ex q).keeps F₂.keep).obj
  refine wpAny_excMatches_sub_self hC hob hobc (TL.hasType hbase) (codeAny_handlers_suite (lands_againW held₂ fun h₃ fly₃ up₃ => ?_))
  have low₃ := flyingW_base stB fly₃
  have all := (up.trans up₂).trans up₃
  obtain ⟨o₁, here, own⟩ := LCg.ns_obj (F₁.of_stays low₃.1 all).ns
  refine wpAny_passesOwnAt hE (go h₃ o₁ (F.of_stays low₃.1 all) own fun z hz => ?_)
  rcases List.mem_cons.mp hz with rfl | hz
  · exact ⟨here, apart, Heap.get?_none_of_le F₁.above⟩
  · have old := ents z hz
    refine ⟨fly₃.1 _ _ old.1, fun same => ?_, old.2⟩
    have lost := old.1
    rw [same, hidden] at lost
    cases lost
theorem caught_deep {E : Value → Shared → Prop} {e t C : Addr} {name : Str} {scope : Scope} {cd : Value} {vs bmB : List Value} {newId : String} {b₀ : Stmt} {suite : List Stmt} {pos np : Pos} {rest : List ExceptHandler} {Q : Flow → Shared → Prop} {x : Str}
    (stack : A₀.frames = some outer) (F : Fr g L h m) (low : h₀.StaysIn g) (F₁ : Fr h₀ L₁ g m₁) (lt : L₁ < L) (up : h.UpToSlots s'.heap) (R : RaisedK h₀ (envOf name scope L a cd :: outer) e (.ref C) t vs news s'.heap)
    (X : K.In h₀) (T : TopRead p loose mg mb h₀) (ex : nsIn K mainGlobals x = some (some (.ref C))) (q : excIn K C bmB newId = true) (hbase : bmB.contains (.type "BaseException") = true)
    (go : ∀ h' o₁, Fr h₀ L h' m → LCg.NsObj o₁ m₁ → News h₀ L h' ((L₁, o₁) :: news) →
      wpAny (model prog w) ((A₀.deeper (envOf name scope L a cd)).mark (some (.ref e))) (execs (b₀ :: suite) (envOf name scope L a cd)) Q E { s' with heap := h' })
    (hk : scope.kind = .function := by rfl) (hx : (envOf name scope L a cd).kindOf x = some .globalImplicit := by rfl) (hd : (x == ("__debug__" : Str)) = false := by decide)
    (hE : PassesOwnAt (model prog w) ((A₀.deeper (envOf name scope L a cd)).mark (some (.ref e))) (A₀.deeper (envOf name scope L a cd)) (envOf name scope L a cd) E := by passes_own) :
    wpAny (model prog w) (A₀.deeper (envOf name scope L a cd)) (noteFrame (.ref e) (envOf name scope L a cd))
      (fun _ s₂ => wpAny (model prog w) (A₀.deeper (envOf name scope L a cd)) (setFlight (.ref e) none) (fun _ s₃ =>
        wpAny (model prog w) (A₀.deeper (envOf name scope L a cd)) (handleBy (.ref e) (envOf name scope L a cd) (.ExceptHandler (some (.Name x np)) none (b₀ :: suite) pos :: rest)) Q E s₃) E s₂) E s' :=
  caught_low stack (fr_low F low (Nat.le_trans F₁.above (Nat.le_of_lt lt))) (F₁.keeps F.keep) (Nat.ne_of_lt lt) up R X T ex q hbase go hk hx hd hE
/-- back in the caller's frame -/
theorem back_low {o₁ : Obj} (F : Fr h₀ L h m) (N : News h₀ L h ((L₁, o₁) :: news)) (own : LCg.NsObj o₁ m₁) (hs : h₀.objs.size ≤ L₁) (apart : ∀ z ∈ news, z.1 ≠ L₁) : Fr h₀ L₁ h m₁ ∧ News h₀ L₁ h news :=
  ⟨⟨own.ns (N _ (.head _)).1, F.keep, hs⟩, fun z hz => ⟨(N z (.tail _ hz)).1, apart z hz, (N z (.tail _ hz)).2.2⟩⟩
end
end Mine
end
section
namespace Mine
open PySem.Challenge
local macro_rules | `(tactic| k_mem) => `(tactic| first | exact List.Mem.head _ | assumption | (refine' List.mem_cons_of_mem _ ?_; k_mem))
local macro_rules | `(tactic| news_mem) => `(tactic| k_mem)
local macro_rules | `(tactic| ktn_lt) => `(tactic| first | assumption | exact ltl1 (by assumption) | exact ltl2 (by assumption) | exact ltl3 (by assumption) | exact ltl4 (by assumption) | exact ltl5 (by assumption) | exact ltl6 (by assumption))
local macro_rules | `(tactic| k_all) => `(tactic| first | assumption | exact ne_of_lt_all (by ktn_lt))
local macro_rules | `(tactic| tb_start) => `(tactic| repeat' ((fail_if_success (with_reducible show wpAny _ _ (pyIter _) _ _ _)); (fail_if_success (with_reducible show wpAny _ _ (call (Value.ref _) _) _ _ _)); (fail_if_success (with_reducible show wpAny _ _ (exec (Stmt.While _ _ _ _) _) _ _ _)); (fail_if_success (with_reducible show FEnd _ _ _ _ _ _ _ _ _)); (fail_if_success (with_reducible show WEnd _ _ _ _ _ _ _ _ _)); first | (k_unfold; (try dsimp only)) | walk1 | (dsimp only; walk1) | (leave1; (try dsimp only)) | fail "no step"))
local macro_rules | `(tactic| tb_rel) => `(tactic| first | exact List.forall_mem_nil _ | (refine List.forall_mem_cons.mpr ⟨?_, ?_⟩; k_mem; tb_rel) | (intro p hp; repeat (first | exact hp | refine List.mem_cons_of_mem _ ?_)))
local macro_rules | `(tactic| ktr_unf) => `(tactic| first | exact List.forall_mem_nil _ | (refine List.forall_mem_cons.mpr ⟨rfl, ?_⟩; ktr_unf))
local macro_rules | `(tactic| ktn_open) => `(tactic| first | exact List.forall_mem_nil _ | assumption | (refine List.forall_mem_cons.mpr ⟨?_, ?_⟩; k_ne; ktn_open))
local macro_rules | `(tactic| walk_at "eval Name") => `(tactic| (k_here; (with_reducible show wpAny _ _ (eval _ (envOf _ _ _ _ _)) _ _ _); k_dflt (refine' ld ?k1 ?k2 ?_ ?k3 ?k4 ?k5; (case k1 => k_asm); (case k3 => exact rfl); (case k4 => kernel_rfl); (case k5 => kernel_rfl); (case k2 => exact rfl); k_whole)))
local macro_rules | `(tactic| walk_at "FPost") => `(tactic| (dsimp only [FPost]))
local macro_rules | `(tactic| walk_at "WPost") => `(tactic| (dsimp only [WPost]))
local macro_rules | `(tactic| walk_at "exec For Name Call cons nil") => `(tactic| (k_here; (rename Fr _ _ _ _ => lF'); (with_unfolding_all refine' For_invVF lF' ?k1 ?k2 ?_; (case k1 => exact rfl); (case k2 => exact rfl); k_whole)))
local macro_rules | `(tactic| walk_at "exec For Name Name cons nil") => `(tactic| (k_here; (rename Fr _ _ _ _ => lF'); (with_unfolding_all refine' For_invVF lF' ?k1 ?k2 ?_; (case k1 => exact rfl); (case k2 => exact rfl); k_whole)))
local macro_rules | `(tactic| walk_at "exec For Name Subscript cons nil") => `(tactic| (k_here; (rename Fr _ _ _ _ => lF'); (with_unfolding_all refine' For_invVF lF' ?k1 ?k2 ?_; (case k1 => exact rfl); (case k2 => exact rfl); k_whole)))
local macro_rules | `(tactic| walk_at "subscriptTail Name Name ref int") => `(tactic| (k_here; (with_reducible show wpAny _ _ (subscriptTail _ _ (Value.ref _) (Value.int (Nat.cast _) _)) _ _ _); k_dflt (refine' row_item ?k1 ?k2 ?k3 ?k4 ?k5 ?_; (case k1 => k_asm); (case k2 => k_mem); (case k3 => assumption); (case k4 => omega); (case k5 => omega); k_whole); intro _))
local macro_rules | `(tactic| walk_at "call builtin:len") => `(tactic| (k_here; (with_reducible show wpAny _ _ (call (Value.builtin _) [Value.ref _]) _ _ _); k_dflt (refine' row_len ?k1 ?k2 ?k3 ?k4 ?_; (case k1 => k_asm); (case k2 => k_mem); (case k3 => assumption); (case k4 => omega); k_whole)))
local macro_rules | `(tactic| walk_at "binaryOp Add int int") => `(tactic| (k_here; (with_reducible show wpAny _ _ (binaryOp _ (Value.int (Nat.cast _) _) (Value.int (Nat.cast _) _)) _ _ _); (refine' add_nat ?_; k_whole)))
local macro_rules | `(tactic| walk_at "inplaceOp Add int int") => `(tactic| (k_here; (with_reducible show wpAny _ _ (inplaceOp _ (Value.int (Nat.cast _) _) (Value.int (Nat.cast _) _)) _ _ _); (refine' iadd_nat ?_; k_whole)))
local macro_rules | `(tactic| walk_at "binaryOp LShift int int") => `(tactic| (k_here; (first | (refine' shl_one ?k1 ?_; (case k1 => k_dflt omega); k_whole) | (refine' shl_by_one ?k1 ?k2 ?_; (case k1 => k_dflt (first | rfl | assumption | omega)); (case k2 => k_dflt omega); k_whole))))
local macro_rules | `(tactic| walk_at "binaryOp BitAnd int int") => `(tactic| (k_here; (refine' and_mask ?_; k_whole)))
local macro_rules | `(tactic| walk_at "inplaceOp RShift int int") => `(tactic| (k_here; (refine' ishr_nat ?_; k_whole)))
local macro_rules | `(tactic| walk_at "inplaceOp BitOr int int") => `(tactic| (k_here; (refine' ior_even ?k1 ?_; (case k1 => k_dflt omega); k_whole)))
local macro_rules | `(tactic| walk_at "call builtin:list.append") => `(tactic| (k_here; (with_reducible show wpAny _ _ (call (Value.builtin _) [Value.ref _, _]) _ _ _); k_dflt (refine' row_append ?k1 ?k2 ?k3 ?k4 ?k5 ?_; (case k1 => k_asm); (case k2 => k_asm); (case k3 => k_upd); (case k4 => assumption); (case k5 => omega); k_whole); intro h' F' N'; (try k_sweep)))
local macro_rules | `(tactic| walk_at "subscriptTail Name Slice ref ref") => `(tactic| (k_here; (with_reducible show wpAny _ _ (subscriptTail _ (PySem.Expr.Slice _ _ _ _) (Value.ref _) (Value.ref _)) _ _ _); k_dflt (first | (refine' row_from ?F ?N ?m ?i ?B ?x ?_ ?s ?t; (case F => k_asm); (case N => k_asm); (case m => k_mem); (case i => assumption); (case B => assumption); (case x => omega); (case s => with_unfolding_all rfl); (case t => kmk_pure)) | (refine' row_all ?F ?N ?m ?i ?x ?_ ?s ?t; (case F => k_asm); (case N => k_asm); (case m => k_mem); (case i => assumption); (case x => omega); (case s => with_unfolding_all rfl); (case t => kmk_pure)) | (refine' row_rev ?o ?F ?N ?m ?i ?x ?_ ?s ?t; (case o => rfl); (case F => k_asm); (case N => k_asm); (case m => k_mem); (case i => assumption); (case x => omega); (case s => with_unfolding_all rfl); (case t => kmk_pure))); intro D' ws' h' F' N' l1 hI'; (try k_lt l1); (try k_sweep)))
local macro_rules | `(tactic| walk_at "binaryOp Mult ref int") => `(tactic| (k_here; (with_reducible show wpAny _ _ (binaryOp _ (Value.ref _) (Value.int _ _)) _ _ _); k_dflt (refine' zeros_mul ?F ?N ?m ?i ?x ?_; (case F => k_asm); (case N => k_asm); (case m => k_mem); (case i => first | assumption | exact .cons _ _ .nil); (case x => omega)); intro D' ws' h' F' N' l1 hI'; (try k_lt l1); (try k_sweep)))
local macro_rules | `(tactic| walk_at "binaryOp Add ref ref") => `(tactic| (k_here; (with_reducible show wpAny _ _ (binaryOp _ (Value.ref _) (Value.ref _)) _ _ _); k_dflt (refine' cat_ints ?F ?N ?m ?i ?n ?j ?z ?_; (case F => k_asm); (case N => k_asm); (case m => k_mem); (case i => k_mem); (case n => first | assumption | exact .cons _ _ .nil); (case j => first | assumption | exact .cons _ _ .nil); (case z => simp only [List.length_replicate, row_length, List.length_cons, List.length_nil]; omega)); intro D' ws' h' F' N' l1 hI'; (try k_lt l1); (try k_sweep)))
local macro_rules | `(tactic| walk_at "binaryOp Mult int int") => `(tactic| (k_here; first | (refine' mul_small ?k1 ?_; (case k1 => k_dflt omega); k_whole) | (refine' mul_natp ?k1 ?_; (case k1 => assumption); k_whole) | (refine' mul_big ?k1 ?k2 ?_; (case k1 => assumption); (case k2 => assumption); k_whole)))
local macro_rules | `(tactic| walk_at "binaryOp Pow int int") => `(tactic| (k_here; (refine' pow_two ?k1 ?_; (case k1 => k_dflt omega); k_whole)))
local macro_rules | `(tactic| walk_at "binaryOp FloorDiv int int") => `(tactic| (k_here; first | (refine' fdiv_nat ?a ?b ?_; (case a => assumption); (case b => assumption); k_whole) | (refine' fdiv_natl ?a ?b ?_; (case a => assumption); (case b => assumption); k_whole) | k_dflt (refine' fdiv_one ?a ?b ?c ?_; (case a => first | assumption | rfl); (case b => omega); (case c => omega); k_whole)))
local macro_rules | `(tactic| walk_at "binaryOp Mod int int") => `(tactic| (k_here; first | (refine' fmod_nat ?a ?_; (case a => assumption); k_whole) | k_dflt (refine' fmod_one ?a ?b ?_; (case a => first | assumption | rfl); (case b => omega); k_whole)))
local macro_rules | `(tactic| ktn_end $h:term) => `(tactic| (refine' Tell.use ?tH ?tB ?tF ?tX ?tN ?tT ?tk ?td ?tu ?_; (case tN => k_asm); (case tH => exact $h); (case tB => k_asm); (case tF => k_asm); (case tX => k_asm); (case tT => k_asm); (case tk => first | exact rfl | assumption); (case td => ktr_room); (case tu => ktr_units)))
theorem off_norm : True := by
  w_top off
  trivial

theorem stop_take {B n k : Nat} (hB : 2 ≤ B) (hn : n < B ^ k) {j : Int} (h1 : min ((digs B n k).length : Int) 0 ≤ j) (h2 : j ≤ (digs B n k).length)
    (h3 : ∀ i : Int, j < i → i ≤ (digs B n k).length → (if 0 < i then if ((digs B n k).getD (i - 1).toNat 0 == 0) = true then true else false else false) = true)
    (h4 : (if 0 < j then if ((digs B n k).getD (j - 1).toNat 0 == 0) = true then true else false else false) = false) : (digs B n k).take j.toNat = row B n := by
  rw [digs_length] at h1 h2 h3
  have hj : 0 ≤ j := by omega
  rw [digs_take (by omega)]
  refine digs_eq hB (lt_of_digs hB (k := k) (by omega) hn fun i a b => ?_) ?_
  · have h := h3 (i + 1) (by omega) (by omega)
    have e : ((i : Int) + 1 - 1).toNat = i := by omega
    rw [if_pos (by omega), e, digs_getD b] at h
    by_cases hz : dig B n i = 0
    · exact hz
    · exfalso
      have : ¬ (((dig B n i : Nat) : Int) == 0) = true := by simp [hz]
      rw [if_neg this] at h; cases h
  · by_cases h0 : 0 < j
    · right
      have e : (j - 1).toNat = j.toNat - 1 := by omega
      rw [if_pos h0, e, digs_getD (by omega)] at h4
      apply pow_le_of_dig
      intro hz
      rw [hz] at h4; simp at h4
    · left; omega

theorem normal_tell {prog : Program} {w : World} {news : List (Addr × Obj)} {la : Addr} {va : List Value} {na : Nat} {B n k : Nat} (hm : (la, listOf va.toArray na) ∈ news) (hi : IntsAre va (digs B n k)) (hB : 2 ≤ B) (hn : n < B ^ k) (hk : k ≤ 1000) :
   Tell prog w 58 [.ref la] 1 news (NewRow B n news) := by
  have hl : (digs B n k).length ≤ 1000 := by rw [digs_length]; exact hk
  have hst := fun j => stop_take (j := j) hB hn
  revert hl hst hi
  generalize digs B n k = ns
  intro hi hl hst
  unfold Tell
  intro dp un gd cn cs a ccd cl outer A₀ base h₀ L m s mean mg mb Q E B F X N T hk hd hu hret
  refine wpAny_call ?_
  k_dflt ktr_enter
  k_steps
  refine hret _ _ _ _ (by assumption) (by assumption) ⟨_, _, _, rfl, rfl, by assumption, ?_⟩
  rw [← hst _ (by assumption) (by assumption) (by assumption) (by assumption)]
  assumption
theorem off_cmp : True := by
  w_top off
  trivial

theorem compare_tell {prog : Program} {w : World} {news : List (Addr × Obj)} {la lb : Addr} {va vb : List Value} {na nb : Nat} {B x y : Nat} (hma : (la, listOf va.toArray na) ∈ news) (hia : IntsAre va (row B x)) (hmb : (lb, listOf vb.toArray nb) ∈ news) (hib : IntsAre vb (row B y)) (hB : 2 ≤ B) (hx : len B x ≤ 1000) (hy : len B y ≤ 1000) :
   Tell prog w 65 [.ref la, .ref lb] 1 news (fun r news' => news' = news ∧ ∃ t, r = .int (cmp x y) t) := by
  unfold Tell
  intro dp un gd cn cs a ccd cl outer A₀ base h₀ L m s mean mg mb Q E B' F X N T hk hd hu hret
  refine wpAny_call ?_
  k_dflt ktr_enter
  tb_start
  · refine hret _ _ _ _ (by assumption) (by assumption) ⟨rfl, ktn_int (cmp_lt (lt_of_len_lt hB (by (first | lia | omega)))).symm⟩
  · refine hret _ _ _ _ (by assumption) (by assumption) ⟨rfl, ktn_int (cmp_gt (lt_of_len_lt hB (by (first | lia | omega)))).symm⟩
  · rename IsRange _ _ _ _ _ _ _ _ => R
    rename Fr _ _ _ _ => F1
    rename News _ _ _ _ => N1
    have hle : len B x = len B y := by (first | lia | omega)
    refine forR (σ := Unit) (fun _ => news) (fun _ => [("a", .ref la), ("b", .ref lb)]) (fun i _ => ∀ j : Nat, (len B x : Int) - i ≤ j → dig B x j = dig B y j) (len B x) () rfl R
      (small_down (by (first | lia | omega)) (by (first | lia | omega)) (by (first | lia | omega)) (by (first | lia | omega))) (by rw [rangeSize_downNat]; (first | lia | omega)) F1 N1 ?_ ?_ ?_ ?_
    · ktr_unf
    · intro j hj
      rw [dig_high ((len_le_iff hB).mp (by (first | lia | omega))), dig_high ((len_le_iff hB).mp (by (first | lia | omega)))]
    · intro i c u t I it h tk hi hP hI F2 N2
      dsimp only [kstB] at F2
      k_fold
      have hat : (len B x : Int) - 1 - i < 2 ^ 62 := by (first | lia | omega)
      rw [show (len B x : Int) - 1 + (i : Int) * -1 = ((len B x - 1 - i : Nat) : Int) by (first | lia | omega)] at F2
      have hlt : len B x - 1 - i < len B x := by (first | lia | omega)
      obtain ⟨at', hat'⟩ : ∃ k, len B x - 1 - i = k := ⟨_, rfl⟩
      rw [hat'] at F2 hlt
      tb_start
      · refine hret _ _ _ _ (by assumption) (news_sub (by assumption) (by tb_rel)) ⟨rfl, ktn_int (cmp_lt ?_).symm⟩
        refine lt_of_dig_lt hB (k := at') (fun j hj => hP j (by (first | lia | omega))) (by (first | lia | omega))
      · refine hret _ _ _ _ (by assumption) (news_sub (by assumption) (by tb_rel)) ⟨rfl, ktn_int (cmp_gt ?_).symm⟩
        refine lt_of_dig_lt hB (k := at') (fun j hj => (hP j (by (first | lia | omega))).symm) (by (first | lia | omega))
      · refine FEnd.mk () (by assumption) (by assumption) (by assumption) (by ktr_unf) ?_
        intro j hj
        by_cases e : j = at'
        · subst e; (first | lia | omega)
        · exact hP j (by (first | lia | omega))
    · intro c u h tk hP F2 N2
      dsimp only [kstB] at F2
      have hxy : x = y := eq_of_digs hB hle fun j => hP j (by (first | lia | omega))
      tb_start
      refine hret _ _ _ _ (by assumption) (by assumption) ⟨rfl, ktn_int (cmp_eq hxy).symm⟩
theorem off_add : True := by
  w_top off
  trivial

theorem add_tell {prog : Program} {w : World} {news : List (Addr × Obj)} {la lb : Addr} {va vb : List Value} {na nb k : Nat} {tw : Tok} {B x y : Nat} (hma : (la, listOf va.toArray na) ∈ news) (hia : IntsAre va (row B x)) (hmb : (lb, listOf vb.toArray nb) ∈ news) (hib : IntsAre vb (row B y))
   (hk : 2 ≤ k) (hk9 : k ≤ 60) (hBk : B = 2 ^ k) (hB : 2 ≤ B) (hx : len B x ≤ 1000) (hy : len B y ≤ 1000) :
   Tell prog w 72 [.ref la, .ref lb, .int (k : Int) tw] 1 news (NewRow B (x + y) news) := by
  unfold Tell
  intro dp un gd cn cs a ccd cl outer A₀ base h₀ L m s mean mg mb Q E B' F X N T hk' hd hu hret
  refine wpAny_call ?_
  k_dflt ktr_enter
  tb_start

  · have hyx : len B x ≤ len B y := by (first | lia | omega)
    have hyp := (len_le_iff hB).mp hyx
    rename IsRange _ _ _ _ _ _ _ _ => R
    rename Fr _ _ _ _ => F1
    rename News _ _ _ _ => N1
    obtain ⟨lf, tm, t0, F3, N3, hlf⟩ : ∃ (lf : Addr) (tm t0 : Tok), Fr _ _ _ (kstB _ [("a", .ref lb), ("b", .ref la), ("w", .int (k : Int) tw), ("found", .ref lf), ("mask", .int (((2 ^ k : Nat) : Int) - 1) tm), ("carry", .int ((0 : Nat) : Int) t0)]) ∧ News _ _ _ ((lf, listOf ([] : List Value).toArray 0) :: news) ∧ (∀ p ∈ news, p.1 < lf) :=
      ⟨_, _, _, fr_ps F1 (by ktr_unf), news_sub N1 (by tb_rel), (by ktn_lt)⟩
    refine forR (σ := (List Value × Nat × Nat × Tok)) (fun c => (lf, listOf c.1.toArray c.2.1) :: news) (fun c => [("a", .ref lb), ("b", .ref la), ("w", .int (k : Int) tw), ("found", .ref lf), ("mask", .int (((2 ^ k : Nat) : Int) - 1) tm), ("carry", .int ((c.2.2.1 : Nat) : Int) c.2.2.2)]) (fun i c => IntsAre c.1 (digs B (y + x) i) ∧ c.2.2.1 = carr B y x i) (len B x) ([], 0, 0, t0) rfl R (small_one (by (first | lia | omega)) (by (first | lia | omega)) (by (first | lia | omega)) (by (first | lia | omega))) (by rw [rangeSize_nat]; (first | lia | omega)) F3 N3 (by ktr_unf) ⟨.nil, (carr_zero _ _ _).symm⟩ ?_ ?_
    · rintro i ⟨vs, n, cr, tc⟩ u t I it h tk hi ⟨hv, hc⟩ hI F4 N4
      dsimp only [kstB] at F4 N4 hI hv hc
      subst hc
      have hI1 := neN (hI _ (.head _))
      dsimp only at hI1
      have hI2 : ∀ p ∈ news, p.1 ≠ I := fun p hp => hI p (.tail _ hp)
      rw [show (0 : Int) + (i : Int) * 1 = (i : Int) by (first | lia | omega)] at F4
      (with_reducible show wpAny _ _ _ _ _ _)
      k_fold
      tb_start
      refine FEnd.mk (_, _, _, _) (by assumption) (news_sub (by assumption) (by tb_rel)) (by ktn_open) (by ktr_unf) ⟨int_snoc hv ?_, ?_⟩
      · rw [← hBk]; exact carr_dig hB _ _ _
      · show _ / 2 ^ k = _
        rw [← hBk]; exact carr_step hB _ _ _
    · rintro ⟨vs, n, cr, tc⟩ u h tk ⟨hv, hc⟩ F4 N4
      dsimp only [kstB] at F4 N4 hv hc
      subst hc
      tb_start
      rename IsRange _ _ _ _ _ _ _ _ => R2
      rename Fr _ _ _ _ => F5
      rename News _ _ _ _ => N5
      refine forR (σ := (List Value × Nat × Nat × Tok)) (fun c => (lf, listOf c.1.toArray c.2.1) :: news) (fun c => [("a", .ref lb), ("b", .ref la), ("w", .int (k : Int) tw), ("found", .ref lf), ("mask", .int (((2 ^ k : Nat) : Int) - 1) tm), ("carry", .int ((c.2.2.1 : Nat) : Int) c.2.2.2)]) (fun j c => IntsAre c.1 (digs B (y + x) (len B x + j)) ∧ c.2.2.1 = carr B y x (len B x + j)) (len B y - len B x) (vs, n, carr B y x (len B x), tc) rfl R2 (small_one (by (first | lia | omega)) (by (first | lia | omega)) (by (first | lia | omega)) (by (first | lia | omega))) (by rw [rangeSize_nat]; (first | lia | omega)) F5 N5 (by ktr_unf) ⟨hv, rfl⟩ ?_ ?_
      · rintro j ⟨vs, n, cr, tc⟩ u t I it h tk hj ⟨hv, hc⟩ hI F4 N4
        dsimp only [kstB] at F4 N4 hI hv hc
        subst hc
        have hI1 := neN (hI _ (.head _))
        dsimp only at hI1
        have hI2 : ∀ p ∈ news, p.1 ≠ I := fun p hp => hI p (.tail _ hp)
        rw [show (len B x : Int) + (j : Int) * 1 = ((len B x + j : Nat) : Int) by (first | lia | omega)] at F4
        (with_reducible show wpAny _ _ _ _ _ _)
        k_fold
        tb_start
        refine FEnd.mk (_, _, _, _) (by assumption) (news_sub (by assumption) (by tb_rel)) (by ktn_open) (by ktr_unf) ⟨int_snoc hv ?_, ?_⟩
        · rw [← hBk]; exact carr_dig0 hB _ (by (first | lia | omega))
        · show _ / 2 ^ k = _
          rw [← hBk]; exact carr_step0 hB _ (by (first | lia | omega))
      · rintro ⟨vs, n, cr, tc⟩ u h tk ⟨hv, hc⟩ F4 N4
        dsimp only [kstB] at F4 N4 hv hc
        subst hc
        rw [show len B x + (len B y - len B x) = len B y by (first | lia | omega)] at F4 hv
        generalize hcr : carr B y x (len B y) = cr at F4
        tb_start
        · have h0 : 0 < carr B y x (len B y) := by rw [hcr]; (first | lia | omega)
          refine hret _ _ _ _ (by assumption) (news_sub (by assumption) (by tb_rel)) ⟨_, _, _, rfl, rfl, hlf, ?_⟩
          rw [Nat.add_comm x y, ← add_end1 hB hyx h0, hcr]
          exact IntsAre.append hv (.cons _ _ .nil)
        · have h0 : carr B y x (len B y) = 0 := by rw [hcr]; (first | lia | omega)
          refine hret _ _ _ _ (by assumption) (news_sub (by assumption) (by tb_rel)) ⟨_, _, _, rfl, rfl, hlf, ?_⟩
          rw [Nat.add_comm x y, ← add_end0 hB hyx h0]
          exact hv

  · have hyx : len B y ≤ len B x := by (first | lia | omega)
    have hyp := (len_le_iff hB).mp hyx
    rename IsRange _ _ _ _ _ _ _ _ => R
    rename Fr _ _ _ _ => F1
    rename News _ _ _ _ => N1
    obtain ⟨lf, tm, t0, F3, N3, hlf⟩ : ∃ (lf : Addr) (tm t0 : Tok), Fr _ _ _ (kstB _ [("a", .ref la), ("b", .ref lb), ("w", .int (k : Int) tw), ("found", .ref lf), ("mask", .int (((2 ^ k : Nat) : Int) - 1) tm), ("carry", .int ((0 : Nat) : Int) t0)]) ∧ News _ _ _ ((lf, listOf ([] : List Value).toArray 0) :: news) ∧ (∀ p ∈ news, p.1 < lf) :=
      ⟨_, _, _, fr_ps F1 (by ktr_unf), news_sub N1 (by tb_rel), (by ktn_lt)⟩
    refine forR (σ := (List Value × Nat × Nat × Tok)) (fun c => (lf, listOf c.1.toArray c.2.1) :: news) (fun c => [("a", .ref la), ("b", .ref lb), ("w", .int (k : Int) tw), ("found", .ref lf), ("mask", .int (((2 ^ k : Nat) : Int) - 1) tm), ("carry", .int ((c.2.2.1 : Nat) : Int) c.2.2.2)]) (fun i c => IntsAre c.1 (digs B (x + y) i) ∧ c.2.2.1 = carr B x y i) (len B y) ([], 0, 0, t0) rfl R (small_one (by (first | lia | omega)) (by (first | lia | omega)) (by (first | lia | omega)) (by (first | lia | omega))) (by rw [rangeSize_nat]; (first | lia | omega)) F3 N3 (by ktr_unf) ⟨.nil, (carr_zero _ _ _).symm⟩ ?_ ?_
    · rintro i ⟨vs, n, cr, tc⟩ u t I it h tk hi ⟨hv, hc⟩ hI F4 N4
      dsimp only [kstB] at F4 N4 hI hv hc
      subst hc
      have hI1 := neN (hI _ (.head _))
      dsimp only at hI1
      have hI2 : ∀ p ∈ news, p.1 ≠ I := fun p hp => hI p (.tail _ hp)
      rw [show (0 : Int) + (i : Int) * 1 = (i : Int) by (first | lia | omega)] at F4
      (with_reducible show wpAny _ _ _ _ _ _)
      k_fold
      tb_start
      refine FEnd.mk (_, _, _, _) (by assumption) (news_sub (by assumption) (by tb_rel)) (by ktn_open) (by ktr_unf) ⟨int_snoc hv ?_, ?_⟩
      · rw [← hBk]; exact carr_dig hB _ _ _
      · show _ / 2 ^ k = _
        rw [← hBk]; exact carr_step hB _ _ _
    · rintro ⟨vs, n, cr, tc⟩ u h tk ⟨hv, hc⟩ F4 N4
      dsimp only [kstB] at F4 N4 hv hc
      subst hc
      tb_start
      rename IsRange _ _ _ _ _ _ _ _ => R2
      rename Fr _ _ _ _ => F5
      rename News _ _ _ _ => N5
      refine forR (σ := (List Value × Nat × Nat × Tok)) (fun c => (lf, listOf c.1.toArray c.2.1) :: news) (fun c => [("a", .ref la), ("b", .ref lb), ("w", .int (k : Int) tw), ("found", .ref lf), ("mask", .int (((2 ^ k : Nat) : Int) - 1) tm), ("carry", .int ((c.2.2.1 : Nat) : Int) c.2.2.2)]) (fun j c => IntsAre c.1 (digs B (x + y) (len B y + j)) ∧ c.2.2.1 = carr B x y (len B y + j)) (len B x - len B y) (vs, n, carr B x y (len B y), tc) rfl R2 (small_one (by (first | lia | omega)) (by (first | lia | omega)) (by (first | lia | omega)) (by (first | lia | omega))) (by rw [rangeSize_nat]; (first | lia | omega)) F5 N5 (by ktr_unf) ⟨hv, rfl⟩ ?_ ?_
      · rintro j ⟨vs, n, cr, tc⟩ u t I it h tk hj ⟨hv, hc⟩ hI F4 N4
        dsimp only [kstB] at F4 N4 hI hv hc
        subst hc
        have hI1 := neN (hI _ (.head _))
        dsimp only at hI1
        have hI2 : ∀ p ∈ news, p.1 ≠ I := fun p hp => hI p (.tail _ hp)
        rw [show (len B y : Int) + (j : Int) * 1 = ((len B y + j : Nat) : Int) by (first | lia | omega)] at F4
        (with_reducible show wpAny _ _ _ _ _ _)
        k_fold
        tb_start
        refine FEnd.mk (_, _, _, _) (by assumption) (news_sub (by assumption) (by tb_rel)) (by ktn_open) (by ktr_unf) ⟨int_snoc hv ?_, ?_⟩
        · rw [← hBk]; exact carr_dig0 hB _ (by (first | lia | omega))
        · show _ / 2 ^ k = _
          rw [← hBk]; exact carr_step0 hB _ (by (first | lia | omega))
      · rintro ⟨vs, n, cr, tc⟩ u h tk ⟨hv, hc⟩ F4 N4
        dsimp only [kstB] at F4 N4 hv hc
        subst hc
        rw [show len B y + (len B x - len B y) = len B x by (first | lia | omega)] at F4 hv
        generalize hcr : carr B x y (len B x) = cr at F4
        tb_start
        · have h0 : 0 < carr B x y (len B x) := by rw [hcr]; (first | lia | omega)
          refine hret _ _ _ _ (by assumption) (news_sub (by assumption) (by tb_rel)) ⟨_, _, _, rfl, rfl, hlf, ?_⟩
          rw [← add_end1 hB hyx h0, hcr]
          exact IntsAre.append hv (.cons _ _ .nil)
        · have h0 : carr B x y (len B x) = 0 := by rw [hcr]; (first | lia | omega)
          refine hret _ _ _ _ (by assumption) (news_sub (by assumption) (by tb_rel)) ⟨_, _, _, rfl, rfl, hlf, ?_⟩
          rw [← add_end0 hB hyx h0]
          exact hv
theorem off_sub : True := by
  w_top off
  trivial

theorem sub_tell {prog : Program} {w : World} {news : List (Addr × Obj)} {la lb : Addr} {va vb : List Value} {na nb k : Nat} {tw : Tok} {B x y : Nat} (hma : (la, listOf va.toArray na) ∈ news) (hia : IntsAre va (row B x)) (hmb : (lb, listOf vb.toArray nb) ∈ news) (hib : IntsAre vb (row B y))
   (hk : 2 ≤ k) (hk9 : k ≤ 60) (hBk : B = 2 ^ k) (hB : 2 ≤ B) (hx : len B x ≤ 1000) (hyx : y ≤ x) :
   Tell prog w 79 [.ref la, .ref lb, .int (k : Int) tw] 2 news (NewRow B (x - y) news) := by
  have hyl : len B y ≤ len B x := len_mono hB hyx
  unfold Tell
  intro dp un gd cn cs a ccd cl outer A₀ base h₀ L m s mean mg mb Q E B' F X N T hk' hd hu hret
  refine wpAny_call ?_
  k_dflt ktr_enter
  tb_start
  ktn_end (compare_tell hma hia hmb hib hB hx (by (first | lia | omega)))
  rintro r news' h' tk' F' N' ⟨rfl, t', rfl⟩
  have hc : ¬ cmp x y < 0 := by rw [cmp_neg]; (first | lia | omega)
  tb_start
  rename IsRange _ _ _ _ _ _ _ _ => R
  rename Fr _ _ _ _ => F1
  rename News _ _ _ _ => N1
  obtain ⟨lf, tm, t0, F3, N3, hlf⟩ : ∃ (lf : Addr) (tm t0 : Tok), Fr _ _ _ (kstB _ [("a", .ref la), ("b", .ref lb), ("w", .int (k : Int) tw), ("found", .ref lf), ("base", .int ((2 ^ k : Nat) : Int) tm), ("borrow", .int ((0 : Nat) : Int) t0)]) ∧ News _ _ _ ((lf, listOf ([] : List Value).toArray 0) :: news') ∧ (∀ p ∈ news', p.1 < lf) :=
    ⟨_, _, _, fr_ps F1 (by ktr_unf), news_sub N1 (by tb_rel), (by ktn_lt)⟩
  refine forR (σ := (List Value × Nat × Nat × Tok)) (fun c => (lf, listOf c.1.toArray c.2.1) :: news') (fun c => [("a", .ref la), ("b", .ref lb), ("w", .int (k : Int) tw), ("found", .ref lf), ("base", .int ((2 ^ k : Nat) : Int) tm), ("borrow", .int ((c.2.2.1 : Nat) : Int) c.2.2.2)]) (fun i c => IntsAre c.1 (digs B (x - y) i) ∧ c.2.2.1 = bor B x y i) (len B x) ([], 0, 0, t0) rfl R (small_one (by (first | lia | omega)) (by (first | lia | omega)) (by (first | lia | omega)) (by (first | lia | omega))) (by rw [rangeSize_nat]; (first | lia | omega)) F3 N3 (by ktr_unf) ⟨.nil, (bor_zero _ _ _).symm⟩ ?_ ?_
  · rintro i ⟨vs, n, cr, tc⟩ u t I it h tk hi ⟨hv, hc⟩ hI F4 N4
    dsimp only [kstB] at F4 N4 hI hv hc
    subst hc
    have hI1 := neN (hI _ (.head _))
    dsimp only at hI1
    have hI2 : ∀ p ∈ news', p.1 ≠ I := fun p hp => hI p (.tail _ hp)
    have hpl := sub_place hB hyx i
    have hy0 : len B y ≤ i → dig B y i = 0 := fun h => dig_high ((len_le_iff hB).mp h)
    rw [show (0 : Int) + (i : Int) * 1 = (i : Int) by (first | lia | omega)] at F4
    (with_reducible show wpAny _ _ _ _ _ _)
    k_fold
    tb_start
    · have hq := hpl.1 (by (first | lia | omega))
      refine FEnd.mk (_, _, 1, _) (by assumption) (news_sub (by assumption) (by tb_rel)) (by ktn_open) (by ktr_unf) ⟨int_snocI hv ?_, hq.2.symm⟩
      rw [hq.1, hBk]
    · have hq := hpl.2 (by (first | lia | omega))
      refine FEnd.mk (_, _, 0, _) (by assumption) (news_sub (by assumption) (by tb_rel)) (by ktn_open) (by ktr_unf) ⟨int_snocI hv ?_, hq.2.symm⟩
      rw [hq.1]
    · have hy1 := hy0 (by (first | lia | omega))
      have hq := hpl.1 (by (first | lia | omega))
      refine FEnd.mk (_, _, 1, _) (by assumption) (news_sub (by assumption) (by tb_rel)) (by ktn_open) (by ktr_unf) ⟨int_snocI hv ?_, hq.2.symm⟩
      rw [hq.1, hy1, hBk]; rfl
    · have hy1 := hy0 (by (first | lia | omega))
      have hq := hpl.2 (by (first | lia | omega))
      refine FEnd.mk (_, _, 0, _) (by assumption) (news_sub (by assumption) (by tb_rel)) (by ktn_open) (by ktr_unf) ⟨int_snocI hv ?_, hq.2.symm⟩
      rw [hq.1, hy1]; rfl
  · rintro ⟨vs, n, cr, tc⟩ u h tk ⟨hv, hc⟩ F4 N4
    dsimp only [kstB] at F4 N4 hv hc
    subst hc
    tb_start
    ktn_end (normal_tell (by k_mem) hv hB (Nat.lt_of_le_of_lt (Nat.sub_le _ _) (lt_pow_len hB x)) (by (first | lia | omega)))
    rintro r news2 h2 tk2 F5 N5 ⟨l2, vs2, c2, rfl, rfl, hl2, hi2⟩
    tb_start
    refine hret _ _ _ _ (by assumption) (news_sub (by assumption) (by tb_rel)) ⟨_, _, _, rfl, rfl, ?_, hi2⟩
    exact fun p hp => hl2 p (.tail _ hp)
theorem off_lift : True := by
  w_top off
  trivial

theorem lifted_tell {prog : Program} {w : World} {news : List (Addr × Obj)} {la : Addr} {va : List Value} {na j : Nat} {tj : Tok} {B x : Nat} (hma : (la, listOf va.toArray na) ∈ news) (hia : IntsAre va (row B x))
   (hB : 2 ≤ B) (hx : len B x ≤ 1000) (hj : j ≤ 1000) :
   Tell prog w 86 [.ref la, .int (j : Int) tj] 1 news (NewRow B (x * B ^ j) news) := by
  unfold Tell
  intro dp un gd cn cs a ccd cl outer A₀ base h₀ L m s mean mg mb Q E B' F X N T hk' hd hu hret
  refine wpAny_call ?_
  k_dflt ktr_enter
  tb_start
  · have hx0 : 0 < x := by
      have h0 : x ≠ 0 := fun h => by have := (len_eq_zero hB).mpr h; omega
      omega
    refine hret _ _ _ _ (by assumption) (news_sub (by assumption) (by tb_rel)) ⟨_, _, _, rfl, rfl, (by ktn_lt), ?_⟩
    rw [← row_mul hB hx0]; assumption
  · have hx0 : x = 0 := (len_eq_zero hB).mp (by omega)
    refine hret _ _ _ _ (by assumption) (news_sub (by assumption) (by tb_rel)) ⟨_, [], _, rfl, rfl, (by ktn_lt), ?_⟩
    rw [hx0, Nat.zero_mul, row_zero]; exact .nil
theorem lifted_tellz {prog : Program} {w : World} {news : List (Addr × Obj)} {la : Addr} {va : List Value} {na : Nat} (j : Nat) {z : Int} {tj : Tok} {B x : Nat} (hma : (la, listOf va.toArray na) ∈ news) (hia : IntsAre va (row B x))
   (hB : 2 ≤ B) (hx : len B x ≤ 1000) (hj : j ≤ 1000) (hz : z = (j : Int)) :
   Tell prog w 86 [.ref la, .int z tj] 1 news (NewRow B (x * B ^ j) news) := by
  subst hz; exact lifted_tell hma hia hB hx hj
theorem off_down : True := by
  w_top off
  trivial

theorem down_tell {prog : Program} {w : World} {news : List (Addr × Obj)} {la : Addr} {va : List Value} {na j : Nat} {tj : Tok} {B x : Nat} (hma : (la, listOf va.toArray na) ∈ news) (hia : IntsAre va (row B x))
   (hB : 2 ≤ B) (hx : len B x ≤ 1000) (hj : j ≤ 1000) :
   Tell prog w 100 [.ref la, .int (j : Int) tj] 1 news (NewRow B (x / B ^ j) news) := by
  unfold Tell
  intro dp un gd cn cs a ccd cl outer A₀ base h₀ L m s mean mg mb Q E B' F X N T hk' hd hu hret
  have hl : (row B x).length ≤ 1000 := by rw [row_length]; exact hx
  refine wpAny_call ?_
  k_dflt ktr_enter
  tb_start
  exact hret _ _ _ _ (by assumption) (by assumption) ⟨_, _, _, rfl, rfl, (by ktn_lt), by assumption⟩
theorem down_tellz {prog : Program} {w : World} {news : List (Addr × Obj)} {la : Addr} {va : List Value} {na : Nat} (j : Nat) {z : Int} {tj : Tok} {B x : Nat} (hma : (la, listOf va.toArray na) ∈ news) (hia : IntsAre va (row B x))
   (hB : 2 ≤ B) (hx : len B x ≤ 1000) (hj : j ≤ 1000) (hz : z = (j : Int)) :
   Tell prog w 100 [.ref la, .int z tj] 1 news (NewRow B (x / B ^ j) news) := by
  subst hz; exact down_tell hma hia hB hx hj
theorem off_shift : True := by
  w_top off
  trivial

theorem shift_tell {prog : Program} {w : World} {news : List (Addr × Obj)} {la : Addr} {va : List Value} {na k : Nat} {o : Int} {to tw : Tok} {B x : Nat} (hma : (la, listOf va.toArray na) ∈ news) (hia : IntsAre va (row B x)) (ho : o = 1)
   (hk : 2 ≤ k) (hk9 : k ≤ 60) (hBk : B = 2 ^ k) (hB : 2 ≤ B) (hx : len B x ≤ 1000) :
   Tell prog w 93 [.ref la, .int o to, .int (k : Int) tw] 1 news (NewRow B (2 * x) news) := by
  unfold Tell
  intro dp un gd cn cs a ccd cl outer A₀ base h₀ L m s mean mg mb Q E B' F X N T hk' hd hu hret
  refine wpAny_call ?_
  k_dflt ktr_enter
  tb_start
  · have hx0 : x = 0 := (len_eq_zero hB).mp (by omega)
    refine hret _ _ _ _ (by assumption) (news_sub (by assumption) (by tb_rel)) ⟨_, [], _, rfl, rfl, (by ktn_lt), ?_⟩
    rw [hx0, Nat.mul_zero, row_zero]; exact .nil
  · rename Fr _ _ _ _ => F1
    rename News _ _ _ _ => N1
    rename IntsAre _ (List.replicate 0 0) => hz0
    obtain ⟨lf, tf, tm, t0, vs0, F3, N3, hv0, hlf⟩ : ∃ (lf : Addr) (tf tm t0 : Tok) (vs0 : List Value), Fr _ _ _ (kstB _ [("a", .ref la), ("w", .int (k : Int) tw), ("few", .int 1 tf), ("found", .ref lf), ("mask", .int (((2 ^ k : Nat) : Int) - 1) tm), ("carry", .int ((0 : Nat) : Int) t0)]) ∧ News _ _ _ ((lf, listOf vs0.toArray 0) :: news) ∧ IntsAre vs0 (List.replicate 0 0) ∧ (∀ p ∈ news, p.1 < lf) :=
      ⟨_, _, _, _, _, fr_ps F1 (by ktr_unf), news_sub N1 (by tb_rel), hz0, (by ktn_lt)⟩
    refine forL (σ := (List Value × Nat × Nat × Tok)) (fun c => (lf, listOf c.1.toArray c.2.1) :: news) (fun c => [("a", .ref la), ("w", .int (k : Int) tw), ("few", .int 1 tf), ("found", .ref lf), ("mask", .int (((2 ^ k : Nat) : Int) - 1) tm), ("carry", .int ((c.2.2.1 : Nat) : Int) c.2.2.2)]) (fun i c => IntsAre c.1 (digs B (x + x) i) ∧ c.2.2.1 = carr B x x i) (vs0, 0, 0, t0) rfl (fun _ => .tail _ hma) hia F3 N3 (by ktr_unf) ⟨hv0, (carr_zero _ _ _).symm⟩ ?_ ?_
    · rintro i ⟨vs, n, cr, tc⟩ u e t I it h tk hi he ⟨hv, hc⟩ hI F4 N4
      dsimp only [kstB] at F4 N4 hI hv hc
      subst hc
      rw [row_length] at hi
      rw [row_get hi] at he
      obtain rfl := Option.some.inj he
      have hI1 := neN (hI _ (.head _))
      dsimp only at hI1
      have hI2 : ∀ p ∈ news, p.1 ≠ I := fun p hp => hI p (.tail _ hp)
      have hd64 : dig B x i < 2 ^ 64 := Nat.lt_of_lt_of_le (dig_lt hB) (by rw [hBk]; exact Nat.pow_le_pow_right (by omega) (by omega))
      have hc1 := carr_le hB x x i
      (with_reducible show wpAny _ _ _ _ _ _)
      k_fold
      tb_start
      have h2 : ∀ z, carr B x x i + 2 * z = carr B x x i + (z + z) := by intro z; omega
      refine FEnd.mk (_, _, _, _) (by assumption) (news_sub (by assumption) (by tb_rel)) (by ktn_open) (by ktr_unf) ⟨int_snoc hv ?_, ?_⟩
      · rw [← hBk, h2]; exact carr_dig hB _ _ _
      · show _ / 2 ^ k = _
        rw [← hBk, h2]; exact carr_step hB _ _ _
    · rintro ⟨vs, n, cr, tc⟩ u h tk ⟨hv, hc⟩ F4 N4
      dsimp only [kstB] at F4 N4 hv hc
      subst hc
      rw [row_length] at F4 hv
      generalize hcr : carr B x x (len B x) = cr at F4
      have h2 : 2 * x = x + x := by omega
      tb_start
      · have h0 : 0 < carr B x x (len B x) := by rw [hcr]; omega
        refine hret _ _ _ _ (by assumption) (news_sub (by assumption) (by tb_rel)) ⟨_, _, _, rfl, rfl, hlf, ?_⟩
        rw [h2, ← add_end1 hB (Nat.le_refl _) h0, hcr]
        exact IntsAre.append hv (.cons _ _ .nil)
      · have h0 : carr B x x (len B x) = 0 := by rw [hcr]; omega
        refine hret _ _ _ _ (by assumption) (news_sub (by assumption) (by tb_rel)) ⟨_, _, _, rfl, rfl, hlf, ?_⟩
        rw [h2, ← add_end0 hB (Nat.le_refl _) h0]
        exact hv
theorem off_bits : True := by
  w_top off
  trivial

theorem bits_tell {prog : Program} {w : World} {news : List (Addr × Obj)} {la lb : Addr} {va vb : List Value} {na nb k n : Nat} {tn tw : Tok} {B r b : Nat} (hma : (la, listOf va.toArray na) ∈ news) (hia : IntsAre va (row B r)) (hmb : (lb, listOf vb.toArray nb) ∈ news) (hib : IntsAre vb (row B b))
   (hk : 2 ≤ k) (hk9 : k ≤ 60) (hBk : B = 2 ^ k) (hB : 2 ≤ B) (hb : len B b ≤ 900) (hn : n ≤ 800) (hr : r < b) :
   Tell prog w 107 [.ref la, .ref lb, .int (n : Int) tn, .int (k : Int) tw] 3 news (NewRow B (r * 2 ^ n / b) news) := by
  have hb0 : 0 < b := by (first | lia | omega)
  unfold Tell
  intro dp un gd cn cs a ccd cl outer A₀ base h₀ L m s mean mg mb Q E B' F X N T hk' hd hu hret
  refine wpAny_call ?_
  k_dflt ktr_enter
  tb_start
  rename IsRange _ _ _ _ _ _ _ _ => R
  rename Fr _ _ _ _ => F1
  rename News _ _ _ _ => N1
  obtain ⟨lq, vq, F3, N3, hvq, hlq⟩ : ∃ (lq : Addr) (vq : List Value), Fr _ _ _ (kstB _ [("b", .ref lb), ("w", .int (k : Int) tw), ("rest", .ref la), ("quotient", .ref lq)]) ∧ News _ _ _ ((lq, listOf vq.toArray 0) :: (la, listOf va.toArray na) :: news) ∧ IntsAre vq [] ∧ (∀ p ∈ news, p.1 < lq) :=
    ⟨_, _, fr_ps F1 (by ktr_unf), news_sub N1 (by tb_rel), .nil, (by ktn_lt)⟩
  refine forR (σ := (Addr × List Value × Nat × Addr × List Value × Nat)) (fun c => (c.2.2.2.1, listOf c.2.2.2.2.1.toArray c.2.2.2.2.2) :: (c.1, listOf c.2.1.toArray c.2.2.1) :: news) (fun c => [("b", .ref lb), ("w", .int (k : Int) tw), ("rest", .ref c.1), ("quotient", .ref c.2.2.2.1)]) (fun i c => IntsAre c.2.1 (row B (r * 2 ^ i % b)) ∧ IntsAre c.2.2.2.2.1 (row B (r * 2 ^ i / b)) ∧ ∀ p ∈ news, p.1 < c.2.2.2.1) n (la, va, na, lq, vq, 0) rfl R (small_one (by (first | lia | omega)) (by (first | lia | omega)) (by (first | lia | omega)) (by (first | lia | omega))) (by rw [rangeSize_nat]; (first | lia | omega)) F3 N3 (by ktr_unf) ⟨by rw [(bits_zero hr).1]; exact hia, by rw [(bits_zero hr).2, row_zero]; exact hvq, hlq⟩ ?_ ?_
  · rintro i ⟨lr, vr, nr, lq, vq, nq⟩ u t I it h tk hi ⟨hvr, hvq, hlq⟩ hI F4 N4
    dsimp only [kstB] at F4 N4 hI hvr hvq hlq
    have hI2 : ∀ p ∈ news, p.1 ≠ I := fun p hp => hI p (.tail _ (.tail _ hp))
    have hRb : r * 2 ^ i % b < b := Nat.mod_lt _ hb0
    have hst := bits_step (r := r) (i := i) hb0
    have hQ := quot_le (i := i) hr
    have hl1 : len B (r * 2 ^ i % b) ≤ 900 := Nat.le_trans (len_mono hB (Nat.le_of_lt hRb)) hb
    have hl2 : len B (2 * (r * 2 ^ i % b)) ≤ 901 := Nat.le_trans (len_double hB hRb) (by (first | lia | omega))
    have hl3 : len B (r * 2 ^ i / b) ≤ 900 := Nat.le_trans (len_two_pow hB hQ) (by (first | lia | omega))
    have hl4 : len B (2 * (r * 2 ^ i / b)) ≤ 900 := Nat.le_trans (len_two_pow hB (n := i + 1) (by rw [Nat.pow_succ]; (first | lia | omega))) (by (first | lia | omega))
    have hl5 : len B 1 ≤ 1000 := by rw [len_eq hB (k := 1) (by rw [Nat.pow_one]; (first | lia | omega)) (.inr (by simp))]; (first | lia | omega)
    clear hQ
    generalize r * 2 ^ i % b = R at *
    generalize r * 2 ^ i / b = Qt at *
    (with_reducible show wpAny _ _ _ _ _ _)
    k_fold
    tb_start
    ktn_end (shift_tell (by k_mem) hvr rfl hk hk9 hBk hB (by (first | lia | omega)))
    rintro _ _ h1 tk1 F5 N5 ⟨l1, v1, c1, rfl, rfl, hl1', hi1⟩
    tb_start
    ktn_end (shift_tell (by k_mem) hvq rfl hk hk9 hBk hB (by (first | lia | omega)))
    rintro _ _ h2 tk2 F6 N6 ⟨l2, v2, c2, rfl, rfl, hl2', hi2⟩
    tb_start
    ktn_end (compare_tell (by k_mem) hi1 (by k_mem) hib hB (by (first | lia | omega)) (by (first | lia | omega)))
    rintro _ _ h3 tk3 F7 N7 ⟨rfl, t3, rfl⟩
    tb_start
    · have hge : b ≤ 2 * R := by have := cmp_neg (x := 2 * R) (y := b); (first | lia | omega)
      ktn_end (sub_tell (by k_mem) hi1 (by k_mem) hib hk hk9 hBk hB (by (first | lia | omega)) hge)
      rintro _ _ h4 tk4 F8 N8 ⟨l4, v4, c4, rfl, rfl, hl4', hi4⟩
      tb_start
      ktn_end (add_tell (by k_mem) hi2 (by k_mem) (by rw [row_one hB]; exact .cons _ _ .nil) hk hk9 hBk hB (by (first | lia | omega)) hl5)
      rintro _ _ h5 tk5 F9 N9 ⟨l5, v5, c5, rfl, rfl, hl5', hi5⟩
      tb_start
      have hI4 := ltN (hl4' (I, it) (by k_mem))
      have hI5 := ltN (hl5' (I, it) (by k_mem))
      refine FEnd.mk (l4, v4, c4, l5, v5, c5) (by assumption) (news_sub (by assumption) (by tb_rel)) (by ktn_open) (by ktr_unf) ⟨?_, ?_, lt_sub hl5' (by tb_rel)⟩
      · rw [(hst.1 hge).1]; exact hi4
      · rw [(hst.1 hge).2]; exact hi5
    · have hlt : 2 * R < b := by have := cmp_neg (x := 2 * R) (y := b); (first | lia | omega)
      have hI4 := ltN (hl1' (I, it) (by k_mem))
      have hI5 := ltN (hl2' (I, it) (by k_mem))
      refine FEnd.mk (l1, v1, c1, l2, v2, c2) (by assumption) (news_sub (by assumption) (by tb_rel)) (by ktn_open) (by ktr_unf) ⟨?_, ?_, lt_sub hl2' (by tb_rel)⟩
      · rw [(hst.2 hlt).1]; exact hi1
      · rw [(hst.2 hlt).2]; exact hi2
  · rintro ⟨lr, vr, nr, lq, vq, nq⟩ u h tk ⟨hvr, hvq, hlq⟩ F4 N4
    dsimp only [kstB] at F4 N4 hvr hvq hlq
    tb_start
    exact hret _ _ _ _ (by assumption) (news_sub (by assumption) (by tb_rel)) ⟨_, _, _, rfl, rfl, hlq, hvq⟩
theorem bits_tellz {prog : Program} {w : World} {news : List (Addr × Obj)} {la lb : Addr} {va vb : List Value} {na nb k : Nat} (n : Nat) {z : Int} {tn tw : Tok} {B r b : Nat} (hma : (la, listOf va.toArray na) ∈ news) (hia : IntsAre va (row B r)) (hmb : (lb, listOf vb.toArray nb) ∈ news) (hib : IntsAre vb (row B b))
   (hk : 2 ≤ k) (hk9 : k ≤ 60) (hBk : B = 2 ^ k) (hB : 2 ≤ B) (hb : len B b ≤ 900) (hn : n ≤ 800) (hr : r < b) (hz : z = (n : Int)) :
   Tell prog w 107 [.ref la, .ref lb, .int z tn, .int (k : Int) tw] 3 news (NewRow B (r * 2 ^ n / b) news) := by
  subst hz; exact bits_tell hma hia hmb hib hk hk9 hBk hB hb hn hr
theorem off_whole : True := by
  w_top off
  trivial

theorem whole_tell {prog : Program} {w : World} {news : List (Addr × Obj)} {lb : Addr} {vb : List Value} {nb k n : Nat} {tn tw : Tok} {B b : Nat} (hmb : (lb, listOf vb.toArray nb) ∈ news) (hib : IntsAre vb (row B b))
   (hk : 2 ≤ k) (hk9 : k ≤ 60) (hBk : B = 2 ^ k) (hB : 2 ≤ B) (hb : len B b ≤ 900) (hb0 : 0 < b) (hn : len B b ≤ n + 1) (hn2 : n ≤ 999) (hsz : k * (n + 1 - len B b) ≤ 800) :
   Tell prog w 114 [.ref lb, .int (n : Int) tn, .int (k : Int) tw] 4 news (NewRow B (B ^ n / b) news) := by
  have hl0 := len_pos_of hB hb0
  have hfl := first_le hB hb0
  unfold Tell
  intro dp un gd cn cs a ccd cl outer A₀ base h₀ L m s mean mg mb Q E B' F X N T hk' hd hu hret
  refine wpAny_call ?_
  k_dflt ktr_enter
  tb_start
  ktn_end (lifted_tellz (len B b - 1) (by k_mem) (by rw [row_one hB]; exact .cons _ _ .nil) hB (by rw [one_len hB]; (first | lia | omega)) (by (first | lia | omega)) (by (first | lia | omega)))
  rintro _ _ h1 tk1 F5 N5 ⟨l1, v1, c1, rfl, rfl, hl1', hi1⟩
  tb_start
  ktn_end (compare_tell (by k_mem) hi1 (by k_mem) hib hB (by rw [pow_len hB]; (first | lia | omega)) (by (first | lia | omega)))
  rintro _ _ h3 tk3 F7 N7 ⟨rfl, t3, rfl⟩
  tb_start
  · skip
    ktn_end (lifted_tellz (n + 1 - len B b) (by k_mem) (by rw [row_one hB]; exact .cons _ _ .nil) hB (by rw [one_len hB]; (first | lia | omega)) (by (first | lia | omega)) (by (first | lia | omega)))
    rintro _ _ h1 tk1 F5 N5 ⟨l2, v2, c2, rfl, rfl, hl2', hi2⟩
    tb_start
    refine hret _ _ _ _ (by assumption) (news_sub (by assumption) (by tb_rel)) ⟨l2, v2, c2, rfl, rfl, lt_sub hl2' (by tb_rel), ?_⟩
    rw [← whole_end0 hB hl0 hn (cmp_zero.mp (by assumption))]; exact hi2
  · have e1 : (n : Int) - (len B b : Int) + 1 = ((n + 1 - len B b : Nat) : Int) := by (first | lia | omega)
    have hlt : 1 * B ^ (len B b - 1) < b := Nat.lt_of_le_of_ne hfl (fun e => (by assumption : cmp _ _ ≠ 0) (cmp_zero.mpr e))
    ktn_end (bits_tellz (k * (n + 1 - len B b)) (by k_mem) hi1 (by k_mem) hib hk hk9 hBk hB hb hsz hlt (by rw [e1, ← Int.natCast_mul]))
    rintro _ _ h1 tk1 F5 N5 ⟨l2, v2, c2, rfl, rfl, hl2', hi2⟩
    tb_start
    refine hret _ _ _ _ (by assumption) (news_sub (by assumption) (by tb_rel)) ⟨l2, v2, c2, rfl, rfl, lt_sub hl2' (by tb_rel), ?_⟩
    rw [← whole_end1 hBk hl0 hn]; exact hi2
theorem whole_tellz {prog : Program} {w : World} {news : List (Addr × Obj)} {lb : Addr} {vb : List Value} {nb k : Nat} (n : Nat) {z : Int} {tn tw : Tok} {B b : Nat} (hmb : (lb, listOf vb.toArray nb) ∈ news) (hib : IntsAre vb (row B b))
   (hk : 2 ≤ k) (hk9 : k ≤ 60) (hBk : B = 2 ^ k) (hB : 2 ≤ B) (hb : len B b ≤ 900) (hb0 : 0 < b) (hn : len B b ≤ n + 1) (hn2 : n ≤ 999) (hsz : k * (n + 1 - len B b) ≤ 800) (hz : z = (n : Int)) :
   Tell prog w 114 [.ref lb, .int z tn, .int (k : Int) tw] 4 news (NewRow B (B ^ n / b) news) := by
  subst hz; exact whole_tell hmb hib hk hk9 hBk hB hb hb0 hn hn2 hsz
theorem off_val : True := by
  w_top off
  trivial

theorem value_tell {prog : Program} {w : World} {news : List (Addr × Obj)} {la : Addr} {va : List Value} {na k : Nat} {tw : Tok} {B x : Nat} (hma : (la, listOf va.toArray na) ∈ news) (hia : IntsAre va (row B x))
   (hk9 : k ≤ 20) (hBk : B = 2 ^ k) (hB : 2 ≤ B) (hx : len B x ≤ 900) :
   Tell prog w 170 [.ref la, .int (k : Int) tw] 1 news (fun r news' => news' = news ∧ ∃ t, r = .int ((x : Nat) : Int) t) := by
  have hp60 : 2 ^ k ≤ 2 ^ 60 := Nat.pow_le_pow_right (by omega) (by omega)
  unfold Tell
  intro dp un gd cn cs a ccd cl outer A₀ base h₀ L m s mean mg mb Q E B' F X N T hk' hd hu hret
  refine wpAny_call ?_
  k_dflt ktr_enter
  tb_start
  rename IntsAre _ (row B x).reverse => hrv
  rename Fr _ _ _ _ => F1
  rename News _ _ _ _ => N1
  obtain ⟨t0, F3⟩ : ∃ t0, Fr _ _ _ (kstB _ [("w", .int (k : Int) tw), ("value", .int ((0 : Nat) : Int) t0)]) := ⟨_, fr_ps F1 (by ktr_unf)⟩
  refine forLx (σ := (Nat × Tok)) (fun _ => news) (fun c => [("w", .int (k : Int) tw), ("value", .int ((c.1 : Nat) : Int) c.2)]) (fun i c => c.1 = x / B ^ (len B x - i)) (0, t0) rfl hrv F3 (news_sub N1 (by tb_rel)) (by ktr_unf) ?_ ?_ ?_
  · dsimp only
    rw [Nat.sub_zero, Nat.div_eq_of_lt (lt_pow_len hB x)]
  · rintro i ⟨v, t1⟩ u d t I it h tk hi hd hv hI F4 N4
    dsimp only [kstB] at F4 N4 hI hv
    rw [List.length_reverse, row_length] at hi
    rw [List.getElem?_reverse (by rw [row_length]; exact hi), row_length, row_get (by omega)] at hd
    have hd := (Option.some.inj hd).symm
    subst hd
    have hI1 := neN (hI _ (.head _))
    have hI2 : ∀ p ∈ news, p.1 ≠ I := fun p hp => hI p (.tail _ hp)
    dsimp only at hI1
    (with_reducible show wpAny _ _ _ _ _ _)
    k_fold
    tb_start
    refine FEnd.mk (_, _) (by assumption) (news_sub (by assumption) (by tb_rel)) (by ktn_open) (by ktr_unf) ?_
    rw [hv, ← hBk]
    exact hor_step hi
  · rintro ⟨v, t1⟩ u h tk hv F4 N4
    dsimp only [kstB] at F4 N4 hv
    rw [List.length_reverse, row_length, Nat.sub_self, Nat.pow_zero, Nat.div_one] at hv
    subst hv
    tb_start
    exact hret _ _ _ _ (by assumption) (news_sub (by assumption) (by tb_rel)) ⟨rfl, _, rfl⟩
theorem off_row : True := by
  w_top off
  trivial

theorem mkrow_tell {prog : Program} {w : World} {news : List (Addr × Obj)} {k v : Nat} {tv tw : Tok} {B : Nat}
   (hk9 : k ≤ 20) (hBk : B = 2 ^ k) (hB : 2 ≤ B) (hx : len B v ≤ 900) :
   Tell prog w 163 [.int (v : Int) tv, .int (k : Int) tw] 1 news (NewRow B v news) := by
  have hp30 : 2 ^ k < 2 ^ 30 := Nat.pow_lt_pow_right (by omega) (by omega)
  have hp0 : 0 < 2 ^ k := Nat.pow_pos (by omega)
  unfold Tell
  intro dp un gd cn cs a ccd cl outer A₀ base h₀ L m s mean mg mb Q E B' F X N T hk' hd hu hret
  refine wpAny_call ?_
  k_dflt ktr_enter
  tb_start
  rename Fr _ _ _ _ => F1
  rename News _ _ _ _ => N1
  obtain ⟨lf, F3, N3, hlf⟩ : ∃ lf, Fr _ _ _ (kstB _ [("w", .int (k : Int) tw), ("found", .ref lf), ("value", .int (v : Int) tv)]) ∧ News _ _ _ ((lf, listOf (List.toArray []) 0) :: news) ∧ (∀ p ∈ news, p.1 < lf) := ⟨_, fr_ps F1 (by ktr_unf), news_sub N1 (by tb_rel), (by ktn_lt)⟩
  refine whileR (σ := (List Value × Nat × Nat × Nat × Tok)) (fun c => (lf, listOf c.1.toArray c.2.1) :: news) (fun c => [("w", .int (k : Int) tw), ("found", .ref lf), ("value", .int ((c.2.2.1 : Nat) : Int) c.2.2.2.2)])
    (fun c => c.2.2.1 = v / B ^ c.2.2.2.1 ∧ IntsAre c.1 (digs B v c.2.2.2.1) ∧ (c.2.2.2.1 = 0 ∨ B ^ (c.2.2.2.1 - 1) ≤ v)) (fun c => c.2.2.1) ([], 0, v, 0, tv) F3 N3 (by ktr_unf) ⟨by simp, .nil, .inl rfl⟩ ?_
  rintro ⟨vs, n, z, i, t1⟩ u h tk ⟨hz, hv, hi⟩ F4 N4
  dsimp only [kstB] at F4 N4 hz hv hi
  by_cases h0 : 0 < z
  · have hin : i < len B v := row_small hB (by omega)
    tb_start
    refine WEnd.mk (_, _, _, i + 1, _) (by assumption) (news_sub (by assumption) (by tb_rel)) (by ktr_unf) ⟨?_, ?_, ?_⟩ ?_
    · dsimp only
      rw [hz, ← hBk, Nat.div_div_eq_div_mul, ← Nat.pow_succ]
    · refine int_snoc hv ?_
      rw [dig, ← hz, hBk]
    · right
      show B ^ i ≤ v
      exact row_place hB (by omega)
    · dsimp only
      exact Nat.div_lt_self h0 (by omega)
  · have hz0 : v / B ^ i = 0 := by omega
    tb_start
    refine hret _ _ _ _ (by assumption) (news_sub (by assumption) (by tb_rel)) ⟨_, _, _, rfl, rfl, hlf, ?_⟩
    rw [← row_end hB hz0 hi]; exact hv
theorem off_times : True := by
  w_top off
  trivial

theorem times_tell {prog : Program} {w : World} {news : List (Addr × Obj)} {la lb : Addr} {va vb : List Value} {na nb k : Nat} {tw : Tok} {B x y : Nat} (hma : (la, listOf va.toArray na) ∈ news) (hia : IntsAre va (row B x)) (hmb : (lb, listOf vb.toArray nb) ∈ news) (hib : IntsAre vb (row B y))
   (hk9 : k ≤ 20) (hBk : B = 2 ^ k) (hB : 2 ≤ B) (hxy : len B x + len B y ≤ 900) :
   Tell prog w 182 [.ref la, .ref lb, .int (k : Int) tw] 2 news (NewRow B (x * y) news) := by
  have hlx : x.log2 < 20000 := log2_of_len (n := 900) hBk hB hk9 (by omega) (by omega)
  have hly : y.log2 < 20000 := log2_of_len (n := 900) hBk hB hk9 (by omega) (by omega)
  have hl := len_prod (x := x) (y := y) hB
  unfold Tell
  intro dp un gd cn cs a ccd cl outer A₀ base h₀ L m s mean mg mb Q E B' F X N T hk' hd hu hret
  refine wpAny_call ?_
  k_dflt ktr_enter
  tb_start
  ktn_end (value_tell (by k_mem) hia hk9 hBk hB (by omega))
  rintro _ _ h3 tk3 F7 N7 ⟨rfl, t3, rfl⟩
  tb_start
  ktn_end (value_tell (by k_mem) hib hk9 hBk hB (by omega))
  rintro _ _ h4 tk4 F8 N8 ⟨rfl, t4, rfl⟩
  tb_start
  ktn_end (mkrow_tell hk9 hBk hB (by omega))
  rintro _ _ h1 tk1 F5 N5 ⟨l1, v1, c1, rfl, rfl, hl1', hi1⟩
  tb_start
  exact hret _ _ _ _ (by assumption) (news_sub (by assumption) (by tb_rel)) ⟨_, _, _, rfl, rfl, lt_sub hl1' (by tb_rel), hi1⟩
theorem off_corr : True := by
  w_top off
  trivial

theorem corrected_tell {prog : Program} {w : World} {news : List (Addr × Obj)} {la lb : Addr} {va vb : List Value} {na nb k n : Nat} {tn tw : Tok} {B g b : Nat} (hma : (la, listOf va.toArray na) ∈ news) (hia : IntsAre va (row B g)) (hmb : (lb, listOf vb.toArray nb) ∈ news) (hib : IntsAre vb (row B b))
   (hk : 2 ≤ k) (hk9 : k ≤ 20) (hBk : B = 2 ^ k) (hB : 2 ≤ B) (hg : len B g ≤ 400) (hb : len B b ≤ 400) (hb0 : 0 < b) (hn : n ≤ 400) :
   Tell prog w 121 [.ref la, .ref lb, .int (n : Int) tn, .int (k : Int) tw, .ref 182] 3 news (fun r news' => ∃ l vs c, r = .ref l ∧ news' = (l, listOf vs.toArray c) :: news ∧ (l = la ∨ ∀ p ∈ news, p.1 < l) ∧ IntsAre vs (row B (B ^ n / b))) := by
  have hk60 : k ≤ 60 := by (first | lia | omega)
  have hl1 : len B 1 = 1 := one_len hB
  have hln : len B (1 * B ^ n) = n + 1 := pow_len hB n
  have hlt := len_prod (x := g) (y := b) hB
  unfold Tell
  intro dp un gd cn cs a ccd cl outer A₀ base h₀ L m s mean mg mb Q E B' F X N T hk' hd hu hret
  refine wpAny_call ?_
  k_dflt ktr_enter
  tb_start
  ktn_end (lifted_tell (by k_mem) (by rw [row_one hB]; exact .cons _ _ .nil) hB (by (first | lia | omega)) (by (first | lia | omega)))
  rintro _ _ h1 tk1 F5 N5 ⟨lo, vo, co, rfl, rfl, hlo, hio⟩
  tb_start
  ktn_end (times_tell (by k_mem) hia (by k_mem) hib hk9 hBk hB (by (first | lia | omega)))
  rintro _ _ h2 tk2 F6 N6 ⟨lt, vt, ct, rfl, rfl, hlt', hit⟩
  tb_start
  rename Fr _ _ _ _ => F1
  rename News _ _ _ _ => N1
  have F3 : Fr _ _ _ (kstB _ [("b", .ref lb), ("w", .int (k : Int) tw), ("one", .ref lo), ("guess", .ref la), ("told", .ref lt)]) := fr_ps F1 (by ktr_unf)
  have N3 : News _ _ _ ((lt, listOf vt.toArray ct) :: (la, listOf va.toArray na) :: (lo, listOf vo.toArray co) :: news) := news_sub N1 (by tb_rel)
  refine whileR (σ := (Addr × List Value × Nat × Addr × List Value × Nat × Nat)) (fun c => (c.2.2.2.1, listOf c.2.2.2.2.1.toArray c.2.2.2.2.2.1) :: (c.1, listOf c.2.1.toArray c.2.2.1) :: (lo, listOf vo.toArray co) :: news) (fun c => [("b", .ref lb), ("w", .int (k : Int) tw), ("one", .ref lo), ("guess", .ref c.1), ("told", .ref c.2.2.2.1)])
    (fun c => IntsAre c.2.1 (row B c.2.2.2.2.2.2) ∧ IntsAre c.2.2.2.2.1 (row B (c.2.2.2.2.2.2 * b)) ∧ (c.1 = la ∨ ∀ p ∈ news, p.1 < c.1) ∧ c.2.2.2.2.2.2 ≤ g) (fun c => c.2.2.2.2.2.2) (la, va, na, lt, vt, ct, g) F3 N3 (by ktr_unf) ⟨hia, hit, .inl rfl, Nat.le_refl _⟩ ?_
  rintro ⟨lg, vg, ng, lt, vt, ct, g'⟩ u h tk ⟨hvg, hvt, hlg, hgg⟩ F4 N4
  dsimp only [kstB] at F4 N4 hvg hvt hlg hgg
  have hlgb : len B (g' * b) ≤ 800 := Nat.le_trans (len_mono hB (Nat.mul_le_mul_right b hgg)) (by (first | lia | omega))
  have hlg' : len B g' ≤ 400 := Nat.le_trans (len_mono hB hgg) hg
  tb_start
  ktn_end (compare_tell (by k_mem) hvt (by k_mem) hio hB (by (first | lia | omega)) (by (first | lia | omega)))
  rintro _ _ h3 tk3 F7 N7 ⟨rfl, t3, rfl⟩
  tb_start
  · have hgt : 1 * B ^ n < g' * b := cmp_pos.mp (by (first | lia | omega))
    have hg0 : 1 ≤ g' := Nat.pos_of_ne_zero fun e => by subst e; rw [Nat.zero_mul] at hgt; (first | lia | omega)
    have hbl : b ≤ g' * b := Nat.le_mul_of_pos_left b hg0
    ktn_end (sub_tell (by k_mem) hvg (by k_mem) (by rw [row_one hB]; exact .cons _ _ .nil) hk hk60 hBk hB (by (first | lia | omega)) hg0)
    rintro _ _ h4 tk4 F8 N8 ⟨l4, v4, c4, rfl, rfl, hl4', hi4⟩
    tb_start
    ktn_end (sub_tell (by k_mem) hvt (by k_mem) hib hk hk60 hBk hB (by (first | lia | omega)) hbl)
    rintro _ _ h5 tk5 F9 N9 ⟨l5, v5, c5, rfl, rfl, hl5', hi5⟩
    tb_start
    refine WEnd.mk (l4, v4, c4, l5, v5, c5, g' - 1) (by assumption) (news_sub (by assumption) (by tb_rel)) (by ktr_unf) ⟨hi4, ?_, .inr (lt_sub hl4' (by tb_rel)), ?_⟩ ?_
    · dsimp only
      rw [Nat.sub_mul, Nat.one_mul]; exact hi5
    · dsimp only
      (first | lia | omega)
    · dsimp only
      (first | lia | omega)
  · have hle : g' * b ≤ 1 * B ^ n := Nat.not_lt.mp fun e => by have := cmp_pos.mpr e; (first | lia | omega)
    ktn_end (sub_tell (by k_mem) hio (by k_mem) hvt hk hk60 hBk hB (by (first | lia | omega)) hle)
    rintro _ _ h4 tk4 F8 N8 ⟨l4, v4, c4, rfl, rfl, hl4', hi4⟩
    tb_start
    rename Fr _ _ _ _ => F1
    rename News _ _ _ _ => N1
    have F3 : Fr _ _ _ (kstB _ [("b", .ref lb), ("w", .int (k : Int) tw), ("guess", .ref lg), ("rest", .ref l4)]) := fr_ps F1 (by ktr_unf)
    have N3 : News _ _ _ ((l4, listOf v4.toArray c4) :: (lg, listOf vg.toArray ng) :: news) := news_sub N1 (by tb_rel)
    refine whileR (σ := (Addr × List Value × Nat × Addr × List Value × Nat × Nat × Nat)) (fun c => (c.2.2.2.1, listOf c.2.2.2.2.1.toArray c.2.2.2.2.2.1) :: (c.1, listOf c.2.1.toArray c.2.2.1) :: news) (fun c => [("b", .ref lb), ("w", .int (k : Int) tw), ("guess", .ref c.1), ("rest", .ref c.2.2.2.1)])
      (fun c => IntsAre c.2.1 (row B c.2.2.2.2.2.2.1) ∧ IntsAre c.2.2.2.2.1 (row B c.2.2.2.2.2.2.2) ∧ (c.1 = la ∨ ∀ p ∈ news, p.1 < c.1) ∧ c.2.2.2.2.2.2.1 * b + c.2.2.2.2.2.2.2 = B ^ n) (fun c => c.2.2.2.2.2.2.2) (lg, vg, ng, l4, v4, c4, g', 1 * B ^ n - g' * b) F3 N3 (by ktr_unf) ⟨hvg, hi4, hlg, by dsimp only; (first | lia | omega)⟩ ?_
    rintro ⟨lg, vg, ng, lt, vt, ct, g2, r⟩ u h tk ⟨hvg, hvt, hlg, hgr⟩ F4 N4
    dsimp only [kstB] at F4 N4 hvg hvt hlg hgr
    have hlr : len B r ≤ n + 1 := by rw [← hln]; exact len_mono hB (by (first | lia | omega))
    have hlg2 : len B g2 ≤ n + 1 := by rw [← hln]; exact len_mono hB (Nat.le_trans (Nat.le_mul_of_pos_right g2 hb0) (by (first | lia | omega)))
    tb_start
    ktn_end (compare_tell (by k_mem) hvt (by k_mem) hib hB (by (first | lia | omega)) (by (first | lia | omega)))
    rintro _ _ h3 tk3 F7 N7 ⟨rfl, t3, rfl⟩
    tb_start
    · have hge : b ≤ r := by have := cmp_neg (x := r) (y := b); (first | lia | omega)
      ktn_end (add_tell (by k_mem) hvg (by k_mem) (by rw [row_one hB]; exact .cons _ _ .nil) hk hk60 hBk hB (by (first | lia | omega)) (by (first | lia | omega)))
      rintro _ _ h5 tk5 F9 N9 ⟨l5, v5, c5, rfl, rfl, hl5', hi5⟩
      tb_start
      ktn_end (sub_tell (by k_mem) hvt (by k_mem) hib hk hk60 hBk hB (by (first | lia | omega)) hge)
      rintro _ _ h6 tk6 F10 N10 ⟨l6, v6, c6, rfl, rfl, hl6', hi6⟩
      tb_start
      refine WEnd.mk (l5, v5, c5, l6, v6, c6, g2 + 1, r - b) (by assumption) (news_sub (by assumption) (by tb_rel)) (by ktr_unf) ⟨hi5, hi6, .inr (lt_sub hl5' (by tb_rel)), ?_⟩ ?_
      · dsimp only
        rw [Nat.add_mul, Nat.one_mul]; (first | lia | omega)
      · dsimp only
        (first | lia | omega)
    · have hlt2 : r < b := cmp_neg.mp (by (first | lia | omega))
      have hq : B ^ n / b = g2 := div_of (r := r) hb0 (by rw [Nat.mul_comm b g2]; (first | lia | omega)) hlt2
      refine hret _ _ _ _ (by assumption) (news_sub (by assumption) (by tb_rel)) ⟨_, _, _, rfl, rfl, hlg, ?_⟩
      rw [hq]; exact hvg
theorem off_newt : True := by
  w_top off
  trivial

theorem newton_tell {prog : Program} {w : World} {news : List (Addr × Obj)} {la lb : Addr} {va vb : List Value} {na nb k n : Nat} {tn tw : Tok} {B g b : Nat} (hma : (la, listOf va.toArray na) ∈ news) (hia : IntsAre va (row B g)) (hmb : (lb, listOf vb.toArray nb) ∈ news) (hib : IntsAre vb (row B b))
   (hk : 2 ≤ k) (hk9 : k ≤ 20) (hBk : B = 2 ^ k) (hB : 2 ≤ B) (hg : len B g ≤ 300) (hb : len B b ≤ 300) (hn : n ≤ 300) (hgb : g * b ≤ 2 * B ^ n) :
   Tell prog w 128 [.ref la, .ref lb, .int (n : Int) tn, .int (k : Int) tw, .ref 182] 3 news (fun r news' => ∃ x, x ≤ 2 * g ∧ NewRow B x news r news') := by
  have hk60 : k ≤ 60 := by (first | lia | omega)
  have hl1 : len B 1 = 1 := one_len hB
  have hln : len B (1 * B ^ n) = n + 1 := pow_len hB n
  have hlt := len_prod (x := g) (y := b) hB
  have hp := pow_pos' hB n
  unfold Tell
  intro dp un gd cn cs a ccd cl outer A₀ base h₀ L m s mean mg mb Q E B' F X N T hk' hd hu hret
  refine wpAny_call ?_
  k_dflt ktr_enter
  tb_start
  ktn_end (lifted_tell (by k_mem) (by rw [row_one hB]; exact .cons _ _ .nil) hB (by (first | lia | omega)) (by (first | lia | omega)))
  rintro _ _ h1 tk1 F5 N5 ⟨lo, vo, co, rfl, rfl, hlo, hio⟩
  tb_start
  ktn_end (times_tell (by k_mem) hia (by k_mem) hib hk9 hBk hB (by (first | lia | omega)))
  rintro _ _ h2 tk2 F6 N6 ⟨lt, vt, ct, rfl, rfl, hlt', hit⟩
  tb_start
  ktn_end (compare_tell (by k_mem) hit (by k_mem) hio hB (by (first | lia | omega)) (by (first | lia | omega)))
  rintro _ _ h3 tk3 F7 N7 ⟨rfl, t3, rfl⟩
  tb_start
  · have hgt : 1 * B ^ n < g * b := cmp_pos.mp (by (first | lia | omega))
    have hdl : len B (g * b - 1 * B ^ n) ≤ n + 1 := by rw [← hln]; exact len_mono hB (by (first | lia | omega))
    have hpl := len_prod (x := g) (y := g * b - 1 * B ^ n) hB
    ktn_end (sub_tell (by k_mem) hit (by k_mem) hio hk hk60 hBk hB (by (first | lia | omega)) (Nat.le_of_lt hgt))
    rintro _ _ h4 tk4 F8 N8 ⟨l4, v4, c4, rfl, rfl, hl4', hi4⟩
    tb_start
    ktn_end (times_tell (by k_mem) hia (by k_mem) hi4 hk9 hBk hB (by (first | lia | omega)))
    rintro _ _ h5 tk5 F9 N9 ⟨l5, v5, c5, rfl, rfl, hl5', hi5⟩
    tb_start
    ktn_end (down_tell (by k_mem) hi5 hB (by (first | lia | omega)) (by (first | lia | omega)))
    rintro _ _ h6 tk6 F10 N10 ⟨l6, v6, c6, rfl, rfl, hl6', hi6⟩
    tb_start
    have hq : g * (g * b - 1 * B ^ n) / B ^ n ≤ g := Nat.div_le_of_le_mul (by rw [Nat.mul_comm (B ^ n)]; exact Nat.mul_le_mul_left g (by (first | lia | omega)))
    ktn_end (sub_tell (by k_mem) hia (by k_mem) hi6 hk hk60 hBk hB (by (first | lia | omega)) hq)
    rintro _ _ h7 tk7 F11 N11 ⟨l7, v7, c7, rfl, rfl, hl7', hi7⟩
    tb_start
    exact hret _ _ _ _ (by assumption) (news_sub (by assumption) (by tb_rel)) ⟨g - g * (g * b - 1 * B ^ n) / B ^ n, Nat.le_trans (Nat.sub_le _ _) (Nat.le_mul_of_pos_left g (by decide)), _, _, _, rfl, rfl, lt_sub hl7' (by tb_rel), hi7⟩
  · have hle : g * b ≤ 1 * B ^ n := Nat.not_lt.mp fun e => by have := cmp_pos.mpr e; (first | lia | omega)
    have hdl : len B (1 * B ^ n - g * b) ≤ n + 1 := by rw [← hln]; exact len_mono hB (by (first | lia | omega))
    have hpl := len_prod (x := g) (y := 1 * B ^ n - g * b) hB
    ktn_end (sub_tell (by k_mem) hio (by k_mem) hit hk hk60 hBk hB (by (first | lia | omega)) hle)
    rintro _ _ h4 tk4 F8 N8 ⟨l4, v4, c4, rfl, rfl, hl4', hi4⟩
    tb_start
    ktn_end (times_tell (by k_mem) hia (by k_mem) hi4 hk9 hBk hB (by (first | lia | omega)))
    rintro _ _ h5 tk5 F9 N9 ⟨l5, v5, c5, rfl, rfl, hl5', hi5⟩
    tb_start
    ktn_end (down_tell (by k_mem) hi5 hB (by (first | lia | omega)) (by (first | lia | omega)))
    rintro _ _ h6 tk6 F10 N10 ⟨l6, v6, c6, rfl, rfl, hl6', hi6⟩
    tb_start
    have hq : g * (1 * B ^ n - g * b) / B ^ n ≤ g := Nat.div_le_of_le_mul (by rw [Nat.mul_comm (B ^ n)]; exact Nat.mul_le_mul_left g (by (first | lia | omega)))
    have hql := len_mono hB hq
    ktn_end (add_tell (by k_mem) hia (by k_mem) hi6 hk hk60 hBk hB (by (first | lia | omega)) (by (first | lia | omega)))
    rintro _ _ h7 tk7 F11 N11 ⟨l7, v7, c7, rfl, rfl, hl7', hi7⟩
    tb_start
    exact hret _ _ _ _ (by assumption) (news_sub (by assumption) (by tb_rel)) ⟨g + g * (1 * B ^ n - g * b) / B ^ n, (by (first | lia | omega)), _, _, _, rfl, rfl, lt_sub hl7' (by tb_rel), hi7⟩
theorem off_recip : True := by
  w_top off
  trivial

theorem Tell.argz {prog : Program} {w : World} {f : Addr} {a c d : Value} {t : Tok} {k : Nat} {news : List (Addr × Obj)} {Ret : Value → List (Addr × Obj) → Prop} (n : Nat) {z : Int} (h : Tell prog w f [a, .int (n : Int) t, c, d] k news Ret) (hz : z = (n : Int)) :
   Tell prog w f [a, .int z t, c, d] k news Ret := by
  subst hz; exact h
theorem recip_tell {prog : Program} {w : World} (M : Nat) : ∀ {news : List (Addr × Obj)} {lb : Addr} {vb : List Value} {nb k n : Nat} {tn tw : Tok} {B b : Nat} (hmb : (lb, listOf vb.toArray nb) ∈ news) (hib : IntsAre vb (row B b))
   (hk : 2 ≤ k) (hk9 : k ≤ 20) (hBk : B = 2 ^ k) (hB : 2 ≤ B) (hb : len B b ≤ 100) (hb0 : 0 < b) (hn : n ≤ 100) (hM : n + 1 ≤ len B b + M),
   Tell prog w 135 [.ref lb, .int (n : Int) tn, .int (k : Int) tw, .ref 182] (5 + M) news (NewRow B (B ^ n / b) news) := by
  induction M using Nat.strongRecOn with
  | ind M ih =>
  intro news lb vb nb k n tn tw B b hmb hib hk hk9 hBk hB hb hb0 hn hM
  have hk60 : k ≤ 60 := by (first | lia | omega)
  have hl1 : len B 1 = 1 := one_len hB
  have hln : len B (1 * B ^ n) = n + 1 := pow_len hB n
  have hlb0 := len_pos_of hB hb0
  have hp := pow_pos' hB n
  unfold Tell
  intro dp un gd cn cs a ccd cl outer A₀ base h₀ L m s mean mg mb Q E B' F X N T hk' hd hu hret
  refine wpAny_call ?_
  k_dflt ktr_enter
  tb_start
  · exfalso; (first | lia | omega)
  · have hsm := small_end (b := b) (n := n) hB (by (first | lia | omega))
    ktn_end (lifted_tell (by k_mem) (by rw [row_one hB]; exact .cons _ _ .nil) hB (by (first | lia | omega)) (by (first | lia | omega)))
    rintro _ _ h1 tk1 F5 N5 ⟨lo, vo, co, rfl, rfl, hlo, hio⟩
    tb_start
    ktn_end (compare_tell (by k_mem) hio (by k_mem) hib hB (by (first | lia | omega)) (by (first | lia | omega)))
    rintro _ _ h3 tk3 F7 N7 ⟨rfl, t3, rfl⟩
    tb_start
    · have hge : b ≤ 1 * B ^ n := by have := cmp_neg (x := 1 * B ^ n) (y := b); (first | lia | omega)
      refine hret _ _ _ _ (by assumption) (news_sub (by assumption) (by tb_rel)) ⟨_, _, _, rfl, rfl, lt_sub (by ktn_lt) (by tb_rel), ?_⟩
      rw [hsm.2 hge, row_one hB]; exact .cons _ _ .nil
    · have hlt : 1 * B ^ n < b := cmp_neg.mp (by (first | lia | omega))
      refine hret _ _ _ _ (by assumption) (news_sub (by assumption) (by tb_rel)) ⟨_, _, _, rfl, rfl, lt_sub (by ktn_lt) (by tb_rel), ?_⟩
      rw [hsm.1 hlt, row_zero]; exact .nil
  · obtain ⟨mm, hmm⟩ : ∃ mm : Nat, n + 1 = len B b + mm := ⟨n + 1 - len B b, by (first | lia | omega)⟩
    obtain ⟨K, hK⟩ : ∃ K : Nat, K = min (len B b) (mm + 2) := ⟨_, rfl⟩
    have hK1 : K ≤ len B b := by (first | lia | omega)
    have hK0 : 0 < K := by (first | lia | omega)
    have hhl := high_len hB hK1
    have hh0 : 0 < b / B ^ (len B b - K) := pos_of_len (B := B) (by rw [hhl]; exact hK0)
    have hmk : k * (K + mm - 1 + 1 - K) ≤ 800 := by
      have h1 : K + mm - 1 + 1 - K ≤ 3 := by (first | lia | omega)
      have h2 := Nat.mul_le_mul hk9 h1
      (first | lia | omega)
    have hql := quot_len (N := K + mm - 1) (h := b / B ^ (len B b - K)) hB
    ktn_end (down_tellz (len B b - K) (by k_mem) hib hB (by (first | lia | omega)) (by (first | lia | omega)) (by split <;> (first | lia | omega)))
    rintro _ _ h1 tk1 F5 N5 ⟨l1, v1, c1, rfl, rfl, hl1', hi1⟩
    tb_start
    ktn_end (whole_tellz (K + mm - 1) (by k_mem) hi1 hk hk60 hBk hB (by (first | lia | omega)) hh0 (by (first | lia | omega)) (by (first | lia | omega)) (by rw [hhl]; exact hmk) (by split <;> (first | lia | omega)))
    rintro _ _ h2 tk2 F6 N6 ⟨l2, v2, c2, rfl, rfl, hl2', hi2⟩
    tb_start
    ktn_end (corrected_tell (by k_mem) hi2 (by k_mem) hib hk hk9 hBk hB (by (first | lia | omega)) (by (first | lia | omega)) hb0 (by (first | lia | omega)))
    rintro _ _ h3 tk3 F7 N7 ⟨l3, v3, c3, rfl, rfl, hl3', hi3⟩
    tb_start
    refine hret _ _ _ _ (by assumption) (news_sub (by assumption) (by tb_rel)) ⟨_, _, _, rfl, rfl, ?_, hi3⟩
    rcases hl3' with rfl | hl3'
    · exact lt_sub hl2' (by tb_rel)
    · exact lt_sub hl3' (by tb_rel)
  · obtain ⟨mm, hmm⟩ : ∃ mm : Nat, n + 1 = len B b + mm := ⟨n + 1 - len B b, by (first | lia | omega)⟩
    obtain ⟨R, hR⟩ : ∃ R : Nat, R = (mm + 1) / 2 := ⟨_, rfl⟩
    obtain ⟨K, hK⟩ : ∃ K : Nat, K = min (len B b) (R + 1) := ⟨_, rfl⟩
    have hK1 : K ≤ len B b := by (first | lia | omega)
    have hK0 : 0 < K := by (first | lia | omega)
    have hhl := high_len hB hK1
    have hh0 : 0 < b / B ^ (len B b - K) := pos_of_len (B := B) (by rw [hhl]; exact hK0)
    have hql := quot_len (N := K + R) (h := b / B ^ (len B b - K)) hB
    have hgb := guess_le (R := R) (m := mm) (n := n) hB hK1 hK0 (by (first | lia | omega)) (by (first | lia | omega))
    have hpl := len_prod (x := B ^ (K + R) / (b / B ^ (len B b - K))) (y := B ^ (mm - R - 1)) hB
    have hpl2 : len B (B ^ (mm - R - 1)) = mm - R := by
      have := pow_len hB (mm - R - 1)
      rw [Nat.one_mul] at this
      (first | lia | omega)
    have hfd : ((n : Int) - (len B b : Int) + 1 + 1).fdiv 2 = (R : Int) := by
      rw [Int.fdiv_eq_ediv_of_nonneg _ (by (first | lia | omega))]; (first | lia | omega)
    ktn_end (down_tellz (len B b - K) (by k_mem) hib hB (by (first | lia | omega)) (by (first | lia | omega)) (by rw [hfd]; split <;> (first | lia | omega)))
    rintro _ _ h1 tk1 F5 N5 ⟨l1, v1, c1, rfl, rfl, hl1', hi1⟩
    tb_start
    ktn_end (Tell.argz (K + R) (ih (mm - 1) (by (first | lia | omega)) (by k_mem) hi1 hk hk9 hBk hB (by (first | lia | omega)) hh0 (by (first | lia | omega)) (by (first | lia | omega))) (by rw [hfd]; split <;> (first | lia | omega)))
    rintro _ _ h2 tk2 F6 N6 ⟨l2, v2, c2, rfl, rfl, hl2', hi2⟩
    tb_start
    ktn_end (lifted_tellz (mm - R - 1) (by k_mem) hi2 hB (by (first | lia | omega)) (by (first | lia | omega)) (by rw [hfd]; (first | lia | omega)))
    rintro _ _ h3 tk3 F7 N7 ⟨l3, v3, c3, rfl, rfl, hl3', hi3⟩
    tb_start
    ktn_end (newton_tell (by k_mem) hi3 (by k_mem) hib hk hk9 hBk hB (by (first | lia | omega)) (by (first | lia | omega)) (by (first | lia | omega)) hgb)
    rintro _ _ h4 tk4 F8 N8 ⟨x, hx, l4, v4, c4, rfl, rfl, hl4', hi4⟩
    have hxl := twice_len (n := 300) hB hx (by (first | lia | omega))
    tb_start
    ktn_end (corrected_tell (by k_mem) hi4 (by k_mem) hib hk hk9 hBk hB (by (first | lia | omega)) (by (first | lia | omega)) hb0 (by (first | lia | omega)))
    rintro _ _ h5 tk5 F9 N9 ⟨l5, v5, c5, rfl, rfl, hl5', hi5⟩
    tb_start
    refine hret _ _ _ _ (by assumption) (news_sub (by assumption) (by tb_rel)) ⟨_, _, _, rfl, rfl, ?_, hi5⟩
    rcases hl5' with rfl | hl5'
    · exact lt_sub hl4' (by tb_rel)
    · exact lt_sub hl5' (by tb_rel)
theorem off_divr : True := by
  w_top off
  trivial

theorem divrem_tell {prog : Program} {w : World} (M : Nat) {news : List (Addr × Obj)} {la lb : Addr} {va vb : List Value} {na nb k : Nat} {tw : Tok} {B a b : Nat} (hma : (la, listOf va.toArray na) ∈ news) (hia : IntsAre va (row B a)) (hmb : (lb, listOf vb.toArray nb) ∈ news) (hib : IntsAre vb (row B b))
   (hk : 2 ≤ k) (hk9 : k ≤ 20) (hBk : B = 2 ^ k) (hB : 2 ≤ B) (ha : len B a ≤ 100) (hb : len B b ≤ 100) (hb0 : 0 < b) (hM : len B a + 1 ≤ len B b + M) :
   Tell prog w 142 [.ref la, .ref lb, .int (k : Int) tw, .ref 182] (6 + M) news (NewPair B (a / b) (a % b) news) := by
  have hk60 : k ≤ 60 := by (first | lia | omega)
  have hl1 : len B 1 = 1 := one_len hB
  have hlb0 := len_pos_of hB hb0
  have hp := pow_pos' hB (len B a)
  have hql := quot_len (N := len B a) (h := b) hB
  have hpl := len_prod (x := a) (y := B ^ len B a / b) hB
  have hqb : a * (B ^ len B a / b) / B ^ len B a * b ≤ a := quot_mul_le
  have hql2 : len B (a * (B ^ len B a / b) / B ^ len B a) ≤ len B a := len_mono hB (Nat.le_trans (Nat.le_mul_of_pos_right _ hb0) hqb)
  unfold Tell
  intro dp un gd cn cs aa ccd cl outer A₀ base h₀ L m s mean mg mb Q E B' F X N T hk' hd hu hret
  refine wpAny_call ?_
  k_dflt ktr_enter
  tb_start
  · exfalso; (first | lia | omega)
  ktn_end (compare_tell (by k_mem) hia (by k_mem) hib hB (by (first | lia | omega)) (by (first | lia | omega)))
  rintro _ _ h3 tk3 F7 N7 ⟨hnn, t3, rfl⟩
  rw [hnn] at N7
  clear hnn
  tb_start
  · have hlt : a < b := cmp_neg.mp (by (first | lia | omega))
    refine hret _ _ _ _ (by assumption) (news_sub (by assumption) (by tb_rel)) ⟨_, _, _, _, _, _, _, rfl, rfl, lt_sub (by ktn_lt) (by tb_rel), lt_sub (by ktn_lt) (by tb_rel), lt_sub (by ktn_lt) (by tb_rel), ?_, ?_⟩
    · rw [Nat.div_eq_of_lt hlt, row_zero]; exact .nil
    · rw [Nat.mod_eq_of_lt hlt]; assumption
  · have hge : b ≤ a := by have := cmp_neg (x := a) (y := b); (first | lia | omega)
    ktn_end (recip_tell M (by k_mem) hib hk hk9 hBk hB (by (first | lia | omega)) hb0 (by (first | lia | omega)) hM)
    rintro _ _ h1 tk1 F5 N5 ⟨l1, v1, c1, rfl, rfl, hl1', hi1⟩
    tb_start
    ktn_end (times_tell (by k_mem) hia (by k_mem) hi1 hk9 hBk hB (by (first | lia | omega)))
    rintro _ _ h2 tk2 F6 N6 ⟨l2, v2, c2, rfl, rfl, hl2', hi2⟩
    tb_start
    ktn_end (down_tell (by k_mem) hi2 hB (by (first | lia | omega)) (by (first | lia | omega)))
    rintro _ _ h3 tk3 F7 N7 ⟨l3, v3, c3, rfl, rfl, hl3', hi3⟩
    tb_start
    ktn_end (times_tell (by k_mem) hi3 (by k_mem) hib hk9 hBk hB (by (first | lia | omega)))
    rintro _ _ h4 tk4 F8 N8 ⟨l4, v4, c4, rfl, rfl, hl4', hi4⟩
    tb_start
    ktn_end (sub_tell (by k_mem) hia (by k_mem) hi4 hk hk60 hBk hB (by (first | lia | omega)) hqb)
    rintro _ _ h5 tk5 F9 N9 ⟨l5, v5, c5, rfl, rfl, hl5', hi5⟩
    tb_start
    rename Fr _ _ _ _ => F1
    rename News _ _ _ _ => N1
    have F3 : Fr _ _ _ (kstB _ [("b", .ref lb), ("w", .int (k : Int) tw), ("quotient", .ref l3), ("rest", .ref l5)]) := fr_ps F1 (by ktr_unf)
    have N3 : News _ _ _ ((l5, listOf v5.toArray c5) :: (l3, listOf v3.toArray c3) :: news) := news_sub N1 (by tb_rel)
    refine whileR (σ := (Addr × List Value × Nat × Addr × List Value × Nat × Nat × Nat)) (fun c => (c.2.2.2.1, listOf c.2.2.2.2.1.toArray c.2.2.2.2.2.1) :: (c.1, listOf c.2.1.toArray c.2.2.1) :: news) (fun c => [("b", .ref lb), ("w", .int (k : Int) tw), ("quotient", .ref c.1), ("rest", .ref c.2.2.2.1)])
      (fun c => IntsAre c.2.1 (row B c.2.2.2.2.2.2.1) ∧ IntsAre c.2.2.2.2.1 (row B c.2.2.2.2.2.2.2) ∧ ((∀ p ∈ news, p.1 < c.1) ∧ (∀ p ∈ news, p.1 < c.2.2.2.1) ∧ c.1 ≠ c.2.2.2.1) ∧ c.2.2.2.2.2.2.1 * b + c.2.2.2.2.2.2.2 = a) (fun c => c.2.2.2.2.2.2.2) (l3, v3, c3, l5, v5, c5, _, a - a * (B ^ len B a / b) / B ^ len B a * b) F3 N3 (by ktr_unf) ⟨hi3, hi5, ⟨lt_sub hl3' (by tb_rel), lt_sub hl5' (by tb_rel), ?_⟩, by dsimp only; (first | lia | omega)⟩ ?_
    · exact Nat.ne_of_lt (hl5' (l3, _) (by k_mem))
    rintro ⟨lg, vg, ng, lt, vt, ct, g2, r⟩ u h tk ⟨hvg, hvt, ⟨hlg, hlt, hne⟩, hgr⟩ F4 N4
    dsimp only [kstB] at F4 N4 hvg hvt hlg hlt hne hgr
    have hlr : len B r ≤ len B a := len_mono hB (by (first | lia | omega))
    have hlg2 : len B g2 ≤ len B a := len_mono hB (Nat.le_trans (Nat.le_mul_of_pos_right g2 hb0) (by (first | lia | omega)))
    tb_start
    ktn_end (compare_tell (by k_mem) hvt (by k_mem) hib hB (by (first | lia | omega)) (by (first | lia | omega)))
    rintro _ _ h3 tk3 F7 N7 ⟨rfl, t3, rfl⟩
    tb_start
    · have hge : b ≤ r := by have := cmp_neg (x := r) (y := b); (first | lia | omega)
      ktn_end (add_tell (by k_mem) hvg (by k_mem) (by rw [row_one hB]; exact .cons _ _ .nil) hk hk60 hBk hB (by (first | lia | omega)) (by (first | lia | omega)))
      rintro _ _ h5 tk5 F9 N9 ⟨l5, v5, c5, rfl, rfl, hl5', hi5⟩
      tb_start
      ktn_end (sub_tell (by k_mem) hvt (by k_mem) hib hk hk60 hBk hB (by (first | lia | omega)) hge)
      rintro _ _ h6 tk6 F10 N10 ⟨l6, v6, c6, rfl, rfl, hl6', hi6⟩
      tb_start
      refine WEnd.mk (l5, v5, c5, l6, v6, c6, g2 + 1, r - b) (by assumption) (news_sub (by assumption) (by tb_rel)) (by ktr_unf) ⟨hi5, hi6, ⟨lt_sub hl5' (by tb_rel), lt_sub hl6' (by tb_rel), Nat.ne_of_lt (hl6' (l5, _) (by k_mem))⟩, ?_⟩ ?_
      · dsimp only
        rw [Nat.add_mul, Nat.one_mul]; (first | lia | omega)
      · dsimp only
        (first | lia | omega)
    · have hlt2 : r < b := cmp_neg.mp (by (first | lia | omega))
      have hq : a / b = g2 := div_of (r := r) hb0 (by rw [Nat.mul_comm b g2]; (first | lia | omega)) hlt2
      have hq2 : a % b = r := mod_of (q := g2) (by rw [Nat.mul_comm b g2]; (first | lia | omega)) hlt2
      refine hret _ _ _ _ (by assumption) (news_sub (by assumption) (by tb_rel)) ⟨_, _, _, _, _, _, _, rfl, rfl, lt_sub (by ktn_lt) (by tb_rel), hlg, hlt, ?_, ?_⟩
      · rw [hq]; exact hvg
      · rw [hq2]; exact hvt
theorem off_take : True := by
  w_top off
  trivial
local macro_rules | `(tactic| walk_at "subscriptTail Name Constant ref int") => `(tactic| (k_here; k_dflt (first | ((with_reducible show wpAny _ _ (subscriptTail _ _ (Value.ref _) (Value.int 0 _)) _ _ _); (refine' box_get0 ?k1 ?k2 ?_ ?k3; (case k1 => k_asm); (case k2 => k_mem); (case k3 => with_unfolding_all rfl); k_whole)) | ((with_reducible show wpAny _ _ (subscriptTail _ _ (Value.ref _) (Value.int 1 _)) _ _ _); (refine' box_get1 ?k1 ?k2 ?_ ?k3; (case k1 => k_asm); (case k2 => k_mem); (case k3 => with_unfolding_all rfl); k_whole))); intro _))
local macro_rules | `(tactic| walk_at "setItem ref int") => `(tactic| (k_here; k_dflt (first | ((with_reducible show wpAny _ _ (setItem (Value.ref _) (Value.int 0 _) (Value.int _ _)) _ _ _); (refine' box_set0 ?k1 ?k2 ?k3 ?_; (case k1 => k_asm); (case k2 => k_asm); (case k3 => k_upd); k_whole)) | ((with_reducible show wpAny _ _ (setItem (Value.ref _) (Value.int 1 _) (Value.int _ _)) _ _ _); (refine' box_set1 ?k1 ?k2 ?k3 ?_; (case k1 => k_asm); (case k2 => k_asm); (case k3 => k_upd); k_whole))); intro h' F' N'; (try k_sweep)))

theorem fmod_of (z : Int) {many : Nat} (h : 0 < many) : ∃ d : Nat, z.fmod (many : Int) = (d : Int) ∧ d < many := by
  have h1 := Int.emod_nonneg z (show (many : Int) ≠ 0 by omega)
  have h2 := Int.emod_lt_of_pos z (show (0 : Int) < many by omega)
  rw [Int.fmod_eq_emod_of_nonneg _ (by omega)]
  exact ⟨(z % many).toNat, by omega, by omega⟩
theorem take_tell {prog : Program} {w : World} {news : List (Addr × Obj)} {lx : Addr} {x many n : Nat} {c : Int} {tx tc tm : Tok} (hne : ∀ p ∈ news, p.1 ≠ lx)
   (hx : x.log2 < 9000) (hm : 0 < many) (hm2 : many.log2 < 9000) :
   Tell prog w 149 [.ref lx, .int (many : Int) tm] 1 ((lx, listOf #[.int (x : Int) tx, .int c tc] n) :: news) (fun r news' => ∃ x' d tx' tc', x' ≤ x ∧ d < many ∧ (∃ t, r = .int ((d : Nat) : Int) t) ∧ news' = (lx, listOf #[.int ((x' : Nat) : Int) tx', .int (c + 1) tc'] n) :: news) := by
  unfold Tell
  intro dp un gd cn cs a ccd cl outer A₀ base h₀ L m s mean mg mb Q E B' F X N T hk' hd hu hret
  refine wpAny_call ?_
  k_dflt ktr_enter
  tb_start
  · exact hret _ _ _ _ (by assumption) (news_sub (by assumption) (by tb_rel)) ⟨_, _, _, _, Nat.div_le_self x many, Nat.mod_lt x hm, ktn_int rfl, rfl⟩
  · obtain ⟨d, e, hlt⟩ := fmod_of ((c + 1) * 7 + (c + 1).fdiv 5) hm
    exact hret _ _ _ _ (by assumption) (news_sub (by assumption) (by tb_rel)) ⟨_, d, _, _, Nat.le_refl x, hlt, ktn_int e, rfl⟩
theorem take_tellz {prog : Program} {w : World} {news : List (Addr × Obj)} {lx : Addr} {x n : Nat} {c z : Int} {tx tc tm : Tok} (many : Nat) (hne : ∀ p ∈ news, p.1 ≠ lx)
   (hx : x.log2 < 9000) (hm : 0 < many) (hm2 : many.log2 < 9000) (hz : z = (many : Int)) :
   Tell prog w 149 [.ref lx, .int z tm] 1 ((lx, listOf #[.int (x : Int) tx, .int c tc] n) :: news) (fun r news' => ∃ x' d tx' tc', x' ≤ x ∧ d < many ∧ (∃ t, r = .int ((d : Nat) : Int) t) ∧ news' = (lx, listOf #[.int ((x' : Nat) : Int) tx', .int (c + 1) tc'] n) :: news) := by
  subst hz; exact take_tell hne hx hm hm2
theorem off_total : True := by
  w_top off
  trivial

theorem total_tell {prog : Program} {w : World} {news : List (Addr × Obj)} {ls : Addr} {vs : List Value} {ns : List Int}
    {dp un : Nat} {gd : Option (List Code)} {cn : Str} {cs : Scope} {a : Addr} {ccd : Value} {cl : List (Str × Addr)} {outer : List Env} {A₀ : Around} {base h₀ : Heap} {L : Addr} {m : Str → Option Value} {s : Shared} {mean : ExcName → Option Value} {mg mb : Str → Option Value}
    {Q E : Value → Shared → Prop} (hi : IntsAre vs ns) (hl : ns.length ≤ 63) (hls : h₀.IsList ls vs.toArray)
    (B' : Below A₀ base outer h₀) (F : Fr h₀ L s.heap m) (X : (hd.heap_39 w.params).In h₀) (N : News h₀ L s.heap news) (T : Top topProg (looseW vw [] ++ (recsOf vw).map (·.name) ++ (litsOf vw).map (·.1) ++ (clssOf vw (looseW vw [])).map (·.name)) mean mg mb h₀) (hk' : cs.kind = .function) (hd : dp + 1 < recursionLimit) (hu : un + 8 * 1 < cLine)
    (hret : ∀ (x : Nat) h' tk' t, Fr h₀ L h' m → News h₀ L h' news → x.log2 < 400 → Q (.int (x : Int) t) { s with heap := h', toks := tk' }) :
    wpAny (model prog w) (ktrTop dp un gd cn cs L a ccd cl outer) (call (.ref 156) [.ref ls]) Q E s := by
  refine wpAny_call ?_
  k_dflt ktr_enter
  rename Fr h₀ L _ m => FG9
  have hls2 := hls.at fun o e => FG9.keep _ _ e
  tb_start
  rename IntsAre _ (ns.take 24).reverse => hrv
  rename Fr _ _ _ _ => F1
  rename News _ _ _ _ => N1
  obtain ⟨t0, F3⟩ : ∃ t0, Fr _ _ _ (kstB _ [("great", .int 0 t0)]) := ⟨_, fr_ps F1 (by ktr_unf)⟩
  refine forLx (σ := (Int × Tok)) (fun _ => news) (fun c => [("great", .int c.1 c.2)]) (fun i c => 0 ≤ c.1 ∧ c.1 < (65536 : Int) ^ i) (0, t0) rfl hrv F3 (news_sub N1 (by tb_rel)) (by ktr_unf) (total_zero) ?_ ?_
  · rintro i ⟨v, t1⟩ u d t I it h tk hi hd hv hI F4 N4
    dsimp only [kstB] at F4 N4 hI hv
    have hI1 := neN (hI _ (.head _))
    have hI2 : ∀ p ∈ news, p.1 ≠ I := fun p hp => hI p (.tail _ hp)
    dsimp only at hI1
    (with_reducible show wpAny _ _ _ _ _ _)
    k_fold
    tb_start
    exact FEnd.mk (_, _) (by assumption) (news_sub (by assumption) (by tb_rel)) (by ktn_open) (by ktr_unf) (total_step hv)
  · rintro ⟨v, t1⟩ u h tk hv F4 N4
    dsimp only [kstB] at F4 N4 hv
    tb_start
    have e : v = ((v.toNat : Nat) : Int) := (Int.toNat_of_nonneg hv.1).symm
    rw [e]
    exact hret v.toNat _ _ _ (by assumption) (news_sub (by assumption) (by tb_rel)) (total_end hv (by rw [List.length_reverse, List.length_take]; omega))
theorem off_isrow : True := by
  w_top off
  trivial
local macro_rules | `(tactic| ktr_step) => `(tactic| (refine' code_defC ?k1 ?k2 ?k3 ?k4 ?k5 ?kA ?kF ?kK ?k6 ?k7 ?k8 ?k9 ?kB ?kD ?_ ?c2 ?c3 ?c4; (case kA => exact rfl); (case kF => exact rfl); (case kK => assumption); (case k1 => k_asm); (case k2 => k_asm); (case k3 => k_asm); (case k4 => k_asm); (case k5 => k_asm); (case k6 => k_is); (case k7 => k_is); (case k8 => ktr_room); (case k9 => exact BindsTo.of_eq rfl); (case kB => exact rfl); (case kD => decide +kernel); (case c2 => exact rfl); (case c3 => exact rfl); (case c4 => exact rfl); k_whole; intro g' L' h' tk' cells' FG' F' N' Y' B' X' T' l1; (try k_lt l1); k_cells Y'; (try simp only [List.cons_append, List.nil_append] at N'); (try dsimp only); (try k_fold)))
local macro_rules | `(tactic| walk_at "eval ListComp") => `(tactic| (k_here; lct_look; k_dflt (refine LCt.ListComp_T (F₀ := by k_asm) (by with_unfolding_all rfl) (by decide) (by rfl) (by decide) (by rfl) ?_)))
local macro_rules | `(tactic| walk_at "compareOp Eq ref ref") => `(tactic| (k_here; (with_reducible show wpAny _ _ (compareOp CmpOp.Eq (Value.ref _) (Value.ref _)) _ _ _); k_dflt (refine' eq_ints ?k1 ?k2 ?k3 ?k4 ?k5 ?k6 ?k7 ?_; (case k1 => k_asm); (case k2 => k_mem); (case k3 => k_mem); (case k4 => first | assumption | exact .nil); (case k5 => first | assumption | exact .nil); (case k6 => assumption); (case k7 => first | ktr_units | units_room); k_whole)))
local macro_rules | `(tactic| walk_at "compareOp NotEq ref ref") => `(tactic| (k_here; (with_reducible show wpAny _ _ (compareOp CmpOp.NotEq (Value.ref _) (Value.ref _)) _ _ _); k_dflt (refine' ne_ints ?k1 ?k2 ?k3 ?k4 ?k5 ?k6 ?k7 ?_; (case k1 => k_asm); (case k2 => k_mem); (case k3 => k_mem); (case k4 => first | assumption | exact .nil); (case k5 => first | assumption | exact .nil); (case k6 => assumption); (case k7 => first | ktr_units | units_room); k_whole)))
local macro_rules | `(tactic| walk_at "subscriptTail Name UnaryOp ref int") => `(tactic| (k_here; k_dflt (refine' row_last ?k1 ?k2 ?k3 ?k4 ?_ ?k5; (case k1 => k_asm); (case k2 => k_mem); (case k3 => assumption); (case k4 => assumption); (case k5 => with_unfolding_all rfl); k_whole); intro _))

theorem isrow_tell {prog : Program} {w : World} {news : List (Addr × Obj)} {la : Addr} {va : List Value} {na k : Nat} {tw : Tok} {B x : Nat} (hma : (la, listOf va.toArray na) ∈ news) (hia : IntsAre va (row B x))
   (hk9 : k ≤ 20) (hBk : B = 2 ^ k) (hB : 2 ≤ B) (hx : len B x ≤ 900) :
   Tell prog w 175 [.ref la, .int (k : Int) tw] 10 news (fun r news' => news' = news ∧ r = .bool true) := by
  have hsz : va.toArray.size ≤ sizeLine := size_row hia (by omega)
  have hnil : (!decide (([] : List Int) = [])) = false := rfl
  have hnil2 : decide (([] : List Int) = []) = true := rfl
  unfold Tell
  intro dp un gd cn cs a ccd cl outer A₀ base h₀ L m s mean mg mb Q E B' F X N T hk' hd hu hret
  refine wpAny_call ?_
  k_dflt ktr_step
  tb_start
  refine LCt.CompSrcT.ledger (by rfl) (by k_asm) (by k_asm) (List.mem_cons_of_mem _ hma) hsz ?_
  intro g'
  refine rest_skip (.inr ⟨_, List.mem_cons_of_mem _ hma, rfl, _, rfl⟩) ?_ ?_ _ _
  · unfold LCg.FinE
    intro D1 h1 tk1 F1 N1 o1
    replace N1 : News _ _ _ ((D1, listOf #[] 0) :: _) := N1
    dsimp only
    tb_start
    refine LCt.CompSrcT.ledger (by rfl) (by k_asm) (by k_asm) (List.mem_cons_of_mem _ (List.mem_cons_of_mem _ (List.mem_cons_of_mem _ hma))) hsz ?_
    intro g2'
    refine rest_skip (.inr ⟨_, List.mem_cons_of_mem _ (List.mem_cons_of_mem _ (List.mem_cons_of_mem _ hma)), rfl, _, rfl⟩) ?_ ?_ _ _
    · unfold LCg.FinE
      intro D2 h2 tk2 F2 N2 o2
      replace N2 : News _ _ _ ((D2, listOf #[] 0) :: _) := N2
      dsimp only
      tb_start
      · exact hret _ _ _ _ (by assumption) (news_sub (by assumption) (by tb_rel)) ⟨rfl, congrArg Value.bool (by assumption)⟩
      · have hl0 := row_nil (by assumption)
        have hdt := top_pos hB hl0
        tb_start
        exact hret _ _ _ _ (by assumption) (news_sub (by assumption) (by tb_rel)) ⟨rfl, congrArg Value.bool (decide_eq_true (by omega))⟩
    · intro i v I oI C oC D m₂ h tk E' hv hC hx F4 N4
      obtain ⟨t, rfl⟩ := row_value hia hv
      have hdl : dig B x i < 2 ^ k := hBk ▸ dig_lt hB
      have hd0 : 0 ≤ dig B x i := Nat.zero_le _
      tb_start
      all_goals first | assumption | skip
      rw [decide_eq_true (Int.ofNat_lt.mpr hdl)]; rfl
  · intro i v I oI C oC D m₂ h tk E' hv hC hx F4 N4
    obtain ⟨t, rfl⟩ := row_value hia hv
    tb_start
    all_goals assumption
theorem off_drawn : True := by
  w_top off
  trivial
local macro_rules | `(tactic| walk_at "binaryOp Add int int") => `(tactic| (k_here; first | ((with_reducible show wpAny _ _ (binaryOp _ (Value.int 1 _) (Value.int (Nat.cast _) _)) _ _ _); (refine' one_add ?k1 ?_; (case k1 => rfl); k_whole)) | ((with_reducible show wpAny _ _ (binaryOp _ (Value.int (Nat.cast _) _) (Value.int 1 _)) _ _ _); (refine' add_one ?k1 ?_; (case k1 => rfl); k_whole)) | ((with_reducible show wpAny _ _ (binaryOp _ (Value.int (Nat.cast _) _) (Value.int (Nat.cast _) _)) _ _ _); (refine' add_nat ?_; k_whole))))
local macro_rules | `(tactic| walk_at "binaryOp Mult int int") => `(tactic| (k_here; (with_reducible show wpAny _ _ (binaryOp _ (Value.int (Nat.cast _) _) (Value.int (Nat.cast _) _)) _ _ _); first | (refine' mul_nats ?k1 ?_; (case k1 => k_dflt omega); k_whole) | (refine' mul_natp ?k1 ?_; (case k1 => assumption); k_whole)))
local macro_rules | `(tactic| walk_at "binaryOp Pow int int") => `(tactic| (k_here; first | ((with_reducible show wpAny _ _ (binaryOp _ (Value.int 2 _) (Value.int (Nat.cast _) _)) _ _ _); (refine' pow_two ?k1 ?_; (case k1 => k_dflt first | assumption | omega); k_whole)) | (refine' pow_twoe ?k1 ?k2 ?_; (case k1 => assumption); (case k2 => k_dflt first | assumption | omega); k_whole)))
local macro_rules | `(tactic| walk_at "subscriptTail List") => `(tactic| (k_here; k_dflt (refine' menu_item ?k1 ?k2 ?k3 ?k4 ?k5 ?k6 ?_ ?k7; (case k1 => k_asm); (case k2 => k_mem); (case k3 => assumption); (case k4 => assumption); (case k5 => assumption); (case k6 => assumption); (case k7 => with_unfolding_all rfl); k_whole); intro _ y hy))

theorem drawn_pos {k d : Nat} (hk : 2 ≤ k) : 0 < 2 ^ (k * (d + 1)) - 1 := by
  have h1 : 2 ≤ k * (d + 1) := Nat.le_trans hk (Nat.le_mul_of_pos_right k (Nat.succ_pos d))
  have h2 := Nat.pow_le_pow_right (n := 2) (by decide) h1
  (first | lia | omega)
theorem drawn_top {k : Nat} : ((2 ^ k : Nat) : Int) - 1 = ((2 ^ k - 1 : Nat) : Int) := by
  have := Nat.pow_pos (n := k) (show 0 < 2 by decide)
  (first | lia | omega)
theorem drawn_step {v y k i : Nat} (hv : v < 2 ^ (k * i)) (hy : y < 2 ^ k) : v * 2 ^ k + y < 2 ^ (k * (i + 1)) := by
  rw [Nat.mul_add, Nat.mul_one, Nat.pow_add]
  have h1 : (v + 1) * 2 ^ k ≤ 2 ^ (k * i) * 2 ^ k := Nat.mul_le_mul_right _ hv
  rw [Nat.add_mul, Nat.one_mul] at h1
  (first | lia | omega)
theorem drawn_tell {prog : Program} {w : World} {news : List (Addr × Obj)} {lx : Addr} {x k n : Nat} {c z : Int} {tx tc tw tm : Tok} (most : Nat) (hne : ∀ p ∈ news, p.1 ≠ lx)
   (hx : x.log2 < 400) (hk2 : 2 ≤ k) (hk9 : k ≤ 9) (hm : 0 < most) (hm6 : most ≤ 6) (hz : z = (most : Int)) :
   Tell prog w 196 [.ref lx, .int (k : Int) tw, .int z tm] 2 ((lx, listOf #[.int (x : Int) tx, .int c tc] n) :: news) (fun r news' => ∃ x' v c' tx' tc', x' ≤ x ∧ 0 < v ∧ v ≤ 2 ^ (k * most) ∧ (∃ t, r = .int ((v : Nat) : Int) t) ∧ news' = (lx, listOf #[.int ((x' : Nat) : Int) tx', .int c' tc'] n) :: news) := by
  unfold Tell
  intro dp un gd cn cs a ccd cl outer A₀ base h₀ L m s mean mg mb Q E B' F X N T hk' hd hu hret
  refine wpAny_call ?_
  k_dflt ktr_enter
  tb_start
  ktn_end (take_tellz most hne (by (first | lia | omega)) hm (log2_mono hm6 (by decide)) hz)
  rintro _ _ h1 tk1 F5 N5 ⟨x1, d, tx1, tc1, hx1, hd1, ⟨t1, rfl⟩, rfl⟩
  tb_start
  ktn_end (take_tellz 4 hne (log2_mono hx1 (by (first | lia | omega))) (by decide) (by decide) rfl)
  rintro _ _ h2 tk2 F6 N6 ⟨x2, f, tx2, tc2, hx2, hf, ⟨t2, rfl⟩, rfl⟩
  have hkd : k * (d + 1) ≤ k * most := Nat.mul_le_mul_left k hd1
  have hkm : k * most ≤ 54 := Nat.le_trans (Nat.mul_le_mul hk9 hm6) (by decide)
  have hkd1 : (k : Int) * (((d + 1 : Nat) : Int) - 1) = ((k * d : Nat) : Int) := by
    rw [Int.natCast_add_one, Int.add_sub_cancel, Int.natCast_mul]
  have hkd2 : k * (d + 1) ≤ 1000000 := by (first | lia | omega)
  have hkd3 : k * d ≤ 1000000 := by rw [Nat.mul_add] at hkd; (first | lia | omega)
  have hp60 : 2 ^ k ≤ 2 ^ 60 := Nat.pow_le_pow_right (by (first | lia | omega)) (by (first | lia | omega))
  tb_start
  · exact hret _ _ _ _ (by assumption) (news_sub (by assumption) (by tb_rel)) ⟨x2, 2 ^ (k * (d + 1)) - 1, _, _, _, Nat.le_trans hx2 hx1, drawn_pos hk2, Nat.le_trans (Nat.sub_le _ _) (Nat.pow_le_pow_right (by decide) hkd), ktn_int drawn_top, rfl⟩
  · exact hret _ _ _ _ (by assumption) (news_sub (by assumption) (by tb_rel)) ⟨x2, 2 ^ (k * d), _, _, _, Nat.le_trans hx2 hx1, Nat.pow_pos (by decide), Nat.pow_le_pow_right (by decide) (Nat.le_trans (Nat.mul_le_mul_left k (Nat.le_succ d)) hkd), ktn_int rfl, rfl⟩
  · rename IsRange _ _ _ _ _ _ _ _ => R
    rename Fr _ _ _ _ => F1
    rename News _ _ _ _ => N1
    have hb1 : (0 : Int) ≤ ((2 ^ k : Nat) : Int) - 1 ∧ ((2 ^ k : Nat) : Int) - 1 < ((2 ^ k : Nat) : Int) := by
      have := Nat.pow_pos (n := k) (show 0 < 2 by decide)
      (first | lia | omega)
    have hc1 : (0 : Int) ≤ 0 ∧ (0 : Int) < ((2 ^ k : Nat) : Int) := by (first | lia | omega)
    obtain ⟨t0, F3⟩ : ∃ t0, Fr _ _ _ (kstB _ [("box", .ref lx), ("w", .int (k : Int) tw), ("value", .int ((0 : Nat) : Int) t0)]) := ⟨_, fr_ps F1 (by ktr_unf)⟩
    refine forR (σ := (Nat × Nat × Int × Tok × Tok × Tok)) (fun q => (lx, listOf #[.int (q.2.1 : Int) q.2.2.2.1, .int q.2.2.1 q.2.2.2.2.1] n) :: news) (fun q => [("box", .ref lx), ("w", .int (k : Int) tw), ("value", .int ((q.1 : Nat) : Int) q.2.2.2.2.2)])
      (fun i q => q.1 < 2 ^ (k * i) ∧ q.2.1 ≤ x) (d + 1) (0, x2, _, tx2, tc2, t0) rfl R (small_one (by (first | lia | omega)) (by (first | lia | omega)) (by (first | lia | omega)) (by (first | lia | omega))) (by rw [rangeSize_nat]; (first | lia | omega)) F3 (news_sub N1 (by tb_rel)) (by ktr_unf) ⟨by dsimp only; exact Nat.pow_pos (by decide), Nat.le_trans hx2 hx1⟩ ?_ ?_
    · rintro i ⟨v, x3, c3, tx3, tc3, t3⟩ u t I it h tk hi ⟨hv, hx3⟩ hI F4 N4
      dsimp only [kstB] at F4 N4 hI hv hx3
      have hI1 := neN (hI _ (.head _))
      dsimp only at hI1
      have hI2 : ∀ p ∈ news, p.1 ≠ I := fun p hp => hI p (.tail _ hp)
      have hne2 : ∀ p ∈ (I, it) :: news, p.1 ≠ lx := List.forall_mem_cons.mpr ⟨Ne.symm hI1, hne⟩
      replace N4 := news_sub N4 (l' := (lx, listOf #[.int (x3 : Int) tx3, .int c3 tc3] n) :: (I, it) :: news) (by tb_rel)
      (with_reducible show wpAny _ _ _ _ _ _)
      k_fold
      tb_start
      ktn_end (take_tellz (2 ^ k) hne2 (log2_mono hx3 (by (first | lia | omega))) (Nat.pow_pos (by decide)) (by rw [Nat.log2_two_pow]; (first | lia | omega)) rfl)
      rintro _ _ h5 tk5 F5 N5 ⟨x5, d5, tx5, tc5, hx5, hd5, ⟨t5, rfl⟩, rfl⟩
      tb_start
      rename_i l7 h7 F7 N7 hl7
      have hd6 : (0 : Int) ≤ ((d5 : Nat) : Int) ∧ ((d5 : Nat) : Int) < ((2 ^ k : Nat) : Int) := by (first | lia | omega)
      have hne3 : ∀ o : Obj, ∀ p ∈ (l7, o) :: (I, it) :: news, p.1 ≠ lx := fun o => List.forall_mem_cons.mpr ⟨Nat.ne_of_gt hl7.1, hne2⟩
      replace N7 : News _ _ _ ((lx, _) :: (l7, _) :: (I, it) :: news) := news_sub N7 (by tb_rel)
      ktn_end (take_tellz 3 (hne3 _) (log2_mono (Nat.le_trans hx5 hx3) (by (first | lia | omega))) (by decide) (by decide) rfl)
      rintro _ _ h8 tk8 F8 N8 ⟨x8, j, tx8, tc8, hx8, hj, ⟨t8, rfl⟩, rfl⟩
      tb_start
      refine FEnd.mk (_, x8, _, _, _, _) (by assumption) (news_sub (by assumption) (by tb_rel)) (by ktn_open) (by ktr_unf) ⟨?_, Nat.le_trans hx8 (Nat.le_trans hx5 hx3)⟩
      dsimp only
      exact drawn_step hv (by assumption)
    · rintro ⟨v, x3, c3, tx3, tc3, t3⟩ u h tk ⟨hv, hx3⟩ F4 N4
      dsimp only [kstB] at F4 N4 hv hx3
      tb_start
      exact hret _ _ _ _ (by assumption) (news_sub (by assumption) (by tb_rel)) ⟨x3, v + 1, _, _, _, hx3, Nat.succ_pos v, Nat.le_trans hv (Nat.pow_le_pow_right (by decide) hkd), ktn_int rfl, rfl⟩
theorem off_shares : True := by
  w_top off
  trivial

theorem shares_tell {prog : Program} {w : World} {news : List (Addr × Obj)} {lx : Addr} {x k n : Nat} {c : Int} {tx tc tw : Tok} (hne : ∀ p ∈ news, p.1 ≠ lx)
   (hx : x.log2 < 400) (hk2 : 2 ≤ k) (hk9 : k ≤ 9) :
   Tell prog w 203 [.ref lx, .int (k : Int) tw] 3 ((lx, listOf #[.int (x : Int) tx, .int c tc] n) :: news) (fun r news' => ∃ x' b a c' tx' tc' lt tb ta, x' ≤ x ∧ 0 < b ∧ b ≤ 2 ^ (k * 6) ∧ a ≤ 2 ^ (k * 6) * 2 ^ (k * 6) + 2 ^ (k * 6) ∧ r = .ref lt ∧ lx < lt ∧ (∀ p ∈ news, p.1 < lt) ∧ news' = (lt, { cls := .type "tuple", data := .seq #[.int ((b : Nat) : Int) tb, .int ((a : Nat) : Int) ta] }) :: (lx, listOf #[.int ((x' : Nat) : Int) tx', .int c' tc'] n) :: news) := by
  have hk6 : 2 ^ (k * 6) ≤ 2 ^ 60 := Nat.pow_le_pow_right (by decide) (by (first | lia | omega))
  unfold Tell
  intro dp un gd cn cs a ccd cl outer A₀ base h₀ L m s mean mg mb Q E B' F X N T hk' hd hu hret
  refine wpAny_call ?_
  k_dflt ktr_enter
  tb_start
  ktn_end (drawn_tell 6 hne hx hk2 hk9 (by decide) (by decide) rfl)
  rintro _ _ h1 tk1 F5 N5 ⟨x1, b, c1, tx1, tc1, hx1, hb0, hb1, ⟨t1, rfl⟩, rfl⟩
  tb_start
  ktn_end (drawn_tell 6 hne (log2_mono hx1 hx) hk2 hk9 (by decide) (by decide) rfl)
  rintro _ _ h2 tk2 F6 N6 ⟨x2, q, c2, tx2, tc2, hx2, hq0, hq1, ⟨t2, rfl⟩, rfl⟩
  have hx02 : x2.log2 < 400 := log2_mono (Nat.le_trans hx2 hx1) hx
  have hq60 : q ≤ 2 ^ 60 := Nat.le_trans hq1 hk6
  have hbl : b.log2 < 9000 := log2_mono hb1 (by rw [Nat.log2_two_pow]; (first | lia | omega))
  tb_start
  ktn_end (take_tellz b hne (by (first | lia | omega)) hb0 hbl rfl)
  rintro _ _ h3 tk3 F7 N7 ⟨x3, d, tx3, tc3, hx3, hd3, ⟨t3, rfl⟩, rfl⟩
  have hm1 : (0 : Int) ≤ 0 ∧ (0 : Int) < (b : Int) := by (first | lia | omega)
  have hm2 : (0 : Int) ≤ (b : Int) - 1 ∧ (b : Int) - 1 < (b : Int) := by (first | lia | omega)
  have hm3 : (0 : Int) ≤ (d : Int) ∧ (d : Int) < (b : Int) := by (first | lia | omega)
  tb_start
  rename_i l7 h7 F7 N7 hl7
  have hne3 : ∀ o : Obj, ∀ p ∈ (l7, o) :: news, p.1 ≠ lx := fun o => List.forall_mem_cons.mpr ⟨Nat.ne_of_gt hl7.1, hne⟩
  replace N7 : News _ _ _ ((lx, _) :: (l7, _) :: news) := news_sub N7 (by tb_rel)
  ktn_end (take_tellz 3 (hne3 _) (log2_mono hx3 (by (first | lia | omega))) (by decide) (by decide) rfl)
  rintro _ _ h8 tk8 F8 N8 ⟨x8, j, tx8, tc8, hx8, hj, ⟨t8, rfl⟩, rfl⟩
  tb_start
  rename_i y hy _ l9 _ _ _ hl9 _ _ _ _
  have hbq : b * q ≤ 2 ^ (k * 6) * 2 ^ (k * 6) := Nat.mul_le_mul hb1 hq1
  exact hret _ _ _ _ (by assumption) (news_sub (by assumption) (by tb_rel)) ⟨x8, b, b * q + y, _, _, _, l9, _, _, Nat.le_trans hx8 (Nat.le_trans hx3 (Nat.le_trans hx2 hx1)), hb0, hb1, by (first | lia | omega), rfl, hl9.1, ktn_ltOf hl9.2.2, rfl⟩
theorem off_law : True := by
  w_top off
  trivial
local macro_rules | `(tactic| ktr_rel) => `(tactic| first | (with_reducible exact List.mem_cons_self) | (refine' List.mem_cons_of_mem _ ?_; ktr_rel))
local macro_rules | `(tactic| walk_at "binaryOp Add int int") => `(tactic| (k_here; first | ((with_reducible show wpAny _ _ (binaryOp _ (Value.int 1 _) (Value.int (Nat.cast _) _)) _ _ _); (refine' one_add ?k1 ?_; (case k1 => rfl); k_whole)) | ((with_reducible show wpAny _ _ (binaryOp _ (Value.int (Nat.cast _) _) (Value.int 1 _)) _ _ _); (refine' add_one ?k1 ?_; (case k1 => rfl); k_whole)) | ((with_reducible show wpAny _ _ (binaryOp _ (Value.int (Nat.cast _) _) (Value.int (Nat.cast _) _)) _ _ _); (refine' add_nat ?_; k_whole)) | ((with_reducible show wpAny _ _ (binaryOp _ (Value.int 2 _) (Value.int (Nat.cast _) _)) _ _ _); (refine' lit_add 2 ?k1 ?_; (case k1 => k_dflt rfl); k_whole)) | ((with_reducible show wpAny _ _ (binaryOp _ (Value.int (Nat.cast _) _) (Value.int 4 _)) _ _ _); (refine' add_lit 4 ?k1 ?_; (case k1 => k_dflt rfl); k_whole))))
local macro_rules | `(tactic| walk_at "exec For Name Tuple cons nil") => `(tactic| (k_here; (rename Fr _ _ _ _ => lF'); (with_unfolding_all refine' For_invVF lF' ?k1 ?k2 ?_; (case k1 => exact rfl); (case k2 => exact rfl); k_whole)))
local macro_rules | `(tactic| walk_at "binaryOp Mult ref int") => `(tactic| (k_here; (with_reducible show wpAny _ _ (binaryOp _ (Value.ref _) (Value.int _ _)) _ _ _); k_dflt (refine' zeros_mulz ?F ?N ?m ?i ?z ?x ?_; (case F => k_asm); (case N => k_asm); (case m => k_mem); (case i => first | assumption | exact .cons _ _ .nil); (case z => first | exact rfl | assumption); (case x => omega)); intro D' ws' h' F' N' l1 hI'; (try k_lt l1); (try k_sweep)))
local macro_rules | `(tactic| walk_at "compareOp NotEq ref ref") => `(tactic| (k_here; (with_reducible show wpAny _ _ (compareOp CmpOp.NotEq (Value.ref _) (Value.ref _)) _ _ _); k_dflt (first | (refine' ne_ints ?k1 ?k2 ?k3 ?k4 ?k5 ?k6 ?k7 ?_; (case k1 => k_asm); (case k2 => ktr_rel); (case k3 => ktr_rel); (case k4 => assumption); (case k5 => assumption); (case k6 => assumption); (case k7 => first | ktr_units | units_room); k_whole) | (refine' ne_pairs ?k1 ?k2 ?k3 ?h1 ?h2 ?h3 ?h4 ?k4 ?k5 ?k6 ?k7 ?k8 ?_; (case k1 => k_asm); (case k2 => ktr_rel); (case k3 => ktr_rel); (case h1 => ktr_rel); (case h2 => ktr_rel); (case h3 => ktr_rel); (case h4 => ktr_rel); (case k4 => assumption); (case k5 => assumption); (case k6 => assumption); (case k7 => assumption); (case k8 => first | ktr_units | units_room); k_whole))))
local macro_rules | `(tactic| walk_at "eval Name") => `(tactic| (k_here; (with_reducible show wpAny _ _ (eval _ (envOfC _ _ _ _ _)) _ _ _); k_dflt (first | (refine' nameX_L ?F ?v ?_ ?k ?a ?b; (case a => kernel_rfl); (case k => exact rfl); (case b => kernel_rfl); (case F => k_asm); (case v => exact rfl); k_whole) | (refine' nameX_C ?N ?c ?m ?d ?_ ?k ?a ?b; (case a => kernel_rfl); (case k => exact rfl); (case b => kernel_rfl); (case N => k_asm); (case c => exact rfl); (case m => k_mem); (case d => k_asm); k_whole) | (refine' nameX_K ?F ?X ?T ?e ?_ ?k ?a ?b; (case a => kernel_rfl); (case k => exact rfl); (case b => kernel_rfl); (case F => k_asm); (case X => k_asm); (case T => k_asm); (case e => k_is); k_whole))))
local macro_rules | `(tactic| walk_at "callWith ref") => `(tactic| (k_here; k_dflt (refine' callWith_K ?k1 ?k2 ?_; (case k1 => k_asm); (case k2 => k_is); k_whole)))
local macro_rules | `(tactic| walk_at "leaving ref") => `(tactic| (k_here; k_dflt (refine' leave_cells ?k1 ?k2 ?k3 ?k4 ?_; (case k3 => assumption); (case k1 => assumption); (case k4 => assumption); (case k2 => assumption); k_whole); intro h' R' U'; (try dsimp only at R' U' ⊢)))

theorem post_ok (d : WData) : rw_nn0007_01.row.claim.post [d] (WData.bool true) [d] = true := by
  first
  | kernel_rfl
  | (show (WShape.has _ _ _ && _) = true; simp [WShape.has, rw_nn0007_01]; done)
  | with_unfolding_all rfl
theorem law_main : rw_nn0007_01.Holds := by
  refine hd ?_
  w_strict (k_go0; (all_goals try k_fold))
  rename_i zX zV zT zB zTE zTW zcd ns zs zlay zL1 zr1 zl2 w6 w5 ls vs w2 zL zra zw1 zr0 hI0 zr hlen0 zc2 zD _ _ _ _ _ _ zX0 _ _ _ _ _ _
  rename Heap.IsList (ghostOf _ _) _ _ => hls0
  clear zX0 zD zc2 zr zr0 zw1 zra zL zl2 zr1 zL1 zlay zs zcd zTW zTE zB zT zV zX
  tb_start
  refine' total_tell ?hi ?hl ?hls ?hB ?hF ?hX ?hN ?hT ?hk ?hd ?hu ?ret
  case' hi => exact hI0
  case' hl => (first | lia | omega)
  case' hls => exact hls0
  case' hB => k_asm
  case' hF => k_asm
  case' hX => k_asm
  case' hN => k_asm
  case' hT => k_asm
  case' hk => exact rfl
  case' hd => ktr_room
  case' hu => ktr_units
  intro x h1 tk1 t1 F1 N1 hx
  tb_start
  rename_i lx _ hlx _ _ _
  ktn_end (take_tellz 8 (by ktn_open) (by (first | lia | omega)) (by decide) (by decide) rfl)
  rintro _ _ h2 tk2 F2 N2 ⟨x2, d, tx2, tc2, hx2, hd, ⟨t2, rfl⟩, rfl⟩
  tb_start
  rename_i _ ow _ _ hcw
  obtain ⟨k, hkd⟩ : ∃ k, d + 2 = k := ⟨_, rfl⟩
  obtain ⟨B, hBk⟩ : ∃ B, B = 2 ^ k := ⟨_, rfl⟩
  have hk2 : 2 ≤ k := by (first | lia | omega)
  have hk9 : k ≤ 9 := by (first | lia | omega)
  rw [hkd]
  rw [hkd] at hcw
  ktn_end (shares_tell (by ktn_open) (log2_mono hx2 hx) hk2 hk9)
  rintro _ _ h3 tk3 F3 N3 ⟨x3, b, a, c3, tx3, tc3, lt, tb, ta, hx3, hb0, hb1, ha1, rfl, hlt1, hlt2, rfl⟩
  k_lt hlt2
  have hlt3 := ltN hlt1
  tb_start
  have hB : 2 ≤ B := by
    have := Nat.pow_le_pow_right (n := 2) (by decide) hk2
    (first | lia | omega)
  have hk20 : k ≤ 20 := by (first | lia | omega)
  have hk60 : k ≤ 60 := by (first | lia | omega)
  have hla := share_a hB hBk ha1
  have hlb := share_b hB hBk hb1
  ktn_end (mkrow_tell hk20 hBk hB (by (first | lia | omega)))
  rintro _ _ h4 tk4 F4 N4 ⟨l4, v4, c4, rfl, rfl, hl4, hi4⟩
  k_lt hl4
  tb_start
  ktn_end (mkrow_tell hk20 hBk hB (by (first | lia | omega)))
  rintro _ _ h5 tk5 F5 N5 ⟨l5, v5, c5, rfl, rfl, hl5, hi5⟩
  k_lt hl5
  tb_start
  rename_i lD _ hlD _ _ oh hoh _ _ N6
  replace N6 : News _ _ _ [(lx, _), (l5, _), (l4, _), (_, ow), (_, oh), (212, _)] := news_sub N6 (by tb_rel)
  ktn_end (take_tellz 8 (by ktn_open) (log2_mono (Nat.le_trans hx3 (Nat.le_trans hx2 (Nat.le_refl x))) (by (first | lia | omega))) (by decide) (by decide) rfl)
  rintro _ _ h7 tk7 F7 N7 ⟨x7, d7, tx7, tc7, hx7, hd7, ⟨t7, rfl⟩, rfl⟩
  tb_start
  ktn_end (take_tellz 8 (by ktn_open) (log2_mono (Nat.le_trans hx7 (Nat.le_trans hx3 (Nat.le_trans hx2 (Nat.le_refl x)))) (by (first | lia | omega))) (by decide) (by decide) rfl)
  rintro _ _ h8 tk8 F8 N8 ⟨x8, d8, tx8, tc8, hx8, hd8, ⟨t8, rfl⟩, rfl⟩
  tb_start
  rename_i l9 h9 F9 N9 hl9
  have hbl : b.log2 < 9000 := log2_mono hb1 (by rw [Nat.log2_two_pow]; (first | lia | omega))
  have hmany : ∀ z ∈ [((len B b + d7 : Nat) : Int), ((d8 : Nat) : Int)], ∃ mm : Nat, z = (mm : Int) ∧ mm ≤ 14 := by
    intro z hz
    rcases List.mem_cons.mp hz with rfl | hz
    · exact ⟨_, rfl, by (first | lia | omega)⟩
    · rw [List.mem_singleton.mp hz]
      exact ⟨_, rfl, by (first | lia | omega)⟩
  obtain ⟨G, hG, N10⟩ := news_tail N9
  refine forLx (σ := Unit) (ns := [((len B b + d7 : Nat) : Int), ((d8 : Nat) : Int)]) (fun _ => G) (fun _ => [("there", .ref l5), ("b", .int (b : Int) tb), ("a", .int (a : Int) ta), ("box", .ref lx)]) (fun _ _ => True) () rfl (.cons _ _ (.cons _ _ .nil)) (fr_ps F9 (by ktr_unf)) N10 (by ktr_unf) trivial ?_ ?_
  · rintro i _ u z tz I it h tk hi hz _ hI F4 N4
    obtain ⟨mm, rfl, hmm⟩ := hmany z (List.mem_of_getElem? hz)
    subst hG
    dsimp only [kstB] at F4 N4 hI
    have hpc := pow_cells (mm := mm) hBk
    have hpe : ((B ^ mm / b : Nat) : Int) = ((2 ^ (k * mm) / b : Nat) : Int) := by rw [hpc]
    have hkm : k * mm ≤ 1000000 := Nat.le_trans (Nat.mul_le_mul hk9 hmm) (by decide)
    (with_reducible show wpAny _ _ _ _ _ _)
    k_fold
    tb_start
    ktn_end (recip_tell 15 (by k_mem) hi5 hk2 hk20 hBk hB (by (first | lia | omega)) hb0 (by (first | lia | omega)) (by (first | lia | omega)))
    rintro _ _ h11 tk11 F11 N11 ⟨l11, v11, c11, rfl, rfl, hl11, hi11⟩
    have hlq := quot_len (N := mm) (h := b) hB
    tb_start
    ktn_end (isrow_tell (by k_mem) hi11 hk20 hBk hB (by (first | lia | omega)))
    rintro _ _ h12 tk12 F12 N12 ⟨rfl, rfl⟩
    tb_start
    ktn_end (value_tell (by k_mem) hi11 hk20 hBk hB (by (first | lia | omega)))
    rintro _ _ h13 tk13 F13 N13 ⟨rfl, t13, rfl⟩
    tb_start
    · exact absurd hpe (by assumption)
    · exact FEnd.mk () (by assumption) (news_sub (by assumption) (by tb_rel)) hI (by ktr_unf) trivial
  · rintro _ u h tk _ F4 N4
    dsimp only [kstB] at F4 N4
    subst hG
    replace N4 : News _ _ _ [(lx, _), (l5, _), (l4, _), (_, ow), (_, oh), (212, _)] := news_sub N4 (by tb_rel)
    tb_start
    ktn_end (take_tellz 5 (by ktn_open) (log2_mono (Nat.le_trans hx8 (Nat.le_trans hx7 (Nat.le_trans hx3 hx2))) (by (first | lia | omega))) (by decide) (by decide) rfl)
    rintro _ _ h14 tk14 F14 N14 ⟨x14, sp, tx14, tc14, hx14, hsp, ⟨t14, rfl⟩, rfl⟩
    tb_start
    rename_i l15 h15 F15 N15 hl15
    have hmany2 : ∀ z ∈ [((sp : Nat) : Int), ((sp + 1 : Nat) : Int), ((sp + 4 : Nat) : Int)], ∃ mm : Nat, z = (mm : Int) ∧ mm ≤ 8 ∧ sp ≤ mm := by
      intro z hz
      rcases List.mem_cons.mp hz with rfl | hz
      · exact ⟨_, rfl, by (first | lia | omega)⟩
      · rcases List.mem_cons.mp hz with rfl | hz
        · exact ⟨_, rfl, by (first | lia | omega)⟩
        · rw [List.mem_singleton.mp hz]
          exact ⟨_, rfl, by (first | lia | omega)⟩
    obtain ⟨G, hG, N16⟩ := news_tail N15
    refine forTx (σ := Unit) (vs := [.int ((sp : Nat) : Int) _, .int ((sp + 1 : Nat) : Int) _, .int ((sp + 4 : Nat) : Int) _]) (ns := [((sp : Nat) : Int), ((sp + 1 : Nat) : Int), ((sp + 4 : Nat) : Int)]) (fun _ => G) (fun _ => [("there", .ref l5), ("b", .int (b : Int) tb), ("a", .int (a : Int) ta), ("spot", .int (sp : Int) t14)]) (fun _ _ => True) () rfl (.cons _ _ (.cons _ _ (.cons _ _ .nil))) (fr_ps F15 (by ktr_unf)) N16 (by ktr_unf) trivial ?_ ?_
    · rintro i _ u z tz I it h tk hi hz _ hI F4 N4
      obtain ⟨mm, rfl, hmm, hsm⟩ := hmany2 z (List.mem_of_getElem? hz)
      subst hG
      dsimp only [kstB] at F4 N4 hI
      have hzc := zeros_cmp hB hsm
      have hsub : (mm : Int) - (sp : Int) = ((mm - sp : Nat) : Int) := by (first | lia | omega)
      have hps : len B (B ^ sp) = sp + 1 := by
        have := pow_len hB sp
        rw [Nat.one_mul] at this; exact this
      (with_reducible show wpAny _ _ _ _ _ _)
      k_fold
      tb_start
      ktn_end (recip_tell (b := B ^ sp) 15 (by k_mem) (by rw [row_pow hB]; assumption) hk2 hk20 hBk hB (by (first | lia | omega)) (pow_pos' hB sp) (by (first | lia | omega)) (by (first | lia | omega)))
      rintro _ _ h11 tk11 F11 N11 ⟨l11, v11, c11, rfl, rfl, hl11, hi11⟩
      tb_start
      exact FEnd.mk () (by assumption) (news_sub (by assumption) (by tb_rel)) hI (by ktr_unf) trivial
    · rintro _ u h tk _ F4 N4
      dsimp only [kstB] at F4 N4
      subst hG
      replace N4 : News _ _ _ [(lx, _), (l5, _), (l4, _), (_, ow), (_, oh), (212, _)] := news_sub N4 (by tb_rel)
      have ha1 : 0 < a + 1 := Nat.succ_pos a
      have hla1 := len_succ (n := a) hB
      have hal : (a + 1).log2 < 9000 := log2_of_len (n := 14) hBk hB hk20 (by (first | lia | omega)) (by (first | lia | omega))
      have hq1 := len_mono hB (Nat.div_le_self a b)
      have hr1 := len_mono hB (Nat.mod_le a b)
      have hq2 := len_mono hB (Nat.div_le_self b (a + 1))
      have hr2 := len_mono hB (Nat.mod_le b (a + 1))
      have hra : (!decide (row B a = row B a)) = false := by rw [decide_eq_true rfl]; rfl
      have hrb : (!decide (row B b = row B b)) = false := by rw [decide_eq_true rfl]; rfl
      tb_start
      ktn_end (divrem_tell 15 (by k_mem) hi4 (by k_mem) hi5 hk2 hk20 hBk hB (by (first | lia | omega)) (by (first | lia | omega)) hb0 (by (first | lia | omega)))
      rintro _ _ h20 tk20 F20 N20 ⟨l20, l21, v21, c21, l22, v22, c22, rfl, rfl, hl20, hl21, hl22, hi21, hi22⟩
      tb_start
      ktn_end (isrow_tell (by k_mem) hi21 hk20 hBk hB (by (first | lia | omega)))
      rintro _ _ h23 tk23 F23 N23 ⟨rfl, rfl⟩
      tb_start
      ktn_end (isrow_tell (by k_mem) hi22 hk20 hBk hB (by (first | lia | omega)))
      rintro _ _ h24 tk24 F24 N24 ⟨rfl, rfl⟩
      tb_start
      ktn_end (value_tell (by k_mem) hi21 hk20 hBk hB (by (first | lia | omega)))
      rintro _ _ h25 tk25 F25 N25 ⟨rfl, t25, rfl⟩
      tb_start
      · exact absurd rfl (by assumption)
      ktn_end (value_tell (by k_mem) hi22 hk20 hBk hB (by (first | lia | omega)))
      rintro _ _ h26 tk26 F26 N26 ⟨rfl, t26, rfl⟩
      tb_start
      · exact absurd rfl (by assumption)
      ktn_end (mkrow_tell hk20 hBk hB (by (first | lia | omega)))
      rintro _ _ h27 tk27 F27 N27 ⟨l27, v27, c27, rfl, rfl, hl27, hi27⟩
      tb_start
      ktn_end (divrem_tell 15 (by k_mem) hi5 (by k_mem) hi27 hk2 hk20 hBk hB (by (first | lia | omega)) (by (first | lia | omega)) ha1 (by (first | lia | omega)))
      rintro _ _ h30 tk30 F30 N30 ⟨l30, l31, v31, c31, l32, v32, c32, rfl, rfl, hl30, hl31, hl32, hi31, hi32⟩
      tb_start
      ktn_end (mkrow_tell hk20 hBk hB (by (first | lia | omega)))
      rintro _ _ h33 tk33 F33 N33 ⟨l33, v33, c33, rfl, rfl, hl33, hi33⟩
      tb_start
      ktn_end (mkrow_tell hk20 hBk hB (by (first | lia | omega)))
      rintro _ _ h34 tk34 F34 N34 ⟨l34, v34, c34, rfl, rfl, hl34, hi34⟩
      tb_start
      ktn_end (mkrow_tell hk20 hBk hB (by (first | lia | omega)))
      rintro _ _ h35 tk35 F35 N35 ⟨l35, v35, c35, rfl, rfl, hl35, hi35⟩
      tb_start
      ktn_end (mkrow_tell hk20 hBk hB (by (first | lia | omega)))
      rintro _ _ h36 tk36 F36 N36 ⟨l36, v36, c36, rfl, rfl, hl36, hi36⟩
      k_lt hl36
      replace N36 : News _ _ _ [(l36, _), (l5, _), (l4, _), (_, ow), (_, oh), (212, _)] := news_sub N36 (by tb_rel)
      tb_start
      refine wpAny_call ?_
      k_dflt (refine' call_low ?k1 ?k2 ?k3 ?k4 ?k5 ?kA ?kF ?kK ?k6 ?k7 ?k8 ?k9 ?kB ?_ ?c2 ?c3 ?c4 ?c5; (case kA => exact rfl); (case kF => exact rfl); (case kK => exact rfl); (case k1 => k_asm); (case k2 => k_asm); (case k3 => k_asm); (case k4 => k_asm); (case k5 => k_asm); (case k6 => k_is); (case k7 => k_is); (case k8 => k_room); (case k9 => exact BindsTo.of_eq rfl); (case c5 => decide); (case kB => exact locs rfl); (case c2 => exact rfl); (case c3 => exact rfl); (case c4 => exact rfl); k_whole)
      intro g2 L2 h2' FG2 F2' N2' B2' X2' T2' st2 lt2
      (try dsimp only)
      (try k_fold)
      tb_start
      walk1
      tb_start
      refine wpAny_call ?_
      k_dflt k_enter
      tb_start
      rename RaisedK _ _ _ _ _ _ _ _ => rkX
      rename Heap.UpToSlots _ _ => upX
      k_dflt (refine' caught_deep (bmB := [.type "Exception", .type "BaseException", .type "object"]) (newId := "Exception.__new__") ?st ?Fx st2 FG2 lt2 upX rkX ?X ?T ?ex ?q ?hb ?_; (case st => exact rfl); (case Fx => assumption); (case X => k_asm); (case T => k_asm); (case ex => k_is); (case q => k_exc); (case hb => rfl); k_whole)
      intro h9' o9 F9' own9 N9'
      replace N9' : News _ _ _ [(_, o9), (_, ow), (_, oh), (212, _)] := news_sub N9' (by tb_rel)
      clear rkX upX
      repeat' ((fail_if_success (with_reducible show wpAny _ _ (eval (PySem.Expr.Name _ _) (envOfC _ _ _ _ _)) _ _ _)); first | (k_unfold; (try dsimp only)) | walk1 | (dsimp only; walk1) | (leave1; (try dsimp only)) | fail "no step")
      rename Fr _ L2 _ _ => FZ
      rename News _ L2 _ _ => NZ
      obtain ⟨FB, NB⟩ := back_low FZ NZ own9 FG2.above (by ktn_open)
      clear FZ NZ
      tb_start
      refine wpAny_call ?_
      k_dflt (refine' call_low ?k1 ?k2 ?k3 ?k4 ?k5 ?kA ?kF ?kK ?k6 ?k7 ?k8 ?k9 ?kB ?_ ?c2 ?c3 ?c4 ?c5; (case kA => exact rfl); (case kF => exact rfl); (case kK => exact rfl); (case k1 => k_asm); (case k2 => k_asm); (case k3 => k_asm); (case k4 => k_asm); (case k5 => k_asm); (case k6 => k_is); (case k7 => k_is); (case k8 => k_room); (case k9 => exact BindsTo.of_eq rfl); (case c5 => decide); (case kB => exact locs rfl); (case c2 => exact rfl); (case c3 => exact rfl); (case c4 => exact rfl); k_whole)
      intro g2b L2b h2b' FG2b F2b' N2b' B2b' X2b' T2b' st2b lt2b
      (try dsimp only)
      (try k_fold)
      tb_start
      walk1
      tb_start
      refine wpAny_call ?_
      k_dflt k_enter
      tb_start
      rename RaisedK _ _ _ _ _ _ _ _ => rkXb
      rename Heap.UpToSlots _ _ => upXb
      k_dflt (refine' caught_deep (bmB := [.type "Exception", .type "BaseException", .type "object"]) (newId := "Exception.__new__") ?st ?Fx st2b FG2b lt2b upXb rkXb ?X ?T ?ex ?q ?hb ?_; (case st => exact rfl); (case Fx => assumption); (case X => k_asm); (case T => k_asm); (case ex => k_is); (case q => k_exc); (case hb => rfl); k_whole)
      intro h9b' o9b F9b' own9b N9b'
      replace N9b' : News _ _ _ [(_, o9b), (_, ow), (_, oh), (212, _)] := news_sub N9b' (by tb_rel)
      clear rkXb upXb
      repeat' ((fail_if_success (with_reducible show GoodW _ _ _ _ _ _ _ ∧ _)); first | (k_unfold; (try dsimp only)) | walk1 | (dsimp only; walk1) | (leave1; (try dsimp only)) | fail "no step")
      rename Fr _ L2b _ _ => FZb
      rename News _ L2b _ _ => NZb
      obtain ⟨FBb, NBb⟩ := back_low FZb NZb own9b FG2b.above (by ktn_open)
      clear FZb NZb
      tb_start
      refine ⟨.inl ⟨.bool true, .bool true, [], rfl, ?_, .bool _, ?_, ?_⟩, FBb.keep, rfl, ?_⟩
      · intro _; rfl
      · exact post_ok _
      · intro _; exact ⟨List.nodup_nil, fun _ h => (nomatch h)⟩
      · assumption
end Mine
end
theorem PySem.Challenge.cw_nn0007_01_holds : PySem.Challenge.rw_nn0007_01.Holds :=
  Mine.law_main
