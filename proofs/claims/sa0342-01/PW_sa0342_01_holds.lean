import PyProof.Rows.All
import Wide.All
import OpenK.AllK
import Wide.FinOn
import PySem.Challenge.RW_sa0342_01
set_option Elab.async false
set_option maxRecDepth 100000
set_option maxHeartbeats 8000000
set_option linter.unusedVariables false
set_option linter.unusedSimpArgs false
set_option compiler.extract_closed false
namespace Mine
/-! numbers as lists of limbs -/
def val (B : Int) : List Int → Int
  | [] => 0
  | x :: xs => x + B * val B xs
def Dig (B : Int) (xs : List Int) : Prop := ∀ x ∈ xs, 0 ≤ x ∧ x < B
/-- xs is the number n, written without leading noughts -/
structure Nm (B : Int) (xs : List Int) (n : Int) : Prop where
  dig : Dig B xs
  top : ∀ h : xs ≠ [], xs.getLast h ≠ 0
  eq : val B xs = n

section
variable {B : Int}
theorem val_append (xs ys : List Int) : val B (xs ++ ys) = val B xs + B ^ xs.length * val B ys := by
  induction xs with
  | nil => simp [val]
  | cons x xs ih => simp only [List.cons_append, val, ih, List.length_cons, Int.pow_succ]; grind
theorem val_take_drop (xs : List Int) {i : Nat} (h : i ≤ xs.length) : val B xs = val B (xs.take i) + B ^ i * val B (xs.drop i) := by
  have := val_append (B := B) (xs.take i) (xs.drop i)
  rwa [List.take_append_drop, List.length_take, Nat.min_eq_left h] at this
theorem Dig.cons {x : Int} {xs : List Int} : Dig B (x :: xs) ↔ (0 ≤ x ∧ x < B) ∧ Dig B xs := by simp [Dig]
theorem Dig.append {xs ys : List Int} : Dig B (xs ++ ys) ↔ Dig B xs ∧ Dig B ys := by
  constructor
  · exact fun h => ⟨fun x hx => h x (List.mem_append_left _ hx), fun x hx => h x (List.mem_append_right _ hx)⟩
  · exact fun h x hx => (List.mem_append.mp hx).elim (h.1 x) (h.2 x)
theorem Dig.nil : Dig B [] := by simp [Dig]
theorem Dig.take {xs : List Int} (h : Dig B xs) (i : Nat) : Dig B (xs.take i) := fun x hx => h x (List.mem_of_mem_take hx)
theorem Dig.drop {xs : List Int} (h : Dig B xs) (i : Nat) : Dig B (xs.drop i) := fun x hx => h x (List.mem_of_mem_drop hx)
theorem Dig.get {xs : List Int} (h : Dig B xs) {i : Nat} {x : Int} (e : xs[i]? = some x) : 0 ≤ x ∧ x < B := h x (List.mem_of_getElem? e)
theorem Dig.set {xs : List Int} (h : Dig B xs) {i : Nat} {x : Int} (hx : 0 ≤ x ∧ x < B) : Dig B (xs.set i x) := fun y hy => by
  rcases List.mem_or_eq_of_mem_set hy with h1 | h1
  · exact h y h1
  · exact h1 ▸ hx
theorem Dig.rep {n : Nat} (hB : 0 < B) : Dig B (List.replicate n 0) := fun x hx => by
  rw [List.eq_of_mem_replicate hx]; exact ⟨Int.le_refl _, hB⟩
theorem pow_pos' (hB : 0 < B) (n : Nat) : 0 < B ^ n := Int.pow_pos hB
theorem val_nonneg (hB : 0 < B) : ∀ {xs : List Int}, Dig B xs → 0 ≤ val B xs
  | [], _ => Int.le_refl _
  | x :: xs, h => by
    have ⟨h1, h2⟩ := Dig.cons.mp h
    have := Int.mul_nonneg (Int.le_of_lt hB) (val_nonneg hB h2)
    simp only [val]; (first | lia | omega)
theorem val_lt (hB : 0 < B) : ∀ {xs : List Int}, Dig B xs → val B xs < B ^ xs.length
  | [], _ => by simp [val]
  | x :: xs, h => by
    have ⟨h1, h2⟩ := Dig.cons.mp h
    have ih := val_lt hB h2
    have h3 : B * (val B xs + 1) ≤ B * B ^ xs.length := Int.mul_le_mul_of_nonneg_left (by (first | lia | omega)) (Int.le_of_lt hB)
    rw [Int.mul_add, Int.mul_one] at h3
    simp only [val, List.length_cons, Int.pow_succ]
    rw [Int.mul_comm (B ^ xs.length) B]; (first | lia | omega)
theorem val_rep (n : Nat) : val B (List.replicate n 0) = 0 := by
  induction n with
  | zero => rfl
  | succ n ih => simp [List.replicate_succ, val, ih]
theorem val_set : ∀ {xs : List Int} {i : Nat} {d x : Int}, xs[i]? = some x → val B (xs.set i d) = val B xs + (d - x) * B ^ i
  | [], i, d, x, h => by simp at h
  | y :: ys, 0, d, x, h => by simp at h; subst h; simp [val]; (first | lia | omega)
  | y :: ys, i + 1, d, x, h => by
    simp at h
    have ih := val_set (d := d) h
    simp only [List.set_cons_succ, val, ih, Int.pow_succ]; grind
theorem val_zero_of_all {xs : List Int} (h : ∀ x ∈ xs, x = 0) : val B xs = 0 := by
  induction xs with
  | nil => rfl
  | cons x xs ih =>
    simp only [val, ih fun y hy => h y (List.mem_cons_of_mem _ hy), h x (List.mem_cons_self ..)]; simp

theorem Nm.nil : Nm B [] 0 := ⟨.nil, fun h => absurd rfl h, rfl⟩
theorem Nm.nonneg {xs : List Int} {n : Int} (hB : 0 < B) (h : Nm B xs n) : 0 ≤ n := h.eq ▸ val_nonneg hB h.dig
theorem Nm.lt {xs : List Int} {n : Int} (hB : 0 < B) (h : Nm B xs n) : n < B ^ xs.length := h.eq ▸ val_lt hB h.dig
theorem Nm.ge {xs : List Int} {n : Int} (hB : 0 < B) (h : Nm B xs n) (hx : xs ≠ []) : B ^ (xs.length - 1) ≤ n := by
  have e := List.dropLast_concat_getLast hx
  have h1 := h.top hx
  have h2 := h.dig _ (List.getLast_mem hx)
  have h3 : val B xs = val B xs.dropLast + B ^ (xs.length - 1) * xs.getLast hx := by
    conv => lhs; rw [← e]
    rw [val_append, List.length_dropLast]; simp [val]
  have h4 : 0 ≤ val B xs.dropLast := val_nonneg hB fun x hx' => h.dig x ((List.dropLast_sublist _).subset hx')
  have h5 : B ^ (xs.length - 1) * 1 ≤ B ^ (xs.length - 1) * xs.getLast hx := Int.mul_le_mul_of_nonneg_left (by (first | lia | omega)) (Int.le_of_lt (pow_pos' hB _))
  have := h.eq
  (first | lia | omega)
theorem Nm.pos {xs : List Int} {n : Int} (hB : 0 < B) (h : Nm B xs n) (hx : xs ≠ []) : 0 < n := Int.lt_of_lt_of_le (pow_pos' hB _) (h.ge hB hx)
theorem Nm.nil_iff {xs : List Int} {n : Int} (hB : 0 < B) (h : Nm B xs n) : xs = [] ↔ n = 0 := by
  constructor
  · intro e; subst e; exact h.eq.symm
  · intro e
    by_cases hx : xs = []
    · exact hx
    · have := h.pos hB hx; (first | lia | omega)
theorem two_pow_le_pow {B : Int} (hB : 2 ≤ B) (n : Nat) : (2 : Int) ^ n ≤ B ^ n := by
  induction n with
  | zero => simp
  | succ n ih =>
    have h1 : (2 : Int) ^ n * 2 ≤ B ^ n * 2 := Int.mul_le_mul_of_nonneg_right ih (by decide)
    have h2 : B ^ n * 2 ≤ B ^ n * B := Int.mul_le_mul_of_nonneg_left hB (Int.le_of_lt (pow_pos' (by (first | lia | omega)) n))
    rw [Int.pow_succ, Int.pow_succ]; (first | lia | omega)
theorem pow_lt_pow_iff2 {B : Int} (hB : 2 ≤ B) {a b : Nat} (h : B ^ a < B ^ b) : a < b := by
  rcases Nat.lt_or_ge a b with h1 | h1
  · exact h1
  · exfalso
    obtain ⟨c, rfl⟩ := Nat.exists_eq_add_of_le h1
    have h2 : B ^ b * 1 ≤ B ^ b * B ^ c := Int.mul_le_mul_of_nonneg_left (by have := pow_pos' (B := B) (by (first | lia | omega)) c; (first | lia | omega)) (Int.le_of_lt (pow_pos' (by (first | lia | omega)) b))
    rw [Int.pow_add] at h; (first | lia | omega)
theorem pow_le_pow {B : Int} (hB : 1 ≤ B) {a b : Nat} (h : a ≤ b) : B ^ a ≤ B ^ b := by
  obtain ⟨c, rfl⟩ := Nat.exists_eq_add_of_le h
  have h2 : B ^ a * 1 ≤ B ^ a * B ^ c := Int.mul_le_mul_of_nonneg_left (by have := pow_pos' (B := B) (by (first | lia | omega)) c; (first | lia | omega)) (Int.le_of_lt (pow_pos' (by (first | lia | omega)) a))
  rw [Int.pow_add]; (first | lia | omega)
/-- a bound on the length -/
theorem Nm.len {xs : List Int} {n : Int} {k : Nat} (hB : 2 ≤ B) (h : Nm B xs n) (hn : n < 2 ^ k) : xs.length ≤ k := by
  by_cases hx : xs = []
  · subst hx; simp
  · have h1 := h.ge (by (first | lia | omega)) hx
    have h2 := two_pow_le_pow hB (xs.length - 1)
    have h3 : xs.length - 1 < k := pow_lt_pow_iff2 (B := 2) (by decide) (by (first | lia | omega))
    (first | lia | omega)
/-- written without leading noughts: told by the number -/
theorem Nm.of_ge {xs : List Int} {n : Int} (hB : 0 < B) (hd : Dig B xs) (hv : val B xs = n) (h : xs ≠ [] → B ^ (xs.length - 1) ≤ n) : Nm B xs n := by
  refine ⟨hd, fun hx h0 => ?_, hv⟩
  have h1 := h hx
  have e := List.dropLast_concat_getLast hx
  have h3 : val B xs = val B xs.dropLast + B ^ (xs.length - 1) * xs.getLast hx := by
    conv => lhs; rw [← e]
    rw [val_append, List.length_dropLast]; simp [val]
  rw [h0, Int.mul_zero, Int.add_zero] at h3
  have h4 : val B xs.dropLast < B ^ (xs.dropLast).length := val_lt hB fun x hx' => hd x ((List.dropLast_sublist _).subset hx')
  rw [List.length_dropLast] at h4
  (first | lia | omega)

/-- j limbs are left when the noughts at the end are struck -/
structure Stripped (xs : List Int) (j : Nat) : Prop where
  le : j ≤ xs.length
  zero : ∀ i, j ≤ i → ∀ x, xs[i]? = some x → x = 0
  top : ∀ x, 0 < j → xs[j - 1]? = some x → x ≠ 0
theorem Stripped.veq {xs : List Int} {j : Nat} (h : Stripped xs j) : val B (xs.take j) = val B xs := by
  rw [val_take_drop xs h.le]
  have : val B (xs.drop j) = 0 := val_zero_of_all fun x hx => by
    obtain ⟨i, hi⟩ := List.getElem?_of_mem hx
    rw [List.getElem?_drop] at hi
    exact h.zero _ (Nat.le_add_right _ _) x hi
  rw [this]; simp
theorem Stripped.nm {xs : List Int} {j : Nat} {n : Int} (h : Stripped xs j) (hd : Dig B xs) (hv : val B xs = n) : Nm B (xs.take j) n := by
  refine ⟨hd.take j, fun hx h0 => ?_, h.veq.trans hv⟩
  have hj : 0 < j := by
    rcases Nat.eq_zero_or_pos j with e | e
    · subst e; simp at hx
    · exact e
  have hlt : j - 1 < xs.length := by have := h.le; (first | lia | omega)
  refine h.top xs[j - 1] hj (List.getElem?_eq_getElem hlt) ?_
  rw [List.getLast_eq_getElem] at h0
  simp only [List.length_take, Nat.min_eq_left h.le, List.getElem_take] at h0
  exact h0
theorem val_snoc (xs : List Int) (d : Int) : val B (xs ++ [d]) = val B xs + B ^ xs.length * d := by rw [val_append]; simp [val]
theorem emod_dig (hB : 0 < B) (c : Int) : 0 ≤ c % B ∧ c % B < B := ⟨Int.emod_nonneg _ (by (first | lia | omega)), Int.emod_lt_of_pos _ hB⟩
theorem Dig.snoc {xs : List Int} {d : Int} (h : Dig B xs) (hd : 0 ≤ d ∧ d < B) : Dig B (xs ++ [d]) := Dig.append.mpr ⟨h, fun x hx => by rw [List.mem_singleton.mp hx]; exact hd⟩
/-- one limb more, the rest carried -/
theorem snoc_carry (xs : List Int) (c : Int) : val B (xs ++ [c % B]) + B ^ (xs.length + 1) * (c / B) = val B xs + B ^ xs.length * c := by
  rw [val_snoc, Int.pow_succ]
  have h := Int.mul_ediv_add_emod c B
  have : B ^ xs.length * c = B ^ xs.length * (B * (c / B) + c % B) := by rw [h]
  rw [this]; grind
theorem val_take_succ {xs : List Int} {i : Nat} {x : Int} (h : xs[i]? = some x) : val B (xs.take (i + 1)) = val B (xs.take i) + B ^ i * x := by
  have hlt := (List.getElem?_eq_some_iff.mp h).1
  rw [List.take_add_one, h]
  show val B (xs.take i ++ [x]) = _
  rw [val_snoc, List.length_take, Nat.min_eq_left (Nat.le_of_lt hlt)]
theorem take_all {xs : List Int} {i : Nat} (h : xs.length ≤ i) : xs.take i = xs := List.take_of_length_le h
/-- the topmost limb that is not alike decides -/
theorem val_cmp {xs ys : List Int} {p : Nat} {x y : Int} (hB : 0 < B) (dx : Dig B xs) (dy : Dig B ys) (hx : xs[p]? = some x) (hy : ys[p]? = some y) (hd : ∀ j, p < j → xs[j]? = ys[j]?) (hlt : x < y) : val B xs < val B ys := by
  have lx := (List.getElem?_eq_some_iff.mp hx).1
  have ly := (List.getElem?_eq_some_iff.mp hy).1
  have e : xs.drop (p + 1) = ys.drop (p + 1) := List.ext_getElem? fun i => by rw [List.getElem?_drop, List.getElem?_drop]; exact hd _ (by (first | lia | omega))
  rw [val_take_drop xs (i := p + 1) (by (first | lia | omega)), val_take_drop ys (i := p + 1) (by (first | lia | omega)), e, val_take_succ hx, val_take_succ hy]
  have h1 : val B (xs.take p) < B ^ p := by
    have := val_lt hB (dx.take p)
    rwa [List.length_take, Nat.min_eq_left (by (first | lia | omega))] at this
  have h2 := val_nonneg hB (dy.take p)
  have h3 : B ^ p * (x + 1) ≤ B ^ p * y := Int.mul_le_mul_of_nonneg_left (by (first | lia | omega)) (Int.le_of_lt (pow_pos' hB p))
  rw [Int.mul_add, Int.mul_one] at h3
  (first | lia | omega)
theorem nm_len_lt {xs ys : List Int} {x y : Int} (hB : 1 ≤ B) (hx : Nm B xs x) (hy : Nm B ys y) (h : xs.length < ys.length) : x < y := by
  have h1 := hx.lt (by (first | lia | omega))
  have h2 := hy.ge (by (first | lia | omega)) (by intro e; subst e; simp at h)
  have h3 : B ^ xs.length ≤ B ^ (ys.length - 1) := pow_le_pow hB (by (first | lia | omega))
  (first | lia | omega)
theorem mul_pos_ge {a b : Int} (ha : 0 < a) (hb : 0 < b) : a ≤ a * b := by
  have := Int.mul_le_mul_of_nonneg_left (c := a) (a := 1) (b := b) (by (first | lia | omega)) (by (first | lia | omega))
  (first | lia | omega)
end
end Mine
namespace Mine
section
variable {B : Int}
theorem split_pow (W N : Nat) : (2 : Int) ^ N = (2 ^ W) ^ (N / W) * 2 ^ (N % W) := by
  rw [← Int.pow_mul, ← Int.pow_add, Nat.div_add_mod]
theorem lt_split {W N : Nat} (h : 0 < W) : (2 : Int) ^ (N % W) ≤ 2 ^ W := pow_le_pow (by decide) (Nat.le_of_lt (Nat.mod_lt _ h))
theorem mul_lt_of {a b B : Int} (ha : 0 ≤ a) (ha' : a < B) (hb : 0 ≤ b) (hb' : b < B) : a * b ≤ (B - 1) * (B - 1) :=
  Int.le_trans (Int.mul_le_mul_of_nonneg_right (by (first | lia | omega)) hb) (Int.mul_le_mul_of_nonneg_left (by (first | lia | omega)) (by (first | lia | omega)))
theorem sq_eq (B : Int) : (B - 1) * (B - 1) = B * B - 2 * B + 1 := by grind
theorem natAbs_lt {a : Int} {n : Nat} (h : 0 ≤ a) (h' : a < 2 ^ n) : a.natAbs < 2 ^ n := by
  have : (a.natAbs : Int) < ((2 ^ n : Nat) : Int) := by push_cast; (first | lia | omega)
  exact_mod_cast this
end
end Mine
namespace Mine
section
variable {B : Int}
theorem hi_zero (hB : 0 < B) {zs : List Int} {k : Nat} (dz : Dig B zs) (hk : k ≤ zs.length) (h : val B zs < B ^ k) : val B (zs.drop k) = 0 := by
  have h1 := val_take_drop (B := B) zs hk
  have h2 := val_nonneg hB (dz.take k)
  have h3 := val_nonneg hB (dz.drop k)
  rcases Int.lt_or_le 0 (val B (zs.drop k)) with h4 | h4
  · have := mul_pos_ge (pow_pos' hB k) h4; (first | lia | omega)
  · (first | lia | omega)
theorem lo_lt (hB : 0 < B) {zs us : List Int} {k : Nat} (du : Dig B us) (hk : k ≤ us.length) (same : ∀ j, k ≤ j → us[j]? = zs[j]?) (h : val B (zs.drop k) = 0) : val B us < B ^ k := by
  have e : us.drop k = zs.drop k := List.ext_getElem? fun i => by rw [List.getElem?_drop, List.getElem?_drop]; exact same _ (by (first | lia | omega))
  rw [val_take_drop us hk, e, h, Int.mul_zero, Int.add_zero]
  have := val_lt hB (du.take k)
  rwa [List.length_take, Nat.min_eq_left hk] at this
theorem top2 (hB : 0 < B) {ys : List Int} {y a b : Int} {s : Nat} (hy : Nm B ys y) (hs : ys.length = s + 2) (ha : ys[s + 1]? = some a) (hb : ys[s]? = some b) : (a * B + b) * B ^ s ≤ y ∧ y < (a * B + b + 1) * B ^ s := by
  have h1 := val_take_succ (B := B) ha
  rw [val_take_succ hb, take_all (by (first | lia | omega)), hy.eq, Int.pow_succ] at h1
  have h2 := val_nonneg hB (hy.dig.take s)
  have h3 := val_lt hB (hy.dig.take s)
  rw [List.length_take, Nat.min_eq_left (by (first | lia | omega))] at h3
  have e : (a * B + b) * B ^ s = B ^ s * b + B ^ s * B * a := by grind
  rw [Int.add_mul (a * B + b), e, h1]; (first | lia | omega)
theorem top3 (hB : 0 < B) {zs : List Int} {z0 z1 z2 : Int} {p : Nat} (dz : Dig B zs) (h0 : zs[p]? = some z0) (h1 : zs[p + 1]? = some z1) (h2 : zs[p + 2]? = some z2) (hz : val B (zs.drop (p + 3)) = 0) : ((z2 * B + z1) * B + z0) * B ^ p ≤ val B zs ∧ val B zs < ((z2 * B + z1) * B + z0 + 1) * B ^ p := by
  have hl := (List.getElem?_eq_some_iff.mp h2).1
  have e1 := val_take_succ (B := B) h2
  rw [val_take_succ h1, val_take_succ h0] at e1; simp only [Int.pow_succ] at e1
  have e2 := val_take_drop (B := B) zs (i := p + 3) (by (first | lia | omega))
  rw [hz, Int.mul_zero, Int.add_zero, e1] at e2
  have h4 := val_nonneg hB (dz.take p)
  have h3 := val_lt hB (dz.take p)
  rw [List.length_take, Nat.min_eq_left (by (first | lia | omega))] at h3
  have e : ((z2 * B + z1) * B + z0) * B ^ p = B ^ p * z0 + B ^ p * B * z1 + B ^ p * B * B * z2 := by grind
  rw [Int.add_mul ((z2 * B + z1) * B + z0), e, e2]; (first | lia | omega)
theorem row_hi {B y D H q s p V : Int} (hs : 0 < s) (hp : 0 < p) (hy0 : 0 < y) (hy : D * s ≤ y) (hq0 : 0 ≤ q) (hV : V < (H + 1) * (p * s)) (hV2 : V < y * (p * B)) (mx : ∀ j, j < B → j * D ≤ H → j ≤ q) : V < (q + 1) * (y * p) := by
  rcases Int.lt_or_le V ((q + 1) * (y * p)) with h | h
  · exact h
  exfalso
  have hyp : 0 < y * p := Int.mul_pos hy0 hp
  have h1 : q + 1 < B := by
    refine Int.lt_of_mul_lt_mul_right (a := y * p) ?_ (by (first | lia | omega))
    have : B * (y * p) = y * (p * B) := by grind
    (first | lia | omega)
  have h2 : (q + 1) * D < H + 1 := by
    refine Int.lt_of_mul_lt_mul_right (a := p * s) ?_ (Int.le_of_lt (Int.mul_pos hp hs))
    have e1 : (q + 1) * D * (p * s) = (q + 1) * p * (D * s) := by grind
    have e2 : (q + 1) * p * (D * s) ≤ (q + 1) * p * y := Int.mul_le_mul_of_nonneg_left hy (Int.mul_nonneg (by (first | lia | omega)) (by (first | lia | omega)))
    have e3 : (q + 1) * p * y = (q + 1) * (y * p) := by grind
    (first | lia | omega)
  have := mx (q + 1) h1 (by (first | lia | omega))
  (first | lia | omega)
theorem row_lo {y D H q s p V : Int} (hs : 0 < s) (hp : 0 < p) (hy : y < (D + 1) * s) (hq1 : 1 ≤ q) (hqD : q ≤ D + 1) (hqH : q * D ≤ H) (hV : H * (p * s) ≤ V) : (q - 1) * (y * p) ≤ V := by
  have h1 : (q - 1) * p * y ≤ (q - 1) * p * ((D + 1) * s) := Int.mul_le_mul_of_nonneg_left (by (first | lia | omega)) (Int.mul_nonneg (by (first | lia | omega)) (by (first | lia | omega)))
  have h2 : (q - 1) * (D + 1) ≤ H := by
    have : (q - 1) * (D + 1) = q * D + q - D - 1 := by grind
    (first | lia | omega)
  have h3 : (q - 1) * (D + 1) * (p * s) ≤ H * (p * s) := Int.mul_le_mul_of_nonneg_right h2 (Int.le_of_lt (Int.mul_pos hp hs))
  have e1 : (q - 1) * p * y = (q - 1) * (y * p) := by grind
  have e2 : (q - 1) * p * ((D + 1) * s) = (q - 1) * (D + 1) * (p * s) := by grind
  (first | lia | omega)
theorem Nm.len_le {xs : List Int} {n : Int} {l : Nat} (hB : 2 ≤ B) (h : Nm B xs n) (h2 : n < B ^ l) : xs.length ≤ l := by
  by_cases hx : xs = []
  · subst hx; simp
  · have := h.ge (by (first | lia | omega)) hx
    have : xs.length - 1 < l := pow_lt_pow_iff2 hB (by (first | lia | omega))
    (first | lia | omega)
theorem Nm.len_eq {xs : List Int} {n : Int} {l : Nat} (hB : 2 ≤ B) (h : Nm B xs n) (h1 : B ^ l ≤ n) (h2 : n < B ^ (l + 1)) : xs.length = l + 1 := by
  have h3 := h.len_le hB h2
  have h4 := h.lt (by (first | lia | omega))
  have : l < xs.length := pow_lt_pow_iff2 hB (by (first | lia | omega))
  (first | lia | omega)
theorem top1 (hB : 0 < B) {ys : List Int} {y a : Int} {s : Nat} (hy : Nm B ys y) (hs : ys.length = s + 1) (ha : ys[s]? = some a) : y < (a + 1) * B ^ s := by
  have h1 := val_take_succ (B := B) ha
  rw [take_all (by (first | lia | omega)), hy.eq] at h1
  have h3 := val_lt hB (hy.dig.take s)
  rw [List.length_take, Nat.min_eq_left (by (first | lia | omega))] at h3
  rw [Int.add_mul, Int.one_mul, h1, Int.mul_comm a]; (first | lia | omega)
theorem drop3 {zs : List Int} {z0 z1 z2 : Int} {p : Nat} (h0 : zs[p]? = some z0) (h1 : zs[p + 1]? = some z1) (h2 : zs[p + 2]? = some z2) : (zs.drop p).take 3 = [z0, z1, z2] := by
  refine List.ext_getElem? fun i => ?_
  rw [List.getElem?_take]
  rcases i with _ | _ | _ | i
  · simpa using h0
  · simpa using h1
  · simpa using h2
  · simp; (first | lia | omega)
end
end Mine
namespace Mine
section
def QQ (b : Nat) : Nat → Int
  | 0 => 1
  | n + 1 => QQ b n * ((b + n : Nat) : Int)
def TT (b : Nat) : Nat → Int
  | 0 => 0
  | n + 1 => TT b n * ((b + n : Nat) : Int) + 1
theorem QQ_add (b n : Nat) : ∀ m, QQ b (n + m) = QQ b n * QQ (b + n) m
  | 0 => by simp [QQ]
  | m + 1 => by show QQ b (n + m) * _ = _; rw [QQ_add b n m, QQ, show b + n.add m = b + n + m from (Nat.add_assoc ..).symm]; grind
theorem TT_add (b n : Nat) : ∀ m, TT b (n + m) = TT b n * QQ (b + n) m + TT (b + n) m
  | 0 => by simp [QQ, TT]
  | m + 1 => by show TT b (n + m) * _ + 1 = _; rw [TT_add b n m, QQ, TT, show b + n.add m = b + n + m from (Nat.add_assoc ..).symm]; grind
theorem QQ_pos {b : Nat} (hb : 1 ≤ b) : ∀ n, 0 < QQ b n
  | 0 => by simp [QQ]
  | n + 1 => Int.mul_pos (QQ_pos hb n) (by (first | lia | omega))
theorem TT_nonneg {b : Nat} : ∀ n, 0 ≤ TT b n
  | 0 => by simp [TT]
  | n + 1 => by have := Int.mul_nonneg (TT_nonneg (b := b) n) (show (0 : Int) ≤ ((b + n : Nat) : Int) by (first | lia | omega)); simp only [TT]; (first | lia | omega)
theorem QQ_le {b : Nat} (hb : 1 ≤ b) : ∀ n, b + n ≤ 17 → QQ b n ≤ 16 ^ n
  | 0, _ => by simp [QQ]
  | n + 1, h => by
    have h1 := QQ_le hb n (by (first | lia | omega))
    have h2 : QQ b n * ((b + n : Nat) : Int) ≤ QQ b n * 16 := Int.mul_le_mul_of_nonneg_left (by (first | lia | omega)) (Int.le_of_lt (QQ_pos hb n))
    simp only [QQ, Int.pow_succ]; (first | lia | omega)
theorem TT_lt {b : Nat} (hb : 1 ≤ b) : ∀ n, b + n ≤ 16 → TT b n + 1 ≤ 16 ^ n
  | 0, _ => by simp [TT]
  | n + 1, h => by
    have h1 := TT_lt hb n (by (first | lia | omega))
    have h2 : TT b n * ((b + n : Nat) : Int) ≤ TT b n * 15 := Int.mul_le_mul_of_nonneg_left (by (first | lia | omega)) (TT_nonneg n)
    have := TT_nonneg (b := b) n
    simp only [TT, Int.pow_succ]; (first | lia | omega)
theorem p16 {n : Nat} (h : n ≤ 15) : (16 : Int) ^ n ≤ 2 ^ 60 := Int.le_trans (pow_le_pow (by decide) h) (by decide)
theorem QQ_64 {b n : Nat} (hb : 1 ≤ b) (h : b + n ≤ 16) : QQ b n < 2 ^ 64 := by
  have := QQ_le hb n (by (first | lia | omega)); have := p16 (n := n) (by (first | lia | omega)); (first | lia | omega)
theorem TT_64 {b n : Nat} (hb : 1 ≤ b) (h : b + n ≤ 16) : TT b n < 2 ^ 64 := by
  have := TT_lt hb n (by (first | lia | omega)); have := p16 (n := n) (by (first | lia | omega)); (first | lia | omega)
theorem big64 {x : Int} {k : Nat} (h : x < 2 ^ 64) (hk : 64 ≤ k) : x < 2 ^ k := Int.lt_of_lt_of_le h (pow_le_pow (by decide) hk)
end
end Mine
namespace Mine
/-- the parts of x over y -/
inductive CF : Int → Int → List Int → Prop
  | nil (x : Int) : CF x 0 []
  | cons {x y : Int} {ns : List Int} : 0 < y → CF y (x % y) ns → CF x y (x / y :: ns)
theorem CF.det {ns ms : List Int} {x y : Int} (h : CF x y ns) (h' : CF x y ms) : ns = ms := by
  induction h generalizing ms with
  | nil x => cases h' with
    | nil => rfl
    | cons h _ => exact absurd h (by decide)
  | cons h _ ih => cases h' with
    | nil => exact absurd h (by decide)
    | cons _ h' => rw [ih h']
def cfC : Nat → Int → Int → Option (List Int)
  | 0, _, _ => none
  | f + 1, x, y => if y = 0 then some [] else if y < 0 then none else (cfC f y (x % y)).map (x / y :: ·)
theorem cfC_CF : ∀ {f : Nat} {x y : Int} {ns : List Int}, cfC f x y = some ns → CF x y ns
  | 0, _, _, _, h => by cases h
  | f + 1, x, y, ns, h => by
    unfold cfC at h
    split at h
    · rename_i h0; cases h; subst h0; exact .nil _
    · split at h
      · cases h
      · obtain ⟨ms, h1, rfl⟩ := Option.map_eq_some_iff.mp h
        exact .cons (by (first | lia | omega)) (cfC_CF h1)
/-- lists of limbs, one for each number -/
inductive Nms (B : Int) : List (List Int) → List Int → Prop
  | nil : Nms B [] []
  | cons {z : List Int} {zs : List (List Int)} {n : Int} {ns : List Int} : Nm B z n → Nms B zs ns → Nms B (z :: zs) (n :: ns)
theorem Nms.length {B : Int} {zs : List (List Int)} {ns : List Int} (h : Nms B zs ns) : zs.length = ns.length := by
  induction h with
  | nil => rfl
  | cons _ _ ih => exact congrArg Nat.succ ih
theorem Nms.append {B : Int} {zs ys : List (List Int)} {ns ms : List Int} (h : Nms B zs ns) (h' : Nms B ys ms) : Nms B (zs ++ ys) (ns ++ ms) := by
  induction h with
  | nil => exact h'
  | cons a _ ih => exact .cons a ih
theorem Nms.get {B : Int} {zs : List (List Int)} {ns : List Int} (h : Nms B zs ns) : ∀ {i : Nat} {n : Int}, ns[i]? = some n → ∃ z, zs[i]? = some z ∧ Nm B z n := by
  induction h with
  | nil => exact fun h => nomatch h
  | cons a _ ih =>
    intro i n h
    cases i with
    | zero => exact ⟨_, rfl, Option.some.inj h ▸ a⟩
    | succ i => exact ih h
/-- one step of the convergents -/
def cvS (s : (Int × Int) × (Int × Int)) (t : Int) : (Int × Int) × (Int × Int) := (s.2, (t * s.2.1 + s.1.1, t * s.2.2 + s.1.2))
def cv (ts : List Int) : (Int × Int) × (Int × Int) := ts.foldl cvS ((0, 1), (1, 0))
theorem cv_snoc (ts : List Int) (t : Int) : cv (ts ++ [t]) = cvS (cv ts) t := by simp [cv, List.foldl_append]
theorem cv_take {ts : List Int} {i : Nat} {t : Int} (h : ts[i]? = some t) : cv (ts.take (i + 1)) = cvS (cv (ts.take i)) t := by
  rw [List.take_add_one, h]; exact cv_snoc _ _
end Mine
namespace Mine
def dueL : Nat → List Int
  | 0 => [2]
  | t + 1 => dueL t ++ [1, 2 * (t : Int) + 2, 1]
/-- where two lists are unlike, among the first i places -/
def unL (lo up : List Int) (i : Nat) : List Int := ((List.range i).filter fun j => decide (lo.getD j 0 ≠ up.getD j 0)).map fun (j : Nat) => (j : Int)
theorem unL_succ (lo up : List Int) (i : Nat) : unL lo up (i + 1) = unL lo up i ++ (if lo.getD i 0 ≠ up.getD i 0 then [(i : Int)] else []) := by
  unfold unL
  rw [List.range_succ, List.filter_append, List.map_append]
  congr 1
  by_cases h : lo.getD i 0 = up.getD i 0
  · rw [if_neg (fun h' => h' h), List.filter_cons_of_neg (by simpa using h)]; rfl
  · rw [if_pos h, List.filter_cons_of_pos (by simpa using h)]; rfl
def cutL (lo up : List Int) : Int := (unL lo up (min lo.length up.length) ++ [((min lo.length up.length : Nat) : Int)]).getD 0 0
def shL (lo up : List Int) : List Int := lo.take (cutL lo up).toNat
/-- all that the law asks, and the bounds that its walk needs -/
def Fine (n : Nat) (V : Int) (lo up : List Int) : Prop :=
  0 ≤ V ∧ V < 2 ^ 50 ∧ lo.length ≤ 100 ∧ up.length ≤ 100 ∧ 0 ≤ cutL lo up ∧ cutL lo up ≤ 1000 ∧ shL lo up = (dueL (shL lo up).length).take (shL lo up).length ∧ (n ≤ 2 ∨ shL lo up ≠ []) ∧
  (∀ t ∈ shL lo up, 0 ≤ t ∧ t < 2 ^ 50) ∧ (∀ i ∈ List.range ((shL lo up).length + 1), (cv ((shL lo up).take i)).1.1 < 2 ^ 64 ∧ (cv ((shL lo up).take i)).1.2 < 2 ^ 64 ∧ (cv ((shL lo up).take i)).2.1 < 2 ^ 64 ∧ (cv ((shL lo up).take i)).2.2 < 2 ^ 64) ∧
  (shL lo up = [] ∨ (0 < (cv (shL lo up)).2.2 ∧ (cv (shL lo up)).2.2 < 2 ^ 29 ∧ ((((cv (shL lo up)).2.1 * 2 ^ n - (cv (shL lo up)).2.2 * V).natAbs : Nat) : Int) ≤ 2 ^ n / (cv (shL lo up)).2.2))
def fineD (n : Nat) (V : Int) (lo up : List Int) : Decidable (Fine n V lo up) := by unfold Fine; infer_instance
def okB (n : Nat) (V : Int) : Bool := match cfC 60 V (2 ^ n), cfC 60 (V + 2) (2 ^ n) with
  | some lo, some up => @decide _ (fineD n V lo up)
  | _, _ => false
def eV (n M : Nat) : Int := (QQ 1 M + TT 1 M) * 2 ^ n / QQ 1 M
def hv (m : Nat) : Int := ([0, 0, 1, 2, 4, 6, 8, 10, 13, 16, 19, 22, 25, 28] : List Int).getD m 0
/-- many terms: the first whose bits are more than n -/
structure Terms (n : Int) (M : Nat) : Prop where
  one : 1 ≤ M
  le : M ≤ 13
  hi : n < hv M
  lo : ∀ j, 1 ≤ j → j < M → hv j ≤ n
theorem all_ok : ∀ n ∈ List.range 26, ∀ M ∈ List.range 14, (1 ≤ M ∧ (n : Int) < hv M ∧ ∀ j ∈ List.range M, 1 ≤ j → hv j ≤ n) → okB n (eV n M) = true := by decide +kernel
theorem plain {n M : Nat} (hn : n ≤ 25) (h : Terms n M) : ∃ lo up, CF (eV n M) (2 ^ n) lo ∧ CF (eV n M + 2) (2 ^ n) up ∧ Fine n (eV n M) lo up := by
  have := all_ok n (List.mem_range.mpr (by (first | lia | omega))) M (List.mem_range.mpr (by have := h.le; (first | lia | omega))) ⟨h.one, h.hi, fun j hj h1 => h.lo j h1 (List.mem_range.mp hj)⟩
  unfold okB at this
  split at this
  · rename_i lo up h1 h2
    exact ⟨lo, up, cfC_CF h1, cfC_CF h2, @of_decide_eq_true _ (fineD ..) this⟩
  · cases this
end Mine
open PySem PySem.W PyProof.Rows
section
set_option maxRecDepth 1000000
set_option maxHeartbeats 0
namespace Mine
def vw : Program := view PySem.Challenge.pw_sa0342_01 [1,2,3,4,5,6,7,8,9,10,11,12,13,15,16,17,18,19,21,22,23,24,25,26,27,29,30,31,33,34,35,36,37,38,39,41,42,43,44,45]
end Mine
namespace Mine.Hd0
noncomputable def oa (P : Params) : List Obj := [
boot_o_0 P,
boot_o_1 P,
boot_o_2 P,
boot_o_3 P,
boot_o_4 P,
boot_o_5 P,
boot_o_6 P,
boot_o_7 P,
boot_o_8 P,
boot_o_9 P,
boot_o_10 P,
{ cls := Value.type "tuple", data := Data.seq #[] },
{ cls := Value.none, data := Data.fields #[] },
{ cls := Value.type "code",
  data :=
    Data.fields
      #[Value.str (Str.ofString "<module>") 182, Value.str (Str.ofString "<module>") 183,
        Value.str (Str.ofString "/claim/cut.py") 184, Value.int 1 0, Value.int 0 0, Value.int 0 0, Value.int 0 0,
        Value.int 0 0, Value.ref 11, Value.bool false, Value.int 181 0, Value.ref 12, Value.none, Value.none,
        Value.none, Value.none, Value.int 185 0, Value.int 1 0, Value.str (Str.ofString "/claim/cut.py") 186] },
{ cls := Value.type "frame",
  slots :=
    #[some (Value.ref 13), some (Value.ref 3), some (Value.ref 3), none, some (Value.str (Str.ofString "__main__") 164),
      none, some (Value.ref 0)] }]
noncomputable def o4 (P : Params) : List Obj := [
boot_o_0 P,
boot_o_1 P,
{ cls := Value.none,
  data :=
    Data.dict
      #[{ hash := PyData.keyHash P (Str.ofString "type.__subclasses__.Exception.0"),
          key := Value.str (Str.ofString "type.__subclasses__.Exception.0") 205, val := Value.int 24 0 },
        { hash := PyData.keyHash P (Str.ofString "type.__subclasses__.Exception.n"),
          key := Value.str (Str.ofString "type.__subclasses__.Exception.n") 206, val := Value.int 1 0 }]
      2 },
{ cls := Value.type "dict",
  data :=
    Data.dict
      #[{ hash := PyData.keyHash P (Str.ofString "__name__"), key := Value.str (Str.ofString "__name__") 165,
          val := Value.str (Str.ofString "gmp.limbs") 187 },
        { hash := PyData.keyHash P (Str.ofString "__doc__"), key := Value.str (Str.ofString "__doc__") 166,
          val := Value.none },
        { hash := PyData.keyHash P (Str.ofString "__package__"), key := Value.str (Str.ofString "__package__") 167,
          val := Value.none },
        { hash := PyData.keyHash P (Str.ofString "__loader__"), key := Value.str (Str.ofString "__loader__") 168,
          val := Value.builtin "__main__.__loader__#opaque" },
        { hash := PyData.keyHash P (Str.ofString "__spec__"), key := Value.str (Str.ofString "__spec__") 169,
          val := Value.none },
        { hash := PyData.keyHash P (Str.ofString "__annotations__"),
          key := Value.str (Str.ofString "__annotations__") 170, val := Value.ref 6 },
        { hash := PyData.keyHash P (Str.ofString "__builtins__"), key := Value.str (Str.ofString "__builtins__") 171,
          val := Value.ref 4 },
        { hash := PyData.keyHash P (Str.ofString "__file__"), key := Value.str (Str.ofString "__file__") 173,
          val := Value.str (Str.ofString "/claim/cut.py") 172 },
        { hash := PyData.keyHash P (Str.ofString "__cached__"), key := Value.str (Str.ofString "__cached__") 174,
          val := Value.none },
        { hash := PyData.keyHash P (Str.ofString "GmpError"), key := Value.str (Str.ofString "GmpError") 208,
          val := Value.ref 24 },
        { hash := PyData.keyHash P (Str.ofString "DivisionByZero"),
          key := Value.str (Str.ofString "DivisionByZero") 224, val := Value.ref 37 },
        { hash := PyData.keyHash P (Str.ofString "OutOfRange"), key := Value.str (Str.ofString "OutOfRange") 240,
          val := Value.ref 49 }]
      12 },
boot_o_4 P,
boot_o_5 P,
boot_o_6 P,
boot_o_7 P,
boot_o_8 P,
boot_o_9 P,
boot_o_10 P,
{ cls := Value.type "tuple", data := Data.seq #[] },
{ cls := Value.none,
  data :=
    Data.fields
      #[Value.int 2 0, Value.int 0 0, Value.ref 20, Value.int 4 0, Value.int 0 0, Value.ref 33, Value.int 6 0,
        Value.int 0 0, Value.ref 45] },
{ cls := Value.type "code",
  data :=
    Data.fields
      #[Value.str (Str.ofString "<module>") 182, Value.str (Str.ofString "<module>") 183,
        Value.str (Str.ofString "/claim/cut.py") 184, Value.int 1 0, Value.int 0 0, Value.int 0 0, Value.int 0 0,
        Value.int 0 0, Value.ref 11, Value.bool false, Value.int 181 0, Value.ref 12, Value.none, Value.none,
        Value.none, Value.none, Value.int 185 0, Value.int 1 0, Value.str (Str.ofString "/claim/cut.py") 186] },
{ cls := Value.type "frame",
  slots :=
    #[some (Value.ref 13), some (Value.ref 3), some (Value.ref 3), none, some (Value.str (Str.ofString "__main__") 164),
      none, some (Value.ref 0)] },
{ cls := Value.type "tuple", data := Data.seq #[Value.type "Exception"] },
{ cls := Value.type "builtin_function_or_method",
  data := Data.fields #[Value.builtin "type.__prepare__", Value.type "type"] },
{ cls := Value.type "dict",
  data :=
    Data.dict
      #[{ hash := PyData.keyHash P (Str.ofString "__module__"), key := Value.str (Str.ofString "__module__") 196,
          val := Value.str (Str.ofString "gmp.limbs") 187 },
        { hash := PyData.keyHash P (Str.ofString "__qualname__"), key := Value.str (Str.ofString "__qualname__") 198,
          val := Value.str (Str.ofString "GmpError") 197 },
        { hash := PyData.keyHash P (Str.ofString "__firstlineno__"),
          key := Value.str (Str.ofString "__firstlineno__") 200, val := Value.int 2 199 },
        { hash := PyData.keyHash P (Str.ofString "__static_attributes__"),
          key := Value.str (Str.ofString "__static_attributes__") 201, val := Value.ref 22 }]
      4 },
{ cls := Value.type "tuple", data := Data.seq #[] },
{ cls := Value.none, data := Data.fields #[] },
{ cls := Value.type "code",
  data :=
    Data.fields
      #[Value.str (Str.ofString "GmpError") 191, Value.str (Str.ofString "GmpError") 192,
        Value.str (Str.ofString "/claim/cut.py") 193, Value.int 2 0, Value.int 0 0, Value.int 0 0, Value.int 0 0,
        Value.int 0 0, Value.ref 18, Value.bool false, Value.int 181 0, Value.ref 19, Value.none, Value.none,
        Value.none, Value.none, Value.int 194 0, Value.int 2 0, Value.str (Str.ofString "/claim/cut.py") 195] },
{ cls := Value.type "frame",
  slots :=
    #[some (Value.ref 20), some (Value.ref 3), some (Value.ref 17), none,
      some (Value.str (Str.ofString "gmp.limbs") 187), none, some (Value.ref 0)] },
{ cls := Value.type "tuple", data := Data.seq #[] },
{ cls := Value.type "dict",
  data :=
    Data.dict
      #[{ hash := PyData.keyHash P (Str.ofString "__module__"), key := Value.str (Str.ofString "__module__") 196,
          val := Value.str (Str.ofString "gmp.limbs") 187 },
        { hash := PyData.keyHash P (Str.ofString "__firstlineno__"),
          key := Value.str (Str.ofString "__firstlineno__") 200, val := Value.int 2 199 },
        { hash := PyData.keyHash P (Str.ofString "__static_attributes__"),
          key := Value.str (Str.ofString "__static_attributes__") 201, val := Value.ref 22 },
        { hash := PyData.keyHash P (Str.ofString "__weakref__"), key := Value.str (Str.ofString "__weakref__") 203,
          val := Value.ref 25 },
        { hash := PyData.keyHash P (Str.ofString "__doc__"), key := Value.str (Str.ofString "__doc__") 204,
          val := Value.none }]
      3 },
{ cls := Value.type "type",
  data :=
    Data.cls
      { name := Str.ofString "GmpError", bases := [Value.type "Exception"],
        mro := [Value.ref 24, Value.type "Exception", Value.type "BaseException", Value.type "object"], ns := 23,
        qualname := Str.ofString "GmpError", subclasses := [Value.ref 37, Value.ref 49] },
  slots :=
    #[some (Value.ref 15), none, some (Value.str (Str.ofString "GmpError") 189),
      some (Value.str (Str.ofString "GmpError") 197), some (Value.builtin "Exception.__new__"),
      some (Value.bool true)] },
{ cls := Value.type "getset_descriptor",
  data :=
    Data.fields
      #[Value.str (Str.ofString "__weakref__") 202, Value.ref 24, Value.builtin "ExceptionGroup.__weakref__",
        Value.none] },
{ cls := Value.type "super", data := Data.fields #[Value.ref 24, Value.ref 24, Value.ref 24] },
{ cls := Value.type "builtin_function_or_method",
  data := Data.fields #[Value.builtin "object.__init_subclass__", Value.ref 24] },
{ cls := Value.type "tuple", data := Data.seq #[Value.ref 24] },
{ cls := Value.type "builtin_function_or_method",
  data := Data.fields #[Value.builtin "type.__prepare__", Value.type "type"] },
{ cls := Value.type "dict",
  data :=
    Data.dict
      #[{ hash := PyData.keyHash P (Str.ofString "__module__"), key := Value.str (Str.ofString "__module__") 216,
          val := Value.str (Str.ofString "gmp.limbs") 187 },
        { hash := PyData.keyHash P (Str.ofString "__qualname__"), key := Value.str (Str.ofString "__qualname__") 218,
          val := Value.str (Str.ofString "DivisionByZero") 217 },
        { hash := PyData.keyHash P (Str.ofString "__firstlineno__"),
          key := Value.str (Str.ofString "__firstlineno__") 220, val := Value.int 4 219 },
        { hash := PyData.keyHash P (Str.ofString "__static_attributes__"),
          key := Value.str (Str.ofString "__static_attributes__") 221, val := Value.ref 35 }]
      4 },
{ cls := Value.type "tuple", data := Data.seq #[] },
{ cls := Value.none, data := Data.fields #[] },
{ cls := Value.type "code",
  data :=
    Data.fields
      #[Value.str (Str.ofString "DivisionByZero") 211, Value.str (Str.ofString "DivisionByZero") 212,
        Value.str (Str.ofString "/claim/cut.py") 213, Value.int 4 0, Value.int 0 0, Value.int 0 0, Value.int 0 0,
        Value.int 0 0, Value.ref 31, Value.bool false, Value.int 181 0, Value.ref 32, Value.none, Value.none,
        Value.none, Value.none, Value.int 214 0, Value.int 4 0, Value.str (Str.ofString "/claim/cut.py") 215] },
{ cls := Value.type "frame",
  slots :=
    #[some (Value.ref 33), some (Value.ref 3), some (Value.ref 30), none,
      some (Value.str (Str.ofString "gmp.limbs") 187), none, some (Value.ref 0)] },
{ cls := Value.type "tuple", data := Data.seq #[] },
{ cls := Value.type "dict",
  data :=
    Data.dict
      #[{ hash := PyData.keyHash P (Str.ofString "__module__"), key := Value.str (Str.ofString "__module__") 216,
          val := Value.str (Str.ofString "gmp.limbs") 187 },
        { hash := PyData.keyHash P (Str.ofString "__firstlineno__"),
          key := Value.str (Str.ofString "__firstlineno__") 220, val := Value.int 4 219 },
        { hash := PyData.keyHash P (Str.ofString "__static_attributes__"),
          key := Value.str (Str.ofString "__static_attributes__") 221, val := Value.ref 35 },
        { hash := PyData.keyHash P (Str.ofString "__doc__"), key := Value.str (Str.ofString "__doc__") 222,
          val := Value.none }]
      2 },
{ cls := Value.type "type",
  data :=
    Data.cls
      { name := Str.ofString "DivisionByZero", bases := [Value.ref 24],
        mro := [Value.ref 37, Value.ref 24, Value.type "Exception", Value.type "BaseException", Value.type "object"],
        ns := 36, qualname := Str.ofString "DivisionByZero" },
  slots :=
    #[some (Value.ref 28), none, some (Value.str (Str.ofString "DivisionByZero") 209),
      some (Value.str (Str.ofString "DivisionByZero") 217), some (Value.builtin "Exception.__new__"),
      some (Value.bool true)] },
{ cls := Value.type "super", data := Data.fields #[Value.ref 37, Value.ref 37, Value.ref 37] },
{ cls := Value.type "builtin_function_or_method",
  data := Data.fields #[Value.builtin "object.__init_subclass__", Value.ref 37] },
{ cls := Value.type "tuple", data := Data.seq #[Value.ref 24] },
{ cls := Value.type "builtin_function_or_method",
  data := Data.fields #[Value.builtin "type.__prepare__", Value.type "type"] },
{ cls := Value.type "dict",
  data :=
    Data.dict
      #[{ hash := PyData.keyHash P (Str.ofString "__module__"), key := Value.str (Str.ofString "__module__") 232,
          val := Value.str (Str.ofString "gmp.limbs") 187 },
        { hash := PyData.keyHash P (Str.ofString "__qualname__"), key := Value.str (Str.ofString "__qualname__") 234,
          val := Value.str (Str.ofString "OutOfRange") 233 },
        { hash := PyData.keyHash P (Str.ofString "__firstlineno__"),
          key := Value.str (Str.ofString "__firstlineno__") 236, val := Value.int 6 235 },
        { hash := PyData.keyHash P (Str.ofString "__static_attributes__"),
          key := Value.str (Str.ofString "__static_attributes__") 237, val := Value.ref 47 }]
      4 },
{ cls := Value.type "tuple", data := Data.seq #[] },
{ cls := Value.none, data := Data.fields #[] },
{ cls := Value.type "code",
  data :=
    Data.fields
      #[Value.str (Str.ofString "OutOfRange") 227, Value.str (Str.ofString "OutOfRange") 228,
        Value.str (Str.ofString "/claim/cut.py") 229, Value.int 6 0, Value.int 0 0, Value.int 0 0, Value.int 0 0,
        Value.int 0 0, Value.ref 43, Value.bool false, Value.int 181 0, Value.ref 44, Value.none, Value.none,
        Value.none, Value.none, Value.int 230 0, Value.int 6 0, Value.str (Str.ofString "/claim/cut.py") 231] },
{ cls := Value.type "frame",
  slots :=
    #[some (Value.ref 45), some (Value.ref 3), some (Value.ref 42), none,
      some (Value.str (Str.ofString "gmp.limbs") 187), none, some (Value.ref 0)] },
{ cls := Value.type "tuple", data := Data.seq #[] },
{ cls := Value.type "dict",
  data :=
    Data.dict
      #[{ hash := PyData.keyHash P (Str.ofString "__module__"), key := Value.str (Str.ofString "__module__") 232,
          val := Value.str (Str.ofString "gmp.limbs") 187 },
        { hash := PyData.keyHash P (Str.ofString "__firstlineno__"),
          key := Value.str (Str.ofString "__firstlineno__") 236, val := Value.int 6 235 },
        { hash := PyData.keyHash P (Str.ofString "__static_attributes__"),
          key := Value.str (Str.ofString "__static_attributes__") 237, val := Value.ref 47 },
        { hash := PyData.keyHash P (Str.ofString "__doc__"), key := Value.str (Str.ofString "__doc__") 238,
          val := Value.none }]
      2 },
{ cls := Value.type "type",
  data :=
    Data.cls
      { name := Str.ofString "OutOfRange", bases := [Value.ref 24],
        mro := [Value.ref 49, Value.ref 24, Value.type "Exception", Value.type "BaseException", Value.type "object"],
        ns := 48, qualname := Str.ofString "OutOfRange" },
  slots :=
    #[some (Value.ref 40), none, some (Value.str (Str.ofString "OutOfRange") 225),
      some (Value.str (Str.ofString "OutOfRange") 233), some (Value.builtin "Exception.__new__"),
      some (Value.bool true)] },
{ cls := Value.type "super", data := Data.fields #[Value.ref 49, Value.ref 49, Value.ref 49] },
{ cls := Value.type "builtin_function_or_method",
  data := Data.fields #[Value.builtin "object.__init_subclass__", Value.ref 49] }]

/-- the state with these objects -/
noncomputable def stO (o : Params → List Obj) (toks : Nat) (w : World) (os : OsState) : Shared := ⟨{ (boot_heap w.params) with objs := Array.mk (o w.params) }, Array.mk [], boot_drawn, toks, os⟩
noncomputable abbrev st0 (w : World) (os : OsState) : Shared := ⟨boot_heap w.params, Array.mk [], boot_drawn, boot_toks, os⟩
abbrev PW : Program := PySem.Challenge.pw_sa0342_01
abbrev bW : List Stmt := behindTheImports PW
abbrev eW : Env := { scope := PW.main.scope, locals := mainNs, globals := mainNs, cells := [], code := .ref 13, frame := some 14 }
abbrev cW : Code := .body bW eW
abbrev q0 : Pos := { line := 0, col := 0, endLine := 0, endCol := 0 }
abbrev q4 : Pos := { line := 6, col := 0, endLine := 7, endCol := 8 }
def fofd (qual : Option PySem.Str) (st : Option Stmt) (g : Bool) (m c : Value) : Obj := match st with
  | some (.FunctionDef n ps body _ _ _ scope _ _ _) => { cls := match g with | true => .type "function" | false => .none, data := .func { name := n, qualname := match qual with | some q => q | none => n, params := ps, body := .stmts body, scope := scope, globals := match g with | true => 3 | false => 0, closure := [], defaults := .none, kwdefaults := .none, pyModule := m, code := c } }
  | _ => { cls := .none }
def nth (l : List Stmt) : Nat → Option Stmt := fun n => (l.drop n).head?
def fob (i : Nat) (g : Bool) (m c : Value) : Obj := fofd none (nth bW i) g m c
def fat (g : Bool) (m c : Value) : Obj := fofd (some (Str.ofString "EulerSeries.at")) (match nth bW 21 with | some (.ClassDef _ _ _ body _ _ _ _ _ _ _) => body.head? | _ => none) g m c
noncomputable def zo3 (P : Params) : Obj :=
{ cls := Value.type "dict",
  data :=
    Data.dict
      #[{ hash := PyData.keyHash P (Str.ofString "__name__"), key := Value.str (Str.ofString "__name__") 165,
          val := Value.str (Str.ofString "gmp.splitting") 410 },
        { hash := PyData.keyHash P (Str.ofString "__doc__"), key := Value.str (Str.ofString "__doc__") 166,
          val := Value.none },
        { hash := PyData.keyHash P (Str.ofString "__package__"), key := Value.str (Str.ofString "__package__") 167,
          val := Value.none },
        { hash := PyData.keyHash P (Str.ofString "__loader__"), key := Value.str (Str.ofString "__loader__") 168,
          val := Value.builtin "__main__.__loader__#opaque" },
        { hash := PyData.keyHash P (Str.ofString "__spec__"), key := Value.str (Str.ofString "__spec__") 169,
          val := Value.none },
        { hash := PyData.keyHash P (Str.ofString "__annotations__"),
          key := Value.str (Str.ofString "__annotations__") 170, val := Value.ref 6 },
        { hash := PyData.keyHash P (Str.ofString "__builtins__"), key := Value.str (Str.ofString "__builtins__") 171,
          val := Value.ref 4 },
        { hash := PyData.keyHash P (Str.ofString "__file__"), key := Value.str (Str.ofString "__file__") 173,
          val := Value.str (Str.ofString "/claim/cut.py") 172 },
        { hash := PyData.keyHash P (Str.ofString "__cached__"), key := Value.str (Str.ofString "__cached__") 174,
          val := Value.none },
        { hash := PyData.keyHash P (Str.ofString "GmpError"), key := Value.str (Str.ofString "GmpError") 208,
          val := Value.ref 24 },
        { hash := PyData.keyHash P (Str.ofString "DivisionByZero"),
          key := Value.str (Str.ofString "DivisionByZero") 224, val := Value.ref 37 },
        { hash := PyData.keyHash P (Str.ofString "OutOfRange"), key := Value.str (Str.ofString "OutOfRange") 240,
          val := Value.ref 49 },
        { hash := PyData.keyHash P (Str.ofString "normal"), key := Value.str (Str.ofString "normal") 248,
          val := Value.ref 58 },
        { hash := PyData.keyHash P (Str.ofString "nat_of"), key := Value.str (Str.ofString "nat_of") 258,
          val := Value.ref 65 },
        { hash := PyData.keyHash P (Str.ofString "compare"), key := Value.str (Str.ofString "compare") 267,
          val := Value.ref 72 },
        { hash := PyData.keyHash P (Str.ofString "add"), key := Value.str (Str.ofString "add") 280,
          val := Value.ref 79 },
        { hash := PyData.keyHash P (Str.ofString "sub"), key := Value.str (Str.ofString "sub") 294,
          val := Value.ref 86 },
        { hash := PyData.keyHash P (Str.ofString "add_limb"), key := Value.str (Str.ofString "add_limb") 306,
          val := Value.ref 93 },
        { hash := PyData.keyHash P (Str.ofString "divrem_limb"), key := Value.str (Str.ofString "divrem_limb") 318,
          val := Value.ref 100 },
        { hash := PyData.keyHash P (Str.ofString "shift_left"), key := Value.str (Str.ofString "shift_left") 333,
          val := Value.ref 107 },
        { hash := PyData.keyHash P (Str.ofString "shift_right"), key := Value.str (Str.ofString "shift_right") 348,
          val := Value.ref 114 },
        { hash := PyData.keyHash P (Str.ofString "bits"), key := Value.str (Str.ofString "bits") 356,
          val := Value.ref 121 },
        { hash := PyData.keyHash P (Str.ofString "signed"), key := Value.str (Str.ofString "signed") 366,
          val := Value.ref 128 },
        { hash := PyData.keyHash P (Str.ofString "s_add"), key := Value.str (Str.ofString "s_add") 375,
          val := Value.ref 135 },
        { hash := PyData.keyHash P (Str.ofString "s_mul"), key := Value.str (Str.ofString "s_mul") 385,
          val := Value.ref 142 },
        { hash := PyData.keyHash P (Str.ofString "tdiv"), key := Value.str (Str.ofString "tdiv") 397,
          val := Value.ref 149 },
        { hash := PyData.keyHash P (Str.ofString "fdiv"), key := Value.str (Str.ofString "fdiv") 409,
          val := Value.ref 156 }]
      27 }
noncomputable def zo12 (P : Params) : Obj :=
{ cls := Value.none,
  data :=
    Data.fields
      #[Value.int 2 0, Value.int 0 0, Value.ref 20, Value.int 4 0, Value.int 0 0, Value.ref 33, Value.int 6 0,
        Value.int 0 0, Value.ref 45, Value.int 8 0, Value.int 0 0, Value.ref 57, Value.int 13 0, Value.int 0 0,
        Value.ref 64, Value.int 21 0, Value.int 0 0, Value.ref 71, Value.int 28 0, Value.int 0 0, Value.ref 78,
        Value.int 43 0, Value.int 0 0, Value.ref 85, Value.int 52 0, Value.int 0 0, Value.ref 92, Value.int 61 0,
        Value.int 0 0, Value.ref 99, Value.int 70 0, Value.int 0 0, Value.ref 106, Value.int 82 0, Value.int 0 0,
        Value.ref 113, Value.int 89 0, Value.int 0 0, Value.ref 120, Value.int 92 0, Value.int 0 0, Value.ref 127,
        Value.int 94 0, Value.int 0 0, Value.ref 134, Value.int 100 0, Value.int 0 0, Value.ref 141, Value.int 102 0,
        Value.int 0 0, Value.ref 148, Value.int 107 0, Value.int 0 0, Value.ref 155] }
noncomputable def yo3 (P : Params) : Obj :=
{ cls := Value.type "dict",
  data :=
    Data.dict
      #[{ hash := PyData.keyHash P (Str.ofString "__name__"), key := Value.str (Str.ofString "__name__") 165,
          val := Value.str (Str.ofString "gmp.school") 551 },
        { hash := PyData.keyHash P (Str.ofString "__doc__"), key := Value.str (Str.ofString "__doc__") 166,
          val := Value.none },
        { hash := PyData.keyHash P (Str.ofString "__package__"), key := Value.str (Str.ofString "__package__") 167,
          val := Value.none },
        { hash := PyData.keyHash P (Str.ofString "__loader__"), key := Value.str (Str.ofString "__loader__") 168,
          val := Value.builtin "__main__.__loader__#opaque" },
        { hash := PyData.keyHash P (Str.ofString "__spec__"), key := Value.str (Str.ofString "__spec__") 169,
          val := Value.none },
        { hash := PyData.keyHash P (Str.ofString "__annotations__"),
          key := Value.str (Str.ofString "__annotations__") 170, val := Value.ref 6 },
        { hash := PyData.keyHash P (Str.ofString "__builtins__"), key := Value.str (Str.ofString "__builtins__") 171,
          val := Value.ref 4 },
        { hash := PyData.keyHash P (Str.ofString "__file__"), key := Value.str (Str.ofString "__file__") 173,
          val := Value.str (Str.ofString "/claim/cut.py") 172 },
        { hash := PyData.keyHash P (Str.ofString "__cached__"), key := Value.str (Str.ofString "__cached__") 174,
          val := Value.none },
        { hash := PyData.keyHash P (Str.ofString "GmpError"), key := Value.str (Str.ofString "GmpError") 208,
          val := Value.ref 24 },
        { hash := PyData.keyHash P (Str.ofString "DivisionByZero"),
          key := Value.str (Str.ofString "DivisionByZero") 224, val := Value.ref 37 },
        { hash := PyData.keyHash P (Str.ofString "OutOfRange"), key := Value.str (Str.ofString "OutOfRange") 240,
          val := Value.ref 49 },
        { hash := PyData.keyHash P (Str.ofString "normal"), key := Value.str (Str.ofString "normal") 248,
          val := Value.ref 58 },
        { hash := PyData.keyHash P (Str.ofString "nat_of"), key := Value.str (Str.ofString "nat_of") 258,
          val := Value.ref 65 },
        { hash := PyData.keyHash P (Str.ofString "compare"), key := Value.str (Str.ofString "compare") 267,
          val := Value.ref 72 },
        { hash := PyData.keyHash P (Str.ofString "add"), key := Value.str (Str.ofString "add") 280,
          val := Value.ref 79 },
        { hash := PyData.keyHash P (Str.ofString "sub"), key := Value.str (Str.ofString "sub") 294,
          val := Value.ref 86 },
        { hash := PyData.keyHash P (Str.ofString "add_limb"), key := Value.str (Str.ofString "add_limb") 306,
          val := Value.ref 93 },
        { hash := PyData.keyHash P (Str.ofString "divrem_limb"), key := Value.str (Str.ofString "divrem_limb") 318,
          val := Value.ref 100 },
        { hash := PyData.keyHash P (Str.ofString "shift_left"), key := Value.str (Str.ofString "shift_left") 333,
          val := Value.ref 107 },
        { hash := PyData.keyHash P (Str.ofString "shift_right"), key := Value.str (Str.ofString "shift_right") 348,
          val := Value.ref 114 },
        { hash := PyData.keyHash P (Str.ofString "bits"), key := Value.str (Str.ofString "bits") 356,
          val := Value.ref 121 },
        { hash := PyData.keyHash P (Str.ofString "signed"), key := Value.str (Str.ofString "signed") 366,
          val := Value.ref 128 },
        { hash := PyData.keyHash P (Str.ofString "s_add"), key := Value.str (Str.ofString "s_add") 375,
          val := Value.ref 135 },
        { hash := PyData.keyHash P (Str.ofString "s_mul"), key := Value.str (Str.ofString "s_mul") 385,
          val := Value.ref 142 },
        { hash := PyData.keyHash P (Str.ofString "tdiv"), key := Value.str (Str.ofString "tdiv") 397,
          val := Value.ref 149 },
        { hash := PyData.keyHash P (Str.ofString "fdiv"), key := Value.str (Str.ofString "fdiv") 409,
          val := Value.ref 156 },
        { hash := PyData.keyHash P (Str.ofString "EulerSeries"), key := Value.str (Str.ofString "EulerSeries") 441,
          val := Value.ref 173 },
        { hash := PyData.keyHash P (Str.ofString "split_sum"), key := Value.str (Str.ofString "split_sum") 460,
          val := Value.ref 184 },
        { hash := PyData.keyHash P (Str.ofString "series_fraction"),
          key := Value.str (Str.ofString "series_fraction") 473, val := Value.ref 191 },
        { hash := PyData.keyHash P (Str.ofString "need_bits"), key := Value.str (Str.ofString "need_bits") 480,
          val := Value.ref 198 },
        { hash := PyData.keyHash P (Str.ofString "whole_bits"), key := Value.str (Str.ofString "whole_bits") 491,
          val := Value.ref 205 },
        { hash := PyData.keyHash P (Str.ofString "terms_of_e"), key := Value.str (Str.ofString "terms_of_e") 500,
          val := Value.ref 212 },
        { hash := PyData.keyHash P (Str.ofString "e_bits"), key := Value.str (Str.ofString "e_bits") 512,
          val := Value.ref 219 },
        { hash := PyData.keyHash P (Str.ofString "signed_of"), key := Value.str (Str.ofString "signed_of") 521,
          val := Value.ref 226 },
        { hash := PyData.keyHash P (Str.ofString "continued"), key := Value.str (Str.ofString "continued") 535,
          val := Value.ref 233 },
        { hash := PyData.keyHash P (Str.ofString "convergents"), key := Value.str (Str.ofString "convergents") 550,
          val := Value.ref 240 }]
      37 }
noncomputable def yo12 (P : Params) : Obj :=
{ cls := Value.none,
  data :=
    Data.fields
      #[Value.int 2 0, Value.int 0 0, Value.ref 20, Value.int 4 0, Value.int 0 0, Value.ref 33, Value.int 6 0,
        Value.int 0 0, Value.ref 45, Value.int 8 0, Value.int 0 0, Value.ref 57, Value.int 13 0, Value.int 0 0,
        Value.ref 64, Value.int 21 0, Value.int 0 0, Value.ref 71, Value.int 28 0, Value.int 0 0, Value.ref 78,
        Value.int 43 0, Value.int 0 0, Value.ref 85, Value.int 52 0, Value.int 0 0, Value.ref 92, Value.int 61 0,
        Value.int 0 0, Value.ref 99, Value.int 70 0, Value.int 0 0, Value.ref 106, Value.int 82 0, Value.int 0 0,
        Value.ref 113, Value.int 89 0, Value.int 0 0, Value.ref 120, Value.int 92 0, Value.int 0 0, Value.ref 127,
        Value.int 94 0, Value.int 0 0, Value.ref 134, Value.int 100 0, Value.int 0 0, Value.ref 141, Value.int 102 0,
        Value.int 0 0, Value.ref 148, Value.int 107 0, Value.int 0 0, Value.ref 155, Value.int 113 0, Value.int 0 0,
        Value.ref 162, Value.int 117 0, Value.int 0 0, Value.ref 183, Value.int 129 0, Value.int 0 0, Value.ref 190,
        Value.int 134 0, Value.int 0 0, Value.ref 197, Value.int 137 0, Value.int 0 0, Value.ref 204, Value.int 140 0,
        Value.int 0 0, Value.ref 211, Value.int 146 0, Value.int 0 0, Value.ref 218, Value.int 150 0, Value.int 0 0,
        Value.ref 225, Value.int 152 0, Value.int 0 0, Value.ref 232, Value.int 159 0, Value.int 0 0, Value.ref 239] }
noncomputable def m21 (P : Params) : List Obj := [
{ cls := Value.type "tuple", data := Data.seq #[] },
{ cls := Value.none, data := Data.fields #[] },
{ cls := Value.type "tuple", data := Data.seq #[Value.str (Str.ofString "a") 244, Value.str (Str.ofString "end") 245] },
{ cls := Value.type "tuple", data := Data.seq #[] },
fob 4 false .none .none,
{ cls := Value.type "code",
  data :=
    Data.fields
      #[Value.str (Str.ofString "normal") 241, Value.str (Str.ofString "normal") 242,
        Value.str (Str.ofString "/claim/cut.py") 243, Value.int 8 0, Value.int 1 0, Value.int 0 0, Value.int 0 0,
        Value.int 3 0, Value.ref 52, Value.bool true, Value.int 181 0, Value.ref 53, Value.none, Value.ref 54,
        Value.ref 55, Value.ref 56, Value.int 246 0, Value.int 8 0, Value.str (Str.ofString "/claim/cut.py") 247] },
fob 4 true (Value.str (Str.ofString "gmp.limbs") 187) (Value.ref 57),
{ cls := Value.type "tuple", data := Data.seq #[] },
{ cls := Value.none, data := Data.fields #[] },
{ cls := Value.type "tuple",
  data :=
    Data.seq
      #[Value.str (Str.ofString "number") 252, Value.str (Str.ofString "w") 253, Value.str (Str.ofString "found") 254,
        Value.str (Str.ofString "mask") 255] },
{ cls := Value.type "tuple", data := Data.seq #[] },
fob 5 false .none .none,
{ cls := Value.type "code",
  data :=
    Data.fields
      #[Value.str (Str.ofString "nat_of") 249, Value.str (Str.ofString "nat_of") 250,
        Value.str (Str.ofString "/claim/cut.py") 251, Value.int 13 0, Value.int 2 0, Value.int 0 0, Value.int 0 0,
        Value.int 3 0, Value.ref 59, Value.bool true, Value.int 181 0, Value.ref 60, Value.none, Value.ref 61,
        Value.ref 62, Value.ref 63, Value.int 256 0, Value.int 13 0, Value.str (Str.ofString "/claim/cut.py") 257] },
fob 5 true (Value.str (Str.ofString "gmp.limbs") 187) (Value.ref 64),
{ cls := Value.type "tuple", data := Data.seq #[] },
{ cls := Value.none, data := Data.fields #[] },
{ cls := Value.type "tuple",
  data :=
    Data.seq #[Value.str (Str.ofString "a") 262, Value.str (Str.ofString "b") 263, Value.str (Str.ofString "at") 264] },
{ cls := Value.type "tuple", data := Data.seq #[] },
fob 6 false .none .none,
{ cls := Value.type "code",
  data :=
    Data.fields
      #[Value.str (Str.ofString "compare") 259, Value.str (Str.ofString "compare") 260,
        Value.str (Str.ofString "/claim/cut.py") 261, Value.int 21 0, Value.int 2 0, Value.int 0 0, Value.int 0 0,
        Value.int 3 0, Value.ref 66, Value.bool true, Value.int 181 0, Value.ref 67, Value.none, Value.ref 68,
        Value.ref 69, Value.ref 70, Value.int 265 0, Value.int 21 0, Value.str (Str.ofString "/claim/cut.py") 266] },
fob 6 true (Value.str (Str.ofString "gmp.limbs") 187) (Value.ref 71),
{ cls := Value.type "tuple", data := Data.seq #[] },
{ cls := Value.none, data := Data.fields #[] },
{ cls := Value.type "tuple",
  data :=
    Data.seq
      #[Value.str (Str.ofString "a") 271, Value.str (Str.ofString "b") 272, Value.str (Str.ofString "w") 273,
        Value.str (Str.ofString "found") 274, Value.str (Str.ofString "carry") 275, Value.str (Str.ofString "mask") 276,
        Value.str (Str.ofString "at") 277] },
{ cls := Value.type "tuple", data := Data.seq #[] },
fob 7 false .none .none,
{ cls := Value.type "code",
  data :=
    Data.fields
      #[Value.str (Str.ofString "add") 268, Value.str (Str.ofString "add") 269,
        Value.str (Str.ofString "/claim/cut.py") 270, Value.int 28 0, Value.int 3 0, Value.int 0 0, Value.int 0 0,
        Value.int 3 0, Value.ref 73, Value.bool true, Value.int 181 0, Value.ref 74, Value.none, Value.ref 75,
        Value.ref 76, Value.ref 77, Value.int 278 0, Value.int 28 0, Value.str (Str.ofString "/claim/cut.py") 279] },
fob 7 true (Value.str (Str.ofString "gmp.limbs") 187) (Value.ref 78),
{ cls := Value.type "tuple", data := Data.seq #[] },
{ cls := Value.none, data := Data.fields #[] },
{ cls := Value.type "tuple",
  data :=
    Data.seq
      #[Value.str (Str.ofString "a") 284, Value.str (Str.ofString "b") 285, Value.str (Str.ofString "w") 286,
        Value.str (Str.ofString "found") 287, Value.str (Str.ofString "borrow") 288,
        Value.str (Str.ofString "base") 289, Value.str (Str.ofString "at") 290, Value.str (Str.ofString "limb") 291] },
{ cls := Value.type "tuple", data := Data.seq #[] },
fob 8 false .none .none,
{ cls := Value.type "code",
  data :=
    Data.fields
      #[Value.str (Str.ofString "sub") 281, Value.str (Str.ofString "sub") 282,
        Value.str (Str.ofString "/claim/cut.py") 283, Value.int 43 0, Value.int 3 0, Value.int 0 0, Value.int 0 0,
        Value.int 3 0, Value.ref 80, Value.bool true, Value.int 181 0, Value.ref 81, Value.none, Value.ref 82,
        Value.ref 83, Value.ref 84, Value.int 292 0, Value.int 43 0, Value.str (Str.ofString "/claim/cut.py") 293] },
fob 8 true (Value.str (Str.ofString "gmp.limbs") 187) (Value.ref 85),
{ cls := Value.type "tuple", data := Data.seq #[] },
{ cls := Value.none, data := Data.fields #[] },
{ cls := Value.type "tuple",
  data :=
    Data.seq
      #[Value.str (Str.ofString "a") 298, Value.str (Str.ofString "limb") 299, Value.str (Str.ofString "w") 300,
        Value.str (Str.ofString "found") 301, Value.str (Str.ofString "mask") 302, Value.str (Str.ofString "one") 303] },
{ cls := Value.type "tuple", data := Data.seq #[] },
fob 9 false .none .none,
{ cls := Value.type "code",
  data :=
    Data.fields
      #[Value.str (Str.ofString "add_limb") 295, Value.str (Str.ofString "add_limb") 296,
        Value.str (Str.ofString "/claim/cut.py") 297, Value.int 52 0, Value.int 3 0, Value.int 0 0, Value.int 0 0,
        Value.int 3 0, Value.ref 87, Value.bool true, Value.int 181 0, Value.ref 88, Value.none, Value.ref 89,
        Value.ref 90, Value.ref 91, Value.int 304 0, Value.int 52 0, Value.str (Str.ofString "/claim/cut.py") 305] },
fob 9 true (Value.str (Str.ofString "gmp.limbs") 187) (Value.ref 92),
{ cls := Value.type "tuple", data := Data.seq #[] },
{ cls := Value.none, data := Data.fields #[] },
{ cls := Value.type "tuple",
  data :=
    Data.seq
      #[Value.str (Str.ofString "a") 310, Value.str (Str.ofString "limb") 311, Value.str (Str.ofString "w") 312,
        Value.str (Str.ofString "found") 313, Value.str (Str.ofString "rest") 314, Value.str (Str.ofString "at") 315] },
{ cls := Value.type "tuple", data := Data.seq #[] },
fob 10 false .none .none,
{ cls := Value.type "code",
  data :=
    Data.fields
      #[Value.str (Str.ofString "divrem_limb") 307, Value.str (Str.ofString "divrem_limb") 308,
        Value.str (Str.ofString "/claim/cut.py") 309, Value.int 61 0, Value.int 3 0, Value.int 0 0, Value.int 0 0,
        Value.int 3 0, Value.ref 94, Value.bool true, Value.int 181 0, Value.ref 95, Value.none, Value.ref 96,
        Value.ref 97, Value.ref 98, Value.int 316 0, Value.int 61 0, Value.str (Str.ofString "/claim/cut.py") 317] },
fob 10 true (Value.str (Str.ofString "gmp.limbs") 187) (Value.ref 99),
{ cls := Value.type "tuple", data := Data.seq #[] },
{ cls := Value.none, data := Data.fields #[] },
{ cls := Value.type "tuple",
  data :=
    Data.seq
      #[Value.str (Str.ofString "a") 322, Value.str (Str.ofString "n") 323, Value.str (Str.ofString "w") 324,
        Value.str (Str.ofString "spots") 325, Value.str (Str.ofString "few") 326, Value.str (Str.ofString "found") 327,
        Value.str (Str.ofString "carry") 328, Value.str (Str.ofString "mask") 329, Value.str (Str.ofString "one") 330] },
{ cls := Value.type "tuple", data := Data.seq #[] },
fob 11 false .none .none,
{ cls := Value.type "code",
  data :=
    Data.fields
      #[Value.str (Str.ofString "shift_left") 319, Value.str (Str.ofString "shift_left") 320,
        Value.str (Str.ofString "/claim/cut.py") 321, Value.int 70 0, Value.int 3 0, Value.int 0 0, Value.int 0 0,
        Value.int 3 0, Value.ref 101, Value.bool true, Value.int 181 0, Value.ref 102, Value.none, Value.ref 103,
        Value.ref 104, Value.ref 105, Value.int 331 0, Value.int 70 0, Value.str (Str.ofString "/claim/cut.py") 332] },
fob 11 true (Value.str (Str.ofString "gmp.limbs") 187) (Value.ref 106),
{ cls := Value.type "tuple", data := Data.seq #[] },
{ cls := Value.none, data := Data.fields #[] },
{ cls := Value.type "tuple",
  data :=
    Data.seq
      #[Value.str (Str.ofString "a") 337, Value.str (Str.ofString "n") 338, Value.str (Str.ofString "w") 339,
        Value.str (Str.ofString "spots") 340, Value.str (Str.ofString "few") 341, Value.str (Str.ofString "found") 342,
        Value.str (Str.ofString "mask") 343, Value.str (Str.ofString "at") 344, Value.str (Str.ofString "above") 345] },
{ cls := Value.type "tuple", data := Data.seq #[] },
fob 12 false .none .none,
{ cls := Value.type "code",
  data :=
    Data.fields
      #[Value.str (Str.ofString "shift_right") 334, Value.str (Str.ofString "shift_right") 335,
        Value.str (Str.ofString "/claim/cut.py") 336, Value.int 82 0, Value.int 3 0, Value.int 0 0, Value.int 0 0,
        Value.int 3 0, Value.ref 108, Value.bool true, Value.int 181 0, Value.ref 109, Value.none, Value.ref 110,
        Value.ref 111, Value.ref 112, Value.int 346 0, Value.int 82 0, Value.str (Str.ofString "/claim/cut.py") 347] },
fob 12 true (Value.str (Str.ofString "gmp.limbs") 187) (Value.ref 113),
{ cls := Value.type "tuple", data := Data.seq #[] },
{ cls := Value.none, data := Data.fields #[] },
{ cls := Value.type "tuple", data := Data.seq #[Value.str (Str.ofString "a") 352, Value.str (Str.ofString "w") 353] },
{ cls := Value.type "tuple", data := Data.seq #[] },
fob 13 false .none .none,
{ cls := Value.type "code",
  data :=
    Data.fields
      #[Value.str (Str.ofString "bits") 349, Value.str (Str.ofString "bits") 350,
        Value.str (Str.ofString "/claim/cut.py") 351, Value.int 89 0, Value.int 2 0, Value.int 0 0, Value.int 0 0,
        Value.int 3 0, Value.ref 115, Value.bool true, Value.int 181 0, Value.ref 116, Value.none, Value.ref 117,
        Value.ref 118, Value.ref 119, Value.int 354 0, Value.int 89 0, Value.str (Str.ofString "/claim/cut.py") 355] },
fob 13 true (Value.str (Str.ofString "gmp.limbs") 187) (Value.ref 120),
{ cls := Value.type "tuple", data := Data.seq #[] },
{ cls := Value.none, data := Data.fields #[] },
{ cls := Value.type "tuple",
  data := Data.seq #[Value.str (Str.ofString "is_below") 362, Value.str (Str.ofString "nat") 363] },
{ cls := Value.type "tuple", data := Data.seq #[] },
fob 15 false .none .none,
{ cls := Value.type "code",
  data :=
    Data.fields
      #[Value.str (Str.ofString "signed") 359, Value.str (Str.ofString "signed") 360,
        Value.str (Str.ofString "/claim/cut.py") 361, Value.int 92 0, Value.int 2 0, Value.int 0 0, Value.int 0 0,
        Value.int 3 0, Value.ref 122, Value.bool true, Value.int 181 0, Value.ref 123, Value.none, Value.ref 124,
        Value.ref 125, Value.ref 126, Value.int 364 0, Value.int 92 0, Value.str (Str.ofString "/claim/cut.py") 365] },
fob 15 true (Value.str (Str.ofString "gmp.signed") 357) (Value.ref 127),
{ cls := Value.type "tuple", data := Data.seq #[] },
{ cls := Value.none, data := Data.fields #[] },
{ cls := Value.type "tuple",
  data :=
    Data.seq #[Value.str (Str.ofString "x") 370, Value.str (Str.ofString "y") 371, Value.str (Str.ofString "w") 372] },
{ cls := Value.type "tuple", data := Data.seq #[] },
fob 16 false .none .none,
{ cls := Value.type "code",
  data :=
    Data.fields
      #[Value.str (Str.ofString "s_add") 367, Value.str (Str.ofString "s_add") 368,
        Value.str (Str.ofString "/claim/cut.py") 369, Value.int 94 0, Value.int 3 0, Value.int 0 0, Value.int 0 0,
        Value.int 3 0, Value.ref 129, Value.bool true, Value.int 181 0, Value.ref 130, Value.none, Value.ref 131,
        Value.ref 132, Value.ref 133, Value.int 373 0, Value.int 94 0, Value.str (Str.ofString "/claim/cut.py") 374] },
fob 16 true (Value.str (Str.ofString "gmp.signed") 357) (Value.ref 134),
{ cls := Value.type "tuple", data := Data.seq #[] },
{ cls := Value.none, data := Data.fields #[] },
{ cls := Value.type "tuple",
  data :=
    Data.seq
      #[Value.str (Str.ofString "x") 379, Value.str (Str.ofString "y") 380, Value.str (Str.ofString "w") 381,
        Value.str (Str.ofString "mul") 382] },
{ cls := Value.type "tuple", data := Data.seq #[] },
fob 17 false .none .none,
{ cls := Value.type "code",
  data :=
    Data.fields
      #[Value.str (Str.ofString "s_mul") 376, Value.str (Str.ofString "s_mul") 377,
        Value.str (Str.ofString "/claim/cut.py") 378, Value.int 100 0, Value.int 4 0, Value.int 0 0, Value.int 0 0,
        Value.int 3 0, Value.ref 136, Value.bool true, Value.int 181 0, Value.ref 137, Value.none, Value.ref 138,
        Value.ref 139, Value.ref 140, Value.int 383 0, Value.int 100 0, Value.str (Str.ofString "/claim/cut.py") 384] },
fob 17 true (Value.str (Str.ofString "gmp.signed") 357) (Value.ref 141),
{ cls := Value.type "tuple", data := Data.seq #[] },
{ cls := Value.none, data := Data.fields #[] },
{ cls := Value.type "tuple",
  data :=
    Data.seq
      #[Value.str (Str.ofString "x") 389, Value.str (Str.ofString "y") 390, Value.str (Str.ofString "w") 391,
        Value.str (Str.ofString "divrem") 392, Value.str (Str.ofString "quotient") 393,
        Value.str (Str.ofString "rest") 394] },
{ cls := Value.type "tuple", data := Data.seq #[] },
fob 18 false .none .none,
{ cls := Value.type "code",
  data :=
    Data.fields
      #[Value.str (Str.ofString "tdiv") 386, Value.str (Str.ofString "tdiv") 387,
        Value.str (Str.ofString "/claim/cut.py") 388, Value.int 102 0, Value.int 4 0, Value.int 0 0, Value.int 0 0,
        Value.int 3 0, Value.ref 143, Value.bool true, Value.int 181 0, Value.ref 144, Value.none, Value.ref 145,
        Value.ref 146, Value.ref 147, Value.int 395 0, Value.int 102 0, Value.str (Str.ofString "/claim/cut.py") 396] },
fob 18 true (Value.str (Str.ofString "gmp.signed") 357) (Value.ref 148),
{ cls := Value.type "tuple", data := Data.seq #[] },
{ cls := Value.none, data := Data.fields #[] },
{ cls := Value.type "tuple",
  data :=
    Data.seq
      #[Value.str (Str.ofString "x") 401, Value.str (Str.ofString "y") 402, Value.str (Str.ofString "w") 403,
        Value.str (Str.ofString "divrem") 404, Value.str (Str.ofString "quotient") 405,
        Value.str (Str.ofString "rest") 406] },
{ cls := Value.type "tuple", data := Data.seq #[] },
fob 19 false .none .none,
{ cls := Value.type "code",
  data :=
    Data.fields
      #[Value.str (Str.ofString "fdiv") 398, Value.str (Str.ofString "fdiv") 399,
        Value.str (Str.ofString "/claim/cut.py") 400, Value.int 107 0, Value.int 4 0, Value.int 0 0, Value.int 0 0,
        Value.int 3 0, Value.ref 150, Value.bool true, Value.int 181 0, Value.ref 151, Value.none, Value.ref 152,
        Value.ref 153, Value.ref 154, Value.int 407 0, Value.int 107 0, Value.str (Str.ofString "/claim/cut.py") 408] },
fob 19 true (Value.str (Str.ofString "gmp.signed") 357) (Value.ref 155)]
noncomputable def m33 (P : Params) : List Obj := [
{ cls := Value.type "tuple", data := Data.seq #[] },
{ cls := Value.type "builtin_function_or_method",
  data := Data.fields #[Value.builtin "type.__prepare__", Value.type "type"] },
{ cls := Value.type "dict",
  data :=
    Data.dict
      #[{ hash := PyData.keyHash P (Str.ofString "__module__"), key := Value.str (Str.ofString "__module__") 419,
          val := Value.str (Str.ofString "gmp.splitting") 410 },
        { hash := PyData.keyHash P (Str.ofString "__qualname__"), key := Value.str (Str.ofString "__qualname__") 421,
          val := Value.str (Str.ofString "EulerSeries") 420 },
        { hash := PyData.keyHash P (Str.ofString "__firstlineno__"),
          key := Value.str (Str.ofString "__firstlineno__") 423, val := Value.int 113 422 },
        { hash := PyData.keyHash P (Str.ofString "at"), key := Value.str (Str.ofString "at") 433,
          val := Value.ref 170 },
        { hash := PyData.keyHash P (Str.ofString "__static_attributes__"),
          key := Value.str (Str.ofString "__static_attributes__") 434, val := Value.ref 171 }]
      5 },
{ cls := Value.type "tuple", data := Data.seq #[] },
{ cls := Value.none, data := Data.fields #[Value.int 115 0, Value.int 4 0, Value.ref 169] },
{ cls := Value.type "code",
  data :=
    Data.fields
      #[Value.str (Str.ofString "EulerSeries") 414, Value.str (Str.ofString "EulerSeries") 415,
        Value.str (Str.ofString "/claim/cut.py") 416, Value.int 113 0, Value.int 0 0, Value.int 0 0, Value.int 0 0,
        Value.int 0 0, Value.ref 160, Value.bool false, Value.int 181 0, Value.ref 161, Value.none, Value.none,
        Value.none, Value.none, Value.int 417 0, Value.int 113 0, Value.str (Str.ofString "/claim/cut.py") 418] },
{ cls := Value.type "frame",
  slots :=
    #[some (Value.ref 162), some (Value.ref 3), some (Value.ref 159), none,
      some (Value.str (Str.ofString "gmp.splitting") 410), none, some (Value.ref 0)] },
{ cls := Value.type "tuple", data := Data.seq #[] },
{ cls := Value.none, data := Data.fields #[] },
{ cls := Value.type "tuple",
  data :=
    Data.seq
      #[Value.str (Str.ofString "self") 427, Value.str (Str.ofString "k") 428, Value.str (Str.ofString "w") 429,
        Value.str (Str.ofString "mul") 430] },
{ cls := Value.type "tuple", data := Data.seq #[] },
fat false .none .none,
{ cls := Value.type "code",
  data :=
    Data.fields
      #[Value.str (Str.ofString "at") 424, Value.str (Str.ofString "EulerSeries.at") 425,
        Value.str (Str.ofString "/claim/cut.py") 426, Value.int 115 0, Value.int 4 0, Value.int 0 0, Value.int 0 0,
        Value.int 3 0, Value.ref 164, Value.bool true, Value.int 181 0, Value.ref 165, Value.none, Value.ref 166,
        Value.ref 167, Value.ref 168, Value.int 431 0, Value.int 115 0, Value.str (Str.ofString "/claim/cut.py") 432] },
fat true (Value.str (Str.ofString "gmp.splitting") 410) (Value.ref 169),
{ cls := Value.type "tuple", data := Data.seq #[] },
{ cls := Value.type "dict",
  data :=
    Data.dict
      #[{ hash := PyData.keyHash P (Str.ofString "__module__"), key := Value.str (Str.ofString "__module__") 419,
          val := Value.str (Str.ofString "gmp.splitting") 410 },
        { hash := PyData.keyHash P (Str.ofString "__firstlineno__"),
          key := Value.str (Str.ofString "__firstlineno__") 423, val := Value.int 113 422 },
        { hash := PyData.keyHash P (Str.ofString "at"), key := Value.str (Str.ofString "at") 433,
          val := Value.ref 170 },
        { hash := PyData.keyHash P (Str.ofString "__static_attributes__"),
          key := Value.str (Str.ofString "__static_attributes__") 434, val := Value.ref 171 },
        { hash := PyData.keyHash P (Str.ofString "__dict__"), key := Value.str (Str.ofString "__dict__") 436,
          val := Value.ref 174 },
        { hash := PyData.keyHash P (Str.ofString "__weakref__"), key := Value.str (Str.ofString "__weakref__") 438,
          val := Value.ref 175 },
        { hash := PyData.keyHash P (Str.ofString "__doc__"), key := Value.str (Str.ofString "__doc__") 439,
          val := Value.none }]
      4 },
{ cls := Value.type "type",
  data :=
    Data.cls
      { name := Str.ofString "EulerSeries", bases := [Value.type "object"], mro := [Value.ref 173, Value.type "object"],
        ns := 172, qualname := Str.ofString "EulerSeries" },
  slots :=
    #[none, none, some (Value.str (Str.ofString "EulerSeries") 412), some (Value.str (Str.ofString "EulerSeries") 420),
      some (Value.builtin "object.__new__"), some (Value.bool true)] },
{ cls := Value.type "getset_descriptor",
  data :=
    Data.fields
      #[Value.str (Str.ofString "__dict__") 435, Value.ref 173, Value.builtin "function.__dict__",
        Value.builtin "function.__dict__#set"] },
{ cls := Value.type "getset_descriptor",
  data :=
    Data.fields
      #[Value.str (Str.ofString "__weakref__") 437, Value.ref 173, Value.builtin "ExceptionGroup.__weakref__",
        Value.none] },
{ cls := Value.type "super", data := Data.fields #[Value.ref 173, Value.ref 173, Value.ref 173] },
{ cls := Value.type "builtin_function_or_method",
  data := Data.fields #[Value.builtin "object.__init_subclass__", Value.ref 173] },
{ cls := Value.type "tuple", data := Data.seq #[] },
{ cls := Value.none, data := Data.fields #[] },
{ cls := Value.type "tuple",
  data :=
    Data.seq
      #[Value.str (Str.ofString "series") 445, Value.str (Str.ofString "begin") 446, Value.str (Str.ofString "end") 447,
        Value.str (Str.ofString "w") 448, Value.str (Str.ofString "mul") 449, Value.str (Str.ofString "is_below") 450,
        Value.str (Str.ofString "above") 451, Value.str (Str.ofString "below") 452,
        Value.str (Str.ofString "front") 453, Value.str (Str.ofString "half") 454, Value.str (Str.ofString "one") 455,
        Value.str (Str.ofString "other") 456, Value.str (Str.ofString "told") 457] },
{ cls := Value.type "tuple", data := Data.seq #[] },
fob 22 false .none .none,
{ cls := Value.type "code",
  data :=
    Data.fields
      #[Value.str (Str.ofString "split_sum") 442, Value.str (Str.ofString "split_sum") 443,
        Value.str (Str.ofString "/claim/cut.py") 444, Value.int 117 0, Value.int 5 0, Value.int 0 0, Value.int 0 0,
        Value.int 3 0, Value.ref 178, Value.bool true, Value.int 181 0, Value.ref 179, Value.none, Value.ref 180,
        Value.ref 181, Value.ref 182, Value.int 458 0, Value.int 117 0, Value.str (Str.ofString "/claim/cut.py") 459] },
fob 22 true (Value.str (Str.ofString "gmp.splitting") 410) (Value.ref 183),
{ cls := Value.type "tuple", data := Data.seq #[] },
{ cls := Value.none, data := Data.fields #[] },
{ cls := Value.type "tuple",
  data :=
    Data.seq
      #[Value.str (Str.ofString "series") 464, Value.str (Str.ofString "many") 465, Value.str (Str.ofString "w") 466,
        Value.str (Str.ofString "mul") 467, Value.str (Str.ofString "products") 468,
        Value.str (Str.ofString "below") 469, Value.str (Str.ofString "told") 470] },
{ cls := Value.type "tuple", data := Data.seq #[] },
fob 23 false .none .none,
{ cls := Value.type "code",
  data :=
    Data.fields
      #[Value.str (Str.ofString "series_fraction") 461, Value.str (Str.ofString "series_fraction") 462,
        Value.str (Str.ofString "/claim/cut.py") 463, Value.int 129 0, Value.int 4 0, Value.int 0 0, Value.int 0 0,
        Value.int 3 0, Value.ref 185, Value.bool true, Value.int 181 0, Value.ref 186, Value.none, Value.ref 187,
        Value.ref 188, Value.ref 189, Value.int 471 0, Value.int 129 0, Value.str (Str.ofString "/claim/cut.py") 472] },
fob 23 true (Value.str (Str.ofString "gmp.splitting") 410) (Value.ref 190),
{ cls := Value.type "tuple", data := Data.seq #[] },
{ cls := Value.none, data := Data.fields #[] },
{ cls := Value.type "tuple", data := Data.seq #[Value.str (Str.ofString "n") 477] },
{ cls := Value.type "tuple", data := Data.seq #[] },
fob 24 false .none .none,
{ cls := Value.type "code",
  data :=
    Data.fields
      #[Value.str (Str.ofString "need_bits") 474, Value.str (Str.ofString "need_bits") 475,
        Value.str (Str.ofString "/claim/cut.py") 476, Value.int 134 0, Value.int 1 0, Value.int 0 0, Value.int 0 0,
        Value.int 3 0, Value.ref 192, Value.bool true, Value.int 181 0, Value.ref 193, Value.none, Value.ref 194,
        Value.ref 195, Value.ref 196, Value.int 478 0, Value.int 134 0, Value.str (Str.ofString "/claim/cut.py") 479] },
fob 24 true (Value.str (Str.ofString "gmp.splitting") 410) (Value.ref 197),
{ cls := Value.type "tuple", data := Data.seq #[] },
{ cls := Value.none, data := Data.fields #[] },
{ cls := Value.type "tuple",
  data :=
    Data.seq
      #[Value.str (Str.ofString "above") 484, Value.str (Str.ofString "below") 485, Value.str (Str.ofString "n") 486,
        Value.str (Str.ofString "w") 487, Value.str (Str.ofString "divrem") 488] },
{ cls := Value.type "tuple", data := Data.seq #[] },
fob 25 false .none .none,
{ cls := Value.type "code",
  data :=
    Data.fields
      #[Value.str (Str.ofString "whole_bits") 481, Value.str (Str.ofString "whole_bits") 482,
        Value.str (Str.ofString "/claim/cut.py") 483, Value.int 137 0, Value.int 5 0, Value.int 0 0, Value.int 0 0,
        Value.int 3 0, Value.ref 199, Value.bool true, Value.int 181 0, Value.ref 200, Value.none, Value.ref 201,
        Value.ref 202, Value.ref 203, Value.int 489 0, Value.int 137 0, Value.str (Str.ofString "/claim/cut.py") 490] },
fob 25 true (Value.str (Str.ofString "gmp.splitting") 410) (Value.ref 204),
{ cls := Value.type "tuple", data := Data.seq #[] },
{ cls := Value.none, data := Data.fields #[] },
{ cls := Value.type "tuple",
  data :=
    Data.seq
      #[Value.str (Str.ofString "n") 495, Value.str (Str.ofString "many") 496, Value.str (Str.ofString "have") 497] },
{ cls := Value.type "tuple", data := Data.seq #[] },
fob 26 false .none .none,
{ cls := Value.type "code",
  data :=
    Data.fields
      #[Value.str (Str.ofString "terms_of_e") 492, Value.str (Str.ofString "terms_of_e") 493,
        Value.str (Str.ofString "/claim/cut.py") 494, Value.int 140 0, Value.int 1 0, Value.int 0 0, Value.int 0 0,
        Value.int 3 0, Value.ref 206, Value.bool true, Value.int 181 0, Value.ref 207, Value.none, Value.ref 208,
        Value.ref 209, Value.ref 210, Value.int 498 0, Value.int 140 0, Value.str (Str.ofString "/claim/cut.py") 499] },
fob 26 true (Value.str (Str.ofString "gmp.splitting") 410) (Value.ref 211),
{ cls := Value.type "tuple", data := Data.seq #[] },
{ cls := Value.none, data := Data.fields #[] },
{ cls := Value.type "tuple",
  data :=
    Data.seq
      #[Value.str (Str.ofString "n") 504, Value.str (Str.ofString "w") 505, Value.str (Str.ofString "mul") 506,
        Value.str (Str.ofString "divrem") 507, Value.str (Str.ofString "above") 508,
        Value.str (Str.ofString "below") 509] },
{ cls := Value.type "tuple", data := Data.seq #[] },
fob 27 false .none .none,
{ cls := Value.type "code",
  data :=
    Data.fields
      #[Value.str (Str.ofString "e_bits") 501, Value.str (Str.ofString "e_bits") 502,
        Value.str (Str.ofString "/claim/cut.py") 503, Value.int 146 0, Value.int 4 0, Value.int 0 0, Value.int 0 0,
        Value.int 3 0, Value.ref 213, Value.bool true, Value.int 181 0, Value.ref 214, Value.none, Value.ref 215,
        Value.ref 216, Value.ref 217, Value.int 510 0, Value.int 146 0, Value.str (Str.ofString "/claim/cut.py") 511] },
fob 27 true (Value.str (Str.ofString "gmp.splitting") 410) (Value.ref 218),
{ cls := Value.type "tuple", data := Data.seq #[] },
{ cls := Value.none, data := Data.fields #[] },
{ cls := Value.type "tuple", data := Data.seq #[Value.str (Str.ofString "nat") 518] },
{ cls := Value.type "tuple", data := Data.seq #[] },
fob 29 false .none .none,
{ cls := Value.type "code",
  data :=
    Data.fields
      #[Value.str (Str.ofString "signed_of") 515, Value.str (Str.ofString "signed_of") 516,
        Value.str (Str.ofString "/claim/cut.py") 517, Value.int 150 0, Value.int 1 0, Value.int 0 0, Value.int 0 0,
        Value.int 3 0, Value.ref 220, Value.bool true, Value.int 181 0, Value.ref 221, Value.none, Value.ref 222,
        Value.ref 223, Value.ref 224, Value.int 519 0, Value.int 150 0, Value.str (Str.ofString "/claim/cut.py") 520] },
fob 29 true (Value.str (Str.ofString "gmp.rationals") 513) (Value.ref 225),
{ cls := Value.type "tuple", data := Data.seq #[] },
{ cls := Value.none, data := Data.fields #[] },
{ cls := Value.type "tuple",
  data :=
    Data.seq
      #[Value.str (Str.ofString "x") 525, Value.str (Str.ofString "w") 526, Value.str (Str.ofString "divrem") 527,
        Value.str (Str.ofString "found") 528, Value.str (Str.ofString "top") 529, Value.str (Str.ofString "bottom") 530,
        Value.str (Str.ofString "whole") 531, Value.str (Str.ofString "rest") 532] },
{ cls := Value.type "tuple", data := Data.seq #[] },
fob 30 false .none .none,
{ cls := Value.type "code",
  data :=
    Data.fields
      #[Value.str (Str.ofString "continued") 522, Value.str (Str.ofString "continued") 523,
        Value.str (Str.ofString "/claim/cut.py") 524, Value.int 152 0, Value.int 3 0, Value.int 0 0, Value.int 0 0,
        Value.int 3 0, Value.ref 227, Value.bool true, Value.int 181 0, Value.ref 228, Value.none, Value.ref 229,
        Value.ref 230, Value.ref 231, Value.int 533 0, Value.int 152 0, Value.str (Str.ofString "/claim/cut.py") 534] },
fob 30 true (Value.str (Str.ofString "gmp.rationals") 513) (Value.ref 232),
{ cls := Value.type "tuple", data := Data.seq #[] },
{ cls := Value.none, data := Data.fields #[] },
{ cls := Value.type "tuple",
  data :=
    Data.seq
      #[Value.str (Str.ofString "terms") 539, Value.str (Str.ofString "w") 540, Value.str (Str.ofString "mul") 541,
        Value.str (Str.ofString "found") 542, Value.str (Str.ofString "before") 543,
        Value.str (Str.ofString "here") 544, Value.str (Str.ofString "term") 545, Value.str (Str.ofString "top") 546,
        Value.str (Str.ofString "bottom") 547] },
{ cls := Value.type "tuple", data := Data.seq #[] },
fob 31 false .none .none,
{ cls := Value.type "code",
  data :=
    Data.fields
      #[Value.str (Str.ofString "convergents") 536, Value.str (Str.ofString "convergents") 537,
        Value.str (Str.ofString "/claim/cut.py") 538, Value.int 159 0, Value.int 3 0, Value.int 0 0, Value.int 0 0,
        Value.int 3 0, Value.ref 234, Value.bool true, Value.int 181 0, Value.ref 235, Value.none, Value.ref 236,
        Value.ref 237, Value.ref 238, Value.int 548 0, Value.int 159 0, Value.str (Str.ofString "/claim/cut.py") 549] },
fob 31 true (Value.str (Str.ofString "gmp.rationals") 513) (Value.ref 239)]
noncomputable def o21 (P : Params) : List Obj := ((o4 P).set 3 (zo3 P)).set 12 (zo12 P) ++ m21 P
noncomputable def o33 (P : Params) : List Obj := ((o21 P).set 3 (yo3 P)).set 12 (yo12 P) ++ m33 P
abbrev q21 : Pos := { line := 112, col := 0, endLine := 112, endCol := 8 }
abbrev q33 : Pos := { line := 168, col := 0, endLine := 168, endCol := 8 }
abbrev r4 : List Stmt := bW.drop 4
abbrev r21 : List Stmt := r4.drop 17
abbrev r33 : List Stmt := r21.drop 12
theorem run_a (w : World) (os : OsState) : topGo treeTable PW w 11 (some (.ref 6)) 12 (st0 w os) (topStub PW) = some (stO oa 187 w os, ⟨denote treeTable cW, cW, q0, [topFrame q0]⟩) := by kernel_rfl
theorem run_b (w : World) (os : OsState) : segRun treeTable PW w 11 (some (.ref 6)) 1 1 (stO oa 187 w os) (blockOf bW eW cW q0 [topFrame q0]) = some (.next, stO oa 187 w os, cW, q0) := by kernel_rfl
theorem run_4 (w : World) (os : OsState) : segRun treeTable PW w 11 (some (.ref 6)) 1 632 (stO oa 187 w os) (piecesOf (bW.take 4) eW cW q0 [topFrame q0]) = some (.next, stO o4 241 w os, cW, q4) := by kernel_rfl
theorem run_21 (w : World) (os : OsState) : segRun treeTable PW w 11 (some (.ref 6)) 1 516 (stO o4 241 w os) (piecesOf (r4.take 17) eW cW q4 [topFrame q0]) = some (.next, stO o21 412 w os, cW, q21) := by kernel_rfl
theorem run_33 (w : World) (os : OsState) : segRun treeTable PW w 11 (some (.ref 6)) 1 547 (stO o21 412 w os) (piecesOf (r21.take 12) eW cW q21 [topFrame q0]) = some (.next, stO o33 553 w os, cW, q33) := by kernel_rfl
theorem app {N n : Nat} {l : List Stmt} {k : Nat} {w : World} {s s' r : Shared} {p p' : Pos} (h : segRun treeTable PW w 11 (some (.ref 6)) 1 n s (piecesOf (l.take k) eW cW p [topFrame q0]) = some (.next, s', cW, p'))
    (x : topRun treeTable PW w 11 (some (.ref 6)) N s' (restOf (l.drop k) eW cW p' [topFrame q0]) = some r) : topRun treeTable PW w 11 (some (.ref 6)) (n + N) s (restOf l eW cW p [topFrame q0]) = some r := by
  have := piece_app h x
  rwa [List.take_append_drop] at this
theorem run_to33 {N : Nat} (w : World) (os : OsState) {r : Shared} (k : topRun treeTable PW w 11 (some (.ref 6)) N (stO o33 553 w os) (restOf r33 eW cW q33 [topFrame q0]) = some r) :
    topRun treeTable PW w 11 (some (.ref 6)) (12 + (1 + (632 + (516 + (547 + N))))) (st0 w os) (topStub PW) = some r :=
  go_top (run_a w os) (piece_block (run_b w os) (app (run_4 w os) (app (run_21 w os) (app (run_33 w os) k))))
theorem run_all (w : World) (os : OsState) (r : Shared) (k : topRun treeTable PW w 11 (some (.ref 6)) 500 (stO o33 553 w os) (restOf r33 eW cW q33 [topFrame q0]) = some r) :
    topRun treeTable PW w 11 (some (.ref 6)) 2208 (st0 w os) (topStub PW) = some r := by
  have h := run_to33 w os k
  rwa [show 12 + (1 + (632 + (516 + (547 + 500)))) = 2208 from rfl] at h
theorem open_a : opening PW = plainProg PW.main.scope.names := by kernel_rfl
theorem open_b : ∀ s, fenceModules? PW s = some s := by intro s; kernel_rfl
theorem open_c : ∀ w : World, ((boot_heap w.params).isNs mainGlobals && (Array.mk ([] : List GenState)).size == 0, (boot_heap w.params).objs.size, (boot_heap w.params).nsMap mainGlobals "__annotations__") = (true, 11, some (.ref 6)) := by intro w; kernel_rfl
theorem last_a : ∀ w os, (topRun treeTable PW w 11 (some (.ref 6)) 500 (stO o33 553 w os) (restOf r33 eW cW q33 [topFrame q0])).map (fun s => staticsOk (importedModules PW.main.body) (boot_heap w.params) s.heap && namesBound PW s.heap && gensDone s && laidKept (boot_heap w.params) s.heap) = some true := by intro w os; kernel_rfl
theorem left_cut {p q : Program} {loose : List Str} {Xt : Shared → Bool} {α : Type} {Yf : Shared → α} {Ya : World → α} {N M m₀ : Nat} {ann : Option Value} (S : World → OsState → Shared) (t : Thread)
    (e : opening p = plainProg p.main.scope.names) (hN : Nat.ble 600 N = true) (f : ∀ s, fenceModules? p s = some s)
    (size : ∀ w : World, ((boot_heap w.params).isNs mainGlobals && (Array.mk ([] : List GenState)).size == 0, (boot_heap w.params).objs.size, (boot_heap w.params).nsMap mainGlobals "__annotations__") = (true, m₀, ann))
    (run : ∀ w os r, topRun treeTable p w m₀ ann M (S w os) t = some r → topRun treeTable p w m₀ ann N (st0 w os) (topStub p) = some r)
    (last1 : ∀ w os, (topRun treeTable p w m₀ ann M (S w os) t).map (fun s => staticsOk (importedModules p.main.body) (boot_heap w.params) s.heap && namesBound p s.heap && gensDone s && laidKept (boot_heap w.params) s.heap) = some true)
    (last2 : ∀ w os, (topRun treeTable p w m₀ ann M (S w os) t).map (fun s => openSeen q loose (importedModules p.main.body) Xt true s) = some (openGood q loose))
    (last3 : ∀ w os, (topRun treeTable p w m₀ ann M (S w os) t).map Yf = some (Ya w)) :
    LeftO p q loose Xt Yf Ya N := fun w => by
  obtain ⟨⟨h', gs, d, k, os⟩, e, e'⟩ := Option.map_eq_some_iff.mp (boot_open e hN f w)
  simp only [Prod.mk.injEq] at e'
  obtain ⟨rfl, rfl, rfl, rfl⟩ := e'
  obtain ⟨r, hr, l1⟩ := Option.map_eq_some_iff.mp (last1 w os)
  have l2 := last2 w os
  have l3 := last3 w os
  rw [hr] at l2 l3
  replace l2 := Option.some.inj l2
  replace l3 := Option.some.inj l3
  have hz := size w
  simp only [Prod.mk.injEq] at hz
  obtain ⟨z1, z2, z3⟩ := hz
  have hrun := run w os r hr
  have t' : topFrom treeTable p w N ⟨boot_heap w.params, Array.mk [], boot_drawn, boot_toks, os⟩ = some r := by
    unfold topFrom
    dsimp only
    rw [z1, z2, z3, hrun]
    show (match staticsOk (importedModules p.main.body) (boot_heap w.params) r.heap && namesBound p r.heap && gensDone r && laidKept (boot_heap w.params) r.heap with | true => _ | false => _) = _
    rw [l1]
  unfold openEnds
  rw [e]
  show (topFrom treeTable p w N _).map _ = _
  rw [t']
  exact congrArg some (Prod.ext l2 l3)
theorem last_b : ∀ w os, (topRun treeTable PW w 11 (some (.ref 6)) 500 (stO o33 553 w os) (restOf r33 eW cW q33 [topFrame q0])).map (fun s => openSeen vw [] (importedModules PW.main.body) (fun s => xlAt vw [] s && recOk (RowW.records PySem.Challenge.rw_sa0342_01.row.toRowW) s) true s) = some (openGood vw []) := by intro w os; kernel_rfl
end Mine.Hd0
namespace Mine
open Mine.Hd0
local macro_rules | `(tactic| o_head $H) => `(tactic| (
  refine holds_open (q := vw) (loose := []) (Xt := fun s => xlAt vw [] s && recOk (RowW.records PySem.Challenge.rw_sa0342_01.row.toRowW) s) (XP := XL vw []) (Yf := Hook.obs $H) (Ya := Hook.val $H) (YP := Hook.says $H) (N := 2208) ?hl (Hook.of $H) (Hook.keeps $H) (fun s e => xl_of s (Bool.and_eq_true_iff.mp e).1) XL.keeps (by rfl) (by rfl) (by rfl) (fun s e => recFacts_of (Bool.and_eq_true_iff.mp e).2) (by rfl) (by assumption) (by decide +kernel) ⟨rfl, rfl, rfl, rfl, rfl, by decide +kernel⟩ ?hw ?hc
  (case hl =>
    show LeftO PW vw [] _ _ _ 2208
    exact left_cut (p := PW) (M := 500) (m₀ := 11) (ann := some (.ref 6)) (fun w os => stO o33 553 w os) (restOf r33 eW cW q33 [topFrame q0]) open_a rfl open_b open_c run_all last_a last_b (by intro w os; kernel_rfl))))
open_top hd for PySem.Challenge.rw_sa0342_01
end Mine
end
open PySem.Calls
namespace Mine

abbrev Loc := PySem.Str → Option Value
abbrev Led := List (Addr × Obj)

def Sub (a b : Led) : Prop := ∀ p ∈ a, p ∈ b
theorem Sub.refl {a : Led} : Sub a a := fun _ h => h
theorem Sub.trans {a b c : Led} (x : Sub a b) (y : Sub b c) : Sub a c := fun p h => y p (x p h)
theorem Sub.mem {a b : Led} {p : Addr × Obj} (x : Sub a b) (h : p ∈ a) : p ∈ b := x p h
theorem Sub.cons {a b : Led} {p : Addr × Obj} (x : Sub a b) : Sub a (p :: b) := fun q h => List.mem_cons_of_mem _ (x q h)

structure Cx where
  prog : Program
  w : World
  K : Frag
  p : Program
  loose : List PySem.Str
  mean : ExcName → Option Value
  mg : Loc
  mb : Loc
  giv : List (Addr × List Value) := []

structure At (C : Cx) (k : Nat) (e fe : Env) (A A₀ : Around) (base h₀ : Heap) (outer : List Env) (L : Addr) : Prop where
  frames : A.frames = some (fe :: outer)
  frame : fe.frame = some L
  fkind : fe.scope.kind = .function
  handled : A.handled = none
  depth : A.depth + k < recursionLimit
  units : A.units + 8 * k + 8 < cLine
  below : Below A₀ base outer h₀
  hK : C.K.In h₀
  top : Top C.p C.loose C.mean C.mg C.mb h₀
  kind : e.scope.kind = .function
  globals : e.globals = mainGlobals
  builtins : e.builtins = builtinsNs
  fresh : h₀.get? e.locals = none
  giv : ∀ p ∈ C.giv, h₀.IsList p.1 p.2.toArray

structure Wd (h₀ : Heap) (L : Addr) (e : Env) (h : Heap) (m : Loc) (μ ν : Led) : Prop where
  fr : ∃ mf, Fr h₀ L h mf
  ns : h.Ns e.locals m
  news : News h₀ L h (μ ++ ν)
  off : ∀ p ∈ μ ++ ν, p.1 ≠ e.locals
  apart : ∀ p ∈ μ, ∀ q ∈ ν, p.1 ≠ q.1
  nodup : (μ.map (·.1)).Nodup

structure Go (e : Env) (L : Addr) (h : Heap) (μ ν : Led) (h' : Heap) (μ' ν' : Led) : Prop where
  keep : ∀ b o, b ≠ e.locals → b ≠ L → (∀ p ∈ μ, p.1 ≠ b) → h.get? b = some o → h'.get? b = some o
  mu : ∀ p ∈ μ', (∃ q ∈ μ, q.1 = p.1) ∨ h.get? p.1 = none ∨ p.1 = e.locals ∨ p.1 = L
  nu : ∀ p ∈ ν', p ∈ ν ∨ (∃ q ∈ μ, q.1 = p.1) ∨ h.get? p.1 = none ∨ p.1 = e.locals ∨ p.1 = L
  sub : ∀ p ∈ ν, p ∈ ν'
  lk : ∀ mf, e.locals ≠ L → h.Ns L mf → h'.Ns L mf

def T {α : Type} (C : Cx) (k : Nat) (e fe : Env) (t : Sem α) (m : Loc) (μ ν : Led) (P : α → Loc → Led → Led → Prop) : Prop :=
  ∀ (A A₀ : Around) (base h₀ : Heap) (outer : List Env) (L : Addr) (s : Shared) (Q : α → Shared → Prop), At C k e fe A A₀ base h₀ outer L → Wd h₀ L e s.heap m μ ν →
    (∀ v m' μ' ν' h' tk', P v m' μ' ν' → Wd h₀ L e h' m' μ' ν' → Go e L s.heap μ ν h' μ' ν' → Q v { s with heap := h', toks := tk' }) →
    wpAny (model C.prog C.w) A t Q (fun _ _ => False) s

theorem Wd.get {h₀ : Heap} {L : Addr} {e : Env} {h : Heap} {m : Loc} {μ ν : Led} (W : Wd h₀ L e h m μ ν) {a : Addr} {o : Obj} (hm : (a, o) ∈ ν) : h.get? a = some o :=
  (W.news (a, o) (List.mem_append_right _ hm)).1
theorem Wd.getm {h₀ : Heap} {L : Addr} {e : Env} {h : Heap} {m : Loc} {μ ν : Led} (W : Wd h₀ L e h m μ ν) {a : Addr} {o : Obj} (hm : (a, o) ∈ μ) : h.get? a = some o :=
  (W.news (a, o) (List.mem_append_left _ hm)).1

theorem none_at_size (h : Heap) : h.get? h.objs.size = none := by
  cases e : h.get? h.objs.size with
  | none => rfl
  | some o => exact absurd (Heap.lt_size e) (Nat.lt_irrefl _)

theorem Go.refl {e : Env} {L : Addr} {h : Heap} {μ ν : Led} : Go e L h μ ν h μ ν :=
  ⟨fun _ _ _ _ _ x => x, fun p hp => .inl ⟨p, hp, rfl⟩, fun _ hp => .inl hp, fun _ hp => hp, fun _ _ x => x⟩

theorem Go.trans {e : Env} {L : Addr} {h h1 h2 : Heap} {μ ν μ1 ν1 μ2 ν2 : Led} (x : Go e L h μ ν h1 μ1 ν1) (y : Go e L h1 μ1 ν1 h2 μ2 ν2) : Go e L h μ ν h2 μ2 ν2 := by
  have back : ∀ b, h1.get? b = none → (∃ q ∈ μ, q.1 = b) ∨ h.get? b = none ∨ b = e.locals ∨ b = L := by
    intro b hb
    by_cases h1 : ∃ q ∈ μ, q.1 = b
    · exact .inl h1
    by_cases h2 : b = e.locals
    · exact .inr (.inr (.inl h2))
    by_cases h2' : b = L
    · exact .inr (.inr (.inr h2'))
    cases h3 : h.get? b with
    | none => exact .inr (.inl rfl)
    | some o =>
      have := x.keep b o h2 h2' (fun p hp e1 => h1 ⟨p, hp, e1⟩) h3
      rw [hb] at this; cases this
  have up : ∀ b, (∃ q ∈ μ1, q.1 = b) → (∃ q ∈ μ, q.1 = b) ∨ h.get? b = none ∨ b = e.locals ∨ b = L := by
    rintro b ⟨q, hq, rfl⟩; exact x.mu q hq
  refine ⟨fun b o hb hb' hμ ho => y.keep b o hb hb' (fun p hp e' => ?_) (x.keep b o hb hb' hμ ho), fun p hp => ?_, fun p hp => ?_, fun p hp => y.sub p (x.sub p hp), fun mf hl n => y.lk mf hl (x.lk mf hl n)⟩
  · rcases x.mu p hp with ⟨q, hq, e2⟩ | h3 | h3 | h3
    · exact hμ q hq (e2.trans e')
    · rw [e', ho] at h3; cases h3
    · exact hb (e' ▸ h3)
    · exact hb' (e' ▸ h3)
  · rcases y.mu p hp with h3 | h3 | h3
    · exact up _ h3
    · exact back _ h3
    · exact .inr (.inr h3)
  · rcases y.nu p hp with h3 | h3 | h3 | h3
    · exact x.nu p h3
    · exact .inr (up _ h3)
    · exact .inr (back _ h3)
    · exact .inr (.inr (.inr h3))

section
variable {α β γ : Type} (C : Cx) (k : Nat) (e fe : Env)
@[reducible] def Nx (c : α → Sem β) (P : β → Loc → Led → Led → Prop) (a : α) (m : Loc) (μ ν : Led) : Prop := T C k e fe (c a) m μ ν P
@[reducible] def KN (t : Sem β) (P : β → Loc → Led → Led → Prop) (_ : α) (m : Loc) (μ ν : Led) : Prop := T C k e fe t m μ ν P
@[reducible] def K2 (t : Sem β) (f : α → β → Sem γ) (P : γ → Loc → Led → Led → Prop) (a : α) (m : Loc) (μ ν : Led) : Prop := T C k e fe t m μ ν (Nx C k e fe (f a) P)
@[reducible] def KA (t : Sem (List Value)) (P : List Value → Loc → Led → Led → Prop) (v : Value) (m : Loc) (μ ν : Led) : Prop := T C k e fe t m μ ν (fun vs => P (v :: vs))
@[reducible] def KIf (x y : Sem β) (P : β → Loc → Led → Led → Prop) (c : Bool) (m : Loc) (μ ν : Led) : Prop := T C k e fe (if c then x else y) m μ ν P
@[reducible] def KC (pos : Pos) (args : List Expr) (P : Value → Loc → Led → Led → Prop) (f : Value) (m : Loc) (μ ν : Led) : Prop := T C k e fe (callWith pos f [] (backTo pos (starEach args e)) []) m μ ν P
@[reducible] def KL (f : Value) (P : Value → Loc → Led → Led → Prop) (vs : List Value) (m : Loc) (μ ν : Led) : Prop := T C k e fe (call f vs) m μ ν P
@[reducible] def KM (f self : Value) (P : Value → Loc → Led → Led → Prop) (vs : List Value) (m : Loc) (μ ν : Led) : Prop := T C k e fe (call f (self :: vs)) m μ ν P
@[reducible] def KCw (pos : Pos) (args : List Expr) (P : Value → Loc → Led → Led → Prop) (fx : Value × List Value) (m : Loc) (μ ν : Led) : Prop := T C k e fe (callWith pos fx.1 fx.2 (backTo pos (starEach args e)) []) m μ ν P
@[reducible] def KMe (name : PySem.Str) (pl : Sem Bool) (pos : Pos) (args : List Expr) (P : Value → Loc → Led → Led → Prop) (ov : Value) (m : Loc) (μ ν : Led) : Prop := T C k e fe (getMethod ov name pl) m μ ν (KCw C k e fe pos args P)
@[reducible] def KSt (x : PySem.Str) (P : Flow → Loc → Led → Led → Prop) (v : Value) (m : Loc) (μ ν : Led) : Prop := T C k e fe (storeName e x v) m μ ν (fun _ => P .next)
@[reducible] def KAu (op : Operator) (val : Expr) (x : PySem.Str) (P : Flow → Loc → Led → Led → Prop) (old : Value) (m : Loc) (μ ν : Led) : Prop := T C k e fe (eval val e) m μ ν (Nx C k e fe (inplaceOp op old) (KSt C k e fe x P))
@[reducible] def KI3 (v ov : Value) (P : Flow → Loc → Led → Led → Prop) (iv : Value) (m : Loc) (μ ν : Led) : Prop := T C k e fe (setItem ov iv v) m μ ν (fun _ => P .next)
@[reducible] def KI2 (i : Expr) (v : Value) (P : Flow → Loc → Led → Led → Prop) (ov : Value) (m : Loc) (μ ν : Led) : Prop := T C k e fe (eval i e) m μ ν (KI3 C k e fe v ov P)
@[reducible] def KI1 (o i : Expr) (P : Flow → Loc → Led → Led → Prop) (v : Value) (m : Loc) (μ ν : Led) : Prop := T C k e fe (eval o e) m μ ν (KI2 C k e fe i v P)
@[reducible] def KAs (t : Expr) (P : Flow → Loc → Led → Led → Prop) (v : Value) (m : Loc) (μ ν : Led) : Prop := T C k e fe (assign t e v) m μ ν (fun _ => P .next)
@[reducible] def KWh (body : List Stmt) (Q P : Flow → Loc → Led → Led → Prop) (b : Bool) (m : Loc) (μ ν : Led) : Prop := (b = true → T C k e fe (execs body e) m μ ν Q) ∧ (b = false → P .next m μ ν)
end

def Hid {α : Type} (P Q : α → Loc → Led → Led → Prop) : Prop := ∀ a m μ ν, P a m μ ν → Q a m μ ν
theorem Hid.refl {α : Type} {P : α → Loc → Led → Led → Prop} : Hid P P := fun _ _ _ _ h => h
theorem Hid.out {α : Type} {P Q : α → Loc → Led → Led → Prop} {a : α} {m : Loc} {μ ν : Led} (h : Hid P Q) (p : P a m μ ν) : Q a m μ ν := h _ _ _ _ p
theorem T_hide {α : Type} {C : Cx} {k : Nat} {e fe : Env} {m : Loc} {μ ν : Led} {t : Sem α} {P : α → Loc → Led → Led → Prop} (h : ∀ Q, Hid P Q → T C k e fe t m μ ν Q) : T C k e fe t m μ ν P := h P .refl
theorem mk2 {a b : Type} {p : a → b → Prop} (x0 : a) (x1 : b) (h : p x0 x1) : ∃ x0 x1, p x0 x1 := ⟨x0, x1, h⟩
theorem mk3 {a b c : Type} {p : a → b → c → Prop} (x0 : a) (x1 : b) (x2 : c) (h : p x0 x1 x2) : ∃ x0 x1 x2, p x0 x1 x2 := ⟨x0, x1, x2, h⟩
theorem mk4 {a b c d : Type} {p : a → b → c → d → Prop} (x0 : a) (x1 : b) (x2 : c) (x3 : d) (h : p x0 x1 x2 x3) : ∃ x0 x1 x2 x3, p x0 x1 x2 x3 := ⟨x0, x1, x2, x3, h⟩
theorem mk5 {a b c d e : Type} {p : a → b → c → d → e → Prop} (x0 : a) (x1 : b) (x2 : c) (x3 : d) (x4 : e) (h : p x0 x1 x2 x3 x4) : ∃ x0 x1 x2 x3 x4, p x0 x1 x2 x3 x4 := ⟨x0, x1, x2, x3, x4, h⟩
theorem mk6 {a b c d e f : Type} {p : a → b → c → d → e → f → Prop} (x0 : a) (x1 : b) (x2 : c) (x3 : d) (x4 : e) (x5 : f) (h : p x0 x1 x2 x3 x4 x5) : ∃ x0 x1 x2 x3 x4 x5, p x0 x1 x2 x3 x4 x5 := ⟨x0, x1, x2, x3, x4, x5, h⟩
theorem mk7 {a b c d e f g : Type} {p : a → b → c → d → e → f → g → Prop} (x0 : a) (x1 : b) (x2 : c) (x3 : d) (x4 : e) (x5 : f) (x6 : g) (h : p x0 x1 x2 x3 x4 x5 x6) : ∃ x0 x1 x2 x3 x4 x5 x6, p x0 x1 x2 x3 x4 x5 x6 := ⟨x0, x1, x2, x3, x4, x5, x6, h⟩
theorem mk8 {a b c d e f g h : Type} {p : a → b → c → d → e → f → g → h → Prop} (x0 : a) (x1 : b) (x2 : c) (x3 : d) (x4 : e) (x5 : f) (x6 : g) (x7 : h) (h : p x0 x1 x2 x3 x4 x5 x6 x7) : ∃ x0 x1 x2 x3 x4 x5 x6 x7, p x0 x1 x2 x3 x4 x5 x6 x7 := ⟨x0, x1, x2, x3, x4, x5, x6, x7, h⟩
theorem mk9 {a b c d e f g h i : Type} {p : a → b → c → d → e → f → g → h → i → Prop} (x0 : a) (x1 : b) (x2 : c) (x3 : d) (x4 : e) (x5 : f) (x6 : g) (x7 : h) (x8 : i) (h : p x0 x1 x2 x3 x4 x5 x6 x7 x8) : ∃ x0 x1 x2 x3 x4 x5 x6 x7 x8, p x0 x1 x2 x3 x4 x5 x6 x7 x8 := ⟨x0, x1, x2, x3, x4, x5, x6, x7, x8, h⟩
theorem mk10 {a b c d e f g h i j : Type} {p : a → b → c → d → e → f → g → h → i → j → Prop} (x0 : a) (x1 : b) (x2 : c) (x3 : d) (x4 : e) (x5 : f) (x6 : g) (x7 : h) (x8 : i) (x9 : j) (h : p x0 x1 x2 x3 x4 x5 x6 x7 x8 x9) : ∃ x0 x1 x2 x3 x4 x5 x6 x7 x8 x9, p x0 x1 x2 x3 x4 x5 x6 x7 x8 x9 := ⟨x0, x1, x2, x3, x4, x5, x6, x7, x8, x9, h⟩
theorem an3 {a b c Q : Prop} (x : a ∧ b ∧ c) (k : a → b → c → Q) : Q := k x.1 x.2.1 x.2.2
theorem an4 {a b c d Q : Prop} (x : a ∧ b ∧ c ∧ d) (k : a → b → c → d → Q) : Q := k x.1 x.2.1 x.2.2.1 x.2.2.2
theorem an5 {a b c d e Q : Prop} (x : a ∧ b ∧ c ∧ d ∧ e) (k : a → b → c → d → e → Q) : Q := k x.1 x.2.1 x.2.2.1 x.2.2.2.1 x.2.2.2.2
theorem an6 {a b c d e f Q : Prop} (x : a ∧ b ∧ c ∧ d ∧ e ∧ f) (k : a → b → c → d → e → f → Q) : Q := k x.1 x.2.1 x.2.2.1 x.2.2.2.1 x.2.2.2.2.1 x.2.2.2.2.2
theorem an7 {a b c d e f g Q : Prop} (x : a ∧ b ∧ c ∧ d ∧ e ∧ f ∧ g) (k : a → b → c → d → e → f → g → Q) : Q := k x.1 x.2.1 x.2.2.1 x.2.2.2.1 x.2.2.2.2.1 x.2.2.2.2.2.1 x.2.2.2.2.2.2
theorem an8 {a b c d e f g h Q : Prop} (x : a ∧ b ∧ c ∧ d ∧ e ∧ f ∧ g ∧ h) (k : a → b → c → d → e → f → g → h → Q) : Q := k x.1 x.2.1 x.2.2.1 x.2.2.2.1 x.2.2.2.2.1 x.2.2.2.2.2.1 x.2.2.2.2.2.2.1 x.2.2.2.2.2.2.2
theorem an9 {a b c d e f g h i Q : Prop} (x : a ∧ b ∧ c ∧ d ∧ e ∧ f ∧ g ∧ h ∧ i) (k : a → b → c → d → e → f → g → h → i → Q) : Q := k x.1 x.2.1 x.2.2.1 x.2.2.2.1 x.2.2.2.2.1 x.2.2.2.2.2.1 x.2.2.2.2.2.2.1 x.2.2.2.2.2.2.2.1 x.2.2.2.2.2.2.2.2
theorem an10 {a b c d e f g h i j Q : Prop} (x : a ∧ b ∧ c ∧ d ∧ e ∧ f ∧ g ∧ h ∧ i ∧ j) (k : a → b → c → d → e → f → g → h → i → j → Q) : Q := k x.1 x.2.1 x.2.2.1 x.2.2.2.1 x.2.2.2.2.1 x.2.2.2.2.2.1 x.2.2.2.2.2.2.1 x.2.2.2.2.2.2.2.1 x.2.2.2.2.2.2.2.2.1 x.2.2.2.2.2.2.2.2.2
theorem an11 {a b c d e f g h i j k Q : Prop} (x : a ∧ b ∧ c ∧ d ∧ e ∧ f ∧ g ∧ h ∧ i ∧ j ∧ k) (k : a → b → c → d → e → f → g → h → i → j → k → Q) : Q := k x.1 x.2.1 x.2.2.1 x.2.2.2.1 x.2.2.2.2.1 x.2.2.2.2.2.1 x.2.2.2.2.2.2.1 x.2.2.2.2.2.2.2.1 x.2.2.2.2.2.2.2.2.1 x.2.2.2.2.2.2.2.2.2.1 x.2.2.2.2.2.2.2.2.2.2
theorem an12 {a b c d e f g h i j k l Q : Prop} (x : a ∧ b ∧ c ∧ d ∧ e ∧ f ∧ g ∧ h ∧ i ∧ j ∧ k ∧ l) (k : a → b → c → d → e → f → g → h → i → j → k → l → Q) : Q := k x.1 x.2.1 x.2.2.1 x.2.2.2.1 x.2.2.2.2.1 x.2.2.2.2.2.1 x.2.2.2.2.2.2.1 x.2.2.2.2.2.2.2.1 x.2.2.2.2.2.2.2.2.1 x.2.2.2.2.2.2.2.2.2.1 x.2.2.2.2.2.2.2.2.2.2.1 x.2.2.2.2.2.2.2.2.2.2.2
theorem ex1 {a : Type} {p : a → Prop} {Q : Prop} (x : ∃ x0, p x0) (k : ∀ x0, p x0 → Q) : Q := x.elim k
theorem ex2 {a b : Type} {p : a → b → Prop} {Q : Prop} (x : ∃ x0 x1, p x0 x1) (k : ∀ x0 x1, p x0 x1 → Q) : Q := x.elim fun x0 x => ex1 x (k x0)
theorem ex3 {a b c : Type} {p : a → b → c → Prop} {Q : Prop} (x : ∃ x0 x1 x2, p x0 x1 x2) (k : ∀ x0 x1 x2, p x0 x1 x2 → Q) : Q := x.elim fun x0 x => ex2 x (k x0)
theorem ex4 {a b c d : Type} {p : a → b → c → d → Prop} {Q : Prop} (x : ∃ x0 x1 x2 x3, p x0 x1 x2 x3) (k : ∀ x0 x1 x2 x3, p x0 x1 x2 x3 → Q) : Q := x.elim fun x0 x => ex3 x (k x0)
theorem ex5 {a b c d e : Type} {p : a → b → c → d → e → Prop} {Q : Prop} (x : ∃ x0 x1 x2 x3 x4, p x0 x1 x2 x3 x4) (k : ∀ x0 x1 x2 x3 x4, p x0 x1 x2 x3 x4 → Q) : Q := x.elim fun x0 x => ex4 x (k x0)
theorem ex6 {a b c d e f : Type} {p : a → b → c → d → e → f → Prop} {Q : Prop} (x : ∃ x0 x1 x2 x3 x4 x5, p x0 x1 x2 x3 x4 x5) (k : ∀ x0 x1 x2 x3 x4 x5, p x0 x1 x2 x3 x4 x5 → Q) : Q := x.elim fun x0 x => ex5 x (k x0)
theorem ex7 {a b c d e f g : Type} {p : a → b → c → d → e → f → g → Prop} {Q : Prop} (x : ∃ x0 x1 x2 x3 x4 x5 x6, p x0 x1 x2 x3 x4 x5 x6) (k : ∀ x0 x1 x2 x3 x4 x5 x6, p x0 x1 x2 x3 x4 x5 x6 → Q) : Q := x.elim fun x0 x => ex6 x (k x0)
theorem ex8 {a b c d e f g h : Type} {p : a → b → c → d → e → f → g → h → Prop} {Q : Prop} (x : ∃ x0 x1 x2 x3 x4 x5 x6 x7, p x0 x1 x2 x3 x4 x5 x6 x7) (k : ∀ x0 x1 x2 x3 x4 x5 x6 x7, p x0 x1 x2 x3 x4 x5 x6 x7 → Q) : Q := x.elim fun x0 x => ex7 x (k x0)
theorem ex9 {a b c d e f g h i : Type} {p : a → b → c → d → e → f → g → h → i → Prop} {Q : Prop} (x : ∃ x0 x1 x2 x3 x4 x5 x6 x7 x8, p x0 x1 x2 x3 x4 x5 x6 x7 x8) (k : ∀ x0 x1 x2 x3 x4 x5 x6 x7 x8, p x0 x1 x2 x3 x4 x5 x6 x7 x8 → Q) : Q := x.elim fun x0 x => ex8 x (k x0)
theorem ex10 {a b c d e f g h i j : Type} {p : a → b → c → d → e → f → g → h → i → j → Prop} {Q : Prop} (x : ∃ x0 x1 x2 x3 x4 x5 x6 x7 x8 x9, p x0 x1 x2 x3 x4 x5 x6 x7 x8 x9) (k : ∀ x0 x1 x2 x3 x4 x5 x6 x7 x8 x9, p x0 x1 x2 x3 x4 x5 x6 x7 x8 x9 → Q) : Q := x.elim fun x0 x => ex9 x (k x0)

section
variable {C : Cx} {k : Nat} {e fe : Env} {α β : Type} {m : Loc} {μ ν : Led}

theorem T_mono {t : Sem α} {P P' : α → Loc → Led → Led → Prop} (h : T C k e fe t m μ ν P) (hp : ∀ v m' μ' ν', Sub ν ν' → P v m' μ' ν' → P' v m' μ' ν') : T C k e fe t m μ ν P' :=
  fun A A₀ base h₀ outer L s Q a w q => h A A₀ base h₀ outer L s Q a w fun v m' μ' ν' h' tk' p w' g => q v m' μ' ν' h' tk' (hp _ _ _ _ g.sub p) w' g

theorem T_via {t : Sem α} {u : Sem β} {c : α → Sem β} {P : β → Loc → Led → Led → Prop}
    (H : ∀ (A : Around) (Q : β → Shared → Prop) (s : Shared), wpAny (model C.prog C.w) A t (fun a s' => wpAny (model C.prog C.w) A (c a) Q (fun _ _ => False) s') (fun _ _ => False) s → wpAny (model C.prog C.w) A u Q (fun _ _ => False) s)
    (h : T C k e fe t m μ ν (Nx C k e fe c P)) : T C k e fe u m μ ν P :=
  fun A A₀ base h₀ outer L s Q a w q => H A Q s (h A A₀ base h₀ outer L s _ a w fun v m1 μ1 ν1 h1 tk1 p1 w1 g1 =>
    p1 A A₀ base h₀ outer L { s with heap := h1, toks := tk1 } Q a w1 fun v2 m2 μ2 ν2 h2 tk2 p2 w2 g2 => q v2 m2 μ2 ν2 h2 tk2 p2 w2 (g1.trans g2))

theorem T_bind {t : Sem α} {c : α → Sem β} {P : β → Loc → Led → Led → Prop} (h : T C k e fe t m μ ν (Nx C k e fe c P)) : T C k e fe (t >>= c) m μ ν P :=
  T_via (fun _ _ _ x => wpAny_bind x) h

theorem T_same {t u : Sem α} {P : α → Loc → Led → Led → Prop}
    (H : ∀ (A : Around) (Q : α → Shared → Prop) (s : Shared), wpAny (model C.prog C.w) A t Q (fun _ _ => False) s → wpAny (model C.prog C.w) A u Q (fun _ _ => False) s)
    (h : T C k e fe t m μ ν P) : T C k e fe u m μ ν P := fun A A₀ base h₀ outer L s Q a w q => H A Q s (h A A₀ base h₀ outer L s Q a w q)

/-- a step that changes the tokens alone -/
theorem T_quiet {t : Sem α} {P : α → Loc → Led → Led → Prop} (v : Tok → α)
    (H : ∀ (A A₀ : Around) (base h₀ : Heap) (outer : List Env) (L : Addr) (s : Shared) (Q : α → Shared → Prop), At C k e fe A A₀ base h₀ outer L → Wd h₀ L e s.heap m μ ν → (∀ t tk, Q (v t) { s with toks := tk }) → wpAny (model C.prog C.w) A t Q (fun _ _ => False) s)
    (h : ∀ t, P (v t) m μ ν) : T C k e fe t m μ ν P :=
  fun A A₀ base h₀ outer L s Q a w q => H A A₀ base h₀ outer L s Q a w fun t tk => q (v t) m μ ν s.heap tk (h t) w .refl

theorem T_pure {v : α} {P : α → Loc → Led → Led → Prop} (h : P v m μ ν) : T C k e fe (pure v) m μ ν P :=
  T_quiet (fun _ => v) (fun _ _ _ _ _ _ s _ _ _ q => wpAny_pure (q 0 s.toks)) fun _ => h

theorem T_if {c : Prop} [Decidable c] {t u : Sem α} {P : α → Loc → Led → Led → Prop} (h1 : c → T C k e fe t m μ ν P) (h2 : ¬ c → T C k e fe u m μ ν P) : T C k e fe (if c then t else u) m μ ν P := by
  split
  · exact h1 ‹_›
  · exact h2 ‹_›
end

/-- forgetting: T knows less -/
theorem T_drop {C : Cx} {k : Nat} {e fe : Env} {α : Type} {t : Sem α} {m : Loc} {μ ν μc νc μr : Led} {P : α → Loc → Led → Led → Prop}
    (hμ : μ = μc ++ μr) (hν : ∀ p ∈ νc, p ∈ ν) (h : T C k e fe t m μc νc P) :
    T C k e fe t m μ ν (fun v m' μ' ν' => ∃ μ1 ν1, μ' = μ1 ++ μr ∧ ν' = ν1 ++ ν ∧ P v m' μ1 ν1) := by
  subst hμ
  intro A A₀ base h₀ outer L s Q a W q
  have Wc : Wd h₀ L e s.heap m μc νc := by
    refine ⟨W.fr, W.ns, fun p hp => W.news p ?_, fun p hp => W.off p ?_, fun p hp r hr => W.apart p (List.mem_append_left _ hp) r (hν r hr), ?_⟩
    · rcases List.mem_append.mp hp with x | x
      · exact List.mem_append_left _ (List.mem_append_left _ x)
      · exact List.mem_append_right _ (hν p x)
    · rcases List.mem_append.mp hp with x | x
      · exact List.mem_append_left _ (List.mem_append_left _ x)
      · exact List.mem_append_right _ (hν p x)
    · have := W.nodup
      rw [List.map_append] at this
      exact (List.nodup_append.mp this).1
  have nd := W.nodup
  rw [List.map_append] at nd
  have ndc := (List.nodup_append.mp nd).2.2
  have cr : ∀ p ∈ μc, ∀ q ∈ μr, p.1 ≠ q.1 := fun p hp q hq => ndc p.1 (List.mem_map.mpr ⟨p, hp, rfl⟩) q.1 (List.mem_map.mpr ⟨q, hq, rfl⟩)
  refine h A A₀ base h₀ outer L s Q a Wc fun v m' μ1 ν1 h' tk' hp W' g => ?_
  have old : ∀ p ∈ μr ++ ν, h'.get? p.1 = some p.2 := by
    intro p hp
    have hp' : p ∈ (μc ++ μr) ++ ν := by
      rcases List.mem_append.mp hp with x | x
      · exact List.mem_append_left _ (List.mem_append_right _ x)
      · exact List.mem_append_right _ x
    refine g.keep _ _ (W.off p hp') (W.news p hp').2.1 (fun q hq => ?_) (W.news p hp').1
    rcases List.mem_append.mp hp with x | x
    · exact cr q hq p x
    · exact W.apart q (List.mem_append_left _ hq) p x
  have lt : ∀ p ∈ (μc ++ μr) ++ ν, s.heap.get? p.1 = some p.2 := fun p hp => (W.news p hp).1
  have mem3 : ∀ {p}, p ∈ (μ1 ++ μr) ++ (ν1 ++ ν) → p ∈ μ1 ++ ν1 ∨ p ∈ μr ++ ν := by
    intro p hp
    simp only [List.mem_append] at hp ⊢
    rcases hp with (x | x) | x | x <;> simp [x]
  refine q v m' (μ1 ++ μr) (ν1 ++ ν) h' tk' ⟨μ1, ν1, rfl, rfl, hp⟩ ⟨W'.fr, W'.ns, fun p hp => ?_, fun p hp => ?_, ?_, ?_⟩ ⟨fun b o hb hb' hμ ho => g.keep b o hb hb' (fun p hp => hμ p (List.mem_append_left _ hp)) ho, ?_, ?_, fun p hp => List.mem_append_right _ hp, g.lk⟩
  · rcases mem3 hp with x | x
    · exact W'.news p x
    · have hp' : p ∈ (μc ++ μr) ++ ν := by
        rcases List.mem_append.mp x with y | y
        · exact List.mem_append_left _ (List.mem_append_right _ y)
        · exact List.mem_append_right _ y
      exact ⟨old p x, (W.news p hp').2⟩
  · rcases mem3 hp with x | x
    · exact W'.off p x
    · refine W.off p ?_
      rcases List.mem_append.mp x with y | y
      · exact List.mem_append_left _ (List.mem_append_right _ y)
      · exact List.mem_append_right _ y
  · intro p hp q hq
    rcases List.mem_append.mp hp with x | x <;> rcases List.mem_append.mp hq with y | y
    · exact W'.apart p x q y
    · rcases g.mu p x with ⟨r, hr, e1⟩ | h3 | h3 | h3
      · rw [← e1]; exact W.apart r (List.mem_append_left _ hr) q y
      · intro e1; rw [e1, lt q (List.mem_append_right _ y)] at h3; cases h3
      · exact absurd h3 (W'.off p (List.mem_append_left _ x))
      · exact absurd h3 (W'.news p (List.mem_append_left _ x)).2.1
    · rcases g.nu q y with h3 | ⟨r, hr, e1⟩ | h3 | h3 | h3
      · exact W.apart p (List.mem_append_right _ x) q (hν q h3)
      · rw [← e1]; exact (cr r hr p x).symm
      · intro e1; rw [← e1, lt p (List.mem_append_left _ (List.mem_append_right _ x))] at h3; cases h3
      · exact absurd h3 (W'.off q (List.mem_append_right _ y))
      · exact absurd h3 (W'.news q (List.mem_append_right _ y)).2.1
    · exact W.apart p (List.mem_append_right _ x) q y
  · rw [List.map_append]
    refine List.nodup_append.mpr ⟨W'.nodup, (List.nodup_append.mp nd).2.1, fun a ha b hb e1 => ?_⟩
    obtain ⟨p, hp, rfl⟩ := List.mem_map.mp ha
    obtain ⟨q, hq, rfl⟩ := List.mem_map.mp hb
    rcases g.mu p hp with ⟨r, hr, e2⟩ | h3 | h3 | h3
    · exact cr r hr q hq (e2.trans e1)
    · rw [e1, lt q (List.mem_append_left _ (List.mem_append_right _ hq))] at h3; cases h3
    · exact absurd h3 (W'.off p (List.mem_append_left _ hp))
    · exact absurd h3 (W'.news p (List.mem_append_left _ hp)).2.1
  · intro p hp
    rcases List.mem_append.mp hp with x | x
    · rcases g.mu p x with ⟨r, hr, e2⟩ | h3
      · exact .inl ⟨r, List.mem_append_left _ hr, e2⟩
      · exact .inr h3
    · exact .inl ⟨p, List.mem_append_right _ x, rfl⟩
  · intro p hp
    rcases List.mem_append.mp hp with x | x
    · rcases g.nu p x with h3 | ⟨r, hr, e2⟩ | h3
      · exact .inl (hν p h3)
      · exact .inr (.inl ⟨r, List.mem_append_left _ hr, e2⟩)
      · exact .inr (.inr h3)
    · exact .inl x

/-- what is made no more: a mutable object is laid by -/
theorem T_freeze {C : Cx} {k : Nat} {e fe : Env} {α : Type} {t : Sem α} {m : Loc} {x : Addr × Obj} {μ ν : Led} {P : α → Loc → Led → Led → Prop}
    (h : T C k e fe t m μ (x :: ν) P) : T C k e fe t m (x :: μ) ν P := by
  intro A A₀ base h₀ outer L s Q a W q
  have mem : ∀ {p}, p ∈ μ ++ (x :: ν) → p ∈ (x :: μ) ++ ν := by
    intro p hp; simp only [List.mem_append, List.mem_cons] at hp ⊢; rcases hp with y | y | y <;> simp [y]
  have nd := W.nodup
  rw [List.map_cons, List.nodup_cons] at nd
  have W1 : Wd h₀ L e s.heap m μ (x :: ν) := ⟨W.fr, W.ns, fun p hp => W.news p (mem hp), fun p hp => W.off p (mem hp), fun p hp r hr => by
    rcases List.mem_cons.mp hr with rfl | hr
    · exact fun e1 => nd.1 (List.mem_map.mpr ⟨p, hp, e1⟩)
    · exact W.apart p (List.mem_cons_of_mem _ hp) r hr, nd.2⟩
  refine h A A₀ base h₀ outer L s Q a W1 fun v m' μ1 ν1 h' tk' hp W' g => q v m' μ1 ν1 h' tk' hp W' ⟨fun b o hb hb' hμ ho => g.keep b o hb hb' (fun p hp => hμ p (List.mem_cons_of_mem _ hp)) ho, fun p hp => ?_, fun p hp => ?_, fun p hp => g.sub p (List.mem_cons_of_mem _ hp), g.lk⟩
  · rcases g.mu p hp with ⟨r, hr, e2⟩ | h3
    · exact .inl ⟨r, List.mem_cons_of_mem _ hr, e2⟩
    · exact .inr h3
  · rcases g.nu p hp with h3 | ⟨r, hr, e2⟩ | h3
    · rcases List.mem_cons.mp h3 with rfl | h3
      · exact .inr (.inl ⟨_, List.mem_cons_self .., rfl⟩)
      · exact .inl h3
    · exact .inr (.inl ⟨r, List.mem_cons_of_mem _ hr, e2⟩)
    · exact .inr (.inr h3)

/-- a new object is known -/
theorem Wd.push {h₀ : Heap} {L : Addr} {e : Env} {h : Heap} {m : Loc} {μ ν : Led} (W : Wd h₀ L e h m μ ν) (o : Obj) (hf : o.isFreed = false) : Wd h₀ L e (h.push o) m μ ((h.objs.size, o) :: ν) := by
  obtain ⟨mf, F⟩ := W.fr
  have N := News.push F W.news o hf
  have lt : ∀ p ∈ μ ++ ν, p.1 < h.objs.size := fun p hp => Heap.lt_size (W.news p hp).1
  have mem : ∀ {p}, p ∈ μ ++ (h.objs.size, o) :: ν → p ∈ (h.objs.size, o) :: (μ ++ ν) := by
    intro p hp; simp only [List.mem_append, List.mem_cons] at hp ⊢; rcases hp with y | y | y <;> simp [y]
  have hl := W.ns.lt
  refine ⟨⟨mf, F.push o⟩, ?_, fun p hp => N p (mem hp), fun p hp => ?_, fun p hp q hq => ?_, W.nodup⟩
  · obtain ⟨oL, a1, a2, hL, a3⟩ := W.ns
    exact ⟨oL, a1, a2, Heap.get?_push_of_some _ hL, a3⟩
  · rcases List.mem_cons.mp (mem hp) with rfl | hp
    · exact Nat.ne_of_gt hl
    · exact W.off p hp
  · rcases List.mem_cons.mp hq with rfl | hq
    · exact Nat.ne_of_lt (lt p (List.mem_append_left _ hp))
    · exact W.apart p hp q hq
theorem Go.push {e : Env} {L : Addr} {h : Heap} {μ ν : Led} (o : Obj) : Go e L h μ ν (h.push o) μ ((h.objs.size, o) :: ν) :=
  ⟨fun _ _ _ _ _ x => Heap.get?_push_of_some _ x, fun p hp => .inl ⟨p, hp, rfl⟩, fun p hp => by
    rcases List.mem_cons.mp hp with rfl | hp
    · exact .inr (.inr (.inl (none_at_size h)))
    · exact .inl hp, fun p hp => List.mem_cons_of_mem _ hp, fun _ _ n => n.push _⟩
theorem Wd.pushM {h₀ : Heap} {L : Addr} {e : Env} {h : Heap} {m : Loc} {μ ν : Led} (W : Wd h₀ L e h m μ ν) (o : Obj) (hf : o.isFreed = false) : Wd h₀ L e (h.push o) m ((h.objs.size, o) :: μ) ν := by
  have W' := W.push o hf
  have lt : ∀ p ∈ μ ++ ν, p.1 < h.objs.size := fun p hp => Heap.lt_size (W.news p hp).1
  have mem : ∀ {p}, p ∈ ((h.objs.size, o) :: μ) ++ ν → p ∈ μ ++ (h.objs.size, o) :: ν := by
    intro p hp; simp only [List.mem_append, List.mem_cons] at hp ⊢; rcases hp with (y | y) | y <;> simp [y]
  refine ⟨W'.fr, W'.ns, fun p hp => W'.news p (mem hp), fun p hp => W'.off p (mem hp), fun p hp q hq => ?_, ?_⟩
  · rcases List.mem_cons.mp hp with rfl | hp
    · exact Nat.ne_of_gt (lt q (List.mem_append_right _ hq))
    · exact W.apart p hp q hq
  · rw [List.map_cons, List.nodup_cons]
    refine ⟨fun hm => ?_, W.nodup⟩
    obtain ⟨p, hp, e1⟩ := List.mem_map.mp hm
    exact absurd (lt p (List.mem_append_left _ hp)) (by rw [e1]; exact Nat.lt_irrefl _)
theorem Go.pushM {e : Env} {L : Addr} {h : Heap} {μ ν : Led} (o : Obj) : Go e L h μ ν (h.push o) ((h.objs.size, o) :: μ) ν :=
  ⟨fun _ _ _ _ _ x => Heap.get?_push_of_some _ x, fun p hp => by
    rcases List.mem_cons.mp hp with rfl | hp
    · exact .inr (.inl (none_at_size h))
    · exact .inl ⟨p, hp, rfl⟩, fun p hp => .inl hp, fun p hp => hp, fun _ _ n => n.push _⟩

/-- the frame's names alone are changed -/
theorem Wd.store {h₀ : Heap} {L : Addr} {e : Env} {h h' : Heap} {m m' : Loc} {μ ν : Led} (W : Wd h₀ L e h m μ ν) (hfr : h₀.get? e.locals = none) (hn : h'.Ns e.locals m') (hs : Heap.SameBut e.locals h h') : Wd h₀ L e h' m' μ ν := by
  obtain ⟨mf, F⟩ := W.fr
  refine ⟨?_, hn, fun p hp => ⟨(hs.2 _ (W.off p hp)).trans (W.news p hp).1, (W.news p hp).2⟩, W.off, W.apart, W.nodup⟩
  have keep : ∀ b o, h₀.get? b = some o → h'.get? b = some o := fun b o e1 => (hs.2 b fun e2 => by rw [e2, hfr] at e1; cases e1).trans (F.keep b o e1)
  by_cases hL : L = e.locals
  · exact ⟨m', ⟨hL ▸ hn, keep, F.above⟩⟩
  · exact ⟨mf, ⟨F.ns.sameBut hs hL, keep, F.above⟩⟩
theorem Go.store {e : Env} {L : Addr} {h h' : Heap} {μ ν : Led} (hs : Heap.SameBut e.locals h h') : Go e L h μ ν h' μ ν :=
  ⟨fun b _ hb _ _ x => (hs.2 b hb).trans x, fun p hp => .inl ⟨p, hp, rfl⟩, fun p hp => .inl hp, fun p hp => hp, fun _ hl n => n.sameBut hs (Ne.symm hl)⟩

/-- the first mutable object is changed -/
theorem Wd.upd {h₀ : Heap} {L : Addr} {e : Env} {h h' : Heap} {m : Loc} {a : Addr} {o o' : Obj} {μ ν : Led} (W : Wd h₀ L e h m ((a, o) :: μ) ν) (hs : Heap.SameBut a h h') (ho : h'.get? a = some o') : Wd h₀ L e h' m ((a, o') :: μ) ν := by
  obtain ⟨mf, F⟩ := W.fr
  have N := W.news (a, o) (List.mem_append_left _ (List.mem_cons_self ..))
  have O := W.off (a, o) (List.mem_append_left _ (List.mem_cons_self ..))
  have nd := W.nodup
  rw [List.map_cons, List.nodup_cons] at nd
  have ne : ∀ p ∈ μ ++ ν, p.1 ≠ a := fun p hp e1 => by
    rcases List.mem_append.mp hp with x | x
    · exact nd.1 (List.mem_map.mpr ⟨p, x, e1⟩)
    · exact W.apart (a, o) (List.mem_cons_self ..) p x e1.symm
  have cut : ∀ {p : Addr × Obj}, p ∈ ((a, o') :: μ) ++ ν → p = (a, o') ∨ p ∈ μ ++ ν := fun hp => List.mem_cons.mp hp
  refine ⟨⟨mf, ⟨F.ns.sameBut hs (Ne.symm N.2.1), fun b x q => (hs.2 b fun e1 => ?_).trans (F.keep b x q), F.above⟩⟩, W.ns.sameBut hs (Ne.symm O), fun p hp => ?_, fun p hp => ?_, fun p hp q hq => ?_, W.nodup⟩
  · have := N.2.2; rw [e1] at q; rw [this] at q; cases q
  · rcases cut hp with rfl | hp
    · exact ⟨ho, N.2⟩
    · have Np := W.news p (List.mem_cons_of_mem _ hp)
      exact ⟨(hs.2 _ (ne p hp)).trans Np.1, Np.2⟩
  · rcases cut hp with rfl | hp
    · exact O
    · exact W.off p (List.mem_cons_of_mem _ hp)
  · rcases List.mem_cons.mp hp with rfl | hp
    · exact W.apart (a, o) (List.mem_cons_self ..) q hq
    · exact W.apart p (List.mem_cons_of_mem _ hp) q hq
theorem Go.upd {e : Env} {L : Addr} {h h' : Heap} {a : Addr} {o o' : Obj} {μ ν : Led} (hL : a ≠ L) (hs : Heap.SameBut a h h') : Go e L h ((a, o) :: μ) ν h' ((a, o') :: μ) ν :=
  ⟨fun b _ _ _ hm x => (hs.2 b (Ne.symm (hm (a, o) (List.mem_cons_self ..)))).trans x, fun p hp => by
    rcases List.mem_cons.mp hp with rfl | hp
    · exact .inl ⟨(a, o), List.mem_cons_self .., rfl⟩
    · exact .inl ⟨p, List.mem_cons_of_mem _ hp, rfl⟩, fun p hp => .inl hp, fun p hp => hp, fun _ _ n => n.sameBut hs (Ne.symm hL)⟩

/-- two mutable objects change places -/
theorem T_swap {C : Cx} {k : Nat} {e fe : Env} {α : Type} {t : Sem α} {m : Loc} {x y : Addr × Obj} {μ ν : Led} {P : α → Loc → Led → Led → Prop}
    (h : T C k e fe t m (x :: y :: μ) ν P) : T C k e fe t m (y :: x :: μ) ν P := by
  intro A A₀ base h₀ outer L s Q a W q
  have mem : ∀ {p}, p ∈ x :: y :: μ ↔ p ∈ y :: x :: μ := by
    intro p; simp only [List.mem_cons]
    constructor <;> (rintro (h | h | h) <;> simp [h])
  have W1 : Wd h₀ L e s.heap m (x :: y :: μ) ν := ⟨W.fr, W.ns, fun p hp => W.news p ((List.mem_append.mp hp).elim (fun z => List.mem_append_left _ (mem.mp z)) fun z => List.mem_append_right _ z), fun p hp => W.off p ((List.mem_append.mp hp).elim (fun z => List.mem_append_left _ (mem.mp z)) fun z => List.mem_append_right _ z), fun p hp r hr => W.apart p (mem.mp hp) r hr, by
    have := W.nodup
    simp only [List.map_cons, List.nodup_cons, List.mem_cons, not_or] at this ⊢
    obtain ⟨⟨h1, h2⟩, h3, h4⟩ := this
    exact ⟨⟨Ne.symm h1, h3⟩, h2, h4⟩⟩
  refine h A A₀ base h₀ outer L s Q a W1 fun v m' μ1 ν1 h' tk' hp W' g => q v m' μ1 ν1 h' tk' hp W' ⟨fun b o hb hb' hμ ho => g.keep b o hb hb' (fun p hp => hμ p (mem.mp hp)) ho, fun p hp => ?_, fun p hp => ?_, g.sub, g.lk⟩
  · rcases g.mu p hp with ⟨r, hr, e2⟩ | h3
    · exact .inl ⟨r, mem.mp hr, e2⟩
    · exact .inr h3
  · rcases g.nu p hp with h3 | ⟨r, hr, e2⟩ | h3
    · exact .inl h3
    · exact .inr (.inl ⟨r, mem.mp hr, e2⟩)
    · exact .inr (.inr h3)

/-- nothing that stood is changed -/
theorem Wd.ext {h₀ : Heap} {L : Addr} {e : Env} {h h' : Heap} {m : Loc} {μ ν : Led} (W : Wd h₀ L e h m μ ν) (hk : ∀ b o, h.get? b = some o → h'.get? b = some o) : Wd h₀ L e h' m μ ν := by
  obtain ⟨mf, F⟩ := W.fr
  refine ⟨⟨mf, ⟨F.ns.keeps hk, fun b o x => hk b o (F.keep b o x), F.above⟩⟩, W.ns.keeps hk, fun p hp => ⟨hk _ _ (W.news p hp).1, (W.news p hp).2⟩, W.off, W.apart, W.nodup⟩
theorem Go.ext {e : Env} {L : Addr} {h h' : Heap} {μ ν : Led} (hk : ∀ b o, h.get? b = some o → h'.get? b = some o) : Go e L h μ ν h' μ ν :=
  ⟨fun b o _ _ _ x => hk b o x, fun p hp => .inl ⟨p, hp, rfl⟩, fun p hp => .inl hp, fun p hp => hp, fun _ _ n => n.keeps hk⟩

def allNews (h₀ : Heap) (L : Addr) (h : Heap) : Led := (List.range h.objs.size).filterMap fun b => if b = L then none else if (h₀.get? b).isSome then none else (h.get? b).map fun o => (b, o)
theorem mem_allNews {h₀ : Heap} {L : Addr} {h : Heap} {b : Addr} {o : Obj} (hb : b ≠ L) (h0 : h₀.get? b = none) (ho : h.get? b = some o) : (b, o) ∈ allNews h₀ L h :=
  List.mem_filterMap.mpr ⟨b, List.mem_range.mpr (Heap.lt_size ho), by simp [hb, h0, ho]⟩
theorem news_all {h₀ : Heap} {L : Addr} {h : Heap} : News h₀ L h (allNews h₀ L h) := by
  intro p hp
  obtain ⟨b, hb, e⟩ := List.mem_filterMap.mp hp
  by_cases h1 : b = L
  · simp [h1] at e
  cases h2 : h₀.get? b with
  | some x => simp [h1, h2] at e
  | none =>
    cases h3 : h.get? b with
    | none => simp [h1, h2, h3] at e
    | some o =>
      have : (b, o) = p := by simpa [h1, h2, h3] using e
      subst this
      exact ⟨h3, h1, h2⟩

/-- a rule of the library that speaks of a frame and of a ledger -/
theorem Wd.lift {h₀ : Heap} {L : Addr} {e : Env} {h : Heap} {m : Loc} {μ ν : Led} (W : Wd h₀ L e h m μ ν) (hf : h₀.get? e.locals = none) :
    ∃ mf, Fr h₀ L h mf ∧ News h₀ L h (allNews h₀ L h) ∧
      ∀ h' N', Fr h₀ L h' mf → News h₀ L h' N' → (∀ p ∈ allNews h₀ L h, p ∈ N') → Wd h₀ L e h' m μ ν ∧ Go e L h μ ν h' μ ν := by
  have main : ∀ mf, Fr h₀ L h mf → (e.locals = L → mf = m) → ∃ mf, Fr h₀ L h mf ∧ News h₀ L h (allNews h₀ L h) ∧
      ∀ h' N', Fr h₀ L h' mf → News h₀ L h' N' → (∀ p ∈ allNews h₀ L h, p ∈ N') → Wd h₀ L e h' m μ ν ∧ Go e L h μ ν h' μ ν := by
    intro mf F hm
    refine ⟨mf, F, news_all, fun h' N' F' N hs => ?_⟩
    have keep : ∀ b o, b ≠ L → h.get? b = some o → h'.get? b = some o := by
      intro b o hb ho
      cases h0 : h₀.get? b with
      | some o' =>
        have := F.keep b o' h0
        rw [ho] at this
        have e1 := Option.some.inj this
        subst e1
        exact F'.keep b o h0
      | none => exact (N _ (hs _ (mem_allNews hb h0 ho))).1
    refine ⟨⟨⟨mf, F'⟩, ?_, fun p hp => ⟨keep _ _ (W.news p hp).2.1 (W.news p hp).1, (W.news p hp).2⟩, W.off, W.apart, W.nodup⟩, ⟨fun b o _ hb _ ho => keep b o hb ho, fun p hp => .inl ⟨p, hp, rfl⟩, fun p hp => .inl hp, fun p hp => hp, fun mf' _ n => (show mf = mf' from funext fun nm => F.ns.agree n nm) ▸ F'.ns⟩⟩
    by_cases hL : e.locals = L
    · rw [← hm hL, hL]; exact F'.ns
    · obtain ⟨o, es, ep, ho, r⟩ := W.ns
      exact ⟨o, es, ep, keep _ _ hL ho, r⟩
  obtain ⟨mf, F⟩ := W.fr
  by_cases hL : e.locals = L
  · exact main m ⟨hL ▸ W.ns, F.keep, F.above⟩ fun _ => rfl
  · exact main mf F fun x => absurd x hL
end Mine
namespace Mine

theorem Wd.keeps {h₀ : Heap} {L : Addr} {e : Env} {h : Heap} {m : Loc} {μ ν : Led} (W : Wd h₀ L e h m μ ν) : ∀ b o, h₀.get? b = some o → h.get? b = some o := W.fr.elim fun _ F => F.keep
theorem At.K {C : Cx} {k : Nat} {e fe : Env} {A A₀ : Around} {base h₀ h : Heap} {outer : List Env} {L : Addr} {m : Loc} {μ ν : Led} (a : At C k e fe A A₀ base h₀ outer L) (W : Wd h₀ L e h m μ ν) : C.K.In h := a.hK.keeps W.keeps


section
variable {C : Cx} {k : Nat} {e fe : Env} {α β γ δ : Type} {m : Loc} {μ ν : Led}
theorem T_via2 {t : Sem α} {u : Sem δ} {c : α → Sem β} {d : α → β → Sem δ} {P : δ → Loc → Led → Led → Prop}
    (H : ∀ (A : Around) (Q : δ → Shared → Prop) (s : Shared), wpAny (model C.prog C.w) A t (fun a s1 => wpAny (model C.prog C.w) A (c a) (fun b s2 => wpAny (model C.prog C.w) A (d a b) Q (fun _ _ => False) s2) (fun _ _ => False) s1) (fun _ _ => False) s → wpAny (model C.prog C.w) A u Q (fun _ _ => False) s)
    (h : T C k e fe t m μ ν (fun a m1 μ1 ν1 => T C k e fe (c a) m1 μ1 ν1 (fun b m2 μ2 ν2 => T C k e fe (d a b) m2 μ2 ν2 P))) : T C k e fe u m μ ν P :=
  fun A A₀ base h₀ outer L s Q a w q => H A Q s (h A A₀ base h₀ outer L s _ a w fun v m1 μ1 ν1 h1 tk1 p1 w1 g1 =>
    p1 A A₀ base h₀ outer L { s with heap := h1, toks := tk1 } _ a w1 fun v2 m2 μ2 ν2 h2 tk2 p2 w2 g2 =>
      p2 A A₀ base h₀ outer L { s with heap := h2, toks := tk2 } Q a w2 fun v3 m3 μ3 ν3 h3 tk3 p3 w3 g3 => q v3 m3 μ3 ν3 h3 tk3 p3 w3 ((g1.trans g2).trans g3))
theorem T_via3 {t : Sem α} {u : Sem δ} {c : α → Sem β} {d : α → β → Sem γ} {f : α → β → γ → Sem δ} {P : δ → Loc → Led → Led → Prop}
    (H : ∀ (A : Around) (Q : δ → Shared → Prop) (s : Shared), wpAny (model C.prog C.w) A t (fun a s1 => wpAny (model C.prog C.w) A (c a) (fun b s2 => wpAny (model C.prog C.w) A (d a b) (fun x s3 => wpAny (model C.prog C.w) A (f a b x) Q (fun _ _ => False) s3) (fun _ _ => False) s2) (fun _ _ => False) s1) (fun _ _ => False) s → wpAny (model C.prog C.w) A u Q (fun _ _ => False) s)
    (h : T C k e fe t m μ ν (fun a m1 μ1 ν1 => T C k e fe (c a) m1 μ1 ν1 (fun b m2 μ2 ν2 => T C k e fe (d a b) m2 μ2 ν2 (fun x m3 μ3 ν3 => T C k e fe (f a b x) m3 μ3 ν3 P)))) : T C k e fe u m μ ν P :=
  fun A A₀ base h₀ outer L s Q a w q => H A Q s (h A A₀ base h₀ outer L s _ a w fun v m1 μ1 ν1 h1 tk1 p1 w1 g1 =>
    p1 A A₀ base h₀ outer L { s with heap := h1, toks := tk1 } _ a w1 fun v2 m2 μ2 ν2 h2 tk2 p2 w2 g2 =>
      p2 A A₀ base h₀ outer L { s with heap := h2, toks := tk2 } _ a w2 fun v3 m3 μ3 ν3 h3 tk3 p3 w3 g3 =>
        p3 A A₀ base h₀ outer L { s with heap := h3, toks := tk3 } Q a w3 fun v4 m4 μ4 ν4 h4 tk4 p4 w4 g4 => q v4 m4 μ4 ν4 h4 tk4 p4 w4 (((g1.trans g2).trans g3).trans g4))
end

section
variable {C : Cx} {k : Nat} {e fe : Env} {m : Loc} {μ ν : Led} {P : Value → Loc → Led → Led → Prop} {x : PySem.Str} {pos : Pos}

-- names
theorem T_nameL {v : Value} (hk : e.kindOf x = some .local) (hv : m x = some v) (h : P v m μ ν) (hd : (x == ("__debug__" : PySem.Str)) = false := by decide) : T C k e fe (eval (.Name x pos) e) m μ ν P :=
  T_quiet (fun _ => v) (fun _ _ _ _ _ _ s _ a W q => wpAny_Name (wpAny_loadName_local a.kind hk W.ns hv (q 0 s.toks)) hd) fun _ => h
theorem T_loadL {v : Value} (hk : e.kindOf x = some .local) (hv : m x = some v) (h : P v m μ ν) : T C k e fe (loadName e x) m μ ν P :=
  T_quiet (fun _ => v) (fun _ _ _ _ _ _ s _ a W q => wpAny_loadName_local a.kind hk W.ns hv (q 0 s.toks)) fun _ => h
theorem T_nameG {v : Value} (hk : e.kindOf x = some .globalImplicit) (hv : nsIn C.K mainGlobals x = some (some v)) (h : P v m μ ν) (hd : (x == ("__debug__" : PySem.Str)) = false := by decide) : T C k e fe (eval (.Name x pos) e) m μ ν P :=
  T_quiet (fun _ => v) (fun _ _ _ _ _ _ s _ a W q => Name_function_global a.kind hk (loadGlobal_global (by rw [a.globals]; exact a.top.g.keeps W.keeps) (mg_of a.hK a.top.g hv) (q 0 s.toks)) hd) fun _ => h
theorem T_nameB {v : Value} (hk : e.kindOf x = some .globalImplicit) (hv : nsIn C.K mainGlobals x = some none) (hb : bootBuiltins x = some v) (h : P v m μ ν) (hn : x ≠ "__name__" := by decide) (hd : (x == ("__debug__" : PySem.Str)) = false := by decide) : T C k e fe (eval (.Name x pos) e) m μ ν P :=
  T_quiet (fun _ => v) (fun _ _ _ _ _ _ s _ a W q => Name_function_global a.kind hk (loadGlobal_builtin (by rw [a.globals]; exact a.top.g.keeps W.keeps) (mg_none_of a.hK a.top.g hv) (by rw [a.builtins]; exact a.top.b.keeps W.keeps) ((a.top.builtins x hn).trans hb) (q 0 s.toks)) hd) fun _ => h
theorem T_nameCell {v : Value} {c : Addr} {o : Obj} (hk : e.kindOf x = some .cell) (hc : e.cells.lookup x = some c) (hm : (c, o) ∈ ν) (ho : o.data = .cell (some v)) (h : P v m μ ν) (hd : (x == ("__debug__" : PySem.Str)) = false := by decide) : T C k e fe (eval (.Name x pos) e) m μ ν P :=
  T_quiet (fun _ => v) (fun _ _ _ _ _ _ s _ a W q => wpAny_Name (wpAny_loadName_cell a.kind hk hc ⟨o, W.get hm, ho⟩ (q 0 s.toks)) hd) fun _ => h
theorem T_nameFree {v : Value} {c : Addr} {o : Obj} (hk : e.kindOf x = some .free) (hc : e.cells.lookup x = some c) (hm : (c, o) ∈ ν) (ho : o.data = .cell (some v)) (h : P v m μ ν) (hd : (x == ("__debug__" : PySem.Str)) = false := by decide) (hn : (x == ("__classdict__" : PySem.Str)) = false := by decide) : T C k e fe (eval (.Name x pos) e) m μ ν P :=
  T_quiet (fun _ => v) (fun _ _ _ _ _ _ s _ a W q => wpAny_Name (wpAny_loadName_free a.kind hk hc ⟨o, W.get hm, ho⟩ (q 0 s.toks) hn) hd) fun _ => h

-- constants
theorem T_int {i : Int} {k' : Nat} (h : ∀ t, P (.int i t) m μ ν) : T C k e fe (eval (.Constant (.int i) k' pos) e) m μ ν P :=
  T_quiet (fun t => .int i t) (fun _ _ _ _ _ _ s _ a W q => wpAny_Constant_int (q s.toks (s.toks + 1))) h
theorem T_bool {b : Bool} {k' : Nat} (h : P (.bool b) m μ ν) : T C k e fe (eval (.Constant (.bool b) k' pos) e) m μ ν P :=
  T_quiet (fun _ => .bool b) (fun _ _ _ _ _ _ s _ a W q => wpAny_Constant_bool (q 0 s.toks)) fun _ => h


-- the nodes
theorem T_binop {l r : Expr} {op : Operator} (h : T C k e fe (eval l e) m μ ν (K2 C k e fe (eval r e) (binaryOp op) P)) :
    T C k e fe (eval (.BinOp l op r pos) e) m μ ν P := T_via2 (fun _ _ _ H => wpAny_BinOp H) h
theorem T_cmp {l r : Expr} {op : CmpOp} (h : T C k e fe (eval l e) m μ ν (K2 C k e fe (eval r e) (compareOp op) P))
    (hm : behindInMarks op r = false := by with_unfolding_all rfl) : T C k e fe (eval (.Compare l [op] [r] pos) e) m μ ν P := T_via2 (fun _ _ _ H => wpAny_Compare1 H hm) h
theorem T_unop {x : Expr} {op : UnaryOp} (h : T C k e fe (eval x e) m μ ν (Nx C k e fe (unaryOp op) P)) : T C k e fe (eval (.UnaryOp op x pos) e) m μ ν P := T_via (fun _ _ _ H => wpAny_UnaryOp H) h
theorem T_ifexp {t b o : Expr} (h : T C k e fe (isTrue t e (eval t e)) m μ ν (KIf C k e fe (eval b e) (eval o e) P)) : T C k e fe (eval (.IfExp t b o pos) e) m μ ν P :=
  T_via (fun _ _ _ H => wpAny_IfExp (wpAny_mono H (fun c _ hc => by cases c <;> exact hc) fun _ _ x => x)) h
theorem T_and2 {x y : Expr} (h : T C k e fe (eval x e) m μ ν (fun v m1 μ1 ν1 => T C k e fe (truthy v) m1 μ1 ν1 (fun t m2 μ2 ν2 => (t = true → T C k e fe (eval y e) m2 μ2 ν2 P) ∧ (t = false → P v m2 μ2 ν2)))) : T C k e fe (eval (.BoolOp .And [x, y] pos) e) m μ ν P :=
  fun A A₀ base h₀ outer L s Q a w q => wpAny_And2 (h A A₀ base h₀ outer L s _ a w fun v m1 μ1 ν1 h1 tk1 p1 w1 g1 =>
    p1 A A₀ base h₀ outer L { s with heap := h1, toks := tk1 } _ a w1 fun t m2 μ2 ν2 h2 tk2 p2 w2 g2 => by
      cases t
      · exact q _ m2 μ2 ν2 h2 tk2 (p2.2 rfl) w2 (g1.trans g2)
      · exact p2.1 rfl A A₀ base h₀ outer L { s with heap := h2, toks := tk2 } _ a w2 fun v2 m3 μ3 ν3 h3 tk3 p3 w3 g3 => q _ m3 μ3 ν3 h3 tk3 p3 w3 ((g1.trans g2).trans g3))
theorem T_subscript {v s : Expr} (h : T C k e fe (eval v e) m μ ν (K2 C k e fe (eval s e) (subscriptTail v s) P)) : T C k e fe (eval (.Subscript v s pos) e) m μ ν P :=
  T_via2 (fun _ _ _ H => Subscript_ H) h
theorem T_call {f : Expr} {args : List Expr} (h : T C k e fe (eval f e) m μ ν (KC C k e fe pos args P))
    (he : eval (.Call f args [] pos) e = (do callWith pos (← eval f e) [] (backTo pos (starEach args e)) (backToKw pos (keywordEach [] e))) := by rfl) : T C k e fe (eval (.Call f args [] pos) e) m μ ν P :=
  T_via (fun _ _ _ H => Call_ H he) h
theorem T_tuple {es : List Expr} {k' : Nat} (h : T C k e fe (spliced (backTo pos (starEach es e))) m μ ν (Nx C k e fe newTuple P)) : T C k e fe (eval (.Tuple es k' pos) e) m μ ν P := T_via (fun _ _ _ H => Tuple_ H) h
theorem T_list {es : List Expr} (h : T C k e fe (spliced (backTo pos (starEach es e))) m μ ν (Nx C k e fe newList P)) : T C k e fe (eval (.List es pos) e) m μ ν P := T_via (fun _ _ _ H => List_ H) h
end
section
variable {C : Cx} {k : Nat} {e fe : Env} {m : Loc} {μ ν : Led} {pos : Pos}
theorem T_args_nil {P : List Value → Loc → Led → Led → Prop} (h : P [] m μ ν) : T C k e fe (spliced (backTo pos (starEach [] e))) m μ ν P :=
  T_quiet (fun _ => []) (fun _ _ _ _ _ _ s _ a W q => args_nil (q 0 s.toks)) fun _ => h
theorem T_args_cons {x : Expr} {rest : List Expr} {P : List Value → Loc → Led → Led → Prop}
    (h : T C k e fe (eval x e) m μ ν (KA C k e fe (spliced (backTo pos (starEach rest e))) P))
    (he : starEach (x :: rest) e = (false, eval x e) :: starEach rest e := by rfl) : T C k e fe (spliced (backTo pos (starEach (x :: rest) e))) m μ ν P :=
  fun A A₀ base h₀ outer L s Q a w q => args_cons (h A A₀ base h₀ outer L s _ a w fun v m1 μ1 ν1 h1 tk1 p1 w1 g1 =>
    p1 A A₀ base h₀ outer L { s with heap := h1, toks := tk1 } _ a w1 fun v2 m2 μ2 ν2 h2 tk2 p2 w2 g2 => q _ m2 μ2 ν2 h2 tk2 p2 w2 (g1.trans g2)) he
-- tests
theorem T_isTrue_cmp {l r : Expr} {op : CmpOp} {whole : Sem Value} {P : Bool → Loc → Led → Led → Prop}
    (h : T C k e fe (eval l e) m μ ν (K2 C k e fe (eval r e) (compareOp op) (Nx C k e fe truthy P)))
    (hm : behindInMarks op r = false := by with_unfolding_all rfl) : T C k e fe (isTrue (.Compare l [op] [r] pos) e whole) m μ ν P := T_via3 (fun _ _ _ H => wpAny_isTrue_Compare1 H hm) h
theorem T_isTrue_val {x : Expr} {whole : Sem Value} {P : Bool → Loc → Led → Led → Prop} (h : T C k e fe whole m μ ν (Nx C k e fe truthy P))
    (he : isTrue x e whole = (do let v ← whole; standAt x.pos; holding [v] (truthy v)) := by rfl) : T C k e fe (isTrue x e whole) m μ ν P := T_via (fun _ _ _ H => wpAny_isTrue_value H he) h
theorem T_isTrue_bool {op : BoolOp} {vs : List Expr} {whole : Sem Value} {P : Bool → Loc → Led → Led → Prop} (h : T C k e fe (allTrue op vs e) m μ ν P) : T C k e fe (isTrue (.BoolOp op vs pos) e whole) m μ ν P := T_same (fun _ _ _ H => wpAny_isTrue_BoolOp H) h
theorem T_all_nil {P : Bool → Loc → Led → Led → Prop} (h : P true m μ ν) : T C k e fe (allTrue .And [] e) m μ ν P := T_quiet (fun _ => true) (fun _ _ _ _ _ _ s _ a W q => wpAny_allTrue_And_nil (q 0 s.toks)) fun _ => h
theorem T_any_nil {P : Bool → Loc → Led → Led → Prop} (h : P false m μ ν) : T C k e fe (allTrue .Or [] e) m μ ν P := T_quiet (fun _ => false) (fun _ _ _ _ _ _ s _ a W q => wpAny_allTrue_Or_nil (q 0 s.toks)) fun _ => h
theorem T_all_cons {x : Expr} {rest : List Expr} {P : Bool → Loc → Led → Led → Prop} (h : T C k e fe (isTrue x e (eval x e)) m μ ν (fun b m1 μ1 ν1 => (b = true → T C k e fe (allTrue .And rest e) m1 μ1 ν1 P) ∧ (b = false → P false m1 μ1 ν1))) : T C k e fe (allTrue .And (x :: rest) e) m μ ν P :=
  fun A A₀ base h₀ outer L s Q a w q => wpAny_allTrue_And_cons (h A A₀ base h₀ outer L s _ a w fun b m1 μ1 ν1 h1 tk1 p1 w1 g1 => by
    cases b
    · exact q _ m1 μ1 ν1 h1 tk1 (p1.2 rfl) w1 g1
    · exact p1.1 rfl A A₀ base h₀ outer L { s with heap := h1, toks := tk1 } _ a w1 fun v2 m2 μ2 ν2 h2 tk2 p2 w2 g2 => q _ m2 μ2 ν2 h2 tk2 p2 w2 (g1.trans g2))
theorem T_any_cons {x : Expr} {rest : List Expr} {P : Bool → Loc → Led → Led → Prop} (h : T C k e fe (isTrue x e (eval x e)) m μ ν (fun b m1 μ1 ν1 => (b = true → P true m1 μ1 ν1) ∧ (b = false → T C k e fe (allTrue .Or rest e) m1 μ1 ν1 P))) : T C k e fe (allTrue .Or (x :: rest) e) m μ ν P :=
  fun A A₀ base h₀ outer L s Q a w q => wpAny_allTrue_Or_cons (h A A₀ base h₀ outer L s _ a w fun b m1 μ1 ν1 h1 tk1 p1 w1 g1 => by
    cases b
    · exact p1.2 rfl A A₀ base h₀ outer L { s with heap := h1, toks := tk1 } _ a w1 fun v2 m2 μ2 ν2 h2 tk2 p2 w2 g2 => q _ m2 μ2 ν2 h2 tk2 p2 w2 (g1.trans g2)
    · exact q _ m1 μ1 ν1 h1 tk1 (p1.1 rfl) w1 g1)
-- statements
variable {P : Flow → Loc → Led → Led → Prop}
theorem T_nil (h : P .next m μ ν) : T C k e fe (execs [] e) m μ ν P := T_quiet (fun _ => .next) (fun _ _ _ _ _ _ s _ a W q => wpAny_execs_nil (q 0 s.toks)) fun _ => h
theorem T_cons {st : Stmt} {rest : List Stmt} (h : T C k e fe (exec st e) m μ ν (fun f m1 μ1 ν1 => match f with | .next => T C k e fe (execs rest e) m1 μ1 ν1 P | f => P f m1 μ1 ν1)) : T C k e fe (execs (st :: rest) e) m μ ν P :=
  fun A A₀ base h₀ outer L s Q a w q => wpAny_execs_cons (h A A₀ base h₀ outer L s _ a w fun f m1 μ1 ν1 h1 tk1 p1 w1 g1 => by
    cases f
    · exact p1 A A₀ base h₀ outer L { s with heap := h1, toks := tk1 } _ a w1 fun v2 m2 μ2 ν2 h2 tk2 p2 w2 g2 => q _ m2 μ2 ν2 h2 tk2 p2 w2 (g1.trans g2)
    all_goals exact q _ m1 μ1 ν1 h1 tk1 p1 w1 g1)
theorem T_store {x : PySem.Str} {v : Value} {Q : Unit → Loc → Led → Led → Prop} (hl : e.kindOf x = some .local) (h : Q () (fun y => if y = x then some v else m y) μ ν)
    (hp : (e.scope.kind == .class || (e.scope.kind == .module && e.locals != e.globals)) = false := by rfl) : T C k e fe (storeName e x v) m μ ν Q :=
  fun A A₀ base h₀ outer L s Q a w q => wpAny_storeName_local hl w.ns (fun h' hn hs => q () _ μ ν h' (s.toks + 1) h (w.store a.fresh hn hs) (.store hs)) hp
theorem T_bindName {x : PySem.Str} {v : Value} {Q : Unit → Loc → Led → Led → Prop} (h : T C k e fe (storeName e x v) m μ ν Q) : T C k e fe (bindName e x v) m μ ν Q := T_same (fun _ _ _ H => wpAny_bindName H) h
theorem T_assignName {x : PySem.Str} {pos' : Pos} {val : Expr} (h : T C k e fe (eval val e) m μ ν (KSt C k e fe x P))
    (hs : swapsWith val (some (.Name x pos')) pos.line e = pure false := by rfl) : T C k e fe (exec (.Assign [.Name x pos'] val pos) e) m μ ν P :=
  fun A A₀ base h₀ outer L s Q a w q => wpAny_Assign_Name (h A A₀ base h₀ outer L s _ a w fun v m1 μ1 ν1 h1 tk1 p1 w1 g1 =>
    p1 A A₀ base h₀ outer L { s with heap := h1, toks := tk1 } _ a w1 fun _ m2 μ2 ν2 h2 tk2 p2 w2 g2 => q _ m2 μ2 ν2 h2 tk2 p2 w2 (g1.trans g2)) hs
theorem T_aug {x : PySem.Str} {pos' : Pos} {op : Operator} {val : Expr} (h : T C k e fe (loadName e x) m μ ν (KAu C k e fe op val x P)) :
    T C k e fe (exec (.AugAssign (.Name x pos') op val pos) e) m μ ν P :=
  fun A A₀ base h₀ outer L s Q a w q => wpAny_AugAssign_Name (h A A₀ base h₀ outer L s _ a w fun v0 m0 μ0 ν0 h0 tk0 p0 w0 g0 => p0 A A₀ base h₀ outer L { s with heap := h0, toks := tk0 } _ a w0 fun v m1 μ1 ν1 h1 tk1 p1 w1 g1 =>
    p1 A A₀ base h₀ outer L { s with heap := h1, toks := tk1 } _ a w1 fun _ m2 μ2 ν2 h2 tk2 p2 w2 g2 => p2 A A₀ base h₀ outer L { s with heap := h2, toks := tk2 } _ a w2 fun _ m3 μ3 ν3 h3 tk3 p3 w3 g3 => q _ m3 μ3 ν3 h3 tk3 p3 w3 (((g0.trans g1).trans g2).trans g3))
theorem T_ifst {t : Expr} {b o : List Stmt} (h : T C k e fe (isTrue t e (eval t e)) m μ ν (KIf C k e fe (execs b e) (execs o e) P)) : T C k e fe (exec (.If t b o pos) e) m μ ν P :=
  T_via (fun _ _ _ H => wpAny_If (wpAny_mono H (fun c _ hc => by cases c <;> exact hc) fun _ _ x => x)) h
theorem T_return {x : Expr} (h : T C k e fe (eval x e) m μ ν (fun v => P (.ret v))) : T C k e fe (exec (.Return (some x) pos) e) m μ ν P :=
  fun A A₀ base h₀ outer L s Q a w q => wpAny_Return_some (h A A₀ base h₀ outer L s _ a w fun v m1 μ1 ν1 h1 tk1 p1 w1 g1 => q _ m1 μ1 ν1 h1 tk1 p1 w1 g1)
theorem T_expr {x : Expr} (h : T C k e fe (eval x e) m μ ν (fun v m1 μ1 ν1 => (∀ a, v ≠ .ref a) ∧ P .next m1 μ1 ν1))
    (hi : interactive e = false := by rfl) (hs : swapsWith x none pos.line e = pure false := by rfl) : T C k e fe (exec (.Expr x pos) e) m μ ν P :=
  fun A A₀ base h₀ outer L s Q a w q => wpAny_Expr (h A A₀ base h₀ outer L s _ a w fun v m1 μ1 ν1 h1 tk1 p1 w1 g1 => by
    have hq := q _ m1 μ1 ν1 h1 tk1 p1.2 w1 g1
    cases v <;> first | exact absurd rfl (p1.1 _) | exact hq) hi hs
theorem T_setItem {o i : Expr} {pos' : Pos} {val : Expr} (h : T C k e fe (eval val e) m μ ν (KI1 C k e fe o i P))
    (hs : swapsWith val (some (.Subscript o i pos')) pos.line e = pure false := by rfl) : T C k e fe (exec (.Assign [.Subscript o i pos'] val pos) e) m μ ν P :=
  fun A A₀ base h₀ outer L s Q a w q => wpAny_Assign_Subscript (h A A₀ base h₀ outer L s _ a w fun v0 m0 μ0 ν0 h0 tk0 p0 w0 g0 => p0 A A₀ base h₀ outer L { s with heap := h0, toks := tk0 } _ a w0 fun v m1 μ1 ν1 h1 tk1 p1 w1 g1 =>
    p1 A A₀ base h₀ outer L { s with heap := h1, toks := tk1 } _ a w1 fun _ m2 μ2 ν2 h2 tk2 p2 w2 g2 => p2 A A₀ base h₀ outer L { s with heap := h2, toks := tk2 } _ a w2 fun _ m3 μ3 ν3 h3 tk3 p3 w3 g3 => q _ m3 μ3 ν3 h3 tk3 p3 w3 (((g0.trans g1).trans g2).trans g3)) hs
-- a tuple's names
theorem T_assignT {es : List Expr} {k' : Nat} {tpos : Pos} {val : Expr} (h : T C k e fe (eval val e) m μ ν (KAs C k e fe (.Tuple es k' tpos) P))
    (hs : swapsWithSole [.Tuple es k' tpos] val pos.line e = pure false := by rfl) (hw : swappedStores [.Tuple es k' tpos] val e = pure none := by rfl) : T C k e fe (exec (.Assign [.Tuple es k' tpos] val pos) e) m μ ν P :=
  fun A A₀ base h₀ outer L s Q a w q => Assign_Tuple (h A A₀ base h₀ outer L s _ a w fun v m1 μ1 ν1 h1 tk1 p1 w1 g1 =>
    p1 A A₀ base h₀ outer L { s with heap := h1, toks := tk1 } _ a w1 fun _ m2 μ2 ν2 h2 tk2 p2 w2 g2 => q _ m2 μ2 ν2 h2 tk2 p2 w2 (g1.trans g2)) hs hw
theorem T_assignTS {es : List Expr} {k' : Nat} {tpos : Pos} {val : Expr} {names : List PySem.Str} (hw : swappedStores [.Tuple es k' tpos] val e = pure (some names)) (h : T C k e fe (eval val e) m μ ν (fun v m1 μ1 ν1 => T C k e fe (unpackItems v names.length none) m1 μ1 ν1 (fun items m2 μ2 ν2 =>
      T C k e fe (assignInOrder (names.reverse.map fun n => bindName e n) items.reverse) m2 μ2 ν2 (fun _ => P .next))))
    (hs : swapsWithSole [.Tuple es k' tpos] val pos.line e = pure false := by rfl) : T C k e fe (exec (.Assign [.Tuple es k' tpos] val pos) e) m μ ν P :=
  fun A A₀ base h₀ outer L s Q a w q => Assign_Tuple_swapped (h A A₀ base h₀ outer L s _ a w fun v0 m0 μ0 ν0 h0 tk0 p0 w0 g0 => p0 A A₀ base h₀ outer L { s with heap := h0, toks := tk0 } _ a w0 fun v m1 μ1 ν1 h1 tk1 p1 w1 g1 =>
    p1 A A₀ base h₀ outer L { s with heap := h1, toks := tk1 } _ a w1 fun _ m2 μ2 ν2 h2 tk2 p2 w2 g2 => q _ m2 μ2 ν2 h2 tk2 p2 w2 ((g0.trans g1).trans g2)) hs hw
theorem T_inOrder_nil {Q : Unit → Loc → Led → Led → Prop} {xs : List Value} (h : Q () m μ ν) : T C k e fe (assignInOrder [] xs) m μ ν Q := T_quiet (fun _ => ()) (fun _ _ _ _ _ _ s _ a W q => by cases xs <;> exact wpAny_pure (q 0 s.toks)) fun _ => h
theorem T_inOrder_cons {t : Value → Sem Unit} {ts : List (Value → Sem Unit)} {x : Value} {xs : List Value} {Q : Unit → Loc → Led → Led → Prop} (h : T C k e fe (t x) m μ ν (fun _ m1 μ1 ν1 => T C k e fe (assignInOrder ts xs) m1 μ1 ν1 Q)) :
    T C k e fe (assignInOrder (t :: ts) (x :: xs)) m μ ν Q :=
  T_via (c := fun _ => assignInOrder ts xs) (fun _ _ _ H => by show wpAny _ _ (do holding xs (t x); assignInOrder ts xs) _ _ _; exact wpAny_bind (wpAny_holding H)) h
theorem T_assign1 {x : PySem.Str} {v : Value} {Q : Unit → Loc → Led → Led → Prop} (h : T C k e fe (storeName e x v) m μ ν Q) : T C k e fe (assign (.Name x pos) e v) m μ ν Q := T_same (fun _ _ _ H => PyProof.Rows.assign_Name H) h
end
end Mine
namespace Mine

abbrev lo (vs : List Value) (n : Nat) : Obj := { cls := .type "list", data := .seq vs.toArray n }
abbrev tu (vs : List Value) (n : Nat) : Obj := { cls := .type "tuple", data := .seq vs.toArray n }

theorem isL_lo {h : Heap} {a : Addr} {vs : List Value} {n : Nat} (e : h.get? a = some (lo vs n)) : h.IsList a vs.toArray := ⟨_, e, rfl, n, rfl⟩
theorem isT_tu {h : Heap} {a : Addr} {vs : List Value} {n : Nat} (e : h.get? a = some (tu vs n)) : IsTup h a vs.toArray := ⟨_, e, rfl, n, rfl⟩
theorem isT_tu' {h : Heap} {a : Addr} {vs : List Value} {n : Nat} (e : h.get? a = some (tu vs n)) : h.IsTuple a vs.toArray := ⟨_, e, rfl, n, rfl⟩

theorem Wd.all {h₀ : Heap} {L : Addr} {e : Env} {h : Heap} {m : Loc} {μ ν : Led} (W : Wd h₀ L e h m μ ν) {a : Addr} {o : Obj} (hm : (a, o) ∈ μ ++ ν) : h.get? a = some o := (W.news (a, o) hm).1

/-- an object that came to be is known -/
theorem Wd.add {h₀ : Heap} {L : Addr} {e : Env} {h : Heap} {m : Loc} {μ ν : Led} (W : Wd h₀ L e h m μ ν) {a : Addr} {o : Obj} (ho : h.get? a = some o) (hL : a ≠ L) (h0 : h₀.get? a = none) (he : a ≠ e.locals) (hμ : ∀ p ∈ μ, p.1 ≠ a) : Wd h₀ L e h m μ ((a, o) :: ν) := by
  have mem : ∀ {p}, p ∈ μ ++ (a, o) :: ν → p = (a, o) ∨ p ∈ μ ++ ν := by
    intro p hp; simp only [List.mem_append, List.mem_cons] at hp ⊢; rcases hp with y | y | y <;> simp [y]
  refine ⟨W.fr, W.ns, fun p hp => ?_, fun p hp => ?_, fun p hp q hq => ?_, W.nodup⟩
  · rcases mem hp with rfl | hp
    · exact ⟨ho, hL, h0⟩
    · exact W.news p hp
  · rcases mem hp with rfl | hp
    · exact he
    · exact W.off p hp
  · rcases List.mem_cons.mp hq with rfl | hq
    · exact hμ p hp
    · exact W.apart p hp q hq
theorem Wd.addM {h₀ : Heap} {L : Addr} {e : Env} {h : Heap} {m : Loc} {μ ν : Led} (W : Wd h₀ L e h m μ ν) {a : Addr} {o : Obj} (ho : h.get? a = some o) (hL : a ≠ L) (h0 : h₀.get? a = none) (he : a ≠ e.locals) (hμ : ∀ p ∈ μ ++ ν, p.1 ≠ a) : Wd h₀ L e h m ((a, o) :: μ) ν := by
  have mem : ∀ {p}, p ∈ ((a, o) :: μ) ++ ν → p = (a, o) ∨ p ∈ μ ++ ν := fun hp => List.mem_cons.mp hp
  refine ⟨W.fr, W.ns, fun p hp => ?_, fun p hp => ?_, fun p hp q hq => ?_, ?_⟩
  · rcases mem hp with rfl | hp
    · exact ⟨ho, hL, h0⟩
    · exact W.news p hp
  · rcases mem hp with rfl | hp
    · exact he
    · exact W.off p hp
  · rcases List.mem_cons.mp hp with rfl | hp
    · exact (hμ q (List.mem_append_right _ hq)).symm
    · exact W.apart p hp q hq
  · rw [List.map_cons, List.nodup_cons]
    refine ⟨fun hm => ?_, W.nodup⟩
    obtain ⟨p, hp, e1⟩ := List.mem_map.mp hm
    exact hμ p (List.mem_append_left _ hp) e1
theorem Go.add {e : Env} {L : Addr} {h h' : Heap} {μ ν : Led} (g : Go e L h μ ν h' μ ν) {a : Addr} {o : Obj} (ha : h.get? a = none) : Go e L h μ ν h' μ ((a, o) :: ν) :=
  ⟨g.keep, g.mu, fun p hp => by
    rcases List.mem_cons.mp hp with rfl | hp
    · exact .inr (.inr (.inl ha))
    · exact .inl hp, fun p hp => List.mem_cons_of_mem _ hp, g.lk⟩
theorem Go.addM {e : Env} {L : Addr} {h h' : Heap} {μ ν : Led} (g : Go e L h μ ν h' μ ν) {a : Addr} {o : Obj} (ha : h.get? a = none) : Go e L h μ ν h' ((a, o) :: μ) ν :=
  ⟨g.keep, fun p hp => by
    rcases List.mem_cons.mp hp with rfl | hp
    · exact .inr (.inl ha)
    · exact .inl ⟨p, hp, rfl⟩, fun p hp => .inl hp, fun p hp => hp, g.lk⟩
theorem Wd.lt {h₀ : Heap} {L : Addr} {e : Env} {h : Heap} {m : Loc} {μ ν : Led} (W : Wd h₀ L e h m μ ν) : ∀ p ∈ μ ++ ν, p.1 < h.objs.size := fun p hp => Heap.lt_size (W.news p hp).1
theorem Wd.ltL {h₀ : Heap} {L : Addr} {e : Env} {h : Heap} {m : Loc} {μ ν : Led} (W : Wd h₀ L e h m μ ν) : L < h.objs.size := W.fr.elim fun _ F => F.ns.lt
theorem Wd.none_size {h₀ : Heap} {L : Addr} {e : Env} {h : Heap} {m : Loc} {μ ν : Led} (W : Wd h₀ L e h m μ ν) {b : Addr} (hb : h.objs.size ≤ b) : h₀.get? b = none := by
  cases x : h₀.get? b with
  | none => rfl
  | some o => exact absurd (Heap.lt_size (W.keeps b o x)) (Nat.not_lt.mpr hb)

section
variable {C : Cx} {k : Nat} {e fe : Env} {m : Loc} {μ ν : Led} {P : Value → Loc → Led → Led → Prop} {x : PySem.Str} {pos : Pos} {a b : Int} {t u : Tok}

-- ints
theorem T_add (h : ∀ t, P (.int (a + b) t) m μ ν) : T C k e fe (binaryOp .Add (.int a t) (.int b u)) m μ ν P := T_quiet (fun t => .int (a + b) t) (fun _ _ _ _ _ _ s _ _ _ q => add_int (q s.toks (s.toks + 1))) h
theorem T_iadd (h : ∀ t, P (.int (a + b) t) m μ ν) : T C k e fe (inplaceOp .Add (.int a t) (.int b u)) m μ ν P := T_quiet (fun t => .int (a + b) t) (fun _ _ _ _ _ _ s _ _ _ q => iadd_int (q s.toks (s.toks + 1))) h
theorem T_sub (h : ∀ t, P (.int (a - b) t) m μ ν) : T C k e fe (binaryOp .Sub (.int a t) (.int b u)) m μ ν P := T_quiet (fun t => .int (a - b) t) (fun _ _ _ _ _ _ s _ _ _ q => sub_int (q s.toks (s.toks + 1))) h
theorem T_isub (h : ∀ t, P (.int (a - b) t) m μ ν) : T C k e fe (inplaceOp .Sub (.int a t) (.int b u)) m μ ν P := T_quiet (fun t => .int (a - b) t) (fun _ _ _ _ _ _ s _ _ _ q => isub_int (q s.toks (s.toks + 1))) h
theorem T_mul (hm : IntMulOk a b) (h : ∀ t, P (.int (a * b) t) m μ ν) : T C k e fe (binaryOp .Mult (.int a t) (.int b u)) m μ ν P := T_quiet (fun t => .int (a * b) t) (fun _ _ _ _ _ _ s _ _ _ q => mul_int (q s.toks (s.toks + 1)) hm) h
theorem T_fdiv (hb : 0 < b) (hs : b < 1073741824) (h : ∀ t, P (.int (a / b) t) m μ ν) : T C k e fe (binaryOp .FloorDiv (.int a t) (.int b u)) m μ ν P :=
  T_quiet (fun t => .int (a / b) t) (fun _ _ _ _ _ _ s _ _ _ q => floordiv_int (by omega) (by rw [Int.fdiv_eq_ediv_of_nonneg _ (by omega)]; exact q s.toks (s.toks + 1)) (.inl (PyProof.noPylong_small (by omega)))) h
theorem T_fmod (hb : 0 < b) (h : ∀ t, P (.int (a % b) t) m μ ν) : T C k e fe (binaryOp .Mod (.int a t) (.int b u)) m μ ν P :=
  T_quiet (fun t => .int (a % b) t) (fun _ _ _ _ _ _ s _ _ _ q => mod_int' (by omega) (by rw [Int.fmod_eq_emod_of_nonneg _ (by omega)]; exact q s.toks (s.toks + 1))) h
theorem T_imod (hb : 0 < b) (h : ∀ t, P (.int (a % b) t) m μ ν) : T C k e fe (inplaceOp .Mod (.int a t) (.int b u)) m μ ν P :=
  T_quiet (fun t => .int (a % b) t) (fun _ _ _ _ _ _ s _ _ _ q => imod_int (by omega) (by rw [Int.fmod_eq_emod_of_nonneg _ (by omega)]; exact q s.toks (s.toks + 1))) h
theorem T_shl (hb : 0 ≤ b) (hb2 : b ≤ 1000000) (ha : a.natAbs < 2 ^ 64) (h : ∀ t, P (.int (a * 2 ^ b.toNat) t) m μ ν) : T C k e fe (binaryOp .LShift (.int a t) (.int b u)) m μ ν P :=
  T_quiet (fun t => .int (a * 2 ^ b.toNat) t) (fun _ _ _ _ _ _ s _ _ _ q => lshift_int_small hb hb2 ha (q s.toks (s.toks + 1))) h
theorem T_pow (hb : 0 ≤ b) (hb2 : b ≤ 1000000) (ha : a.natAbs < 2 ^ 64) (h : ∀ t, P (.int (a ^ b.toNat) t) m μ ν) : T C k e fe (binaryOp .Pow (.int a t) (.int b u)) m μ ν P :=
  T_quiet (fun t => .int (a ^ b.toNat) t) (fun _ _ _ _ _ _ s _ _ _ q => pow_int_small hb hb2 ha (q s.toks (s.toks + 1))) h
theorem pow_nn (n : Nat) : (0 : Int) ≤ 2 ^ n := Int.le_of_lt (Int.pow_pos (by decide))
theorem T_shr (hb : 0 ≤ b) (h : ∀ t, P (.int (a / 2 ^ b.toNat) t) m μ ν) : T C k e fe (binaryOp .RShift (.int a t) (.int b u)) m μ ν P :=
  T_quiet (fun t => .int (a / 2 ^ b.toNat) t) (fun _ _ _ _ _ _ s _ _ _ q => rshift_int hb (by rw [Int.fdiv_eq_ediv_of_nonneg _ (pow_nn _)]; exact q s.toks (s.toks + 1))) h
theorem T_ishr (hb : 0 ≤ b) (h : ∀ t, P (.int (a / 2 ^ b.toNat) t) m μ ν) : T C k e fe (inplaceOp .RShift (.int a t) (.int b u)) m μ ν P :=
  T_quiet (fun t => .int (a / 2 ^ b.toNat) t) (fun _ _ _ _ _ _ s _ _ _ q => irshift_int hb (by rw [Int.fdiv_eq_ediv_of_nonneg _ (pow_nn _)]; exact q s.toks (s.toks + 1))) h
theorem bitAnd_mask {a : Int} {n : Nat} (ha : 0 ≤ a) : Builtin.bitAnd a (2 ^ n - 1) = a % 2 ^ n := by
  obtain ⟨x, rfl⟩ := Int.eq_ofNat_of_zero_le ha
  have e : (2 : Int) ^ n - 1 = ((2 ^ n - 1 : Nat) : Int) := by
    have h1 : 1 ≤ 2 ^ n := Nat.one_le_two_pow
    rw [Int.ofNat_sub h1]; push_cast; rfl
  rw [e]
  unfold Builtin.bitAnd
  simp only [Int.natCast_nonneg, decide_true, Int.toNat_natCast, Nat.and_two_pow_sub_one_eq_mod]
  norm_cast
theorem T_mask {n : Nat} (hb : b = 2 ^ n - 1) (ha : 0 ≤ a) (h : ∀ t, P (.int (a % 2 ^ n) t) m μ ν) : T C k e fe (binaryOp .BitAnd (.int a t) (.int b u)) m μ ν P :=
  T_quiet (fun t => .int (a % 2 ^ n) t) (fun _ _ _ _ _ _ s _ _ _ q => and_int (by rw [hb, bitAnd_mask ha]; exact q s.toks (s.toks + 1))) h
theorem bitOr_nat (x y : Nat) : Builtin.bitOr x y = ((x ||| y : Nat) : Int) := by
  unfold Builtin.bitOr Builtin.bitAnd Builtin.bitNot
  have h1 : decide ((0 : Int) ≤ -(x : Int) - 1) = false := by simp; omega
  have h2 : decide ((0 : Int) ≤ -(y : Int) - 1) = false := by simp; omega
  simp only [h1, h2]
  have e1 : (-(-(x : Int) - 1) - 1).toNat = x := by omega
  have e2 : (-(-(y : Int) - 1) - 1).toNat = y := by omega
  rw [e1, e2]; omega
theorem or_low {x y n : Nat} (hy : y < 2 ^ n) : (x * 2 ^ n) ||| y = x * 2 ^ n + y := by
  rw [Nat.mul_comm]
  exact (Nat.two_pow_add_eq_or_of_lt hy x).symm
theorem bitOr_low {a b : Int} {n : Nat} (ha : 0 ≤ a) (hb : 0 ≤ b) (hn : b < 2 ^ n) (hd : ∃ c, a = c * 2 ^ n) : Builtin.bitOr a b = a + b := by
  obtain ⟨c, rfl⟩ := hd
  obtain ⟨y, rfl⟩ := Int.eq_ofNat_of_zero_le hb
  have hp : (0 : Int) < 2 ^ n := Int.pow_pos (by decide)
  have hc : 0 ≤ c := Int.nonneg_of_mul_nonneg_left ha hp
  obtain ⟨z, rfl⟩ := Int.eq_ofNat_of_zero_le hc
  have e : ((z : Int) * 2 ^ n) = ((z * 2 ^ n : Nat) : Int) := by push_cast; rfl
  have hy : y < 2 ^ n := by
    have : ((y : Int)) < ((2 ^ n : Nat) : Int) := by push_cast; exact hn
    exact Int.ofNat_lt.mp this
  rw [e, bitOr_nat, or_low hy]; push_cast; rfl
theorem T_or {n : Nat} (ha : 0 ≤ a) (hb : 0 ≤ b) (hn : b < 2 ^ n) (hd : ∃ c, a = c * 2 ^ n) (h : ∀ t, P (.int (a + b) t) m μ ν) : T C k e fe (binaryOp .BitOr (.int a t) (.int b u)) m μ ν P :=
  T_quiet (fun t => .int (a + b) t) (fun _ _ _ _ _ _ s _ _ _ q => or_int (by rw [bitOr_low ha hb hn hd]; exact q s.toks (s.toks + 1))) h
theorem T_ior {c : Int} (hc : Builtin.bitOr a b = c) (h : ∀ t, P (.int c t) m μ ν) : T C k e fe (inplaceOp .BitOr (.int a t) (.int b u)) m μ ν P :=
  T_quiet (fun t => .int c t) (fun _ _ _ _ _ _ s _ _ _ q => ior_int (by rw [hc]; exact q s.toks (s.toks + 1))) h
theorem T_bor {c : Int} (hc : Builtin.bitOr a b = c) (h : ∀ t, P (.int c t) m μ ν) : T C k e fe (binaryOp .BitOr (.int a t) (.int b u)) m μ ν P :=
  T_quiet (fun t => .int c t) (fun _ _ _ _ _ _ s _ _ _ q => or_int (by rw [hc]; exact q s.toks (s.toks + 1))) h
theorem T_neg (h : ∀ t, P (.int (-a) t) m μ ν) : T C k e fe (unaryOp .USub (.int a t)) m μ ν P := T_quiet (fun t => .int (-a) t) (fun _ _ _ _ _ _ s _ _ _ q => PyProof.Rows.neg_int (q s.toks (s.toks + 1))) h

-- comparisons
theorem T_lt (h : P (.bool (decide (a < b))) m μ ν) : T C k e fe (compareOp .Lt (.int a t) (.int b u)) m μ ν P := T_quiet (fun _ => _) (fun _ _ _ _ _ _ s _ _ _ q => lt_int (q 0 s.toks)) fun _ => h
theorem T_le (h : P (.bool (decide (a ≤ b))) m μ ν) : T C k e fe (compareOp .LtE (.int a t) (.int b u)) m μ ν P := T_quiet (fun _ => _) (fun _ _ _ _ _ _ s _ _ _ q => PyProof.Rows.le_int (q 0 s.toks)) fun _ => h
theorem T_gt (h : P (.bool (decide (b < a))) m μ ν) : T C k e fe (compareOp .Gt (.int a t) (.int b u)) m μ ν P := T_quiet (fun _ => _) (fun _ _ _ _ _ _ s _ _ _ q => PyProof.Rows.gt_int (q 0 s.toks)) fun _ => h
theorem T_eq (h : P (.bool (decide (a = b))) m μ ν) : T C k e fe (compareOp .Eq (.int a t) (.int b u)) m μ ν P := T_quiet (fun _ => _) (fun _ _ _ _ _ _ s _ _ _ q => PyProof.Rows.eq_int (by rw [show (a == b) = decide (a = b) by by_cases h : a = b <;> simp [h]]; exact q 0 s.toks)) fun _ => h
theorem T_ne (h : P (.bool (decide (a ≠ b))) m μ ν) : T C k e fe (compareOp .NotEq (.int a t) (.int b u)) m μ ν P := T_quiet (fun _ => _) (fun _ _ _ _ _ _ s _ _ _ q => PyProof.Rows.ne_int (by rw [show (a != b) = decide (a ≠ b) by by_cases h : a = b <;> simp [h, bne]]; exact q 0 s.toks)) fun _ => h
theorem T_eqb {c d : Bool} (h : P (.bool (decide (c = d))) m μ ν) : T C k e fe (compareOp .Eq (.bool c) (.bool d)) m μ ν P := T_quiet (fun _ => _) (fun _ _ _ _ _ _ s _ _ _ q => PyProof.Rows.eq_bool (by rw [show (c == d) = decide (c = d) by cases c <;> cases d <;> rfl]; exact q 0 s.toks)) fun _ => h
theorem T_neb {c d : Bool} (h : P (.bool (decide (c ≠ d))) m μ ν) : T C k e fe (compareOp .NotEq (.bool c) (.bool d)) m μ ν P := T_quiet (fun _ => _) (fun _ _ _ _ _ _ s _ _ _ q => PyProof.Rows.ne_bool (by rw [show (c != d) = decide (c ≠ d) by cases c <;> cases d <;> rfl]; exact q 0 s.toks)) fun _ => h
theorem T_truthy {c : Bool} {P : Bool → Loc → Led → Led → Prop} (h : P c m μ ν) : T C k e fe (truthy (.bool c)) m μ ν P := T_quiet (fun _ => _) (fun _ _ _ _ _ _ s _ _ _ q => wpAny_truthy_bool (q 0 s.toks)) fun _ => h
theorem T_truthyI {P : Bool → Loc → Led → Led → Prop} (h : P (decide (a ≠ 0)) m μ ν) : T C k e fe (truthy (.int a t)) m μ ν P := T_quiet (fun _ => _) (fun _ _ _ _ _ _ s _ _ _ q => truthy_int (by rw [show (a != 0) = decide (a ≠ 0) by by_cases h : a = 0 <;> simp [h, bne]]; exact q 0 s.toks)) fun _ => h

-- lists and tuples
variable {l : Addr} {vs : List Value} {n : Nat} {v : Value}
theorem T_len (hm : (l, lo vs n) ∈ μ ++ ν) (hz : vs.length < 2 ^ 62) (h : ∀ t, P (.int vs.length t) m μ ν) : T C k e fe (call (.builtin "len") [.ref l]) m μ ν P :=
  T_quiet (fun t => .int vs.length t) (fun _ _ _ _ _ _ s _ _ W q => len_list (isL_lo (W.all hm)) (by rw [List.size_toArray]; omega) (by rw [List.size_toArray]; exact q _ _)) h
theorem T_item {value slice : Expr} {i : Int} (hm : (l, lo vs n) ∈ μ ++ ν) (h0 : 0 ≤ i) (hfit : i < 2 ^ 63) (hx : vs[i.toNat]? = some v) (h : P v m μ ν)
    (hs : subscripted slice false (.ref l) (.int i u) = operate [.ref l, .int i u] (getItem (.ref l) (.int i u)) := by with_unfolding_all rfl) : T C k e fe (subscriptTail value slice (.ref l) (.int i u)) m μ ν P :=
  T_quiet (fun _ => v) (fun _ _ _ _ _ _ s _ _ W q => tail_any (isL_lo (W.all hm)).typeIs slot_list_getitem.lookup (wpAny_getItem_list (isL_lo (W.all hm)) h0 hfit (by simpa using hx) (q 0 s.toks)) hs) fun _ => h
theorem T_itemNeg {value slice : Expr} {i : Int} (hm : (l, lo vs n) ∈ μ ++ ν) (h0 : i < 0) (h1 : -(vs.length : Int) ≤ i) (hfit : -(2 ^ 63) ≤ i) (hx : vs[(i + vs.length).toNat]? = some v) (h : P v m μ ν)
    (hs : subscripted slice false (.ref l) (.int i u) = operate [.ref l, .int i u] (getItem (.ref l) (.int i u)) := by with_unfolding_all rfl) : T C k e fe (subscriptTail value slice (.ref l) (.int i u)) m μ ν P :=
  T_quiet (fun _ => v) (fun _ _ _ _ _ _ s _ _ W q => tail_any (isL_lo (W.all hm)).typeIs slot_list_getitem.lookup (wpAny_getItem_list_neg (isL_lo (W.all hm)) h0 (by rw [List.size_toArray]; exact h1) hfit (by simpa using hx) (q 0 s.toks)) hs) fun _ => h
theorem T_itemT {value slice : Expr} {i : Int} (hm : (l, tu vs n) ∈ μ ++ ν) (h0 : 0 ≤ i) (hfit : i < 2 ^ 63) (hx : vs[i.toNat]? = some v) (h : P v m μ ν)
    (hs : subscripted slice false (.ref l) (.int i u) = operate [.ref l, .int i u] (getItem (.ref l) (.int i u)) := by with_unfolding_all rfl) : T C k e fe (subscriptTail value slice (.ref l) (.int i u)) m μ ν P :=
  T_quiet (fun _ => v) (fun _ _ _ _ _ _ s _ _ W q => tail_any (isT_tu (W.all hm)).typeIs slot_tuple_getitem.lookup (PyProof.Rows.getItem_tuple (isT_tu (W.all hm)) (by omega) hfit (j := i.toNat) (by
    have hlt : i.toNat < vs.length := (List.getElem?_eq_some_iff.mp hx).1
    have e1 : ¬ i < 0 := by omega
    have e2 : i < (vs.length : Int) := by omega
    simp [seqIndex?, e1, h0, e2]) (by simpa using hx) (q 0 s.toks)) hs) fun _ => h
theorem T_newList (hz : vs.length ≤ sizeLine) (h : ∀ l, (∀ p ∈ μ ++ ν, p.1 ≠ l) → P (.ref l) m μ ((l, lo vs 0) :: ν)) : T C k e fe (newList vs) m μ ν P :=
  fun A A₀ base h₀ outer L s Q a W q => wpAny_newList (q _ _ _ _ _ s.toks (h s.heap.objs.size fun p hp => Nat.ne_of_lt (W.lt p hp)) (W.push _ rfl) (.push _)) hz
theorem T_newListM (hz : vs.length ≤ sizeLine) (h : ∀ l, (∀ p ∈ μ ++ ν, p.1 ≠ l) → P (.ref l) m ((l, lo vs 0) :: μ) ν) : T C k e fe (newList vs) m μ ν P :=
  fun A A₀ base h₀ outer L s Q a W q => wpAny_newList (q _ _ _ _ _ s.toks (h s.heap.objs.size fun p hp => Nat.ne_of_lt (W.lt p hp)) (W.pushM _ rfl) (.pushM _)) hz
theorem T_newTuple (hz : vs.length ≤ sizeLine) (h : ∀ l, (∀ p ∈ μ ++ ν, p.1 ≠ l) → P (.ref l) m μ ((l, tu vs 0) :: ν)) : T C k e fe (newTuple vs) m μ ν P :=
  fun A A₀ base h₀ outer L s Q a W q => wpAny_newTuple (q _ _ _ _ _ s.toks (h s.heap.objs.size fun p hp => Nat.ne_of_lt (W.lt p hp)) (W.push _ rfl) (.push _)) hz
theorem T_append (hz : vs.length ≤ sizeLine) (h : P .none m ((l, lo (vs ++ [v]) (n + 1)) :: μ) ν) : T C k e fe (call (.builtin "list.append") [.ref l, v]) m ((l, lo vs n) :: μ) ν P :=
  fun A A₀ base h₀ outer L s Q a W q => append_at (W.getm (List.mem_cons_self ..)) (fun h' hs ho => by
    have e1 : (vs.toArray.push v) = (vs ++ [v]).toArray := by simp
    rw [e1] at ho
    exact q _ _ _ _ h' s.toks h (W.upd hs ho) (.upd (W.news _ (List.mem_append_left _ (List.mem_cons_self ..))).2.1 hs)) (by rw [List.size_toArray]; exact hz)
theorem mapSeq_set (vs : List Value) (n : Nat) (j : Nat) (v : Value) : Obj.mapSeq (·.setIfInBounds j v) (lo vs n) = lo (vs.set j v) n := by
  simp [Obj.mapSeq]
theorem T_set {i : Int} {w : Value} {P : Unit → Loc → Led → Led → Prop} (h0 : 0 ≤ i) (hfit : i < 2 ^ 63) (hn : i < vs.length) (h : P () m ((l, lo (vs.set i.toNat w) n) :: μ) ν) : T C k e fe (setItem (.ref l) (.int i t) w) m ((l, lo vs n) :: μ) ν P :=
  fun A A₀ base h₀ outer L s Q a W q => ki_setAt (W.getm (List.mem_cons_self ..)) h0 hfit (by rw [List.size_toArray]; exact hn) (by
    have hs := Heap.SameBut.update s.heap l (Obj.mapSeq (·.setIfInBounds i.toNat w))
    have ho := Heap.get?_update_self (Obj.mapSeq (·.setIfInBounds i.toNat w)) (W.getm (List.mem_cons_self ..)) (by rw [mapSeq_set]; rfl)
    rw [mapSeq_set] at ho
    exact q _ _ _ _ _ s.toks h (W.upd hs ho) (.upd (W.news _ (List.mem_append_left _ (List.mem_cons_self ..))).2.1 hs))
theorem T_unpack {P : List Value → Loc → Led → Led → Prop} {c : Nat} (hm : (l, tu vs n) ∈ μ ++ ν) (hc : c = vs.length) (h : P vs m μ ν) : T C k e fe (unpackItems (.ref l) c none) m μ ν P :=
  fun A A₀ base h₀ outer L s Q a W q => by
    subst hc
    have := wpAny_unpackItems_tuple (prog := C.prog) (w := C.w) (A := A) (E := fun _ _ => False) (s := s) (Q := Q) a.handled (isT_tu' (W.all hm)) (fun h' hx => by
      have keep : ∀ b o, s.heap.get? b = some o → h'.get? b = some o := fun b o ho => hx b o (Nat.ne_of_lt (Heap.lt_size ho)) ho
      exact q _ _ _ _ h' s.toks h (W.ext keep) (.ext keep))
    rwa [List.size_toArray] at this
theorem T_assignTup {es : List Expr} {k' : Nat} {ts : List (Value → Sem Unit)} {P : Unit → Loc → Led → Led → Prop} (hm : (l, tu vs n) ∈ μ ++ ν) (h : T C k e fe (assignInOrder ts vs) m μ ν P)
    (hlen : (assignEach es e).length = vs.length := by rfl) (hstar : (assignEach es e).findIdx? (·.1) = none := by rfl) (ht : (assignEach es e).map (·.2) = ts := by rfl) : T C k e fe (assign (.Tuple es k' pos) e (.ref l)) m μ ν P :=
  fun A A₀ base h₀ outer L s Q a W q => wpAny_assign_Tuple a.handled (isT_tu' (W.all hm)) (by rw [List.size_toArray]; exact hlen) hstar (fun h' hx => by
    have keep : ∀ b o, s.heap.get? b = some o → h'.get? b = some o := fun b o ho => hx b o (Nat.ne_of_lt (Heap.lt_size ho)) ho
    rw [ht]
    exact h A A₀ base h₀ outer L { s with heap := h' } Q a (W.ext keep) fun v m' μ' ν' h2 tk2 p w2 g => q v m' μ' ν' h2 tk2 p w2 ((Go.ext keep).trans g))

-- slices of a list
theorem T_partNone (h : P .none m μ ν) : T C k e fe (evalPart none e) m μ ν P := T_quiet (fun _ => .none) (fun _ _ _ _ _ _ s _ _ _ q => by rw [evalPart_none]; exact wpAny_pure (q 0 s.toks)) fun _ => h
theorem T_partSome {x : Expr} (h : T C k e fe (eval x e) m μ ν P) : T C k e fe (evalPart (some x) e) m μ ν P := by rw [evalPart_some]; exact h
@[reducible] def SlE (P : Value → Loc → Led → Led → Prop) (o vl vu : Value) (m3 : Loc) (μ3 ν3 : Led) : Prop :=
  ∃ l vs n lo1 hi1, o = .ref l ∧ (l, lo vs n) ∈ μ3 ++ ν3 ∧ IsPart vl lo1 ∧ IsPart vu hi1 ∧ vs.length ≤ sizeLine ∧ ∀ l', (∀ p ∈ μ3 ++ ν3, p.1 ≠ l') → P (.ref l') m3 μ3 ((l', lo (slicePick vs.toArray lo1 hi1 none).toList 0) :: ν3)
@[reducible] def KS2 (C : Cx) (k : Nat) (e fe : Env) (upper : Option Expr) (P : Value → Loc → Led → Led → Prop) (o vl : Value) (m : Loc) (μ ν : Led) : Prop := T C k e fe (evalPart upper e) m μ ν (SlE P o vl)
@[reducible] def KS1 (C : Cx) (k : Nat) (e fe : Env) (lower upper : Option Expr) (P : Value → Loc → Led → Led → Prop) (o : Value) (m : Loc) (μ ν : Led) : Prop := T C k e fe (evalPart lower e) m μ ν (KS2 C k e fe upper P o)
theorem T_slice {value : Expr} {lower upper : Option Expr} {sp : Pos}
    (h : T C k e fe (eval value e) m μ ν (KS1 C k e fe lower upper P))
    (hs : ∀ l i : Addr, subscripted (.Slice lower upper none sp) false (.ref l) (.ref i) = operate [.ref i, .ref l] (getItem (.ref l) (.ref i)) := by intros; with_unfolding_all rfl)
    (ht : ∀ (l : Addr) r, letTemporaryGo value (.ref l) r = pure () := by intros; with_unfolding_all rfl) : T C k e fe (eval (.Subscript value (.Slice lower upper none sp) pos) e) m μ ν P := by
  intro A A₀ base h₀ outer L s Q a W q
  refine Subscript_ (h A A₀ base h₀ outer L s _ a W fun o m1 μ1 ν1 h1 tk1 p1 w1 g1 => ?_)
  refine wpAny_Slice (p1 A A₀ base h₀ outer L { s with heap := h1, toks := tk1 } _ a w1 fun vl m2 μ2 ν2 h2 tk2 p2 w2 g2 => ?_)
  refine p2 A A₀ base h₀ outer L { s with heap := h2, toks := tk2 } _ a w2 fun vu m3 μ3 ν3 h3 tk3 p3 w3 g3 => ?_
  obtain ⟨l, vs, n, lo1, hi1, rfl, hm, pl, pu, hz, hP⟩ := p3
  obtain ⟨mf, F, N, back⟩ := w3.lift a.fresh
  refine wpAny_pure ?_
  refine slice_list (s := { s with heap := h3, toks := tk3 }) F N (isL_lo (w3.all hm)) pl pu (fun h' F' N' => ?_) (hs _ _) (ht _) (by rw [List.size_toArray]; exact hz)
  obtain ⟨W', g'⟩ := back h' _ F' N' fun p hp => List.mem_cons_of_mem _ hp
  have hne : ∀ p ∈ μ3 ++ ν3, p.1 ≠ h3.objs.size + 1 := fun p hp => Nat.ne_of_lt (Nat.lt_succ_of_lt (w3.lt p hp))
  have hnone : h3.get? (h3.objs.size + 1) = none := by
    cases x : h3.get? (h3.objs.size + 1) with
    | none => rfl
    | some o => exact absurd (Heap.lt_size x) (by show ¬ (h3.objs.size + 1 < h3.objs.size); omega)
  have ho := (N' _ (List.mem_cons_self ..)).1
  have W2 := W'.add (o := lo (slicePick vs.toArray lo1 hi1 none).toList 0) ho (Nat.ne_of_gt (Nat.lt_succ_of_lt w3.ltL)) (w3.none_size (Nat.le_succ _)) (Nat.ne_of_gt (Nat.lt_succ_of_lt w3.ns.lt)) (fun p hp => hne p (List.mem_append_left _ hp))
  exact q _ m3 μ3 _ h' tk3 (hP _ hne) W2 (((g1.trans g2).trans g3).trans (g'.add hnone))

-- a list times a number, two lists
theorem flat_rep (l : List Value) : ∀ (j : Nat) (acc : Array Value), (List.foldl (fun x1 x2 => x1 ++ x2) acc (List.replicate j l.toArray)) = acc ++ (List.replicate j l).flatten.toArray
  | 0, acc => by simp
  | j + 1, acc => by
    rw [List.replicate_succ, List.foldl_cons, flat_rep l j, List.replicate_succ, List.flatten_cons]
    simp
theorem T_mulListM {i : Int} (hm : (l, lo [v] n) ∈ μ ++ ν) (h0 : 0 ≤ i) (hfit : i ≤ 2 ^ 24) (h : ∀ l', (∀ p ∈ μ ++ ν, p.1 ≠ l') → P (.ref l') m ((l', lo (List.replicate i.toNat v) 0) :: μ) ν) : T C k e fe (binaryOp .Mult (.ref l) (.int i u)) m μ ν P := by
  intro A A₀ base h₀ outer L s Q a W q
  obtain ⟨mf, F, N, back⟩ := W.lift a.fresh
  refine mul_list F N (W.all hm) (by omega) (by omega) (by show 1 * i.toNat ≤ 2 ^ 24; omega) fun h' F' N' => ?_
  have e1 : (List.foldl (fun x1 x2 => x1 ++ x2) #[] (List.replicate (if ([v] : List Value).toArray.isEmpty = true then 0 else i.toNat) ([v] : List Value).toArray)) = (List.replicate i.toNat v).toArray := by
    rw [if_neg (by simp), flat_rep]
    simp
  rw [e1] at N'
  obtain ⟨W', g'⟩ := back h' _ F' N' fun p hp => List.mem_cons_of_mem _ hp
  have hne : ∀ p ∈ μ ++ ν, p.1 ≠ s.heap.objs.size := fun p hp => Nat.ne_of_lt (W.lt p hp)
  have W2 := W'.addM (o := lo (List.replicate i.toNat v) 0) (N' _ (List.mem_cons_self ..)).1 (Nat.ne_of_gt W.ltL) (W.none_size (Nat.le_refl _)) (Nat.ne_of_gt W.ns.lt) hne
  exact q _ m _ _ h' s.toks (h _ hne) W2 (g'.addM (none_at_size _))
theorem T_addLists {l2 : Addr} {ws : List Value} {n2 : Nat} (hm : (l, lo vs n) ∈ μ ++ ν) (hm2 : (l2, lo ws n2) ∈ μ ++ ν) (hz : vs.length + ws.length ≤ sizeLine) (h : ∀ l', (∀ p ∈ μ ++ ν, p.1 ≠ l') → P (.ref l') m μ ((l', lo (vs ++ ws) 0) :: ν)) :
    T C k e fe (binaryOp .Add (.ref l) (.ref l2)) m μ ν P := by
  intro A A₀ base h₀ outer L s Q a W q
  obtain ⟨mf, F, N, back⟩ := W.lift a.fresh
  refine add_lists F N (isL_lo (W.all hm)) (isL_lo (W.all hm2)) (fun h' F' N' => ?_) hz
  obtain ⟨W', g'⟩ := back h' _ F' N' fun p hp => List.mem_cons_of_mem _ hp
  have hne : ∀ p ∈ μ ++ ν, p.1 ≠ s.heap.objs.size := fun p hp => Nat.ne_of_lt (W.lt p hp)
  have W2 := W'.add (o := lo (vs ++ ws) 0) (N' _ (List.mem_cons_self ..)).1 (Nat.ne_of_gt W.ltL) (W.none_size (Nat.le_refl _)) (Nat.ne_of_gt W.ns.lt) (fun p hp => hne p (List.mem_append_left _ hp))
  exact q _ m _ _ h' s.toks (h _ hne) W2 (g'.add (none_at_size _))

-- built-ins
theorem T_min (h : ∀ t, P (.int (min a b) t) m μ ν) : T C k e fe (call (.builtin "min") [.int a t, .int b u]) m μ ν P := by
  intro A A₀ base h₀ outer L s Q a' W q
  obtain ⟨mf, F, N, back⟩ := W.lift a'.fresh
  refine min_two_N a'.handled F N fun h' tk F' N' => ?_
  obtain ⟨W', g'⟩ := back h' _ F' N' fun p hp => hp
  have e1 : (if b < a then b else a) = min a b := by
    by_cases hc : b < a
    · rw [if_pos hc]; omega
    · rw [if_neg hc]; omega
  rw [e1]
  exact q _ m μ ν h' tk (h _) W' g'
theorem T_abs (h : ∀ t, P (.int (a.natAbs : Int) t) m μ ν) : T C k e fe (call (.builtin "abs") [.int a t]) m μ ν P :=
  T_quiet (fun t => .int (a.natAbs : Int) t) (fun _ _ _ _ _ _ s _ _ _ q => call_abs_int (by
    intro u tk
    have e1 : (if a < 0 then -a else a) = (a.natAbs : Int) := by split <;> omega
    rw [e1]; exact q u tk)) h
theorem T_bitlen (h : ∀ t, P (.int (Builtin.Int.intBits a) t) m μ ν) : T C k e fe (call (.builtin "int.bit_length") [.int a t]) m μ ν P :=
  T_quiet (fun t => .int (Builtin.Int.intBits a) t) (fun _ _ _ _ _ _ s _ _ _ q => call_int_bit_length (q _ _)) h

-- calls
theorem T_callB {id : String} {x : Expr} {rest : List Expr} (h : T C k e fe (spliced (backTo pos (starEach (x :: rest) e))) m μ ν (KL C k e fe (.builtin id) P))
    (he : starEach (x :: rest) e = (false, eval x e) :: starEach rest e := by rfl) (hp : (backTo pos (starEach rest e)).any (·.1) = false := by rfl) :
    T C k e fe (callWith pos (.builtin id) [] (backTo pos (starEach (x :: rest) e)) []) m μ ν P := T_via (fun _ _ _ H => callWith_builtin1 H he hp) h
theorem T_callM {id : String} {self : Value} {x : Expr} {rest : List Expr} (h : T C k e fe (spliced (backTo pos (starEach (x :: rest) e))) m μ ν (KM C k e fe (.builtin id) self P))
    (he : starEach (x :: rest) e = (false, eval x e) :: starEach rest e := by rfl) (hp : (backTo pos (starEach rest e)).any (·.1) = false := by rfl) :
    T C k e fe (callWith pos (.builtin id) [self] (backTo pos (starEach (x :: rest) e)) []) m μ ν P := T_via (fun _ _ _ H => callWith_method1 H he hp) h
theorem T_callB0 {id : String} {first : List Value} (h : T C k e fe (call (.builtin id) first) m μ ν P) : T C k e fe (callWith pos (.builtin id) first (backTo pos (starEach [] e)) []) m μ ν P := T_same (fun _ _ _ H => callWith_method0 H) h
theorem T_callT {id : String} {x : Expr} {rest : List Expr} (h : T C k e fe (spliced (backTo pos (starEach (x :: rest) e))) m μ ν (KL C k e fe (.type id) P))
    (he : starEach (x :: rest) e = (false, eval x e) :: starEach rest e := by rfl) (hp : (backTo pos (starEach rest e)).any (·.1) = false := by rfl) :
    T C k e fe (callWith pos (.type id) [] (backTo pos (starEach (x :: rest) e)) []) m μ ν P := T_via (fun _ _ _ H => callWith_type1 H he hp) h
theorem T_callG {f : Value} {first : List Value} {x : Expr} {rest : List Expr} (hk : keepIn C.K f = true) (h : T C k e fe (spliced (backTo pos (starEach (x :: rest) e))) m μ ν (fun vs m1 μ1 ν1 => T C k e fe (call f (first ++ vs)) m1 μ1 ν1 P))
    (he : starEach (x :: rest) e = (false, eval x e) :: starEach rest e) (hp : (backTo pos (starEach rest e)).any (·.1) = false) :
    T C k e fe (callWith pos f first (backTo pos (starEach (x :: rest) e)) []) m μ ν P :=
  fun A A₀ base h₀ outer L s Q a w q => callWith_K (h₀ := h₀) a.hK hk (h A A₀ base h₀ outer L s _ a w fun vs m1 μ1 ν1 h1 tk1 p1 w1 g1 =>
    ⟨a.K w1, p1 A A₀ base h₀ outer L { s with heap := h1, toks := tk1 } _ a w1 fun v m2 μ2 ν2 h2 tk2 p2 w2 g2 => q _ m2 μ2 ν2 h2 tk2 p2 w2 (g1.trans g2)⟩) he hp
theorem T_callF {f : Value} {x : Expr} {rest : List Expr} (hk : keepIn C.K f = true) (h : T C k e fe (spliced (backTo pos (starEach (x :: rest) e))) m μ ν (KL C k e fe f P))
    (he : starEach (x :: rest) e = (false, eval x e) :: starEach rest e := by rfl) (hp : (backTo pos (starEach rest e)).any (·.1) = false := by rfl) :
    T C k e fe (callWith pos f [] (backTo pos (starEach (x :: rest) e)) []) m μ ν P := T_callG hk h he hp
theorem T_callFM {f self : Value} {x : Expr} {rest : List Expr} (hk : keepIn C.K f = true) (h : T C k e fe (spliced (backTo pos (starEach (x :: rest) e))) m μ ν (KM C k e fe f self P))
    (he : starEach (x :: rest) e = (false, eval x e) :: starEach rest e := by rfl) (hp : (backTo pos (starEach rest e)).any (·.1) = false := by rfl) :
    T C k e fe (callWith pos f [self] (backTo pos (starEach (x :: rest) e)) []) m μ ν P := T_callG hk h he hp
theorem T_method {o : Expr} {name : PySem.Str} {apos : Pos} {args : List Expr} {pl : Sem Bool} (h : T C k e fe (eval o e) m μ ν (KMe C k e fe name pl pos args P))
    (he : eval (.Call (.Attribute o name apos) args [] pos) e = (do
      let ov ← eval o e
      standAt apos.atName
      let (f, first) ← holding [ov] (getMethod ov name pl)
      callWith pos f first (backTo pos (starEach args e)) []) := by rfl) : T C k e fe (eval (.Call (.Attribute o name apos) args [] pos) e) m μ ν P :=
  T_via2 (fun _ _ _ H => MethodCall_ H he) h
theorem T_getAppend {pl : Sem Bool} {P : Value × List Value → Loc → Led → Led → Prop} (hm : (l, lo vs n) ∈ μ ++ ν) (h : P (.builtin "list.append", [.ref l]) m μ ν) : T C k e fe (getMethod (.ref l) (PySem.Str.ofString "append") pl) m μ ν P :=
  T_quiet (fun _ => _) (fun _ _ _ _ _ _ s _ _ W q => getMethod_list_append (W.all hm) rfl rfl (q 0 s.toks)) fun _ => h
theorem T_getBitlen {pl : Sem Bool} {P : Value × List Value → Loc → Led → Led → Prop} (h : P (.builtin "int.bit_length", [.int a t]) m μ ν) : T C k e fe (getMethod (.int a t) (PySem.Str.ofString "bit_length") pl) m μ ν P :=
  T_quiet (fun _ => _) (fun _ _ _ _ _ _ s _ _ W q => getMethod_int_bit_length (q 0 s.toks)) fun _ => h
end
end Mine
namespace Mine

section
variable {C : Cx} {k : Nat} {e fe : Env} {m : Loc} {μ ν : Led}

/-- a call of a def of the text -/
theorem T_def {f : Addr} {args : List Value} {P : Value → Loc → Led → Led → Prop} {name qual : PySem.Str} {params : Arguments} {body : List Stmt} {scope : Scope} {dV kV doc pm cdv ct oc : Value} {an od : Option Addr} {osl : Array (Option Value)} {binds : List (PySem.Str × Value)}
    (ho : C.K.lookup f = some ⟨oc, od, .func (fnOf name qual params body scope dV kV doc pm an cdv ct), osl⟩) (hcd : codeIn C.K cdv qual = true)
    (hbind : ∀ s, BindsTo s (fnOf name qual params body scope dV kV doc pm an cdv ct) ⟨args, []⟩ binds) (hloc : ∀ y ∈ binds, scope.names.lookup y.1 = some .local)
    (hco : scope.isCoroutine = false) (hgen : scope.isGenerator = false) (hk : scope.kind = .function) (hcell : ∀ x ∈ scope.names, x.2 ≠ .cell)
    (h : ∀ L' Q', Hid (fun fl _ μ' ν' => P (match fl with | .ret v => v | _ => .none) m μ' ν') Q' → T C k (envOf qual scope L' f cdv) (envOf qual scope L' f cdv) (execs body (envOf qual scope L' f cdv)) (fun y => binds.reverse.lookup y) μ ν Q') :
    T C (k + 1) e fe (call (.ref f) args) m μ ν P := by
  intro A A₀ base h₀ outer L s Q a W q
  refine wpAny_call ?_
  have lift : ∃ mf, Fr h₀ L s.heap mf ∧ (e.locals = L → mf = m) := by
    by_cases hL : e.locals = L
    · exact W.fr.elim fun mf F => ⟨m, ⟨hL ▸ W.ns, F.keep, F.above⟩, fun _ => rfl⟩
    · exact W.fr.elim fun mf F => ⟨mf, F, fun x => absurd x hL⟩
  obtain ⟨mf, F, hm⟩ := lift
  have inAll : ∀ {b : Addr} {o : Obj}, b ≠ L → h₀.get? b = none → s.heap.get? b = some o → (b, o) ∈ allNews h₀ L s.heap := fun a b c => mem_allNews a b c
  refine code_def a.below F a.hK news_all a.top a.frames a.frame a.fkind ho hcd (Nat.lt_of_le_of_lt (Nat.le_add_right _ _) a.depth) (hbind s) hloc (fun g L' h₁ FG F' N' B' X' T' => ?_) hco hgen hk hcell
  have alive : ∀ b o, s.heap.get? b = some o → ∃ o', h₁.get? b = some o' := by
    intro b o ho
    by_cases hL : b = L
    · obtain ⟨oL, _, _, hL', _⟩ := FG.ns
      exact ⟨oL, hL ▸ F'.keep _ _ hL'⟩
    cases h0 : h₀.get? b with
    | some o' => exact ⟨o', F'.keep _ _ (FG.keep _ _ h0)⟩
    | none => exact ⟨o, (N' _ (inAll hL h0 ho)).1⟩
  have back : ∀ b, h₁.get? b = none → s.heap.get? b = none := by
    intro b hb
    cases h1 : s.heap.get? b with
    | none => rfl
    | some o => obtain ⟨o', h2⟩ := alive b o h1; rw [hb] at h2; cases h2
  have Wc : Wd g L' (envOf qual scope L' f cdv) h₁ (fun y => binds.reverse.lookup y) μ ν := by
    have all : ∀ p ∈ μ ++ ν, h₁.get? p.1 = some p.2 ∧ p.1 ≠ L' ∧ g.get? p.1 = none := fun p hp => N' p (inAll (W.news p hp).2.1 (W.news p hp).2.2 (W.news p hp).1)
    exact ⟨⟨_, F'⟩, F'.ns, all, fun p hp => (all p hp).2.1, W.apart, W.nodup⟩
  have hfresh : g.get? L' = none := by
    cases x : g.get? L' with
    | none => rfl
    | some o => exact absurd (Heap.lt_size x) (Nat.not_lt.mpr F'.above)
  have a' : At C k (envOf qual scope L' f cdv) (envOf qual scope L' f cdv) (A.deeper (envOf qual scope L' f cdv)) A base g (fe :: outer) L' := by
    refine ⟨?_, rfl, hk, a.handled, ?_, ?_, B', X', T', hk, rfl, rfl, hfresh, fun p hp => (a.giv p hp).at fun o x => FG.keep _ o x⟩
    · show A.frames.map _ = _; rw [a.frames]; rfl
    · have := a.depth; show A.depth + 1 + k < recursionLimit; omega
    · have := a.units; show A.units + 3 + 8 * k + 8 < cLine; omega
  refine wpAny_mono (h L' _ .refl _ _ _ _ _ _ { s with heap := h₁, toks := _ } _ a' Wc fun fl m' μ' ν' h' tk' hp W' G => ?_) (fun _ _ x => x) fun _ _ x => x.elim
  -- the way back
  have keepAll : ∀ b o, b ≠ L → (∀ p ∈ μ, p.1 ≠ b) → s.heap.get? b = some o → h₀.get? b = none → h'.get? b = some o := fun b o hb hμ ho h0 =>
    G.keep b o (N' _ (inAll hb h0 ho)).2.1 (N' _ (inAll hb h0 ho)).2.1 hμ (N' _ (inAll hb h0 ho)).1
  let nw : Led := (allNews h₀ L s.heap).filter fun p => !(μ.any fun q => q.1 == p.1)
  have nwm : ∀ {p}, p ∈ nw ↔ p ∈ allNews h₀ L s.heap ∧ ∀ q ∈ μ, q.1 ≠ p.1 := by
    intro p
    simp [nw, List.mem_filter]
  refine leaveK_ (L' := L') (m' := m') (news' := nw ++ (μ' ++ ν')) ((W'.fr.elim fun mf' Fx => ⟨W'.ns, Fx.keep, Fx.above⟩)) ?_ fun Fb Nb => ?_
  · intro p hp
    rcases List.mem_append.mp hp with hp | hp
    · obtain ⟨h1, h2⟩ := nwm.mp hp
      exact ⟨G.keep _ _ (N' _ h1).2.1 (N' _ h1).2.1 h2 (N' _ h1).1, (N' _ h1).2⟩
    · exact W'.news p hp
  · have hel : ∀ p : Addr × Obj, h₁.get? p.1 = none → p.1 ≠ e.locals := fun p hp e1 => by
      obtain ⟨o, _, _, h1, _⟩ := W.ns
      obtain ⟨o', h2⟩ := alive _ _ h1
      rw [← e1, hp] at h2; cases h2
    have keepB : ∀ b o, b ≠ L → (∀ p ∈ μ, p.1 ≠ b) → s.heap.get? b = some o → h'.get? b = some o := by
      intro b o hb hμ ho
      cases h0 : h₀.get? b with
      | some o' =>
        have := F.keep b o' h0
        rw [ho] at this
        have e1 := Option.some.inj this
        subst e1
        exact Fb.keep b o h0
      | none => exact keepAll b o hb hμ ho h0
    have Wb : Wd h₀ L e h' m μ' ν' := by
      refine ⟨⟨mf, Fb⟩, ?_, fun p hp => Nb p (List.mem_append_right _ hp), fun p hp => ?_, W'.apart, W'.nodup⟩
      · by_cases hL : e.locals = L
        · rw [← hm hL, hL]; exact Fb.ns
        · obtain ⟨o, es, ep, h1, r⟩ := W.ns
          exact ⟨o, es, ep, keepB _ _ hL (fun p hp => W.off p (List.mem_append_left _ hp)) h1, r⟩
      · have oldq : ∀ q ∈ μ ++ ν, q.1 ≠ e.locals := W.off
        rcases List.mem_append.mp hp with x | x
        · rcases G.mu p x with ⟨q1, hq, e1⟩ | h3 | h3 | h3
          · rw [← e1]; exact oldq q1 (List.mem_append_left _ hq)
          · exact hel p h3
          · exact absurd h3 (W'.off p hp)
          · exact absurd h3 (W'.off p hp)
        · rcases G.nu p x with h3 | ⟨q1, hq, e1⟩ | h3 | h3 | h3
          · exact oldq p (List.mem_append_right _ h3)
          · rw [← e1]; exact oldq q1 (List.mem_append_left _ hq)
          · exact hel p h3
          · exact absurd h3 (W'.off p hp)
          · exact absurd h3 (W'.off p hp)
    refine q _ m μ' ν' h' tk' hp Wb ⟨fun b o _ hb hμ ho => keepB b o hb hμ ho, fun p hp => ?_, fun p hp => ?_, G.sub, fun mf' _ n => (show mf = mf' from funext fun nm => F.ns.agree n nm) ▸ Fb.ns⟩
    · rcases G.mu p hp with h3 | h3 | h3 | h3
      · exact .inl h3
      · exact .inr (.inl (back _ h3))
      · exact absurd h3 (W'.off p (List.mem_append_left _ hp))
      · exact absurd h3 (W'.off p (List.mem_append_left _ hp))
    · rcases G.nu p hp with h3 | h3 | h3 | h3 | h3
      · exact .inl h3
      · exact .inr (.inl h3)
      · exact .inr (.inr (.inl (back _ h3)))
      · exact absurd h3 (W'.off p (List.mem_append_right _ hp))
      · exact absurd h3 (W'.off p (List.mem_append_right _ hp))

def OnFlow (J : Loc → Led → Led → Prop) (P : Flow → Loc → Led → Led → Prop) (f : Flow) (m : Loc) (μ ν : Led) : Prop :=
  match f with
  | .next => J m μ ν
  | .cont => J m μ ν
  | .brk => P .next m μ ν
  | .ret v => P (.ret v) m μ ν

theorem no_noted {M : Model} {A : Around} {env : Env} {E : Value → Shared → Prop} {x : Value} {s : Shared} (h : (fun (_ : Value) (_ : Shared) => False) x s) : notedBy M A env E x s := h.elim

theorem T_while {pos : Pos} {test : Expr} {body : List Stmt} {P : Flow → Loc → Led → Led → Prop} (I : Nat → Loc → Led → Led → Prop) (n : Nat) (h0 : I n m μ ν)
    (turn : ∀ n m1 μ1 ν1, Sub ν ν1 → ∀ Q, Hid (OnFlow (fun m3 μ3 ν3 => ∃ j, j < n ∧ I j m3 μ3 ν3) P) Q → I n m1 μ1 ν1 → T C k e fe (isTrue test e (eval test e)) m1 μ1 ν1 (KWh C k e fe body Q P)) :
    T C k e fe (exec (.While test body [] pos) e) m μ ν P := by
  intro A A₀ base h₀ outer L s Q a W q
  refine wpAny_While ?_
  refine codeAny_whileLoop (fun n s' => ∃ m1 μ1 ν1 h1 tk1, s' = { s with heap := h1, toks := tk1 } ∧ I n m1 μ1 ν1 ∧ Wd h₀ L e h1 m1 μ1 ν1 ∧ Go e L s.heap μ ν h1 μ1 ν1) ?_ n ⟨m, μ, ν, s.heap, s.toks, rfl, h0, W, .refl⟩
  rintro n s' ⟨m1, μ1, ν1, h1, tk1, rfl, hI, w1, g1⟩
  refine wpAny_mono (turn n m1 μ1 ν1 g1.sub _ .refl hI A A₀ base h₀ outer L { s with heap := h1, toks := tk1 } (fun b s2 => _) a w1 fun b m2 μ2 ν2 h2 tk2 p2 w2 g2 => ?_) (fun _ _ x => x) fun _ _ x => x.elim
  cases b with
  | false => exact wpAny_execs_nil (q .next m2 μ2 ν2 h2 tk2 (p2.2 rfl) w2 (g1.trans g2))
  | true =>
    refine wpAny_mono (p2.1 rfl A A₀ base h₀ outer L { s with heap := h2, toks := tk2 } (fun f s3 => _) a w2 fun f m3 μ3 ν3 h3 tk3 p3 w3 g3 => ?_) (fun _ _ x => x) fun _ _ x => x.elim
    cases f with
    | next => obtain ⟨j, hj, hJ⟩ := p3; exact ⟨j, hj, m3, μ3, ν3, h3, tk3, rfl, hJ, w3, (g1.trans g2).trans g3⟩
    | cont => obtain ⟨j, hj, hJ⟩ := p3; exact ⟨j, hj, m3, μ3, ν3, h3, tk3, rfl, hJ, w3, (g1.trans g2).trans g3⟩
    | brk => exact q .next m3 μ3 ν3 h3 tk3 p3 w3 ((g1.trans g2).trans g3)
    | ret v => exact q (.ret v) m3 μ3 ν3 h3 tk3 p3 w3 ((g1.trans g2).trans g3)

/-- an iterator's own objects are changed -/
theorem Go.skip {L : Addr} {hs h1 h2 : Heap} {μ1 ν1 : Led} {wr : List Addr} (g : Go e L hs μ ν h1 μ1 ν1) (hk : ∀ b o, b ∉ wr → h1.get? b = some o → h2.get? b = some o) (hw : ∀ b ∈ wr, hs.get? b = none) : Go e L hs μ ν h2 μ1 ν1 :=
  ⟨fun b o h1 h2 h3 ho => hk b o (fun hb => by rw [hw b hb] at ho; cases ho) (g.keep b o h1 h2 h3 ho), g.mu, g.nu, g.sub, fun mf hl n => (g.lk mf hl n).at' fun o x => hk _ o (fun hb => by obtain ⟨o, _, _, h1, _⟩ := n; rw [hw _ hb] at h1; cases h1) x⟩
theorem Wd.skip {L : Addr} {h₀ h1 h2 : Heap} {wr : List Addr} (W : Wd h₀ L e h1 m μ ν) (hk : ∀ b o, b ∉ wr → h1.get? b = some o → h2.get? b = some o) (hL : L ∉ wr) (hl : e.locals ∉ wr) (h0 : ∀ b ∈ wr, h₀.get? b = none) (hp : ∀ p ∈ μ ++ ν, p.1 ∉ wr) : Wd h₀ L e h2 m μ ν := by
  obtain ⟨mf, F⟩ := W.fr
  refine ⟨⟨mf, ⟨F.ns.at' fun o x => hk _ o hL x, fun b o x => hk b o (fun hb => by rw [h0 b hb] at x; cases x) (F.keep b o x), F.above⟩⟩, W.ns.at' fun o x => hk _ o hl x, fun p h => ⟨hk _ _ (hp p h) (W.news p h).1, (W.news p h).2⟩, W.off, W.apart, W.nodup⟩

theorem forW {A A₀ : Around} {base h₀ hs : Heap} {outer : List Env} {L : Addr} {s : Shared} {x : PySem.Str} {px : Pos} {body : List Stmt} {It : Addr} {fp wr : List Addr} {n : Nat} {Pit : Nat → Value → Prop} {St : Nat → Heap → Prop} {R : Result → Shared → Prop} {P : Flow → Loc → Led → Led → Prop}
    (a : At C k e fe A A₀ base h₀ outer L) (W : Walks C.prog C.w A It fp wr n Pit St) (hx : e.kindOf x = some .local) (hpk : (e.scope.kind == .class || (e.scope.kind == .module && e.locals != e.globals)) = false)
    (hst : St 0 s.heap) (w0 : Wd h₀ L e s.heap m μ ν) (g0 : Go e L hs μ ν s.heap μ ν) (hnone : ∀ b ∈ wr, hs.get? b = none) (h0w : ∀ b ∈ wr, h₀.get? b = none) (hLf : L ∉ fp) (hlf : e.locals ∉ fp) (hμf : ∀ p ∈ μ, p.1 ∉ fp) (hνw : ∀ p ∈ ν, p.1 ∉ wr)
    (hlive : ∀ i h, St i h → ∀ b ∈ fp, ∃ o, h.get? b = some o)
    (J : Nat → Loc → Led → Led → Prop) (h0 : J 0 m μ ν)
    (turn : ∀ i v m1 μ1 ν1, i < n → Pit i v → Sub ν ν1 → J i m1 μ1 ν1 → T C k e fe (execs body e) (fun y => if y = x then some v else m1 y) μ1 ν1 (OnFlow (J (i + 1)) P))
    (done : ∀ m1 μ1 ν1, Sub ν ν1 → J n m1 μ1 ν1 → P .next m1 μ1 ν1)
    (q : ∀ f m' μ' ν' h' tk', P f m' μ' ν' → Wd h₀ L e h' m' μ' ν' → Go e L hs μ ν h' μ' ν' → R (.ok f) { s with heap := h', toks := tk' }) :
    codeAny (model C.prog C.w) A (.forLoop (.Name x px) (.ref It) body [] e) R s := by
  have hLw : L ∉ wr := fun h => hLf (W.sub _ h)
  have hlw : e.locals ∉ wr := fun h => hlf (W.sub _ h)
  refine codeAny_forLoop
    (fun j s' => ∃ h' tk m' μ' ν' i, s' = { s with heap := h', toks := tk } ∧ St i h' ∧ Wd h₀ L e h' m' μ' ν' ∧ Go e L hs μ ν h' μ' ν' ∧ (∀ p ∈ μ', p.1 ∉ fp) ∧ (∀ p ∈ ν', p.1 ∉ wr) ∧ J i m' μ' ν' ∧ i ≤ n ∧ j = n + 1 - i) ?_ (n + 1)
    ⟨s.heap, s.toks, m, μ, ν, 0, rfl, hst, w0, g0, hμf, hνw, h0, Nat.zero_le _, rfl⟩
  rintro j s' ⟨h', tk, m', μ', ν', i, rfl, hst', w', g', hμ', hν', hJ, hi, rfl⟩
  have offw : ∀ p ∈ μ' ++ ν', p.1 ∉ wr := fun p hp => (List.mem_append.mp hp).elim (fun h hb => hμ' p h (W.sub _ hb)) (hν' p)
  by_cases hlt : i < n
  · refine W.item i _ _ _ hlt hst' fun v h₁ tk₁ hP hst₁ hk₁ => ?_
    have w1 := w'.skip hk₁ hLw hlw h0w offw
    have g1 := g'.skip hk₁ hnone
    refine wpAny_assign_Name (wpAny_storeName_local hx w1.ns (fun h₂ hn₂ hs₂ => ?_) hpk)
    have w2 := w1.store a.fresh hn₂ hs₂
    have g2 := g1.trans (Go.store hs₂)
    have hst₂ : St (i + 1) h₂ := W.frame _ _ _ hst₁ fun b hb o e1 => (hs₂.2 b fun q => hlf (q ▸ hb)).trans e1
    refine wpAny_mono (turn i v m' μ' ν' hlt hP g'.sub hJ A A₀ base h₀ outer L { s with heap := h₂, toks := tk₁ + 1 } (fun f s3 => _) a w2 fun f m3 μ3 ν3 h3 tk3 p3 w3 g3 => ?_) (fun _ _ x => x) fun _ _ x => x.elim
    have hst3 : St (i + 1) h3 := W.frame _ _ _ hst₂ fun b hb o e1 => g3.keep b o (fun h => hlf (h ▸ hb)) (fun h => hLf (h ▸ hb)) (fun p hp h => hμ' p hp (h ▸ hb)) e1
    have m3f : ∀ p ∈ μ3, p.1 ∉ fp := fun p hp hb => by
      rcases g3.mu p hp with ⟨r, hr, e2⟩ | h4 | h4 | h4
      · exact hμ' r hr (e2 ▸ hb)
      · obtain ⟨o, h5⟩ := hlive _ _ hst₂ _ hb; rw [h4] at h5; cases h5
      · exact hlf (h4 ▸ hb)
      · exact hLf (h4 ▸ hb)
    have n3f : ∀ p ∈ ν3, p.1 ∉ wr := fun p hp hb => by
      rcases g3.nu p hp with h4 | ⟨r, hr, e2⟩ | h4 | h4 | h4
      · exact hν' p h4 hb
      · exact hμ' r hr (e2 ▸ W.sub _ hb)
      · obtain ⟨o, h5⟩ := hlive _ _ hst₂ _ (W.sub _ hb); rw [h4] at h5; cases h5
      · exact hlw (h4 ▸ hb)
      · exact hLw (h4 ▸ hb)
    cases f with
    | next => exact ⟨n + 1 - (i + 1), by omega, h3, tk3, m3, μ3, ν3, i + 1, rfl, hst3, w3, g2.trans g3, m3f, n3f, p3, hlt, rfl⟩
    | cont => exact ⟨n + 1 - (i + 1), by omega, h3, tk3, m3, μ3, ν3, i + 1, rfl, hst3, w3, g2.trans g3, m3f, n3f, p3, hlt, rfl⟩
    | brk => exact q .next m3 μ3 ν3 h3 tk3 p3 w3 (g2.trans g3)
    | ret v => exact q (.ret v) m3 μ3 ν3 h3 tk3 p3 w3 (g2.trans g3)
  · have hin : i = n := by omega
    subst hin
    refine W.done _ _ _ hst' fun h₁ tk₁ hk₁ => wpAny_execs_nil ?_
    exact q .next m' μ' ν' h₁ tk₁ (done _ _ _ g'.sub hJ) (w'.skip hk₁ hLw hlw h0w offw) (g'.skip hk₁ hnone)
end
end Mine
namespace Mine

abbrev rgO (a b c : Int) (t u v : Tok) : Obj := { cls := .type "range", data := .fields #[.int a t, .int b u, .int c v] }
abbrev enO (it : Addr) (i : Int) (old : Value) : Obj := { cls := .type "enumerate", dict := none, data := .fields #[.none, .bool false, .ref it, rawInt i, .none, old], slots := #[] }
abbrev liO (l : Addr) (i : Nat) : Obj := { cls := .type "list_iterator", data := .fields #[.ref l, .int i 0] }

theorem small_up {a b : Int} (ha : -(2 ^ 61) ≤ a) (ha' : a ≤ 2 ^ 61) (hb : -(2 ^ 61) ≤ b) (hb' : b ≤ 2 ^ 61) : Builtin.Range.small a b 1 = true ∧ Builtin.Range.rangeSize a b 1 = ((b - a).toNat : Int) := by
  have e := rangeSize_nat a b
  refine ⟨?_, e⟩
  unfold Builtin.Range.small
  rw [e]
  simp only [Builtin.Range.rangeFitsLong, Bool.and_eq_true, Bool.or_eq_true, decide_eq_true_eq]
  refine ⟨⟨⟨⟨?_, ?_⟩, ?_⟩, ?_⟩, .inr ?_⟩ <;> (try simp) <;> (first | lia | omega)
theorem size_down (a b : Int) : Builtin.Range.rangeSize a b (-1) = ((a - b).toNat : Int) := by
  unfold Builtin.Range.rangeSize
  rw [if_neg (by decide)]
  split
  · simp; (first | lia | omega)
  · (first | lia | omega)
theorem small_down {a b : Int} (ha : -(2 ^ 61) ≤ a) (ha' : a ≤ 2 ^ 61) (hb : -(2 ^ 61) ≤ b) (hb' : b ≤ 2 ^ 61) : Builtin.Range.small a b (-1) = true := by
  unfold Builtin.Range.small
  rw [size_down]
  simp only [Builtin.Range.rangeFitsLong, Bool.and_eq_true, Bool.or_eq_true, decide_eq_true_eq]
  refine ⟨⟨⟨⟨?_, ?_⟩, ?_⟩, ?_⟩, .inr ?_⟩ <;> (try simp) <;> (first | lia | omega)

section
variable {C : Cx} {k : Nat} {e fe : Env} {m : Loc} {μ ν : Led} {pos : Pos}

theorem T_range1 {P : Value → Loc → Led → Led → Prop} {n : Int} {t : Tok} (h : ∀ r t u v, P (.ref r) m μ ((r, rgO 0 n 1 t u v) :: ν)) : T C k e fe (call (.type "range") [.int n t]) m μ ν P :=
  fun A A₀ base h₀ outer L s Q a W q => call_range_1 (q _ m μ _ _ _ (h _ _ _ _) (W.push _ rfl) (.push _))
theorem T_range2 {P : Value → Loc → Led → Led → Prop} {a b : Int} {t u : Tok} (h : ∀ r t u v, P (.ref r) m μ ((r, rgO a b 1 t u v) :: ν)) : T C k e fe (call (.type "range") [.int a t, .int b u]) m μ ν P :=
  fun A A₀ base h₀ outer L s Q a W q => call_range_2 (q _ m μ _ _ _ (h _ _ _ _) (W.push _ rfl) (.push _))
theorem T_range3 {P : Value → Loc → Led → Led → Prop} {a b : Int} {t u v : Tok} (h : ∀ r t u v, P (.ref r) m μ ((r, rgO a b (-1) t u v) :: ν)) : T C k e fe (call (.type "range") [.int a t, .int b u, .int (-1) v]) m μ ν P :=
  fun A A₀ base h₀ outer L s Q a W q => call_range_3 (by decide) (q _ m μ _ _ _ (h _ _ _ _) (W.push _ rfl) (.push _)) (.inl (PyProof.noPylong_small (by decide)))

theorem T_forList {x : PySem.Str} {px : Pos} {iter : Expr} {body : List Stmt} {P : Flow → Loc → Led → Led → Prop} {vs : List Value} (J : Nat → Loc → Led → Led → Prop) (hx : e.kindOf x = some .local)
    (h : T C k e fe (eval iter e) m μ ν (fun xv m1 μ1 ν1 => ∃ l n, xv = .ref l ∧ (l, lo vs n) ∈ ν1 ∧ J 0 m1 μ1 ν1))
    (turn : ∀ i v m1 μ1 ν1, i < vs.length → vs[i]? = some v → Sub ν ν1 → ∀ Q, Hid (OnFlow (J (i + 1)) P) Q → J i m1 μ1 ν1 → T C k e fe (execs body e) (fun y => if y = x then some v else m1 y) μ1 ν1 Q)
    (done : ∀ m1 μ1 ν1, Sub ν ν1 → J vs.length m1 μ1 ν1 → P .next m1 μ1 ν1)
    (hs : ∀ x, foldedSetIterable iter e x = pure x := by intro _; rfl)
    (hpk : (e.scope.kind == .class || (e.scope.kind == .module && e.locals != e.globals)) = false := by rfl) : T C k e fe (exec (.For (.Name x px) iter body [] pos) e) m μ ν P := by
  intro A A₀ base h₀ outer L s Q a W q
  refine wpAny_For (h A A₀ base h₀ outer L s _ a W fun xv m1 μ1 ν1 h1 tk1 p1 w1 g1 => ?_) hs
  obtain ⟨l, n, rfl, hm, hJ⟩ := p1
  have hl := isL_lo (w1.get hm)
  refine wpAny_pyIter_list hl ?_
  have hlt : l < h1.objs.size := Heap.lt_size (w1.get hm)
  have hne : l ≠ h1.objs.size := Nat.ne_of_lt hlt
  have W' := Walks.list (prog := C.prog) (w := C.w) a.handled h1.objs.size l hne vs.toArray
  rw [List.size_toArray] at W'
  have keep : ∀ b o, h1.get? b = some o → (h1.push { cls := .type "list_iterator", data := .fields #[.ref l, .int 0 0] }).get? b = some o := fun b o ho => Heap.get?_push_of_some _ ho
  have big : ∀ p ∈ μ1 ++ ν1, p.1 ≠ h1.objs.size := fun p hp => Nat.ne_of_lt (w1.lt p hp)
  refine forW (hs := h1) (R := fun r s' => match r with | .ok f => Q f s' | .error e' => cameBackBy (model C.prog C.w) A e (fun _ _ => False) e' s') (P := P) a W' hx hpk ⟨⟨_, Heap.get?_push_size _ rfl, rfl, rfl⟩, hl.at fun o x => keep _ o x⟩ (w1.ext keep) (.ext keep) ?_ ?_ ?_ ?_ ?_ ?_ ?_ J hJ ?_ ?_ ?_
  · intro b hb; rw [List.mem_singleton.mp hb]; exact none_at_size _
  · intro b hb; rw [List.mem_singleton.mp hb]; exact w1.none_size (Nat.le_refl _)
  · intro hb
    rcases List.mem_cons.mp hb with e1 | e1
    · exact absurd w1.ltL (e1 ▸ Nat.lt_irrefl _)
    · exact (w1.news _ (List.mem_append_right _ hm)).2.1 (List.mem_singleton.mp e1).symm
  · intro hb
    rcases List.mem_cons.mp hb with e1 | e1
    · exact absurd w1.ns.lt (e1 ▸ Nat.lt_irrefl _)
    · exact w1.off _ (List.mem_append_right _ hm) (List.mem_singleton.mp e1).symm
  · intro p hp hb
    rcases List.mem_cons.mp hb with e1 | e1
    · exact big p (List.mem_append_left _ hp) e1
    · exact w1.apart p hp _ hm (List.mem_singleton.mp e1)
  · intro p hp hb; exact big p (List.mem_append_right _ hp) (List.mem_singleton.mp hb)
  · rintro i h ⟨⟨o1, h3, _⟩, ⟨o2, h4, _⟩⟩ b hb
    rcases List.mem_cons.mp hb with e1 | e1
    · exact ⟨o1, e1 ▸ h3⟩
    · exact ⟨o2, (List.mem_singleton.mp e1) ▸ h4⟩
  · intro i v m2 μ2 ν2 hi hP hs2 hJ2
    exact turn i v m2 μ2 ν2 hi (by simpa using hP) (fun p hp => hs2 p (g1.sub p hp)) _ .refl hJ2
  · exact fun m2 μ2 ν2 hs2 hJ2 => done m2 μ2 ν2 (fun p hp => hs2 p (g1.sub p hp)) hJ2
  · exact fun f m2 μ2 ν2 h2 tk2 p2 w2 g2 => q f m2 μ2 ν2 h2 tk2 p2 w2 (g1.trans g2)

theorem T_forRange {x : PySem.Str} {px : Pos} {iter : Expr} {body : List Stmt} {P : Flow → Loc → Led → Led → Prop} {a b c : Int} {n : Nat} (J : Nat → Loc → Led → Led → Prop) (hx : e.kindOf x = some .local)
    (hsm : Builtin.Range.small a b c = true) (hn : Builtin.Range.rangeSize a b c = (n : Int))
    (h : T C k e fe (eval iter e) m μ ν (fun xv m1 μ1 ν1 => ∃ r t u v, xv = .ref r ∧ (r, rgO a b c t u v) ∈ ν1 ∧ J 0 m1 μ1 ν1))
    (turn : ∀ i t m1 μ1 ν1, i < n → Sub ν ν1 → ∀ Q, Hid (OnFlow (J (i + 1)) P) Q → J i m1 μ1 ν1 → T C k e fe (execs body e) (fun y => if y = x then some (.int (a + i * c) t) else m1 y) μ1 ν1 Q)
    (done : ∀ m1 μ1 ν1, Sub ν ν1 → J n m1 μ1 ν1 → P .next m1 μ1 ν1)
    (hs : ∀ x, foldedSetIterable iter e x = pure x := by intro _; rfl)
    (hpk : (e.scope.kind == .class || (e.scope.kind == .module && e.locals != e.globals)) = false := by rfl) : T C k e fe (exec (.For (.Name x px) iter body [] pos) e) m μ ν P := by
  intro A A₀ base h₀ outer L s Q a' W q
  refine wpAny_For (h A A₀ base h₀ outer L s _ a' W fun xv m1 μ1 ν1 h1 tk1 p1 w1 g1 => ?_) hs
  obtain ⟨r, t, u, v, rfl, hm, hJ⟩ := p1
  refine wpAny_pyIter_range (w1.get hm) hsm ?_
  have W' := Walks.range (prog := C.prog) (w := C.w) a'.handled h1.objs.size a c n
  have keep : ∀ b' o, h1.get? b' = some o → (h1.push { cls := .type "range_iterator", data := .fields #[rawInt a, rawInt (Builtin.Range.rangeSize a b c), rawInt c] }).get? b' = some o := fun b' o ho => Heap.get?_push_of_some _ ho
  have big : ∀ p ∈ μ1 ++ ν1, p.1 ≠ h1.objs.size := fun p hp => Nat.ne_of_lt (w1.lt p hp)
  refine forW (hs := h1) (R := fun r s' => match r with | .ok f => Q f s' | .error e' => cameBackBy (model C.prog C.w) A e (fun _ _ => False) e' s') (P := P) a' W' hx hpk ?_ (w1.ext keep) (.ext keep) ?_ ?_ ?_ ?_ ?_ ?_ ?_ J hJ ?_ ?_ ?_
  · have := Heap.get?_push_size h1 (o := { cls := .type "range_iterator", data := .fields #[rawInt a, rawInt (Builtin.Range.rangeSize a b c), rawInt c] }) rfl
    simpa [hn] using this
  · intro b hb; rw [List.mem_singleton.mp hb]; exact none_at_size _
  · intro b hb; rw [List.mem_singleton.mp hb]; exact w1.none_size (Nat.le_refl _)
  · intro hb; exact absurd w1.ltL ((List.mem_singleton.mp hb) ▸ Nat.lt_irrefl _)
  · intro hb; exact absurd w1.ns.lt ((List.mem_singleton.mp hb) ▸ Nat.lt_irrefl _)
  · intro p hp hb; exact big p (List.mem_append_left _ hp) (List.mem_singleton.mp hb)
  · intro p hp hb; exact big p (List.mem_append_right _ hp) (List.mem_singleton.mp hb)
  · intro i h h3 b hb; exact ⟨_, (List.mem_singleton.mp hb) ▸ h3⟩
  · rintro i v m2 μ2 ν2 hi ⟨t, rfl⟩ hs2 hJ2
    exact turn i t m2 μ2 ν2 hi (fun p hp => hs2 p (g1.sub p hp)) _ .refl hJ2
  · exact fun m2 μ2 ν2 hs2 hJ2 => done m2 μ2 ν2 (fun p hp => hs2 p (g1.sub p hp)) hJ2
  · exact fun f m2 μ2 ν2 h2 tk2 p2 w2 g2 => q f m2 μ2 ν2 h2 tk2 p2 w2 (g1.trans g2)

theorem T_enum {P : Value → Loc → Led → Led → Prop} {l : Addr} {vs : List Value} {n : Nat} (hm : (l, lo vs n) ∈ μ ++ ν)
    (h : ∀ ea ia o, o.cls = .type "list_iterator" → o.data = .fields #[.ref l, .int 0 0] → P (.ref ea) m ((ea, enO ia 0 .none) :: (ia, o) :: μ) ν) : T C k e fe (call (.type "enumerate") [.ref l]) m μ ν P := by
  intro A A₀ base h₀ outer L s Q a W q
  refine call_enumerate_1 (W.all hm) fun h' he hit hz keep => ?_
  have W' := W.ext keep
  have g' := Go.ext (e := e) (L := L) (μ := μ) (ν := ν) keep
  obtain ⟨o, ho, hc, hd⟩ := hit
  have b1 : ∀ p ∈ μ ++ ν, p.1 ≠ s.heap.objs.size := fun p hp => Nat.ne_of_lt (W.lt p hp)
  have b2 : ∀ p ∈ μ ++ ν, p.1 ≠ s.heap.objs.size + 1 := fun p hp => Nat.ne_of_lt (Nat.lt_succ_of_lt (W.lt p hp))
  have hnone : s.heap.get? (s.heap.objs.size + 1) = none := by
    cases x : s.heap.get? (s.heap.objs.size + 1) with
    | none => rfl
    | some o => exact absurd (Heap.lt_size x) (by show ¬ (s.heap.objs.size + 1 < s.heap.objs.size); (first | lia | omega))
  have W1 := W'.addM (o := o) ho (Nat.ne_of_gt W.ltL) (W.none_size (Nat.le_refl _)) (Nat.ne_of_gt W.ns.lt) b1
  have W2 := W1.addM (o := enO s.heap.objs.size 0 .none) he (Nat.ne_of_gt (Nat.lt_succ_of_lt W.ltL)) (W.none_size (Nat.le_succ _)) (Nat.ne_of_gt (Nat.lt_succ_of_lt W.ns.lt)) (fun p hp => by
    rcases List.mem_cons.mp hp with rfl | hp
    · exact Nat.ne_of_lt (Nat.lt_succ_self _)
    · exact b2 p hp)
  refine q _ m _ _ h' s.toks (h _ _ _ hc hd) W2 ⟨g'.keep, fun p hp => ?_, g'.nu, g'.sub, g'.lk⟩
  rcases List.mem_cons.mp hp with rfl | hp
  · exact .inr (.inl hnone)
  rcases List.mem_cons.mp hp with rfl | hp
  · exact .inr (.inl (none_at_size _))
  · exact .inl ⟨p, hp, rfl⟩

def FEI (e : Env) (s : Shared) (h₀ h1 : Heap) (L ea ia : Addr) (o : Obj) (μu ν1 : Led) (l : Addr) (vs : List Value) (J : Nat → Loc → Led → Led → Prop) (j : Nat) (s' : Shared) : Prop :=
  ∃ h' tk m' μ' ν' i old, s' = { s with heap := h', toks := tk } ∧ IsEnum h' ea ia ((i : Nat) : Int) old ∧ h'.IsListIter ia l i ∧ h'.IsList l vs.toArray ∧ Wd h₀ L e h' m' μ' ν' ∧ Go e L h1 ((ea, enO ia 0 .none) :: (ia, o) :: μu) ν1 h' μ' ν' ∧
      (∀ p ∈ μ', p.1 ≠ ea ∧ p.1 ≠ ia ∧ p.1 ≠ l) ∧ (∀ p ∈ ν', p.1 ≠ ea ∧ p.1 ≠ ia) ∧ J i m' μ' ν' ∧ i ≤ vs.length ∧ j = vs.length + 1 - i
theorem T_forEnum {xi xv : PySem.Str} {pi pv pt : Pos} {k' : Nat} {iter : Expr} {body : List Stmt} {P : Flow → Loc → Led → Led → Prop} {vs : List Value} (J : Nat → Loc → Led → Led → Prop) (hxi : e.kindOf xi = some .local) (hxv : e.kindOf xv = some .local)
    (h : T C k e fe (eval iter e) m μ ν (fun v m1 μ1 ν1 => ∃ ea ia o l n μu, v = .ref ea ∧ μ1 = (ea, enO ia 0 .none) :: (ia, o) :: μu ∧ o.cls = .type "list_iterator" ∧ o.data = .fields #[.ref l, .int 0 0] ∧ (l, lo vs n) ∈ ν1 ∧ J 0 m1 μu ν1))
    (turn : ∀ i v t m1 μ1 ν1, i < vs.length → vs[i]? = some v → Sub ν ν1 → ∀ Q, Hid (OnFlow (J (i + 1)) P) Q → J i m1 μ1 ν1 → T C k e fe (execs body e) (fun y => if y = xv then some v else if y = xi then some (.int i t) else m1 y) μ1 ν1 Q)
    (done : ∀ m1 μ1 ν1, Sub ν ν1 → J vs.length m1 μ1 ν1 → P .next m1 μ1 ν1)
    (hs : ∀ x, foldedSetIterable iter e x = pure x := by intro _; rfl)
    (hpk : (e.scope.kind == .class || (e.scope.kind == .module && e.locals != e.globals)) = false := by rfl) : T C k e fe (exec (.For (.Tuple [.Name xi pi, .Name xv pv] k' pt) iter body [] pos) e) m μ ν P := by
  intro A A₀ base h₀ outer L s Q a W q
  refine wpAny_For (h A A₀ base h₀ outer L s _ a W fun v1 m1 μ1 ν1 h1 tk1 p1 w1 g1 => ?_) hs
  obtain ⟨ea, ia, o, l, n, μu, rfl, rfl, hoc, hod, hm, hJ⟩ := p1
  have he0 : IsEnum h1 ea ia 0 .none := w1.getm (List.mem_cons_self ..)
  have hi0 : h1.IsListIter ia l 0 := ⟨o, w1.getm (List.mem_cons_of_mem _ (List.mem_cons_self ..)), hoc, hod⟩
  have hl0 := isL_lo (w1.get hm)
  have nd := w1.nodup
  simp only [List.map_cons, List.nodup_cons, List.mem_cons, not_or] at nd
  obtain ⟨⟨hei, heu⟩, hiu, hndu⟩ := nd
  have hle : l ≠ ea := (w1.apart _ (List.mem_cons_self ..) _ hm).symm
  have hli : l ≠ ia := (w1.apart _ (List.mem_cons_of_mem _ (List.mem_cons_self ..)) _ hm).symm
  have Ne := w1.news (ea, enO ia 0 .none) (List.mem_append_left _ (List.mem_cons_self ..))
  have Ni := w1.news (ia, o) (List.mem_append_left _ (List.mem_cons_of_mem _ (List.mem_cons_self ..)))
  have Oe := w1.off (ea, enO ia 0 .none) (List.mem_append_left _ (List.mem_cons_self ..))
  have Oi := w1.off (ia, o) (List.mem_append_left _ (List.mem_cons_of_mem _ (List.mem_cons_self ..)))
  have Nl := w1.news (l, lo vs n) (List.mem_append_right _ hm)
  have Ol := w1.off (l, lo vs n) (List.mem_append_right _ hm)
  have wu : Wd h₀ L e h1 m1 μu ν1 := by
    have mem : ∀ {p}, p ∈ μu ++ ν1 → p ∈ ((ea, enO ia 0 .none) :: (ia, o) :: μu) ++ ν1 := fun hp => by
      simp only [List.mem_append, List.mem_cons] at hp ⊢; rcases hp with x | x <;> simp [x]
    exact ⟨w1.fr, w1.ns, fun p hp => w1.news p (mem hp), fun p hp => w1.off p (mem hp), fun p hp q hq => w1.apart p (List.mem_cons_of_mem _ (List.mem_cons_of_mem _ hp)) q hq, hndu⟩
  have gu : Go e L h1 ((ea, enO ia 0 .none) :: (ia, o) :: μu) ν1 h1 μu ν1 :=
    ⟨fun _ _ _ _ _ x => x, fun p hp => .inl ⟨p, List.mem_cons_of_mem _ (List.mem_cons_of_mem _ hp), rfl⟩, fun p hp => .inl hp, fun p hp => hp, fun _ _ x => x⟩
  refine wpAny_pyIter_enum he0 ?_
  refine codeAny_forLoop_any (R := fun r s' => match r with | .ok f => Q f s' | .error e' => cameBackBy (model C.prog C.w) A e (fun _ _ => False) e' s')
    (FEI e s h₀ h1 L ea ia o μu ν1 l vs J) ?_ (vs.length + 1)
    (mk7 h1 tk1 m1 μu ν1 0 .none ⟨rfl, he0, hi0, hl0, wu, gu, fun p hp => ⟨fun e1 => heu (List.mem_map.mpr ⟨p, hp, e1⟩), fun e1 => hiu (List.mem_map.mpr ⟨p, hp, e1⟩), w1.apart p (List.mem_cons_of_mem _ (List.mem_cons_of_mem _ hp)) _ hm⟩, fun p hp => ⟨(w1.apart _ (List.mem_cons_self ..) p hp).symm, (w1.apart _ (List.mem_cons_of_mem _ (List.mem_cons_self ..)) p hp).symm⟩, hJ, Nat.zero_le _, rfl⟩)
  intro j s' hI
  refine ex7 hI fun H tk m' μ' ν' i old hI' => ?_
  clear hI
  refine an11 hI' fun e1 he' hit' hl' w' g' hμ' hν' hJ' hi e2 => ?_
  clear hI'
  subst e1 e2
  cases hv : vs[i]? with
  | none =>
    have hsz : i = vs.length := Nat.le_antisymm hi (by simpa using hv)
    subst hsz
    refine wpAny_pyNext_enum_end a.handled he' hit' hl' (by simpa using hv) fun h2 he2 => wpAny_execs_nil ?_
    have keep : ∀ b o', b ∉ [ia] → H.get? b = some o' → h2.get? b = some o' := fun b o' hb ho' => he2 b o' (fun e1 => hb (List.mem_singleton.mpr e1)) ho'
    have w2 := w'.skip keep (fun hb => Ni.2.1 (List.mem_singleton.mp hb).symm) (fun hb => Oi (List.mem_singleton.mp hb).symm) (fun b hb => (List.mem_singleton.mp hb) ▸ Ni.2.2) (fun p hp hb => by
      rcases List.mem_append.mp hp with x | x
      · exact (hμ' p x).2.1 (List.mem_singleton.mp hb)
      · exact (hν' p x).2 (List.mem_singleton.mp hb))
    refine q .next m' μ' ν' h2 tk (done _ _ _ (fun p hp => g'.sub p (g1.sub p hp)) hJ') w2 (g1.trans ⟨fun b o' h3 h4 h5 h6 => he2 b o' (fun e1 => h5 (ia, o) (List.mem_cons_of_mem _ (List.mem_cons_self ..)) e1.symm) (g'.keep b o' h3 h4 h5 h6), g'.mu, g'.nu, g'.sub, fun mf hl n => (g'.lk mf hl n).at fun o x => he2 _ o (fun e1 => Ni.2.1 e1.symm) x⟩)
  | some v =>
    have hlt : i < vs.length := (List.getElem?_eq_some_iff.mp hv).1
    have heH : ea < H.objs.size := Heap.lt_size he'
    obtain ⟨oi, hoi, _⟩ := id hit'
    have hiH : ia < H.objs.size := Heap.lt_size hoi
    obtain ⟨ol, hol, _⟩ := id hl'
    have hlH : l < H.objs.size := Heap.lt_size hol
    refine wpAny_pyNext_enum_item he' hit' hl' (by simpa using hv) hei fun h2 heo hit2 ht2 hz2 hk2 => ?_
    refine wpAny_letOwnedTupleGo_enum heo fun h3 he3 hs3 => ?_
    replace hs3 : Heap.SameBut ea h2 h3 := hs3
    have ht3 : h3.IsTuple H.objs.size #[.int i tk, v] := ⟨_, (hs3.2 _ (Nat.ne_of_gt heH)).trans ht2, rfl, _, rfl⟩
    have hz3 : h3.objs.size = H.objs.size + 1 := hs3.1.trans hz2
    refine wpAny_assign_Tuple a.handled ht3 rfl rfl fun h4 hx4 => ?_
    replace hx4 : Heap.ExtBut h3.objs.size h3 h4 := hx4
    have k34 : ∀ b o', h3.get? b = some o' → h4.get? b = some o' := fun b o' hb => hx4 b o' (Nat.ne_of_lt (Heap.lt_size hb)) hb
    have k24 : ∀ b o', b ∉ [ea, ia] → H.get? b = some o' → h4.get? b = some o' := fun b o' hb ho' => by
      have n1 : b ≠ ea := fun e1 => hb (by simp [e1])
      have n2 : b ≠ ia := fun e1 => hb (by simp [e1])
      exact k34 b o' ((hs3.2 b n1).trans (hk2 b o' n1 n2 ho'))
    have w4 := w'.skip k24 (fun hb => by
        rcases List.mem_cons.mp hb with e1 | e1
        · exact Ne.2.1 e1.symm
        · exact Ni.2.1 (List.mem_singleton.mp e1).symm) (fun hb => by
        rcases List.mem_cons.mp hb with e1 | e1
        · exact Oe e1.symm
        · exact Oi (List.mem_singleton.mp e1).symm) (fun b hb => by
        rcases List.mem_cons.mp hb with e1 | e1
        · exact e1 ▸ Ne.2.2
        · exact (List.mem_singleton.mp e1) ▸ Ni.2.2) (fun p hp hb => by
        rcases List.mem_append.mp hp with x | x <;> rcases List.mem_cons.mp hb with e1 | e1
        · exact (hμ' p x).1 e1
        · exact (hμ' p x).2.1 (List.mem_singleton.mp e1)
        · exact (hν' p x).1 e1
        · exact (hν' p x).2 (List.mem_singleton.mp e1))
    have g4 : Go e L h1 ((ea, enO ia 0 .none) :: (ia, o) :: μu) ν1 h4 μ' ν' := ⟨fun b o' h5 h6 h7 h8 => k24 b o' (fun hb => by
        rcases List.mem_cons.mp hb with e1 | e1
        · exact h7 _ (List.mem_cons_self ..) e1.symm
        · exact h7 _ (List.mem_cons_of_mem _ (List.mem_cons_self ..)) (List.mem_singleton.mp e1).symm) (g'.keep b o' h5 h6 h7 h8), g'.mu, g'.nu, g'.sub, fun mf hl n => (g'.lk mf hl n).at fun o x => k24 _ o (fun hb => by
        rcases List.mem_cons.mp hb with e1 | e1
        · exact Ne.2.1 e1.symm
        · exact Ni.2.1 (List.mem_singleton.mp e1).symm) x⟩
    show wpAny _ A (do holding [v] (assign (.Name xi pi) e (.int i tk)); do holding [] (assign (.Name xv pv) e v); pure ()) _ _ _
    refine wpAny_bind (wpAny_holding (wpAny_assign_Name (wpAny_storeName_local hxi w4.ns (fun h5 hn5 hs5 => ?_) hpk)))
    replace hs5 : Heap.SameBut e.locals h4 h5 := hs5
    have w5 := w4.store a.fresh hn5 hs5
    refine wpAny_bind (wpAny_holding (wpAny_assign_Name (wpAny_storeName_local hxv w5.ns (fun h6 hn6 hs6 => wpAny_pure ?_) hpk)))
    replace hs6 : Heap.SameBut e.locals h5 h6 := hs6
    have w6 := w5.store a.fresh hn6 hs6
    have g6 := (g4.trans (Go.store hs5)).trans (Go.store hs6)
    have up6 : ∀ b o', b ≠ e.locals → h4.get? b = some o' → h6.get? b = some o' := fun b o' hb ho' => (hs6.2 b hb).trans ((hs5.2 b hb).trans ho')
    have he6 : IsEnum h6 ea ia ((i : Int) + 1) v := up6 _ _ Oe (k34 _ _ he3)
    have hit6 : h6.IsListIter ia l (i + 1) := by
      obtain ⟨o2, a1, a2, a3⟩ := hit2
      exact ⟨o2, up6 _ _ Oi (k34 _ _ ((hs3.2 _ fun x => hei x.symm).trans a1)), a2, a3⟩
    have hl6 : h6.IsList l vs.toArray := hl'.at fun o2 x => up6 _ _ Ol (k24 _ _ (by simp [hle, hli]) x)
    refine wpAny_mono (turn i v tk m' μ' ν' hlt hv (fun p hp => g'.sub p (g1.sub p hp)) _ .refl hJ' A A₀ base h₀ outer L { s with heap := h6, toks := _ } (fun f s3 => _) a w6 fun f m3 μ3 ν3 h7 tk7 p7 w7 g7 => ?_) (fun _ _ x => x) fun _ _ x => x.elim
    have up7 : ∀ b, b = ea ∨ b = ia ∨ b = l → ∀ o', h6.get? b = some o' → h7.get? b = some o' := fun b hb o' ho' => by
      have n1 : b ≠ e.locals := by rcases hb with rfl | rfl | rfl <;> assumption
      have n2 : b ≠ L := by
        rcases hb with rfl | rfl | rfl
        · exact Ne.2.1
        · exact Ni.2.1
        · exact Nl.2.1
      exact g7.keep b o' n1 n2 (fun p hp e1 => by
        rcases hb with rfl | rfl | rfl
        · exact (hμ' p hp).1 e1
        · exact (hμ' p hp).2.1 e1
        · exact (hμ' p hp).2.2 e1) ho'
    have alive6 : ∀ b, b = ea ∨ b = ia ∨ b = l → h6.get? b ≠ none := fun b hb e1 => by
      rcases hb with rfl | rfl | rfl
      · rw [he6] at e1; cases e1
      · obtain ⟨o2, a1, _⟩ := hit6; rw [a1] at e1; cases e1
      · obtain ⟨o2, a1, _⟩ := hl6; rw [a1] at e1; cases e1
    have offE : ∀ b, b = ea ∨ b = ia ∨ b = l → b ≠ e.locals ∧ b ≠ L := fun b hb => by
      rcases hb with rfl | rfl | rfl
      · exact ⟨Oe, Ne.2.1⟩
      · exact ⟨Oi, Ni.2.1⟩
      · exact ⟨Ol, Nl.2.1⟩
    have m7 : ∀ p ∈ μ3, ∀ b, b = ea ∨ b = ia ∨ b = l → p.1 ≠ b := fun p hp b hb e1 => by
      rcases g7.mu p hp with ⟨r, hr, e2⟩ | h8 | h8 | h8
      · rcases hb with rfl | rfl | rfl
        · exact (hμ' r hr).1 (e2.trans e1)
        · exact (hμ' r hr).2.1 (e2.trans e1)
        · exact (hμ' r hr).2.2 (e2.trans e1)
      · exact alive6 b hb (e1 ▸ h8)
      · exact (offE b hb).1 (e1 ▸ h8)
      · exact (offE b hb).2 (e1 ▸ h8)
    have n7 : ∀ p ∈ ν3, ∀ b, b = ea ∨ b = ia → p.1 ≠ b := fun p hp b hb e1 => by
      have hb' : b = ea ∨ b = ia ∨ b = l := hb.elim .inl fun x => .inr (.inl x)
      rcases g7.nu p hp with h8 | ⟨r, hr, e2⟩ | h8 | h8 | h8
      · rcases hb with rfl | rfl
        · exact (hν' p h8).1 e1
        · exact (hν' p h8).2 e1
      · rcases hb with rfl | rfl
        · exact (hμ' r hr).1 (e2.trans e1)
        · exact (hμ' r hr).2.1 (e2.trans e1)
      · exact alive6 b hb' (e1 ▸ h8)
      · exact (offE b hb').1 (e1 ▸ h8)
      · exact (offE b hb').2 (e1 ▸ h8)
    have he7 : IsEnum h7 ea ia ((i + 1 : Nat) : Int) v := by
      have := up7 ea (.inl rfl) _ he6
      have e9 : (((i + 1 : Nat)) : Int) = (i : Int) + 1 := by push_cast; rfl
      rw [e9]; exact this
    have hit7 : h7.IsListIter ia l (i + 1) := by obtain ⟨o2, a1, r⟩ := hit6; exact ⟨o2, up7 ia (.inr (.inl rfl)) _ a1, r⟩
    have hl7 : h7.IsList l vs.toArray := by obtain ⟨o2, a1, r⟩ := hl6; exact ⟨o2, up7 l (.inr (.inr rfl)) _ a1, r⟩
    have fin : J (i + 1) m3 μ3 ν3 → ∃ j', j' < vs.length + 1 - i ∧ FEI e s h₀ h1 L ea ia o μu ν1 l vs J j' { s with heap := h7, toks := tk7 } := fun hJ7 =>
      ⟨vs.length + 1 - (i + 1), by (first | lia | omega), mk7 h7 tk7 m3 μ3 ν3 (i + 1) v ⟨rfl, he7, hit7, hl7, w7, g6.trans g7, fun p hp => ⟨m7 p hp ea (.inl rfl), m7 p hp ia (.inr (.inl rfl)), m7 p hp l (.inr (.inr rfl))⟩, fun p hp => ⟨n7 p hp ea (.inl rfl), n7 p hp ia (.inr rfl)⟩, hJ7, hlt, rfl⟩⟩
    cases f with
    | next => exact fin p7
    | cont => exact fin p7
    | brk => exact q .next m3 μ3 ν3 h7 tk7 p7 w7 ((g1.trans g6).trans g7)
    | ret v => exact q (.ret v) m3 μ3 ν3 h7 tk7 p7 w7 ((g1.trans g6).trans g7)
end
end Mine
namespace Mine

section
variable {C : Cx} {k : Nat} {e fe : Env} {m : Loc} {μ ν : Led} {pos : Pos}

def Then (C : Cx) (k : Nat) (e fe : Env) (rest : List Stmt) (P : Flow → Loc → Led → Led → Prop) (f : Flow) (m : Loc) (μ ν : Led) : Prop :=
  match f with
  | .next => T C k e fe (execs rest e) m μ ν P
  | .brk => P .brk m μ ν
  | .cont => P .cont m μ ν
  | .ret v => P (.ret v) m μ ν
theorem T_st {st : Stmt} {rest : List Stmt} {P : Flow → Loc → Led → Led → Prop} (h : T C k e fe (exec st e) m μ ν (Then C k e fe rest P)) : T C k e fe (execs (st :: rest) e) m μ ν P :=
  T_cons (T_mono h fun f m' μ' ν' _ hf => by cases f <;> exact hf)
theorem then_next {rest : List Stmt} {P : Flow → Loc → Led → Led → Prop} (h : T C k e fe (execs rest e) m μ ν P) : Then C k e fe rest P .next m μ ν := h
theorem then_ret {rest : List Stmt} {P : Flow → Loc → Led → Led → Prop} {v : Value} (h : P (.ret v) m μ ν) : Then C k e fe rest P (.ret v) m μ ν := h
def NoneThen (P : Flow → Loc → Led → Led → Prop) (v : Value) (m : Loc) (μ ν : Led) : Prop := (∀ a, v ≠ .ref a) ∧ P .next m μ ν
theorem none_then {P : Flow → Loc → Led → Led → Prop} (h : P .next m μ ν) : NoneThen P .none m μ ν := ⟨(fun _ h => nomatch h), h⟩
theorem T_exprN {x : Expr} {P : Flow → Loc → Led → Led → Prop} (h : T C k e fe (eval x e) m μ ν (NoneThen P)) (hi : interactive e = false := by rfl) (hs : swapsWith x none pos.line e = pure false := by rfl) : T C k e fe (exec (.Expr x pos) e) m μ ν P := T_expr h hi hs
theorem on_next {J : Loc → Led → Led → Prop} {P : Flow → Loc → Led → Led → Prop} (h : J m μ ν) : OnFlow J P .next m μ ν := h
theorem on_ret {J : Loc → Led → Led → Prop} {P : Flow → Loc → Led → Led → Prop} {v : Value} (h : P (.ret v) m μ ν) : OnFlow J P (.ret v) m μ ν := h
end

def Two (items : List Value) (K : Value → Value → Prop) : Prop := ∃ a b, items = [a, b] ∧ K a b
theorem two_mk {a b : Value} {K : Value → Value → Prop} (h : K a b) : Two [a, b] K := ⟨a, b, rfl, h⟩
def Three (items : List Value) (K : Value → Value → Value → Prop) : Prop := ∃ a b c, items = [a, b, c] ∧ K a b c
theorem three_mk {a b c : Value} {K : Value → Value → Value → Prop} (h : K a b c) : Three [a, b, c] K := ⟨a, b, c, rfl, h⟩
section
variable {C : Cx} {k : Nat} {e fe : Env} {m : Loc} {μ ν : Led} {pos : Pos} {P : Flow → Loc → Led → Led → Prop}
section
variable (C : Cx) (k : Nat) (e fe : Env) (x y z : PySem.Str) (P : Flow → Loc → Led → Led → Prop)
@[reducible] def KW2 (m : Loc) (μ ν : Led) (a b : Value) : Prop := T C k e fe (storeName e y b) m μ ν (KN C k e fe (storeName e x a) (fun _ => P .next))
@[reducible] def KT2 (items : List Value) (m : Loc) (μ ν : Led) : Prop := Two items (KW2 C k e fe x y P m μ ν)
@[reducible] def KU2 (v : Value) (m : Loc) (μ ν : Led) : Prop := T C k e fe (unpackItems v 2 none) m μ ν (KT2 C k e fe x y P)
@[reducible] def KW3 (m : Loc) (μ ν : Led) (a b c : Value) : Prop := T C k e fe (storeName e z c) m μ ν (KN C k e fe (storeName e y b) (KN C k e fe (storeName e x a) (fun _ => P .next)))
@[reducible] def KT3 (items : List Value) (m : Loc) (μ ν : Led) : Prop := Three items (KW3 C k e fe x y z P m μ ν)
@[reducible] def KU3 (v : Value) (m : Loc) (μ ν : Led) : Prop := T C k e fe (unpackItems v 3 none) m μ ν (KT3 C k e fe x y z P)
end
theorem T_assignTS2 {x y : PySem.Str} {px py : Pos} {k' : Nat} {tpos : Pos} {val : Expr} (hw : swappedStores [.Tuple [.Name x px, .Name y py] k' tpos] val e = pure (some [x, y]))
    (h : T C k e fe (eval val e) m μ ν (KU2 C k e fe x y P))
    (hs : swapsWithSole [.Tuple [.Name x px, .Name y py] k' tpos] val pos.line e = pure false := by rfl) : T C k e fe (exec (.Assign [.Tuple [.Name x px, .Name y py] k' tpos] val pos) e) m μ ν P :=
  T_assignTS hw (T_mono h fun v m1 μ1 ν1 _ h1 => T_mono h1 fun items m2 μ2 ν2 _ h2 => by
    obtain ⟨a, b, rfl, h3⟩ := h2
    exact T_inOrder_cons (T_bindName (T_mono h3 fun _ m3 μ3 ν3 _ h4 => T_inOrder_cons (T_bindName (T_mono h4 fun _ m4 μ4 ν4 _ h5 => T_inOrder_nil h5))))) hs
theorem T_assignTS3 {x y z : PySem.Str} {px py pz : Pos} {k' : Nat} {tpos : Pos} {val : Expr} (hw : swappedStores [.Tuple [.Name x px, .Name y py, .Name z pz] k' tpos] val e = pure (some [x, y, z]))
    (h : T C k e fe (eval val e) m μ ν (KU3 C k e fe x y z P))
    (hs : swapsWithSole [.Tuple [.Name x px, .Name y py, .Name z pz] k' tpos] val pos.line e = pure false := by rfl) : T C k e fe (exec (.Assign [.Tuple [.Name x px, .Name y py, .Name z pz] k' tpos] val pos) e) m μ ν P :=
  T_assignTS hw (T_mono h fun v m1 μ1 ν1 _ h1 => T_mono h1 fun items m2 μ2 ν2 _ h2 => by
    obtain ⟨a, b, c, rfl, h3⟩ := h2
    exact T_inOrder_cons (T_bindName (T_mono h3 fun _ m3 μ3 ν3 _ h4 => T_inOrder_cons (T_bindName (T_mono h4 fun _ m4 μ4 ν4 _ h5 => T_inOrder_cons (T_bindName (T_mono h5 fun _ m5 μ5 ν5 _ h6 => T_inOrder_nil h6))))))) hs
/-- a tuple's parts to two, three, four names, in their order -/
theorem T_assignT2 {x y : PySem.Str} {px py : Pos} {k' : Nat} {tpos : Pos} {t : Addr} {n : Nat} {a b : Value} {P : Unit → Loc → Led → Led → Prop} (hm : (t, tu [a, b] n) ∈ μ ++ ν)
    (h : T C k e fe (storeName e x a) m μ ν (KN C k e fe (storeName e y b) P)) : T C k e fe (assign (.Tuple [.Name x px, .Name y py] k' tpos) e (.ref t)) m μ ν P :=
  T_assignTup (ts := [assign (.Name x px) e, assign (.Name y py) e]) hm (T_inOrder_cons (T_assign1 (T_mono h fun _ m1 μ1 ν1 _ h1 => T_inOrder_cons (T_assign1 (T_mono h1 fun _ m2 μ2 ν2 _ h2 => T_inOrder_nil h2)))))
theorem T_assignT3 {x y z : PySem.Str} {px py pz : Pos} {k' : Nat} {tpos : Pos} {t : Addr} {n : Nat} {a b c : Value} {P : Unit → Loc → Led → Led → Prop} (hm : (t, tu [a, b, c] n) ∈ μ ++ ν)
    (h : T C k e fe (storeName e x a) m μ ν (KN C k e fe (storeName e y b) (KN C k e fe (storeName e z c) P))) : T C k e fe (assign (.Tuple [.Name x px, .Name y py, .Name z pz] k' tpos) e (.ref t)) m μ ν P :=
  T_assignTup (ts := [assign (.Name x px) e, assign (.Name y py) e, assign (.Name z pz) e]) hm (T_inOrder_cons (T_assign1 (T_mono h fun _ m1 μ1 ν1 _ h1 => T_inOrder_cons (T_assign1 (T_mono h1 fun _ m2 μ2 ν2 _ h2 => T_inOrder_cons (T_assign1 (T_mono h2 fun _ m3 μ3 ν3 _ h3 => T_inOrder_nil h3)))))))
theorem T_assignT4 {x y z u : PySem.Str} {px py pz pu : Pos} {k' : Nat} {tpos : Pos} {t : Addr} {n : Nat} {a b c d : Value} {P : Unit → Loc → Led → Led → Prop} (hm : (t, tu [a, b, c, d] n) ∈ μ ++ ν)
    (h : T C k e fe (storeName e x a) m μ ν (KN C k e fe (storeName e y b) (KN C k e fe (storeName e z c) (KN C k e fe (storeName e u d) P)))) : T C k e fe (assign (.Tuple [.Name x px, .Name y py, .Name z pz, .Name u pu] k' tpos) e (.ref t)) m μ ν P :=
  T_assignTup (ts := [assign (.Name x px) e, assign (.Name y py) e, assign (.Name z pz) e, assign (.Name u pu) e]) hm (T_inOrder_cons (T_assign1 (T_mono h fun _ m1 μ1 ν1 _ h1 => T_inOrder_cons (T_assign1 (T_mono h1 fun _ m2 μ2 ν2 _ h2 => T_inOrder_cons (T_assign1 (T_mono h2 fun _ m3 μ3 ν3 _ h3 => T_inOrder_cons (T_assign1 (T_mono h3 fun _ m4 μ4 ν4 _ h4 => T_inOrder_nil h4)))))))))
end

theorem T_methodN {C : Cx} {k : Nat} {e fe : Env} {m : Loc} {μ ν : Led} {pos : Pos} {P : Value → Loc → Led → Led → Prop} {x name : PySem.Str} {px apos : Pos} {args : List Expr}
    (h : T C k e fe (eval (.Name x px) e) m μ ν (KMe C k e fe name (do return (← importBound (.Name x px) e).getD true) pos args P))
    (he : eval (.Call (.Attribute (.Name x px) name apos) args [] pos) e = (do
      let ov ← eval (.Name x px) e
      standAt apos.atName
      let (f, first) ← holding [ov] (getMethod ov name (do return (← importBound (.Name x px) e).getD true))
      callWith pos f first (backTo pos (starEach args e)) [])) : T C k e fe (eval (.Call (.Attribute (.Name x px) name apos) args [] pos) e) m μ ν P :=
  T_method h he

/-- plain data: ints, bools, lists, tuples -/
inductive D where
  | int (i : Int)
  | bool (b : Bool)
  | list (xs : List D)
  | tup (xs : List D)

mutual
def Rep (ν : Led) : D → Value → Prop
  | .int i, v => ∃ t, v = .int i t
  | .bool b, v => v = .bool b
  | .list xs, v => ∃ a vs n, v = .ref a ∧ (a, lo vs n) ∈ ν ∧ Reps ν xs vs
  | .tup xs, v => ∃ a vs n, v = .ref a ∧ (a, tu vs n) ∈ ν ∧ Reps ν xs vs
def Reps (ν : Led) : List D → List Value → Prop
  | [], vs => vs = []
  | x :: xs, vs => ∃ v r, vs = v :: r ∧ Rep ν x v ∧ Reps ν xs r
end

mutual
theorem Rep.mono {ν ν' : Led} (s : Sub ν ν') : ∀ {d : D} {v : Value}, Rep ν d v → Rep ν' d v
  | .int i, v, h => by unfold Rep at h ⊢; exact h
  | .bool b, v, h => by unfold Rep at h ⊢; exact h
  | .list xs, v, h => by unfold Rep at h ⊢; exact let ⟨a, vs, n, h1, h2, h3⟩ := h; ⟨a, vs, n, h1, s _ h2, Reps.mono s h3⟩
  | .tup xs, v, h => by unfold Rep at h ⊢; exact let ⟨a, vs, n, h1, h2, h3⟩ := h; ⟨a, vs, n, h1, s _ h2, Reps.mono s h3⟩
theorem Reps.mono {ν ν' : Led} (s : Sub ν ν') : ∀ {ds : List D} {vs : List Value}, Reps ν ds vs → Reps ν' ds vs
  | [], vs, h => by unfold Reps at h ⊢; exact h
  | x :: xs, vs, h => by unfold Reps at h ⊢; exact let ⟨v, r, h1, h2, h3⟩ := h; ⟨v, r, h1, Rep.mono s h2, Reps.mono s h3⟩
end

theorem Reps.length {ν : Led} : ∀ {ds : List D} {vs : List Value}, Reps ν ds vs → vs.length = ds.length
  | [], vs, h => by unfold Reps at h; subst h; rfl
  | x :: xs, vs, h => by unfold Reps at h; obtain ⟨v, r, rfl, _, h3⟩ := h; simp [Reps.length h3]
theorem Reps.get {ν : Led} : ∀ {ds : List D} {vs : List Value}, Reps ν ds vs → ∀ {i : Nat} {d : D}, ds[i]? = some d → ∃ v, vs[i]? = some v ∧ Rep ν d v
  | [], _, _, i, d, h => by simp at h
  | x :: xs, vs, h, 0, d, hd => by unfold Reps at h; obtain ⟨v, r, rfl, h2, h3⟩ := h; simp at hd; subst hd; exact ⟨v, rfl, h2⟩
  | x :: xs, vs, h, i + 1, d, hd => by unfold Reps at h; obtain ⟨v, r, rfl, h2, h3⟩ := h; simp at hd; obtain ⟨v', h4, h5⟩ := Reps.get h3 hd; exact ⟨v', by simpa using h4, h5⟩
theorem Reps.at {ν : Led} : ∀ {ds : List D} {vs : List Value}, Reps ν ds vs → ∀ {i : Nat} {v : Value}, vs[i]? = some v → ∃ d, ds[i]? = some d ∧ Rep ν d v
  | [], vs, h, i, v, hv => by unfold Reps at h; subst h; simp at hv
  | x :: xs, vs, h, 0, v, hv => by unfold Reps at h; obtain ⟨v', r, rfl, h2, h3⟩ := h; simp at hv; subst hv; exact ⟨x, rfl, h2⟩
  | x :: xs, vs, h, i + 1, v, hv => by unfold Reps at h; obtain ⟨v', r, rfl, h2, h3⟩ := h; simp at hv; obtain ⟨d, h4, h5⟩ := Reps.at h3 hv; exact ⟨d, by simpa using h4, h5⟩
theorem Reps.append {ν : Led} : ∀ {ds es : List D} {vs ws : List Value}, Reps ν ds vs → Reps ν es ws → Reps ν (ds ++ es) (vs ++ ws)
  | [], es, vs, ws, h, h' => by unfold Reps at h; subst h; exact h'
  | x :: xs, es, vs, ws, h, h' => by unfold Reps at h; obtain ⟨v, r, rfl, h2, h3⟩ := h; show Reps ν (x :: (xs ++ es)) (v :: (r ++ ws)); unfold Reps; exact ⟨v, _, rfl, h2, h3.append h'⟩
theorem Reps.nil {ν : Led} : Reps ν [] [] := by unfold Reps; rfl
theorem Reps.cons {ν : Led} {d : D} {ds : List D} {v : Value} {vs : List Value} (h : Rep ν d v) (h' : Reps ν ds vs) : Reps ν (d :: ds) (v :: vs) := by unfold Reps; exact ⟨v, vs, rfl, h, h'⟩
theorem Reps.one {ν : Led} {d : D} {v : Value} (h : Rep ν d v) : Reps ν [d] [v] := .cons h .nil

/-- a list of ints -/
abbrev L (ns : List Int) : D := .list (ns.map .int)
theorem reps_ints {ν : Led} : ∀ {ns : List Int} {vs : List Value}, IntsAre vs ns → Reps ν (ns.map .int) vs
  | [], _, .nil => .nil
  | _ :: _, _, .cons n t h => .cons (by unfold Rep; exact ⟨t, rfl⟩) (reps_ints h)
theorem ints_reps {ν : Led} : ∀ {ns : List Int} {vs : List Value}, Reps ν (ns.map .int) vs → IntsAre vs ns
  | [], _, h => by unfold Reps at h; subst h; exact .nil
  | n :: ns, _, h => by simp only [List.map_cons] at h; unfold Reps at h; obtain ⟨v, r, rfl, h2, h3⟩ := h; unfold Rep at h2; obtain ⟨t, rfl⟩ := h2; exact .cons n t (ints_reps h3)
theorem ints_rep (n : Nat) (i : Int) (t : Tok) : IntsAre (List.replicate n (.int i t)) (List.replicate n i) := by
  induction n with
  | zero => exact .nil
  | succ n ih => exact .cons _ _ ih
theorem rep_L {ν : Led} {ns : List Int} {v : Value} : Rep ν (L ns) v ↔ ∃ a vs n, v = .ref a ∧ (a, lo vs n) ∈ ν ∧ IntsAre vs ns := by
  unfold L Rep
  constructor
  · rintro ⟨a, vs, n, h1, h2, h3⟩; exact ⟨a, vs, n, h1, h2, ints_reps h3⟩
  · rintro ⟨a, vs, n, h1, h2, h3⟩; exact ⟨a, vs, n, h1, h2, reps_ints h3⟩
theorem rep_int {ν : Led} {i : Int} {v : Value} : Rep ν (.int i) v ↔ ∃ t, v = .int i t := by unfold Rep; rfl
theorem rep_bool {ν : Led} {b : Bool} {v : Value} : Rep ν (.bool b) v ↔ v = .bool b := by unfold Rep; rfl
theorem rep_tup {ν : Led} {xs : List D} {v : Value} : Rep ν (.tup xs) v ↔ ∃ a vs n, v = .ref a ∧ (a, tu vs n) ∈ ν ∧ Reps ν xs vs := by unfold Rep; rfl
theorem rep_list {ν : Led} {xs : List D} {v : Value} : Rep ν (.list xs) v ↔ ∃ a vs n, v = .ref a ∧ (a, lo vs n) ∈ ν ∧ Reps ν xs vs := by unfold Rep; rfl
theorem Rep.i {ν : Led} {i : Int} {t : Tok} : Rep ν (.int i) (.int i t) := rep_int.mpr ⟨t, rfl⟩
theorem Rep.b {ν : Led} {b : Bool} : Rep ν (.bool b) (.bool b) := rep_bool.mpr rfl

/-- a call that gives back a datum and changes nothing -/
def Fn (C : Cx) (k : Nat) (f : Addr) (args : List Value) (ν : Led) (R : D → Prop) : Prop :=
  ∀ (e fe : Env) (m : Loc), T C k e fe (call (.ref f) args) m [] ν (fun v m' μ' ν' => m' = m ∧ μ' = [] ∧ ∃ d, R d ∧ Rep ν' d v)

theorem T_fn {C : Cx} {k : Nat} {e fe : Env} {m : Loc} {μ ν : Led} {f : Addr} {args : List Value} {R : D → Prop} {P : Value → Loc → Led → Led → Prop} (F : Fn C k f args ν R)
    (h : ∀ v d ν', Sub ν ν' → R d → Rep ν' d v → P v m μ ν') : T C k e fe (call (.ref f) args) m μ ν P :=
  T_mono (T_drop (μc := []) (μr := μ) rfl (fun _ hp => hp) (F e fe m)) fun v m' μ' ν' hs hp => by
    obtain ⟨μ1, ν1, rfl, rfl, rfl, rfl, d, hd, hr⟩ := hp
    exact h v d _ hs hd (hr.mono fun p hp => List.mem_append_left _ hp)
end Mine
namespace Mine

section
variable {C : Cx} {k : Nat} {e fe : Env} {m : Loc} {μ ν : Led} {pos : Pos} {a b : Int} {t u : Tok} {P : Value → Loc → Led → Led → Prop} {l : Addr} {vs : List Value} {n : Nat} {v : Value}

theorem bitOr_up {a c : Int} {n : Nat} (ha : 0 ≤ a) (hn : a < 2 ^ n) (hc : 0 ≤ c) : Builtin.bitOr a (c * 2 ^ n) = a + c * 2 ^ n := by
  obtain ⟨x, rfl⟩ := Int.eq_ofNat_of_zero_le ha
  obtain ⟨y, rfl⟩ := Int.eq_ofNat_of_zero_le hc
  have e : (y : Int) * 2 ^ n = ((y * 2 ^ n : Nat) : Int) := by push_cast; rfl
  have hx : x < 2 ^ n := by exact_mod_cast hn
  rw [e, bitOr_nat, Nat.or_comm, or_low hx]; push_cast; omega
theorem T_mulS {p q : Nat} (ha : a.natAbs < 2 ^ p) (hb : b.natAbs < 2 ^ q) (hpq : p + q ≤ 134217728) (h : ∀ t, P (.int (a * b) t) m μ ν) : T C k e fe (binaryOp .Mult (.int a t) (.int b u)) m μ ν P :=
  T_mul (IntMulOk.of_le (intBits_le_iff.mpr ha) (intBits_le_iff.mpr hb) hpq) h
theorem T_addListsM {l2 : Addr} {ws : List Value} {n2 : Nat} (hm : (l, lo vs n) ∈ μ ++ ν) (hm2 : (l2, lo ws n2) ∈ μ ++ ν) (hz : vs.length + ws.length ≤ sizeLine) (h : ∀ l', (∀ p ∈ μ ++ ν, p.1 ≠ l') → P (.ref l') m ((l', lo (vs ++ ws) 0) :: μ) ν) :
    T C k e fe (binaryOp .Add (.ref l) (.ref l2)) m μ ν P := by
  intro A A₀ base h₀ outer L s Q a W q
  obtain ⟨mf, F, N, back⟩ := W.lift a.fresh
  refine add_lists F N (isL_lo (W.all hm)) (isL_lo (W.all hm2)) (fun h' F' N' => ?_) hz
  obtain ⟨W', g'⟩ := back h' _ F' N' fun p hp => List.mem_cons_of_mem _ hp
  have hne : ∀ p ∈ μ ++ ν, p.1 ≠ s.heap.objs.size := fun p hp => Nat.ne_of_lt (W.lt p hp)
  have W2 := W'.addM (o := lo (vs ++ ws) 0) (N' _ (List.mem_cons_self ..)).1 (Nat.ne_of_gt W.ltL) (W.none_size (Nat.le_refl _)) (Nat.ne_of_gt W.ns.lt) hne
  exact q _ m _ _ h' s.toks (h _ hne) W2 (g'.addM (none_at_size _))

theorem T_methodX {o : Expr} {name : PySem.Str} {apos : Pos} {args : List Expr}
    (h : T C k e fe (eval o e) m μ ν (KMe C k e fe name (do return (← importBound o e).getD true) pos args P))
    (he : eval (.Call (.Attribute o name apos) args [] pos) e = (do
      let ov ← eval o e
      standAt apos.atName
      let (f, first) ← holding [ov] (getMethod ov name (do return (← importBound o e).getD true))
      callWith pos f first (backTo pos (starEach args e)) [])) : T C k e fe (eval (.Call (.Attribute o name apos) args [] pos) e) m μ ν P :=
  T_method h he
theorem T_part {α : Type} {t : Sem α} {μc μr : Led} {P Q : α → Loc → Led → Led → Prop} (F : T C k e fe t m μc ν Q) (h : ∀ v m' μ1 ν1, Sub ν (ν1 ++ ν) → Q v m' μ1 ν1 → P v m' (μ1 ++ μr) (ν1 ++ ν)) : T C k e fe t m (μc ++ μr) ν P :=
  T_mono (T_drop rfl (fun _ hp => hp) F) fun v m' μ' ν' _ hp => by
    obtain ⟨μ1, ν1, rfl, rfl, hq⟩ := hp
    exact h v m' μ1 ν1 (fun p hp => List.mem_append_right _ hp) hq
theorem reps_nil {ν : Led} {vs : List Value} : Reps ν [] vs ↔ vs = [] := by unfold Reps; rfl
theorem reps_cons {ν : Led} {d : D} {ds : List D} {vs : List Value} : Reps ν (d :: ds) vs ↔ ∃ v r, vs = v :: r ∧ Rep ν d v ∧ Reps ν ds r := by conv => lhs; unfold Reps
theorem rep_tup2 {ν : Led} {x y : D} {v : Value} : Rep ν (.tup [x, y]) v ↔ ∃ a n p q, v = .ref a ∧ (a, tu [p, q] n) ∈ ν ∧ Rep ν x p ∧ Rep ν y q := by
  rw [rep_tup]
  constructor
  · rintro ⟨a, vs, n, rfl, h1, h2⟩
    obtain ⟨p, r, rfl, hp, h2⟩ := reps_cons.mp h2
    obtain ⟨q, r, rfl, hq, h2⟩ := reps_cons.mp h2
    obtain rfl := reps_nil.mp h2
    exact ⟨a, n, p, q, rfl, h1, hp, hq⟩
  · rintro ⟨a, n, p, q, rfl, h1, hp, hq⟩
    exact ⟨a, _, n, rfl, h1, .cons hp (.one hq)⟩
theorem rep_tup3 {ν : Led} {x y z : D} {v : Value} : Rep ν (.tup [x, y, z]) v ↔ ∃ a n p q r, v = .ref a ∧ (a, tu [p, q, r] n) ∈ ν ∧ Rep ν x p ∧ Rep ν y q ∧ Rep ν z r := by
  rw [rep_tup]
  constructor
  · rintro ⟨a, vs, n, rfl, h1, h2⟩
    obtain ⟨p, r, rfl, hp, h2⟩ := reps_cons.mp h2
    obtain ⟨q, r, rfl, hq, h2⟩ := reps_cons.mp h2
    obtain ⟨z, r, rfl, hz, h2⟩ := reps_cons.mp h2
    obtain rfl := reps_nil.mp h2
    exact ⟨a, n, p, q, z, rfl, h1, hp, hq, hz⟩
  · rintro ⟨a, n, p, q, z, rfl, h1, hp, hq, hz⟩
    exact ⟨a, _, n, rfl, h1, .cons hp (.cons hq (.one hz))⟩
/-- a number with its sign: not below nought -/
abbrev Sg (xs : List Int) : D := .tup [.bool false, L xs]
theorem rep_Sg {ν : Led} {d : D} {v : Value} : Rep ν (.tup [.bool false, d]) v ↔ ∃ a n q, v = .ref a ∧ (a, tu [.bool false, q] n) ∈ ν ∧ Rep ν d q := by
  rw [rep_tup2]
  constructor
  · rintro ⟨a, n, p, q, rfl, h1, hp, hq⟩
    rw [rep_bool] at hp; subst hp
    exact ⟨a, n, q, rfl, h1, hq⟩
  · rintro ⟨a, n, q, rfl, h1, hq⟩
    exact ⟨a, n, _, q, rfl, h1, rep_bool.mpr rfl, hq⟩
end
end Mine
namespace Mine

section
variable {C : Cx} {k : Nat} {e fe : Env} {m : Loc} {μ ν : Led} {pos : Pos} {P : Value → Loc → Led → Led → Prop}
theorem T_callF0 {f : Value} {first : List Value} (hk : keepIn C.K f = true) (h : T C k e fe (call f first) m μ ν P) : T C k e fe (callWith pos f first (backTo pos (starEach [] e)) []) m μ ν P :=
  fun A A₀ base h₀ outer L s Q a W q => callWith_K0 (a.K W) hk (by rw [List.append_nil]; exact h A A₀ base h₀ outer L s _ a W q)
/-- a new object of a class that has no init of its own -/
theorem T_inst {c : Addr} (hm : makesIn C.K c = true) (hi : findIn C.K (.ref c) "__init__" = some (some (.builtin "object.__init__"))) (h : ∀ x dx, P (.ref x) m μ ((x, instObj c dx) :: (dx, dictOf [] 0) :: ν)) :
    T C k e fe (call (.ref c) []) m μ ν P := by
  intro A A₀ base h₀ outer L s Q a W q
  obtain ⟨mf, F, N, back⟩ := W.lift a.fresh
  refine call_cls0 F a.hK N hm hi fun x dx h' F' N' hlt hxd => ?_
  obtain ⟨W', g'⟩ := back h' _ F' N' fun p hp => List.mem_cons_of_mem _ (List.mem_cons_of_mem _ hp)
  have nx := N' _ (List.mem_cons_self ..)
  have nd := N' _ (List.mem_cons_of_mem _ (List.mem_cons_self ..))
  have old : ∀ b, (∀ p ∈ allNews h₀ L s.heap, p.1 ≠ b) → b ≠ L → h₀.get? b = none → s.heap.get? b = none := by
    intro b hb hL h0
    cases x : s.heap.get? b with
    | none => rfl
    | some o => exact absurd rfl (hb (b, o) (mem_allNews hL h0 x))
  have od := old dx (fun p hp => Nat.ne_of_lt (hlt p hp)) nd.2.1 nd.2.2
  have ox := old x (fun p hp => Nat.ne_of_lt (Nat.lt_trans (hlt p hp) hxd)) nx.2.1 nx.2.2
  obtain ⟨oL, eL⟩ : ∃ o, s.heap.get? e.locals = some o := let ⟨o, _, _, h, _⟩ := W.ns; ⟨o, h⟩
  have ne : ∀ b, s.heap.get? b = none → b ≠ e.locals := by
    intro b hb hbe; subst hbe; rw [eL] at hb; cases hb
  have ofs : ∀ b, s.heap.get? b = none → ∀ p ∈ μ, p.1 ≠ b := by
    intro b hb p hp hpb
    have := W.getm hp
    rw [hpb, hb] at this; cases this
  have W2 := (W'.add (o := dictOf [] 0) nd.1 nd.2.1 nd.2.2 (ne _ od) (ofs _ od)).add (o := instObj c dx) nx.1 nx.2.1 nx.2.2 (ne _ ox) (ofs _ ox)
  exact q _ m _ _ h' s.toks (h x dx) W2 ⟨g'.keep, g'.mu, fun p hp => by
    rcases List.mem_cons.mp hp with rfl | hp
    · exact .inr (.inr (.inl ox))
    rcases List.mem_cons.mp hp with rfl | hp
    · exact .inr (.inr (.inl od))
    · exact .inl hp, fun p hp => List.mem_cons_of_mem _ (List.mem_cons_of_mem _ hp), g'.lk⟩
/-- the method of such an object -/
theorem T_meth {pl : Sem Bool} {P : Value × List Value → Loc → Led → Led → Prop} {x dx c f : Addr} {name : PySem.Str} (hx : (x, instObj c dx) ∈ ν) (hd : (dx, dictOf [] 0) ∈ ν) (hg : plainGet C.K c name = true)
    (hf : findIn C.K (.ref c) name = some (some (.ref f))) (ht : isFn C.K (.ref f) = true) (h : P (.ref f, [.ref x]) m μ ν) (hl : getL name [] = some none := by rfl) : T C k e fe (getMethod (.ref x) name pl) m μ ν P :=
  fun A A₀ base h₀ outer L s Q a W q => by
    obtain ⟨mf, F⟩ := W.fr
    exact method_inst F a.hK ⟨W.get hx, rfl, rfl, W.get hd⟩ hg hf ht hl (q _ _ _ _ _ s.toks h W .refl)
end
end Mine
namespace Mine

section
variable {C : Cx} {k : Nat} {e fe : Env} {m : Loc} {μ ν : Led}

/-- a call of a def of the text with one cell -/
theorem T_defC {x : PySem.Str} {f : Addr} {args : List Value} {P : Value → Loc → Led → Led → Prop} {name qual : PySem.Str} {params : Arguments} {body : List Stmt} {scope : Scope} {dV kV doc pm cdv ct oc : Value} {an od : Option Addr} {osl : Array (Option Value)} {binds : List (PySem.Str × Value)}
    (ho : C.K.lookup f = some ⟨oc, od, .func (fnOf name qual params body scope dV kV doc pm an cdv ct), osl⟩) (hcd : codeIn C.K cdv qual = true)
    (hbind : ∀ s, BindsTo s (fnOf name qual params body scope dV kV doc pm an cdv ct) ⟨args, []⟩ binds) (hkind : (binds.all fun y => scope.names.lookup y.1 == some .local || scope.names.lookup y.1 == some .cell) = true) (hc1 : ∀ n, cellsFrom n scope.names [] = [(x, n)])
    (hco : scope.isCoroutine = false) (hgen : scope.isGenerator = false) (hk : scope.kind = .function)
    (h : ∀ L' o m0, o.data = .cell (bindC (envOfC qual scope L' f cdv).kindOf binds (fun _ => none) x) → m0 = bindL (envOfC qual scope L' f cdv).kindOf binds (fun _ => none) → ∀ Q', Hid (fun fl _ μ' ν' => P (match fl with | .ret v => v | _ => .none) m μ' ν') Q' → T C k (envOfC qual scope L' f cdv) (envOfC qual scope L' f cdv) (execs body (envOfC qual scope L' f cdv)) m0 μ ((L' + 1, o) :: ν) Q') :
    T C (k + 1) e fe (call (.ref f) args) m μ ν P := by
  intro A A₀ base h₀ outer L s Q a W q
  refine wpAny_call ?_
  have lift : ∃ mf, Fr h₀ L s.heap mf ∧ (e.locals = L → mf = m) := by
    by_cases hL : e.locals = L
    · exact W.fr.elim fun mf F => ⟨m, ⟨hL ▸ W.ns, F.keep, F.above⟩, fun _ => rfl⟩
    · exact W.fr.elim fun mf F => ⟨mf, F, fun x => absurd x hL⟩
  obtain ⟨mf, F, hm⟩ := lift
  have inAll : ∀ {b : Addr} {o : Obj}, b ≠ L → h₀.get? b = none → s.heap.get? b = some o → (b, o) ∈ allNews h₀ L s.heap := fun a b c => mem_allNews a b c
  refine code_defC a.below F a.hK news_all a.top a.frames a.frame a.fkind ho hcd (Nat.lt_of_le_of_lt (Nat.le_add_right _ _) a.depth) (hbind s) hkind (by rw [hc1]; simp) (fun g L' h₁ tk₁ cells FG F' N'' Y B' X' T' hltL => ?_) hco hgen hk
  have hY := Y
  rw [hc1] at hY
  obtain ⟨co, rfl, hco'⟩ := hY.one
  have N' : News g L' h₁ (allNews h₀ L s.heap) := fun p hp => N'' p (List.mem_cons_of_mem _ hp)
  have NC := N'' (L' + 1, co) List.mem_cons_self
  have low : ∀ b o, s.heap.get? b = some o → b < L' := by
    intro b o ho
    by_cases hL : b = L
    · exact Nat.lt_of_lt_of_le (hL ▸ FG.ns.lt) F'.above
    cases h0 : h₀.get? b with
    | some o' => exact Nat.lt_of_lt_of_le (Heap.lt_size (FG.keep b o' h0)) F'.above
    | none => exact hltL (b, o) (mem_allNews hL h0 ho)
  have freshC : s.heap.get? (L' + 1) = none := by
    cases x : s.heap.get? (L' + 1) with
    | none => rfl
    | some o => exact absurd (low _ _ x) (Nat.not_lt.mpr (Nat.le_succ _))
  have alive : ∀ b o, s.heap.get? b = some o → ∃ o', h₁.get? b = some o' := by
    intro b o ho
    by_cases hL : b = L
    · obtain ⟨oL, _, _, hL', _⟩ := FG.ns
      exact ⟨oL, hL ▸ F'.keep _ _ hL'⟩
    cases h0 : h₀.get? b with
    | some o' => exact ⟨o', F'.keep _ _ (FG.keep _ _ h0)⟩
    | none => exact ⟨o, (N' _ (inAll hL h0 ho)).1⟩
  have back : ∀ b, h₁.get? b = none → s.heap.get? b = none := by
    intro b hb
    cases h1 : s.heap.get? b with
    | none => rfl
    | some o => obtain ⟨o', h2⟩ := alive b o h1; rw [hb] at h2; cases h2
  have Wc : Wd g L' (envOfC qual scope L' f cdv) h₁ (bindL (envOfC qual scope L' f cdv).kindOf binds fun _ => none) μ ((L' + 1, co) :: ν) := by
    have all : ∀ p ∈ μ ++ ν, h₁.get? p.1 = some p.2 ∧ p.1 ≠ L' ∧ g.get? p.1 = none := fun p hp => N' p (inAll (W.news p hp).2.1 (W.news p hp).2.2 (W.news p hp).1)
    have all' : ∀ p ∈ μ ++ (L' + 1, co) :: ν, h₁.get? p.1 = some p.2 ∧ p.1 ≠ L' ∧ g.get? p.1 = none := fun p hp => by
      rcases List.mem_append.mp hp with y | y
      · exact all p (List.mem_append_left _ y)
      rcases List.mem_cons.mp y with rfl | y
      · exact NC
      · exact all p (List.mem_append_right _ y)
    refine ⟨⟨_, F'⟩, F'.ns, all', fun p hp => (all' p hp).2.1, fun p hp q hq => ?_, W.nodup⟩
    rcases List.mem_cons.mp hq with rfl | hq
    · have := low _ _ (W.getm hp)
      exact Nat.ne_of_lt (Nat.lt_succ_of_lt this)
    · exact W.apart p hp q hq
  have hfresh : g.get? L' = none := by
    cases x : g.get? L' with
    | none => rfl
    | some o => exact absurd (Heap.lt_size x) (Nat.not_lt.mpr F'.above)
  have a' : At C k (envOfC qual scope L' f cdv) (envOfC qual scope L' f cdv) (A.deeper (envOfC qual scope L' f cdv)) A base g (fe :: outer) L' := by
    refine ⟨?_, rfl, hk, a.handled, ?_, ?_, B', X', T', hk, rfl, rfl, hfresh, fun p hp => (a.giv p hp).at fun o x => FG.keep _ o x⟩
    · show A.frames.map _ = _; rw [a.frames]; rfl
    · have := a.depth; show A.depth + 1 + k < recursionLimit; omega
    · have := a.units; show A.units + 3 + 8 * k + 8 < cLine; omega
  refine wpAny_mono (h L' co _ hco' rfl _ .refl _ _ _ _ _ _ { s with heap := h₁, toks := _ } _ a' Wc fun fl m' μ' ν' h' tk' hp W' G => ?_) (fun _ _ x => x) fun _ _ x => x.elim
  -- the way back
  have keepAll : ∀ b o, b ≠ L → (∀ p ∈ μ, p.1 ≠ b) → s.heap.get? b = some o → h₀.get? b = none → h'.get? b = some o := fun b o hb hμ ho h0 =>
    G.keep b o (N' _ (inAll hb h0 ho)).2.1 (N' _ (inAll hb h0 ho)).2.1 hμ (N' _ (inAll hb h0 ho)).1
  let nw : Led := (allNews h₀ L s.heap).filter fun p => !(μ.any fun q => q.1 == p.1)
  have nwm : ∀ {p}, p ∈ nw ↔ p ∈ allNews h₀ L s.heap ∧ ∀ q ∈ μ, q.1 ≠ p.1 := by
    intro p
    simp [nw, List.mem_filter]
  refine leaveK_ (L' := L') (m' := m') (news' := nw ++ (μ' ++ ν')) ((W'.fr.elim fun mf' Fx => ⟨W'.ns, Fx.keep, Fx.above⟩)) ?_ fun Fb Nb => ?_
  · intro p hp
    rcases List.mem_append.mp hp with hp | hp
    · obtain ⟨h1, h2⟩ := nwm.mp hp
      exact ⟨G.keep _ _ (N' _ h1).2.1 (N' _ h1).2.1 h2 (N' _ h1).1, (N' _ h1).2⟩
    · exact W'.news p hp
  · have hel : ∀ p : Addr × Obj, h₁.get? p.1 = none → p.1 ≠ e.locals := fun p hp e1 => by
      obtain ⟨o, _, _, h1, _⟩ := W.ns
      obtain ⟨o', h2⟩ := alive _ _ h1
      rw [← e1, hp] at h2; cases h2
    have keepB : ∀ b o, b ≠ L → (∀ p ∈ μ, p.1 ≠ b) → s.heap.get? b = some o → h'.get? b = some o := by
      intro b o hb hμ ho
      cases h0 : h₀.get? b with
      | some o' =>
        have := F.keep b o' h0
        rw [ho] at this
        have e1 := Option.some.inj this
        subst e1
        exact Fb.keep b o h0
      | none => exact keepAll b o hb hμ ho h0
    have Wb : Wd h₀ L e h' m μ' ν' := by
      refine ⟨⟨mf, Fb⟩, ?_, fun p hp => Nb p (List.mem_append_right _ hp), fun p hp => ?_, W'.apart, W'.nodup⟩
      · by_cases hL : e.locals = L
        · rw [← hm hL, hL]; exact Fb.ns
        · obtain ⟨o, es, ep, h1, r⟩ := W.ns
          exact ⟨o, es, ep, keepB _ _ hL (fun p hp => W.off p (List.mem_append_left _ hp)) h1, r⟩
      · have oldq : ∀ q ∈ μ ++ ν, q.1 ≠ e.locals := W.off
        rcases List.mem_append.mp hp with x | x
        · rcases G.mu p x with ⟨q1, hq, e1⟩ | h3 | h3 | h3
          · rw [← e1]; exact oldq q1 (List.mem_append_left _ hq)
          · exact hel p h3
          · exact absurd h3 (W'.off p hp)
          · exact absurd h3 (W'.off p hp)
        · rcases G.nu p x with h3 | ⟨q1, hq, e1⟩ | h3 | h3 | h3
          · rcases List.mem_cons.mp h3 with rfl | h3
            · intro e1
              obtain ⟨o, _, _, h1, _⟩ := W.ns
              rw [← e1, freshC] at h1; cases h1
            · exact oldq p (List.mem_append_right _ h3)
          · rw [← e1]; exact oldq q1 (List.mem_append_left _ hq)
          · exact hel p h3
          · exact absurd h3 (W'.off p hp)
          · exact absurd h3 (W'.off p hp)
    refine q _ m μ' ν' h' tk' hp Wb ⟨fun b o _ hb hμ ho => keepB b o hb hμ ho, fun p hp => ?_, fun p hp => ?_, fun p hp => G.sub p (List.mem_cons_of_mem _ hp), fun mf' _ n => (show mf = mf' from funext fun nm => F.ns.agree n nm) ▸ Fb.ns⟩
    · rcases G.mu p hp with h3 | h3 | h3 | h3
      · exact .inl h3
      · exact .inr (.inl (back _ h3))
      · exact absurd h3 (W'.off p (List.mem_append_left _ hp))
      · exact absurd h3 (W'.off p (List.mem_append_left _ hp))
    · rcases G.nu p hp with h3 | h3 | h3 | h3 | h3
      · rcases List.mem_cons.mp h3 with rfl | h3
        · exact .inr (.inr (.inl freshC))
        · exact .inl h3
      · exact .inr (.inl h3)
      · exact .inr (.inr (.inl (back _ h3)))
      · exact absurd h3 (W'.off p (List.mem_append_right _ hp))
      · exact absurd h3 (W'.off p (List.mem_append_right _ hp))

end
end Mine
namespace Mine

section
variable {prog : Program} {w : World} {A : Around}

/-- the loop of a list comprehension of one clause -/
theorem compLoopG {elt target iter : Expr} {ifs : List Expr} {scope : Scope} {pos : Pos} {it acc : Value} {env : Env} {R : Result → Shared → Prop} (I : Nat → Shared → Prop)
    (turn : ∀ n s, I n s → wpAny (model prog w) A (pyNext it) (fun r s₁ => match r with
      | none => R (.ok .next) s₁
      | some v => wpAny (model prog w) A (letOwnedTupleGo target it v) (fun _ s₁' => wpAny (model prog w) A (assign target env v) (fun _ s₂ =>
          wpAny (model prog w) A (forIn ifs true fun c r => if r = true then do let ok ← isTrue c env (eval c env); pure (ForInStep.yield ok) else pure (ForInStep.yield r)) (fun ok s₃ =>
            if ok = true then wpAny (model prog w) A (eval elt env) (fun x s₄ =>
              wpAny (model prog w) A (call (.builtin "list.append") [acc, x]) (fun _ s₅ => ∃ m, m < n ∧ I m s₅) (fun _ _ => False) s₄) (fun _ _ => False) s₃
            else ∃ m, m < n ∧ I m s₃) (fun _ _ => False) s₂) (fun _ _ => False) s₁') (fun _ _ => False) s₁) (fun _ _ => False) s)
    (n : Nat) {s : Shared} (h : I n s) : codeAny (model prog w) A (.compLoop (.ListComp elt [⟨target, iter, ifs, 0⟩] scope pos) 0 it acc env) R s := by
  refine codeAny_loop rfl I (fun n s hI => ?_) n h
  show wpAny _ A ((compTurn (.ListComp elt [⟨target, iter, ifs, 0⟩] scope pos) 0 it acc env).onRaise (fun x => do noteFrame x env; theTreesLotGoes x)) _ _ s
  refine wpAny_noted ?_
  rw [compTurn_list]
  refine wpAny_bind (wpAny_standAt (wpAny_bind (wpAny_mono (turn n s hI) (fun r s₁ h₁ => ?_) fun _ _ h' => h'.elim)))
  cases r with
  | none => exact wpAny_pure h₁
  | some v =>
    refine wpAny_bind (wpAny_mono h₁ (fun _ s₁' h₁' => ?_) fun _ _ h' => h'.elim)
    refine wpAny_bind (wpAny_mono h₁' (fun _ s₂ h₂ => wpAny_bind (wpAny_mono h₂ (fun ok s₃ h₃ => ?_) fun _ _ h' => h'.elim)) fun _ _ h' => h'.elim)
    cases ok with
    | false => exact wpAny_pure ⟨rfl, h₃⟩
    | true =>
      exact wpAny_bind (wpAny_bind (wpAny_mono h₃ (fun x s₄ h₄ => wpAny_bind (wpAny_mono h₄ (fun _ s₅ h₅ => wpAny_pure (wpAny_pure ⟨rfl, h₅⟩)) fun _ _ h' => h'.elim)) fun _ _ h' => h'.elim))
end

/-- what a step of a comprehension may change -/
structure Ch (ce : Env) (L : Addr) (hid : List Addr) (h : Heap) (ν : Led) (h' : Heap) (ν' : Led) : Prop where
  keep : ∀ b o, b ≠ ce.locals → b ≠ L → b ∉ hid → h.get? b = some o → h'.get? b = some o
  nu : ∀ p ∈ ν', p ∈ ν ∨ (p.1 ∉ hid ∧ p.1 ≠ ce.locals ∧ p.1 ≠ L ∧ h.get? p.1 = none)
  sub : Sub ν ν'
  lk : ∀ mf, ce.locals ≠ L → h.Ns L mf → h'.Ns L mf
theorem Ch.refl {ce : Env} {L : Addr} {hid : List Addr} {h : Heap} {ν : Led} : Ch ce L hid h ν h ν := ⟨fun _ _ _ _ _ x => x, fun _ hp => .inl hp, .refl, fun _ _ x => x⟩
theorem Ch.trans {ce : Env} {L : Addr} {hid : List Addr} {h h1 h2 : Heap} {ν ν1 ν2 : Led} (x : Ch ce L hid h ν h1 ν1) (y : Ch ce L hid h1 ν1 h2 ν2) : Ch ce L hid h ν h2 ν2 := by
  refine ⟨fun b o a1 a2 a3 ho => y.keep b o a1 a2 a3 (x.keep b o a1 a2 a3 ho), fun p hp => ?_, x.sub.trans y.sub, fun mf hl n => y.lk mf hl (x.lk mf hl n)⟩
  rcases y.nu p hp with h3 | ⟨a1, a2, a3, a4⟩
  · exact x.nu p h3
  · refine .inr ⟨a1, a2, a3, ?_⟩
    cases e : h.get? p.1 with
    | none => rfl
    | some o => have := x.keep _ _ a2 a3 a1 e; rw [a4] at this; cases this
theorem Ch.of_go {ce : Env} {L : Addr} {hid : List Addr} {h₀ h h' : Heap} {ν ν' : Led} {m' : Loc} (g : Go ce L h [] ν h' [] ν') (W : Wd h₀ L ce h' m' [] ν') (al : ∀ b ∈ hid, h.get? b ≠ none) : Ch ce L hid h ν h' ν' := by
  refine ⟨fun b o a1 a2 a3 ho => g.keep b o a1 a2 (fun p hp => absurd hp (List.not_mem_nil)) ho, fun p hp => ?_, g.sub, g.lk⟩
  rcases g.nu p hp with h3 | ⟨q, hq, _⟩ | h3 | h3 | h3
  · exact .inl h3
  · exact absurd hq (List.not_mem_nil)
  · exact .inr ⟨fun hm => al _ hm h3, W.off p hp, (W.news p hp).2.1, h3⟩
  · exact absurd h3 (W.off p hp)
  · exact absurd h3 (W.news p hp).2.1
/-- hidden objects alone are changed, or names -/
theorem Ch.hidden {ce : Env} {L : Addr} {hid : List Addr} {h h' : Heap} {ν : Led} (hL : L ∉ hid) (hk : ∀ b o, b ∉ hid → h.get? b = some o → h'.get? b = some o) : Ch ce L hid h ν h' ν :=
  ⟨fun b o _ _ a3 ho => hk b o a3 ho, fun _ hp => .inl hp, .refl, fun _ _ n => n.at fun o x => hk _ o hL x⟩
theorem Ch.store {ce : Env} {L : Addr} {hid : List Addr} {h h' : Heap} {ν : Led} (hs : Heap.SameBut ce.locals h h') : Ch ce L hid h ν h' ν :=
  ⟨fun b _ hb _ _ x => (hs.2 b hb).trans x, fun _ hp => .inl hp, .refl, fun _ hl n => n.sameBut hs (Ne.symm hl)⟩

section
variable {C : Cx} {k : Nat} {ce fe : Env}

/-- the tests and the value of a turn -/
def Turn (C : Cx) (k : Nat) (ce fe : Env) (ifs : List Expr) (elt : Expr) (m : Loc) (ν : Led) (Ja : Value → Led → Prop) (Jb : Led → Prop) : Prop :=
  T C k ce fe (forIn ifs true fun c r => if r = true then do let ok ← isTrue c ce (eval c ce); pure (ForInStep.yield ok) else pure (ForInStep.yield r)) m [] ν
    (fun ok m2 μ2 ν2 => μ2 = [] ∧ (ok = true → T C k ce fe (eval elt ce) m2 [] ν2 (fun y _ μ3 ν3 => μ3 = [] ∧ Ja y ν3)) ∧ (ok = false → Jb ν2))
theorem turn_nil {elt : Expr} {m : Loc} {ν : Led} {Ja : Value → Led → Prop} {Jb : Led → Prop} (h : T C k ce fe (eval elt ce) m [] ν (fun y _ μ3 ν3 => μ3 = [] ∧ Ja y ν3)) : Turn C k ce fe [] elt m ν Ja Jb :=
  T_pure ⟨rfl, fun _ => h, (fun x => nomatch x)⟩
theorem turn_one {c elt : Expr} {m : Loc} {ν : Led} {Ja : Value → Led → Prop} {Jb : Led → Prop} (h : T C k ce fe (isTrue c ce (eval c ce)) m [] ν (fun ok m2 μ2 ν2 => μ2 = [] ∧ (ok = true → T C k ce fe (eval elt ce) m2 [] ν2 (fun y _ μ3 ν3 => μ3 = [] ∧ Ja y ν3)) ∧ (ok = false → Jb ν2))) : Turn C k ce fe [c] elt m ν Ja Jb :=
  T_same (fun _ _ _ H => wpAny_tests_one H) h

theorem comp_core {A A₀ : Around} {base h₀ : Heap} {outer : List Env} {L It D : Addr} {hid fpS : List Addr} {n : Nat} {St : Nat → Heap → Prop} {Pit : Nat → Loc → Led → Prop} {s : Shared} {target iter elt : Expr} {ifs : List Expr} {scope : Scope} {pos : Pos} {R : Result → Shared → Prop} {ν₁ : Led} {mc₀ : Loc}
    (a : At C k ce fe A A₀ base h₀ outer L)
    (frame : ∀ i h h', St i h → (∀ b ∈ fpS, ∀ o, h.get? b = some o → h'.get? b = some o) → St i h') (alive : ∀ i h, St i h → ∀ b ∈ fpS, ∃ o, h.get? b = some o) (hsub : ∀ b ∈ hid, b ∈ fpS)
    (foff : ∀ b ∈ fpS, b ≠ ce.locals ∧ b ≠ L ∧ b ≠ D) (hDl : D ≠ ce.locals) (hDL : D ≠ L) (hid0 : ∀ b ∈ D :: hid, h₀.get? b = none)
    (adv : ∀ (i : Nat) (h : Heap) (tk : Nat) (mc : Loc) (ν : Led) (Rn : Shared → Prop) (K : Shared → Prop), i < n → St i h → Wd h₀ L ce h mc [] ν → (∀ p ∈ ν, p.1 ∉ hid) → Sub ν₁ ν →
      (∀ h' tk' mc' ν2, St (i + 1) h' → Wd h₀ L ce h' mc' [] ν2 → Ch ce L hid h ν h' ν2 → Pit i mc' ν2 → K { s with heap := h', toks := tk' }) →
      wpAny (model C.prog C.w) A (pyNext (.ref It)) (fun r s₁ => match r with
        | none => Rn s₁
        | some v => wpAny (model C.prog C.w) A (letOwnedTupleGo target (.ref It) v) (fun _ s₁' => wpAny (model C.prog C.w) A (assign target ce v) (fun _ s₂ => K s₂) (fun _ _ => False) s₁') (fun _ _ => False) s₁) (fun _ _ => False) { s with heap := h, toks := tk })
    (fin : ∀ (h : Heap) (tk : Nat) (mc : Loc) (ν : Led) (Rn : Shared → Prop) (K : Value → Shared → Prop), St n h → Wd h₀ L ce h mc [] ν → (∀ p ∈ ν, p.1 ∉ hid) →
      (∀ h' tk', (∀ b o, b ∉ hid → h.get? b = some o → h'.get? b = some o) → Rn { s with heap := h', toks := tk' }) →
      wpAny (model C.prog C.w) A (pyNext (.ref It)) (fun r s₁ => match r with | none => Rn s₁ | some v => K v s₁) (fun _ _ => False) { s with heap := h, toks := tk })
    (J : Nat → List Value → Led → Prop) (hJ : J 0 [] ν₁)
    (turn : ∀ i mc ν ys, i < n → Sub ν₁ ν → J i ys ν → (∀ ν2, Sub ν ν2 → Pit i mc ν2 → Turn C k ce fe ifs elt mc ν2 (fun y ν3 => J (i + 1) (ys ++ [y]) ν3) (fun ν3 => J (i + 1) ys ν3)))
    (st0 : St 0 s.heap) (w0 : Wd h₀ L ce s.heap mc₀ [] ν₁) (hD : s.heap.get? D = some (lo [] 0)) (off0 : ∀ p ∈ ν₁, p.1 ∉ D :: hid) (hn : n ≤ sizeLine)
    (q : ∀ h' tk mc' ν' ys c, J n ys ν' → ys.length ≤ n → Wd h₀ L ce h' mc' [] ν' → Ch ce L (D :: hid) s.heap ν₁ h' ν' → h'.get? D = some (lo ys c) → (∀ p ∈ ν', p.1 ∉ D :: hid) → R (.ok .next) { s with heap := h', toks := tk }) :
    codeAny (model C.prog C.w) A (.compLoop (.ListComp elt [⟨target, iter, ifs, 0⟩] scope pos) 0 (.ref It) (.ref D) ce) R s := by
  have hLh : L ∉ hid := fun hb => (foff _ (hsub _ hb)).2.1 rfl
  have hLD : L ∉ D :: hid := fun hb => (List.mem_cons.mp hb).elim (fun e => hDL e.symm) hLh
  have hlD : ce.locals ∉ D :: hid := fun hb => (List.mem_cons.mp hb).elim (fun e => hDl e.symm) fun e => (foff _ (hsub _ e)).1 rfl
  refine compLoopG (fun j s' => ∃ h tk mc ν ys c i, s' = { s with heap := h, toks := tk } ∧ St i h ∧ Wd h₀ L ce h mc [] ν ∧ Ch ce L (D :: hid) s.heap ν₁ h ν ∧ h.get? D = some (lo ys c) ∧ (∀ p ∈ ν, p.1 ∉ D :: hid) ∧ J i ys ν ∧ ys.length ≤ i ∧ i ≤ n ∧ j = n + 1 - i) ?_ (n + 1)
    ⟨s.heap, s.toks, mc₀, ν₁, [], 0, 0, rfl, st0, w0, .refl, hD, off0, hJ, Nat.le_refl _, Nat.zero_le _, rfl⟩
  rintro j s' ⟨h, tk, mc, ν, ys, c, i, rfl, hst, hw, hch, hDh, hoff, hJi, hyl, hin, rfl⟩
  have offh : ∀ p ∈ ν, p.1 ∉ hid := fun p hp hb => hoff p hp (List.mem_cons_of_mem _ hb)
  have alD : ∀ {i h ys c}, St i h → h.get? D = some (lo ys c) → ∀ b ∈ D :: hid, h.get? b ≠ none := by
    intro i h ys c hst hDh b hb e
    rcases List.mem_cons.mp hb with rfl | hb
    · rw [hDh] at e; cases e
    · obtain ⟨o, ho⟩ := alive _ _ hst _ (hsub _ hb); rw [ho] at e; cases e
  have offS : ∀ {h ν h' ν'}, (∀ p ∈ ν, p.1 ∉ D :: hid) → Ch ce L (D :: hid) h ν h' ν' → ∀ p ∈ ν', p.1 ∉ D :: hid := by
    intro h ν h' ν' ho hc p hp
    rcases hc.nu p hp with h3 | ⟨h3, _⟩
    · exact ho p h3
    · exact h3
  by_cases hlt : i < n
  · refine adv i h tk mc ν _ _ hlt hst hw offh hch.sub fun h1 tk1 mc1 ν1 st1 w1 c1 p1 => ?_
    have hD1 : h1.get? D = some (lo ys c) := c1.keep D _ hDl hDL (fun hb => (foff _ (hsub _ hb)).2.2 rfl) hDh
    have c1' : Ch ce L (D :: hid) h ν h1 ν1 := ⟨fun b o a1 a2 a3 => c1.keep b o a1 a2 fun hb => a3 (List.mem_cons_of_mem _ hb), fun p hp => by
      rcases c1.nu p hp with h3 | ⟨a1, a2, a3, a4⟩
      · exact .inl h3
      · refine .inr ⟨fun hb => ?_, a2, a3, a4⟩
        rcases List.mem_cons.mp hb with e | hb
        · rw [e, hDh] at a4; cases a4
        · exact a1 hb, c1.sub, c1.lk⟩
    have off1 := offS hoff c1'
    refine wpAny_mono (turn i mc1 ν ys hlt hch.sub hJi ν1 c1.sub p1 A A₀ base h₀ outer L { s with heap := h1, toks := tk1 } (fun ok s3 => _) a w1 fun ok m2 μ2 ν2 h2 tk2 p2 w2 g2 => ?_) (fun _ _ x => x) fun _ _ x => x.elim
    obtain ⟨rfl, pa, pb⟩ := p2
    have c2 := Ch.of_go (hid := D :: hid) g2 w2 (alD st1 hD1)
    have hD2 : h2.get? D = some (lo ys c) := g2.keep D _ hDl hDL (fun p hp => absurd hp (List.not_mem_nil)) hD1
    have st2 : St (i + 1) h2 := frame _ _ _ st1 fun b hb o ho => g2.keep b o (foff b hb).1 (foff b hb).2.1 (fun p hp => absurd hp (List.not_mem_nil)) ho
    have off2 := offS off1 c2
    cases ok with
    | false =>
      exact ⟨n + 1 - (i + 1), by omega, h2, tk2, m2, ν2, ys, c, i + 1, rfl, st2, w2, (hch.trans c1').trans c2, hD2, off2, pb rfl, by omega, hlt, rfl⟩
    | true =>
      refine wpAny_mono (pa rfl A A₀ base h₀ outer L { s with heap := h2, toks := tk2 } (fun y s4 => _) a w2 fun y m3 μ3 ν3 h3 tk3 p3 w3 g3 => ?_) (fun _ _ x => x) fun _ _ x => x.elim
      obtain ⟨rfl, pj⟩ := p3
      have c3 := Ch.of_go (hid := D :: hid) g3 w3 (alD st2 hD2)
      have hD3 : h3.get? D = some (lo ys c) := g3.keep D _ hDl hDL (fun p hp => absurd hp (List.not_mem_nil)) hD2
      have st3 : St (i + 1) h3 := frame _ _ _ st2 fun b hb o ho => g3.keep b o (foff b hb).1 (foff b hb).2.1 (fun p hp => absurd hp (List.not_mem_nil)) ho
      have off3 := offS off2 c3
      refine append_at hD3 (fun h4 hs4 hD4 => ?_) (by rw [List.size_toArray]; exact Nat.le_trans hyl (Nat.le_trans hin hn))
      have keep4 : ∀ b o, b ∉ [D] → h3.get? b = some o → h4.get? b = some o := fun b o hb ho => (hs4.2 b fun e => hb (List.mem_singleton.mpr e)).trans ho
      have e1 : (ys.toArray.push y) = (ys ++ [y]).toArray := by simp
      rw [e1] at hD4
      have w4 := w3.skip keep4 (fun e => hDL (List.mem_singleton.mp e).symm) (fun e => hDl (List.mem_singleton.mp e).symm) (fun b hb => hid0 b (by rw [List.mem_singleton.mp hb]; exact List.mem_cons_self)) (fun p hp hb => off3 p (by simpa using hp) (by rw [List.mem_singleton.mp hb]; exact List.mem_cons_self))
      have c4 : Ch ce L (D :: hid) h3 ν3 h4 ν3 := Ch.hidden hLD fun b o hb ho => keep4 b o (fun e => hb (by rw [List.mem_singleton.mp e]; exact List.mem_cons_self)) ho
      have st4 : St (i + 1) h4 := frame _ _ _ st3 fun b hb o ho => keep4 b o (fun e => (foff b hb).2.2 (List.mem_singleton.mp e)) ho
      exact ⟨n + 1 - (i + 1), by omega, h4, tk3, m3, ν3, ys ++ [y], _, i + 1, rfl, st4, w4, ((hch.trans c1').trans (c2.trans c3)).trans c4, hD4, off3, pj, by simp; omega, hlt, rfl⟩
  · obtain rfl : i = n := Nat.le_antisymm hin (Nat.not_lt.mp hlt)
    refine fin h tk mc ν _ _ hst hw offh fun h1 tk1 hk => ?_
    have keepD : ∀ b o, b ∉ hid → h.get? b = some o → h1.get? b = some o := hk
    have w1 := hw.skip keepD hLh (fun hb => (foff _ (hsub _ hb)).1 rfl) (fun b hb => hid0 b (List.mem_cons_of_mem _ hb)) (fun p hp hb => offh p (by simpa using hp) hb)
    have c1 : Ch ce L (D :: hid) h ν h1 ν := Ch.hidden hLD fun b o hb ho => keepD b o (fun e => hb (List.mem_cons_of_mem _ e)) ho
    exact q h1 tk1 mc ν ys c hJi hyl w1 (hch.trans c1) (keepD D _ (fun hb => (foff _ (hsub _ hb)).2.2 rfl) hDh) hoff
end
end Mine
namespace Mine

section
variable {C : Cx} {k : Nat} {e fe : Env} {m : Loc}

theorem comp_open {A A₀ : Around} {base h₀ : Heap} {outer : List Env} {L It : Addr} {hid fpS : List Addr} {n : Nat} {St : Nat → Heap → Prop} {Pit : Addr → Nat → Loc → Led → Prop} {s : Shared} {target iter elt : Expr} {ifs : List Expr} {scope : Scope} {cl : List (PySem.Str × Addr)} {pos : Pos} {RR : Value → Addr → Result → Shared → Prop} {ν₁ μ₁ : Led} {hs : Heap} {E : Value → Shared → Prop}
    (a : At C k e fe A A₀ base h₀ outer L)
    (hcell : ∀ y ∈ scope.names, y.2 ≠ .cell) (hkind : scope.kind = .function)
    (frame : ∀ i h h', St i h → (∀ b ∈ fpS, ∀ o, h.get? b = some o → h'.get? b = some o) → St i h') (alive : ∀ i h, St i h → ∀ b ∈ fpS, ∃ o, h.get? b = some o) (hsub : ∀ b ∈ hid, b ∈ fpS)
    (foff : ∀ b ∈ fpS, b ≠ e.locals ∧ b ≠ L) (hid0 : ∀ b ∈ hid, h₀.get? b = none)
    (adv : ∀ (Cc : Addr) (i : Nat) (h : Heap) (tk : Nat) (mc : Loc) (ν : Led) (Rn : Shared → Prop) (K : Shared → Prop), (∀ b ∈ fpS, b ≠ Cc) → h₀.get? Cc = none → i < n → St i h → Wd h₀ L (compEnvC scope cl Cc e) h mc [] ν → (∀ p ∈ ν, p.1 ∉ hid) → Sub ν₁ ν →
      (∀ h' tk' mc' ν2, St (i + 1) h' → Wd h₀ L (compEnvC scope cl Cc e) h' mc' [] ν2 → Ch (compEnvC scope cl Cc e) L hid h ν h' ν2 → Pit Cc i mc' ν2 → K { s with heap := h', toks := tk' }) →
      wpAny (model C.prog C.w) A (pyNext (.ref It)) (fun r s₁ => match r with
        | none => Rn s₁
        | some v => wpAny (model C.prog C.w) A (letOwnedTupleGo target (.ref It) v) (fun _ s₁' => wpAny (model C.prog C.w) A (assign target (compEnvC scope cl Cc e) v) (fun _ s₂ => K s₂) (fun _ _ => False) s₁') (fun _ _ => False) s₁) (fun _ _ => False) { s with heap := h, toks := tk })
    (fin : ∀ (e' : Env) (h : Heap) (tk : Nat) (mc : Loc) (ν : Led) (Rn : Shared → Prop) (K : Value → Shared → Prop), St n h → Wd h₀ L e' h mc [] ν → (∀ p ∈ ν, p.1 ∉ hid) →
      (∀ h' tk', (∀ b o, b ∉ hid → h.get? b = some o → h'.get? b = some o) → Rn { s with heap := h', toks := tk' }) →
      wpAny (model C.prog C.w) A (pyNext (.ref It)) (fun r s₁ => match r with | none => Rn s₁ | some v => K v s₁) (fun _ _ => False) { s with heap := h, toks := tk })
    (self : ∀ (h : Heap) (tk : Nat) (Q : Value → Shared → Prop) (E : Value → Shared → Prop), St 0 h → Q (.ref It) { s with heap := h, toks := tk } → wpAny (model C.prog C.w) A (pyIter (.ref It)) Q E { s with heap := h, toks := tk })
    (J : Nat → List Value → Led → Prop) (hJ : J 0 [] ν₁)
    (turn : ∀ Cc i mc ν ys, i < n → Sub ν₁ ν → J i ys ν → (∀ ν2, Sub ν ν2 → Pit Cc i mc ν2 → Turn C k (compEnvC scope cl Cc e) fe ifs elt mc ν2 (fun y ν3 => J (i + 1) (ys ++ [y]) ν3) (fun ν3 => J (i + 1) ys ν3)))
    (st0 : St 0 s.heap) (w0 : Wd h₀ L e s.heap m [] ν₁) (off0 : ∀ p ∈ ν₁, p.1 ∉ hid) (hn : n ≤ sizeLine)
    (hks : ∀ b o, hs.get? b = some o → s.heap.get? b = some o) (hhid : ∀ b ∈ hid, hs.get? b = none ∨ ∃ p ∈ μ₁, p.1 = b)
    (q : ∀ D Cc h' tk mc ν' ys c, J n ys ν' → Sub ν₁ ν' → ys.length ≤ n → h'.Ns Cc mc → (∀ p ∈ (D, lo ys c) :: ν', p.1 ≠ Cc) → e.locals ≠ Cc → h₀.get? Cc = none → L ≠ Cc → Wd h₀ L e h' m [] ((D, lo ys c) :: ν') → Go e L hs μ₁ ν₁ h' [] ((D, lo ys c) :: ν') → hs.get? Cc = none →
      RR (.ref D) Cc (.ok .next) { s with heap := h', toks := tk }) :
    wpAny (model C.prog C.w) A (newList []) (fun acc s₃ => wpAny (model C.prog C.w) A (newFunctionEnv scope e.globals cl [] e.qual none .none (some e)) (fun cenv s₄ =>
      codeAny (model C.prog C.w) A (.compStart (.ListComp elt [⟨target, iter, ifs, 0⟩] scope pos) 0 (.ref It) acc { cenv with scope := relabel scope e }) (RR acc cenv.locals) s₄) E s₃) E s := by
  refine wpAny_newObj_type (wpAny_newFunctionEnv hcell (by intro y hy; simp at hy) (fun h₁ hns₁ hsb₁ => ?_) hkind)
  dsimp only at hns₁ hsb₁ ⊢
  generalize hH2 : s.heap.push { cls := .type "list", dict := none, data := .seq ([] : List Value).toArray } = H2 at hns₁ hsb₁ ⊢
  have hC : H2.objs.size = s.heap.objs.size + 1 := by rw [← hH2, Heap.size_push]
  have hDC : s.heap.objs.size ≠ H2.objs.size := by rw [hC]; exact Nat.ne_of_lt (Nat.lt_succ_self _)
  have below : ∀ b, b < s.heap.objs.size → b ≠ H2.objs.size ∧ b ≠ s.heap.objs.size := fun b hb => ⟨by rw [hC]; exact Nat.ne_of_lt (Nat.lt_succ_of_lt hb), Nat.ne_of_lt hb⟩
  have old : ∀ b o, s.heap.get? b = some o → h₁.get? b = some o := fun b o ho => hsb₁.extBut b o (below b (Heap.lt_size ho)).1 (Heap.get?_push_of_some _ (hH2 ▸ Heap.get?_push_of_some _ ho))
  have hacc : h₁.get? s.heap.objs.size = some (lo [] 0) := hsb₁.extBut _ _ hDC (Heap.get?_push_of_some _ (hH2 ▸ Heap.get?_push_size _ rfl))
  have fresh : ∀ b, s.heap.objs.size ≤ b → s.heap.get? b = none := fun b hb => by
    cases x : s.heap.get? b with
    | none => rfl
    | some o' => exact absurd (Heap.lt_size x) (Nat.not_lt.mpr hb)
  have hD0 : h₀.get? s.heap.objs.size = none := w0.none_size (Nat.le_refl _)
  have hC0 : h₀.get? H2.objs.size = none := w0.none_size (by rw [hC]; exact Nat.le_succ _)
  have hDs := fresh s.heap.objs.size (Nat.le_refl _)
  have hCs := fresh H2.objs.size (by rw [hC]; exact Nat.le_succ _)
  have hLC : L ≠ H2.objs.size := (below L w0.ltL).1
  have hLD : L ≠ s.heap.objs.size := (below L w0.ltL).2
  have hlC : e.locals ≠ H2.objs.size := (below _ w0.ns.lt).1
  have hlD : e.locals ≠ s.heap.objs.size := (below _ w0.ns.lt).2
  have fplt : ∀ b ∈ fpS, b < s.heap.objs.size := fun b hb => by obtain ⟨o, ho⟩ := alive _ _ st0 b hb; exact Heap.lt_size ho
  have we := w0.ext old
  have wc : Wd h₀ L (compEnvC scope cl H2.objs.size e) h₁ (fun x => ([] : List (PySem.Str × Value)).reverse.lookup x) [] ν₁ :=
    ⟨we.fr, hns₁, we.news, fun p hp => (below _ (Heap.lt_size (w0.news p hp).1)).1, we.apart, we.nodup⟩
  have ac : At C k (compEnvC scope cl H2.objs.size e) fe A A₀ base h₀ outer L := ⟨a.frames, a.frame, a.fkind, a.handled, a.depth, a.units, a.below, a.hK, a.top, hkind, a.globals, a.builtins, hC0, a.giv⟩
  have hst₁ : St 0 h₁ := frame _ _ _ st0 fun b _ o ho => old b o ho
  have loop : ∀ s₃ : Shared, s₃ = { s with heap := h₁, toks := s.toks + ([] : List (PySem.Str × Value)).length } →
      codeAny (model C.prog C.w) A (.compLoop (.ListComp elt [⟨target, iter, ifs, 0⟩] scope pos) 0 (.ref It) (.ref s.heap.objs.size) (compEnvC scope cl H2.objs.size e)) (RR (.ref s.heap.objs.size) H2.objs.size) s₃ := by
    rintro s₃ rfl
    refine comp_core (s := { s with heap := h₁, toks := _ }) (hid := hid) (fpS := fpS) (St := St) (Pit := Pit H2.objs.size) ac frame alive hsub (fun b hb => ⟨(below b (fplt b hb)).1, (foff b hb).2, (below b (fplt b hb)).2⟩) hDC (Ne.symm hLD)
      (fun b hb => by
        rcases List.mem_cons.mp hb with rfl | hb
        · exact hD0
        · exact hid0 b hb)
      (fun i h tk mc ν Rn K hi hst hw ho hsn hK => adv _ i h tk mc ν Rn K (fun b hb => (below b (fplt b hb)).1) hC0 hi hst hw ho hsn hK) (fun h tk mc ν Rn K hst hw ho hK => fin _ h tk mc ν Rn K hst hw ho hK) J hJ (fun i mc ν ys hi hsn hj => turn _ i mc ν ys hi hsn hj) hst₁ wc hacc
      (fun p hp hb => by
        rcases List.mem_cons.mp hb with e1 | hb
        · exact (below _ (Heap.lt_size (w0.news p hp).1)).2 e1
        · exact off0 p hp hb) hn ?_
    intro h' tk mc' ν' ys c hJ' hyl w' ch hD' off'
    dsimp only at ch ⊢
    have keep : ∀ b o, b ≠ L → b ∉ hid → s.heap.get? b = some o → h'.get? b = some o := fun b o hL hh ho =>
      ch.keep b o (below b (Heap.lt_size ho)).1 hL (fun hb => by
        rcases List.mem_cons.mp hb with e1 | hb
        · exact (below b (Heap.lt_size ho)).2 e1
        · exact hh hb) (old b o ho)
    have nu' : ∀ p ∈ ν', p ∈ ν₁ ∨ s.heap.get? p.1 = none := fun p hp => by
      rcases ch.nu p hp with h3 | ⟨_, _, _, h4⟩
      · exact .inl h3
      · refine .inr ?_
        cases x : s.heap.get? p.1 with
        | none => rfl
        | some o => rw [old _ _ x] at h4; cases h4
    have lhid : e.locals ∉ hid := fun hb => (foff _ (hsub _ hb)).1 rfl
    have offC : ∀ p ∈ (s.heap.objs.size, lo ys c) :: ν', p.1 ≠ H2.objs.size := fun p hp => by
      rcases List.mem_cons.mp hp with rfl | hp
      · exact hDC
      · exact w'.off p (by simpa using hp)
    refine q _ _ h' tk mc' ν' ys c hJ' ch.sub hyl w'.ns offC hlC hC0 hLC ⟨w'.fr, ?_, ?_, ?_, (fun p hp => absurd hp (List.not_mem_nil)), by simp⟩ ⟨?_, (fun p hp => absurd hp (List.not_mem_nil)), ?_, ?_, ?_⟩ ?_
    · by_cases hL : e.locals = L
      · rw [hL]
        exact ch.lk m (fun e1 => hLC e1.symm) (hL ▸ we.ns)
      · exact w0.ns.at fun o x => keep _ o hL lhid x
    · intro p hp
      rcases List.mem_cons.mp (by simpa using hp) with rfl | hp
      · exact ⟨hD', Ne.symm hLD, hD0⟩
      · exact w'.news p (by simpa using hp)
    · intro p hp
      rcases List.mem_cons.mp (by simpa using hp) with rfl | hp
      · exact Ne.symm hlD
      · rcases nu' p hp with h3 | h3
        · exact w0.off p (by simpa using h3)
        · intro e1
          obtain ⟨o, _, _, h4, _⟩ := w0.ns
          rw [← e1, h3] at h4; cases h4
    · intro b o h1 h2 h3 ho
      refine keep b o h2 (fun hb => ?_) (hks b o ho)
      rcases hhid b hb with h4 | ⟨p, hp, h4⟩
      · rw [h4] at ho; cases ho
      · exact h3 p hp h4
    · intro p hp
      have nn : ∀ b, s.heap.get? b = none → hs.get? b = none := fun b hb => by
        cases x : hs.get? b with
        | none => rfl
        | some o => rw [hks _ _ x] at hb; cases hb
      rcases List.mem_cons.mp hp with rfl | hp
      · exact .inr (.inr (.inl (nn _ hDs)))
      · rcases nu' p hp with h3 | h3
        · exact .inl h3
        · exact .inr (.inr (.inl (nn _ h3)))
    · exact fun p hp => List.mem_cons_of_mem _ (ch.sub p hp)
    · intro mf hl n
      refine ch.lk mf (fun e1 => hLC e1.symm) ?_
      obtain ⟨o, es, ep, ho, r⟩ := n
      exact ⟨o, es, ep, old _ _ (hks _ _ ho), r⟩
    · cases x : hs.get? H2.objs.size with
      | none => rfl
      | some o => rw [hks _ _ x] at hCs; cases hCs
  exact codeAny_compStart_list (loop _ rfl) (self _ _ _ _ hst₁ (loop _ rfl))
end
end Mine
namespace Mine

section
variable {C : Cx} {k : Nat} {e fe : Env} {m : Loc} {μ ν : Led}

theorem Wd.but {L : Addr} {h₀ h1 h2 : Heap} {Cc : Addr} {ν : Led} (W : Wd h₀ L e h1 m [] ν) (hs : Heap.SameBut Cc h1 h2) (ho : ∀ p ∈ ν, p.1 ≠ Cc) (hl : e.locals ≠ Cc) (h0 : h₀.get? Cc = none) (hL : L ≠ Cc) : Wd h₀ L e h2 m [] ν :=
  W.skip (wr := [Cc]) (fun b o hb x => (hs.2 b fun e1 => hb (List.mem_singleton.mpr e1)).trans x) (fun hb => hL (List.mem_singleton.mp hb)) (fun hb => hl (List.mem_singleton.mp hb)) (fun b hb => (List.mem_singleton.mp hb) ▸ h0) (fun p hp hb => ho p (by simpa using hp) (List.mem_singleton.mp hb))
theorem Go.but {L : Addr} {hs h1 h2 : Heap} {Cc : Addr} {μ ν ν1 : Led} (g : Go e L hs μ ν h1 [] ν1) (hb : Heap.SameBut Cc h1 h2) (hn : hs.get? Cc = none) : Go e L hs μ ν h2 [] ν1 :=
  g.skip (wr := [Cc]) (fun b o hb' x => (hb.2 b fun e1 => hb' (List.mem_singleton.mpr e1)).trans x) (fun b hb' => (List.mem_singleton.mp hb') ▸ hn)

theorem T_compList {x : PySem.Str} {px : Pos} {elt iter : Expr} {ifs : List Expr} {scope : Scope} {cl : List (PySem.Str × Addr)} {pos : Pos} {vs : List Value} {P : Value → Loc → Led → Led → Prop} (J : Nat → List Value → Led → Prop)
    (mono : ∀ i ys ν1 ν2, Sub ν1 ν2 → J i ys ν1 → J i ys ν2)
    (hclos : closureFor scope e = pure cl) (hcell : ∀ y ∈ scope.names, y.2 ≠ .cell) (hkind : scope.kind = .function) (hnames : ∀ y ∈ scope.names, y.2 = .local → scope.names.lookup y.1 = some .local) (hx : scope.names.lookup x = some .local)
    (h : T C k e fe (eval iter e) m μ ν (fun xv m1 μ1 ν1 => ∃ l n, xv = .ref l ∧ (l, lo vs n) ∈ ν1 ∧ μ1 = [] ∧ vs.length ≤ sizeLine ∧ J 0 [] ν1 ∧ ∀ D ν2 ys c, Sub ν1 ν2 → J vs.length ys ν2 → ys.length ≤ vs.length → P (.ref D) m1 [] ((D, lo ys c) :: ν2)))
    (turn : ∀ Cc i v mc ν1 ys, i < vs.length → vs[i]? = some v → Sub ν ν1 → J i ys ν1 → mc x = some v → Turn C k (compEnvC scope cl Cc e) fe ifs elt mc ν1 (fun y ν3 => J (i + 1) (ys ++ [y]) ν3) (fun ν3 => J (i + 1) ys ν3))
    (hs : ∀ x, foldedSetIterable iter e x = pure x := by intro _; rfl) : T C k e fe (eval (.ListComp elt [⟨.Name x px, iter, ifs, 0⟩] scope pos) e) m μ ν P := by
  intro A A₀ base h₀ outer L s Q a W q
  rw [eval_ListComp]
  refine wpAny_comprehension_free (use := none) rfl hs hclos hkind hnames ?_
  refine h A A₀ base h₀ outer L s _ a W fun xv m1 μ1 ν1 h1 tk1 p1 w1 g1 => ?_
  obtain ⟨l, n, rfl, hm, rfl, hz, hJ0, hP⟩ := p1
  have hl := isL_lo (w1.get hm)
  refine wpAny_pyIter_list hl ?_
  have hlt : l < h1.objs.size := Heap.lt_size (w1.get hm)
  have hne : l ≠ h1.objs.size := Nat.ne_of_lt hlt
  have W' := Walks.list (prog := C.prog) (w := C.w) a.handled h1.objs.size l hne vs.toArray
  rw [List.size_toArray] at W'
  have keep : ∀ b o, h1.get? b = some o → (h1.push { cls := .type "list_iterator", data := .fields #[.ref l, .int 0 0] }).get? b = some o := fun b o ho => Heap.get?_push_of_some _ ho
  have Nl := w1.news (l, lo vs n) (List.mem_append_right _ hm)
  have Ol := w1.off (l, lo vs n) (List.mem_append_right _ hm)
  refine comp_open (hs := h1) (μ₁ := []) (ν₁ := ν1) (m := m1) (Pit := fun _ i mc ν2 => ∃ v, vs[i]? = some v ∧ mc x = some v) (s := { s with heap := h1.push { cls := .type "list_iterator", data := .fields #[.ref l, .int 0 0] }, toks := tk1 }) a hcell hkind W'.frame ?_ (fun b hb => W'.sub b hb) ?_ ?_ ?_ ?_ ?_ J hJ0 ?_ ⟨⟨_, Heap.get?_push_size _ rfl, rfl, rfl⟩, hl.at fun o x => keep _ o x⟩ (w1.ext keep) ?_ hz keep ?_ ?_
  · rintro i h ⟨⟨o1, h3, _⟩, ⟨o2, h4, _⟩⟩ b hb
    rcases List.mem_cons.mp hb with e1 | e1
    · exact ⟨o1, e1 ▸ h3⟩
    · exact ⟨o2, (List.mem_singleton.mp e1) ▸ h4⟩
  · intro b hb
    rcases List.mem_cons.mp hb with e1 | e1
    · exact ⟨fun e2 => absurd w1.ns.lt (by rw [← e2, e1]; exact Nat.lt_irrefl _), fun e2 => absurd w1.ltL (by rw [← e2, e1]; exact Nat.lt_irrefl _)⟩
    · rw [List.mem_singleton.mp e1]; exact ⟨Ol, Nl.2.1⟩
  · intro b hb; rw [List.mem_singleton.mp hb]; exact w1.none_size (Nat.le_refl _)
  · intro Cc i h tk mc ν2 Rn K hfc hC0 hi hst hw ho hsn hK
    refine W'.item i _ _ _ hi hst fun v h₂ tk₂ hPv hst₂ hk₂ => ?_
    refine wpAny_of_eq (show letOwnedTupleGo (.Name x px) (.ref h1.objs.size) v = pure () from rfl) ?_
    have hLh : L ∉ [h1.objs.size] := fun hb => absurd w1.ltL (by rw [List.mem_singleton.mp hb]; exact Nat.lt_irrefl _)
    have hCh : Cc ∉ [h1.objs.size] := fun hb => hfc h1.objs.size List.mem_cons_self (List.mem_singleton.mp hb).symm
    have w2 := hw.skip hk₂ hLh hCh (fun b hb => by rw [List.mem_singleton.mp hb]; exact w1.none_size (Nat.le_refl _)) (fun p hp hb => ho p (by simpa using hp) hb)
    refine wpAny_assign_Name (wpAny_storeName_local (lookup_relabel_local hx) w2.ns (fun h₃ hn₃ hs₃ => ?_) (by simp [compEnvC, relabel, hkind]))
    have w3 := w2.store hC0 hn₃ hs₃
    refine hK h₃ _ _ ν2 ?_ w3 ((Ch.hidden hLh hk₂).trans (Ch.store hs₃)) ⟨v, by simpa using hPv, by simp⟩
    exact W'.frame _ _ _ hst₂ fun b hb o ho' => (hs₃.2 b (hfc b hb)).trans ho'
  · intro e' h tk mc ν2 Rn K hst hw ho hK
    refine W'.done _ _ _ hst fun h₂ tk₂ hk₂ => hK h₂ tk₂ hk₂
  · intro h tk Q E hst hQ
    exact W'.self 0 _ _ _ hst hQ
  · intro Cc i mc ν2 ys hi hsn hj ν3 hs3 ⟨v, hv, hmx⟩
    exact turn Cc i v mc ν3 ys hi hv (Sub.trans g1.sub (hsn.trans hs3)) (mono _ _ _ _ hs3 hj) hmx
  · intro p hp hb
    exact absurd (w1.lt p (List.mem_append_right _ hp)) (by rw [List.mem_singleton.mp hb]; exact Nat.lt_irrefl _)
  · intro b hb; rw [List.mem_singleton.mp hb]; exact .inl (none_at_size _)
  · intro D Cc h' tk mc ν' ys c hj hsn hyl hns hoff hlC hC0 hLC w2 g2 hnC
    exact ⟨mc, hns, fun h'' hs'' => q _ m1 _ _ h'' tk (hP D ν' ys c hsn hj hyl) (w2.but hs'' hoff hlC hC0 hLC) (g1.trans (g2.but hs'' hnC))⟩
end
end Mine
namespace Mine

section
variable {C : Cx} {k : Nat} {e fe : Env} {m : Loc} {μ ν : Led}

theorem T_compEnum {xi xv : PySem.Str} {pi pv pt : Pos} {k' : Nat} {elt iter : Expr} {ifs : List Expr} {scope : Scope} {cl : List (PySem.Str × Addr)} {pos : Pos} {vs : List Value} {P : Value → Loc → Led → Led → Prop} (J : Nat → List Value → Led → Prop)
    (mono : ∀ i ys ν1 ν2, Sub ν1 ν2 → J i ys ν1 → J i ys ν2)
    (hclos : closureFor scope e = pure cl) (hcell : ∀ y ∈ scope.names, y.2 ≠ .cell) (hkind : scope.kind = .function) (hnames : ∀ y ∈ scope.names, y.2 = .local → scope.names.lookup y.1 = some .local) (hxi : scope.names.lookup xi = some .local) (hxv : scope.names.lookup xv = some .local) (hxx : xi ≠ xv)
    (h : T C k e fe (eval iter e) m μ ν (fun xv' m1 μ1 ν1 => ∃ ea ia o l n, xv' = .ref ea ∧ μ1 = [(ea, enO ia 0 .none), (ia, o)] ∧ o.cls = .type "list_iterator" ∧ o.data = .fields #[.ref l, .int 0 0] ∧ (l, lo vs n) ∈ ν1 ∧ vs.length ≤ sizeLine ∧ J 0 [] ν1 ∧
      ∀ D ν2 ys c, Sub ν1 ν2 → J vs.length ys ν2 → ys.length ≤ vs.length → P (.ref D) m1 [] ((D, lo ys c) :: ν2)))
    (turn : ∀ Cc i v t mc ν1 ys, i < vs.length → vs[i]? = some v → Sub ν ν1 → J i ys ν1 → mc xi = some (.int i t) → mc xv = some v → Turn C k (compEnvC scope cl Cc e) fe ifs elt mc ν1 (fun y ν3 => J (i + 1) (ys ++ [y]) ν3) (fun ν3 => J (i + 1) ys ν3))
    (hs : ∀ x, foldedSetIterable iter e x = pure x := by intro _; rfl) : T C k e fe (eval (.ListComp elt [⟨.Tuple [.Name xi pi, .Name xv pv] k' pt, iter, ifs, 0⟩] scope pos) e) m μ ν P := by
  intro A A₀ base h₀ outer L s Q a W q
  rw [eval_ListComp]
  refine wpAny_comprehension_free (use := none) rfl hs hclos hkind hnames ?_
  refine h A A₀ base h₀ outer L s _ a W fun xv' m1 μ1 ν1 h1 tk1 p1 w1 g1 => ?_
  obtain ⟨ea, ia, o, l, n, rfl, rfl, hoc, hod, hm, hz, hJ0, hP⟩ := p1
  have he0 : IsEnum h1 ea ia 0 .none := w1.getm (List.mem_cons_self ..)
  have hi0 : h1.IsListIter ia l 0 := ⟨o, w1.getm (List.mem_cons_of_mem _ (List.mem_cons_self ..)), hoc, hod⟩
  have hl0 := isL_lo (w1.get hm)
  have nd := w1.nodup
  simp only [List.map_cons, List.nodup_cons, List.mem_cons, List.map_nil, List.not_mem_nil, or_false, not_false_eq_true, List.nodup_nil, and_true] at nd
  have hei : ea ≠ ia := nd
  have hle : l ≠ ea := (w1.apart _ (List.mem_cons_self ..) _ hm).symm
  have hli : l ≠ ia := (w1.apart _ (List.mem_cons_of_mem _ (List.mem_cons_self ..)) _ hm).symm
  have Ne := w1.news (ea, enO ia 0 .none) (List.mem_append_left _ (List.mem_cons_self ..))
  have Ni := w1.news (ia, o) (List.mem_append_left _ (List.mem_cons_of_mem _ (List.mem_cons_self ..)))
  have Oe := w1.off (ea, enO ia 0 .none) (List.mem_append_left _ (List.mem_cons_self ..))
  have Oi := w1.off (ia, o) (List.mem_append_left _ (List.mem_cons_of_mem _ (List.mem_cons_self ..)))
  have Nl := w1.news (l, lo vs n) (List.mem_append_right _ hm)
  have Ol := w1.off (l, lo vs n) (List.mem_append_right _ hm)
  have wu : Wd h₀ L e h1 m1 [] ν1 := by
    have mem : ∀ {p}, p ∈ ([] : Led) ++ ν1 → p ∈ [(ea, enO ia 0 .none), (ia, o)] ++ ν1 := fun hp => List.mem_append_right _ (by simpa using hp)
    exact ⟨w1.fr, w1.ns, fun p hp => w1.news p (mem hp), fun p hp => w1.off p (mem hp), fun p hp => absurd hp (List.not_mem_nil), by simp⟩
  have hLh : L ∉ [ea, ia] := fun hb => by
    rcases List.mem_cons.mp hb with e1 | e1
    · exact Ne.2.1 e1.symm
    · exact Ni.2.1 (List.mem_singleton.mp e1).symm
  have h0h : ∀ b ∈ [ea, ia], h₀.get? b = none := fun b hb => by
    rcases List.mem_cons.mp hb with e1 | e1
    · exact e1 ▸ Ne.2.2
    · exact (List.mem_singleton.mp e1) ▸ Ni.2.2
  refine wpAny_pyIter_enum he0 ?_
  refine comp_open (hs := h1) (μ₁ := [(ea, enO ia 0 .none), (ia, o)]) (ν₁ := ν1) (m := m1) (hid := [ea, ia]) (fpS := [ea, ia, l]) (n := vs.length)
    (St := fun i h => ∃ old, IsEnum h ea ia ((i : Nat) : Int) old ∧ h.IsListIter ia l i ∧ h.IsList l vs.toArray) (Pit := fun _ i mc ν2 => ∃ v t, vs[i]? = some v ∧ mc xi = some (.int i t) ∧ mc xv = some v)
    (s := { s with heap := h1, toks := tk1 }) a hcell hkind ?_ ?_ ?_ ?_ h0h ?_ ?_ ?_ J hJ0 ?_ ⟨.none, he0, hi0, hl0⟩ wu ?_ hz (fun _ _ x => x) ?_ ?_
  · rintro i h h' ⟨old, a1, ⟨o2, a2, a3⟩, a4⟩ hk
    exact ⟨old, hk ea (by simp) _ a1, ⟨o2, hk ia (by simp) _ a2, a3⟩, a4.at fun o x => hk l (by simp) o x⟩
  · rintro i h ⟨old, a1, ⟨o2, a2, _⟩, ⟨o3, a3, _⟩⟩ b hb
    simp only [List.mem_cons, List.not_mem_nil, or_false] at hb
    rcases hb with rfl | rfl | rfl
    · exact ⟨_, a1⟩
    · exact ⟨_, a2⟩
    · exact ⟨_, a3⟩
  · intro b hb
    simp only [List.mem_cons, List.not_mem_nil, or_false] at hb ⊢
    rcases hb with rfl | rfl <;> simp
  · intro b hb
    simp only [List.mem_cons, List.not_mem_nil, or_false] at hb
    rcases hb with rfl | rfl | rfl
    · exact ⟨Oe, Ne.2.1⟩
    · exact ⟨Oi, Ni.2.1⟩
    · exact ⟨Ol, Nl.2.1⟩
  · rintro Cc i H tk mc ν' Rn K hfc hC0 hlt ⟨old, he', hit', hl'⟩ hw ho hsn hK
    have hv := List.getElem?_eq_getElem hlt
    generalize vs[i] = v at hv
    have heH : ea < H.objs.size := Heap.lt_size he'
    obtain ⟨oi, hoi, _⟩ := id hit'
    have hiH : ia < H.objs.size := Heap.lt_size hoi
    have cE : ea ≠ Cc := hfc ea (by simp)
    have cI : ia ≠ Cc := hfc ia (by simp)
    have cL : l ≠ Cc := hfc l (by simp)
    refine wpAny_pyNext_enum_item (s := { s with heap := H, toks := tk }) he' hit' hl' (by simpa using hv) hei fun h2 heo hit2 ht2 hz2 hk2 => ?_
    refine wpAny_letOwnedTupleGo_enum heo fun h3 he3 hs3 => ?_
    replace hs3 : Heap.SameBut ea h2 h3 := hs3
    dsimp only at ht2 hz2 hk2
    have ht3 : h3.IsTuple H.objs.size #[.int i tk, v] := ⟨_, (hs3.2 _ (Nat.ne_of_gt heH)).trans ht2, rfl, _, rfl⟩
    refine wpAny_assign_Tuple a.handled ht3 rfl rfl fun h4 hx4 => ?_
    replace hx4 : Heap.ExtBut h3.objs.size h3 h4 := hx4
    have k34 : ∀ b o', h3.get? b = some o' → h4.get? b = some o' := fun b o' hb => hx4 b o' (Nat.ne_of_lt (Heap.lt_size hb)) hb
    have k24 : ∀ b o', b ∉ [ea, ia] → H.get? b = some o' → h4.get? b = some o' := fun b o' hb ho' => by
      have n1 : b ≠ ea := fun e1 => hb (by simp [e1])
      have n2 : b ≠ ia := fun e1 => hb (by simp [e1])
      exact k34 b o' ((hs3.2 b n1).trans (hk2 b o' n1 n2 ho'))
    have hCh : Cc ∉ [ea, ia] := fun hb => by
      rcases List.mem_cons.mp hb with e1 | e1
      · exact cE e1.symm
      · exact cI (List.mem_singleton.mp e1).symm
    have w4 := hw.skip k24 hLh hCh h0h (fun p hp hb => ho p (by simpa using hp) hb)
    show wpAny _ A (do holding [v] (assign (.Name xi pi) (compEnvC scope cl Cc e) (.int i tk)); do holding [] (assign (.Name xv pv) (compEnvC scope cl Cc e) v); pure ()) _ _ _
    refine wpAny_bind (wpAny_holding (wpAny_assign_Name (wpAny_storeName_local (lookup_relabel_local hxi) w4.ns (fun h5 hn5 hs5 => ?_) (by simp [compEnvC, relabel, hkind]))))
    replace hs5 : Heap.SameBut Cc h4 h5 := hs5
    have w5 := w4.store hC0 hn5 hs5
    refine wpAny_bind (wpAny_holding (wpAny_assign_Name (wpAny_storeName_local (lookup_relabel_local hxv) w5.ns (fun h6 hn6 hs6 => wpAny_pure ?_) (by simp [compEnvC, relabel, hkind]))))
    replace hs6 : Heap.SameBut Cc h5 h6 := hs6
    have w6 := w5.store hC0 hn6 hs6
    have up6 : ∀ b o', b ≠ Cc → h4.get? b = some o' → h6.get? b = some o' := fun b o' hb ho' => (hs6.2 b hb).trans ((hs5.2 b hb).trans ho')
    refine hK h6 _ _ ν' ⟨v, ?_, ?_, ?_⟩ w6 (((Ch.hidden hLh k24).trans (Ch.store hs5)).trans (Ch.store hs6)) ⟨v, tk, hv, by simp [hxx], by simp⟩
    · exact up6 _ _ cE (k34 _ _ he3)
    · obtain ⟨o2, a1, a2, a3⟩ := hit2
      exact ⟨o2, up6 _ _ cI (k34 _ _ ((hs3.2 _ fun x => hei x.symm).trans a1)), a2, a3⟩
    · exact hl'.at fun o2 x => up6 _ _ cL (k24 _ _ (by simp [hle, hli]) x)
  · rintro e' h tk mc ν' Rn K ⟨old, he', hit', hl'⟩ hw ho hK
    refine wpAny_pyNext_enum_end (s := { s with heap := h, toks := tk }) a.handled he' hit' hl' (by simp) fun h2 he2 => hK h2 tk fun b o' hb ho' => he2 b o' (fun e1 => hb (by simp [e1])) ho'
  · rintro h tk Q E ⟨old, he', _, _⟩ hQ
    exact wpAny_pyIter_enum (s := { s with heap := h, toks := tk }) he' hQ
  · intro Cc i mc ν2 ys hi hsn hj ν3 hs3 ⟨v, t, hv, hmi, hmx⟩
    exact turn Cc i v t mc ν3 ys hi hv (Sub.trans g1.sub (hsn.trans hs3)) (mono _ _ _ _ hs3 hj) hmi hmx
  · intro p hp hb
    rcases List.mem_cons.mp hb with e1 | e1
    · exact w1.apart _ (List.mem_cons_self ..) p hp e1.symm
    · exact w1.apart _ (List.mem_cons_of_mem _ (List.mem_cons_self ..)) p hp (List.mem_singleton.mp e1).symm
  · intro b hb
    rcases List.mem_cons.mp hb with e1 | e1
    · exact .inr ⟨_, List.mem_cons_self, e1.symm⟩
    · exact .inr ⟨_, List.mem_cons_of_mem _ List.mem_cons_self, (List.mem_singleton.mp e1).symm⟩
  · intro D Cc h' tk mc ν' ys c hj hsn hyl hns hoff hlC hC0 hLC w2 g2 hnC
    exact ⟨mc, hns, fun h'' hs'' => q _ m1 _ _ h'' tk (hP D ν' ys c hsn hj hyl) (w2.but hs'' hoff hlC hC0 hLC) (g1.trans (g2.but hs'' hnC))⟩
end
end Mine
namespace Mine

section
variable {C : Cx} {k : Nat} {e fe : Env} {m : Loc} {μ ν : Led} {P : Value → Loc → Led → Led → Prop}
theorem T_sum {l : Addr} {vs : List Value} {n : Nat} {ns : List Int} (hm : (l, lo vs n) ∈ μ ++ ν) (hi : IntsAre vs ns) (h : ∀ t, P (.int ns.sum t) m μ ν) : T C k e fe (call (.builtin "sum") [.ref l]) m μ ν P := by
  intro A A₀ base h₀ outer L s Q a W q
  obtain ⟨mf, F, N, back⟩ := W.lift a.fresh
  refine sumK a.handled F N (isL_lo (W.all hm)) hi fun h' tk t' F' N' => ?_
  obtain ⟨W', g'⟩ := back h' _ F' N' fun p hp => hp
  exact q _ m _ _ h' tk (h t') W' g'
theorem T_eqL {l1 l2 : Addr} {vs ws : List Value} {n1 n2 : Nat} {ns ms : List Int} (hk : 7 ≤ k) (h1 : (l1, lo vs n1) ∈ μ ++ ν) (h2 : (l2, lo ws n2) ∈ μ ++ ν) (hi : IntsAre vs ns) (hj : IntsAre ws ms) (h : P (.bool (decide (ns = ms))) m μ ν) :
    T C k e fe (compareOp .Eq (.ref l1) (.ref l2)) m μ ν P :=
  T_quiet (fun _ => _) (fun A _ _ _ _ _ s _ a W q => ke_eq_ints (isL_lo (W.all h1)) (isL_lo (W.all h2)) hi hj (by have := a.units; omega) (q 0 s.toks)) fun _ => h
theorem T_neL {l1 l2 : Addr} {vs ws : List Value} {n1 n2 : Nat} {ns ms : List Int} (hk : 7 ≤ k) (h1 : (l1, lo vs n1) ∈ μ ++ ν) (h2 : (l2, lo ws n2) ∈ μ ++ ν) (hi : IntsAre vs ns) (hj : IntsAre ws ms) (h : P (.bool (!decide (ns = ms))) m μ ν) :
    T C k e fe (compareOp .NotEq (.ref l1) (.ref l2)) m μ ν P :=
  T_quiet (fun _ => _) (fun A _ _ _ _ _ s _ a W q => ke_ne_ints (isL_lo (W.all h1)) (isL_lo (W.all h2)) hi hj (by have := a.units; omega) (q 0 s.toks)) fun _ => h
theorem T_getExtend {pl : Sem Bool} {P : Value × List Value → Loc → Led → Led → Prop} {l : Addr} {vs : List Value} {n : Nat} (hm : (l, lo vs n) ∈ μ ++ ν) (h : P (.builtin "list.extend", [.ref l]) m μ ν) : T C k e fe (getMethod (.ref l) (PySem.Str.ofString "extend") pl) m μ ν P :=
  T_quiet (fun _ => _) (fun _ _ _ _ _ _ s _ _ W q => listMethod_K (its := vs.toArray) W.news hm PySem.F.slot_list_extend PySem.F.type_list_extend (q 0 s.toks)) fun _ => h
theorem T_extend {l b : Addr} {vs ws : List Value} {n n2 : Nat} (hb : (b, lo ws n2) ∈ μ ++ ν) (hz : vs.length + ws.length ≤ sizeLine) (h : ∀ n', P .none m ((l, lo (vs ++ ws) n') :: μ) ν) :
    T C k e fe (call (.builtin "list.extend") [.ref l, .ref b]) m ((l, lo vs n) :: μ) ν P := by
  intro A A₀ base h₀ outer L s Q a W q
  have hl := W.getm (List.mem_cons_self ..)
  have hb' := W.all (show (b, lo ws n2) ∈ ((l, lo vs n) :: μ) ++ ν from List.mem_cons_of_mem _ hb)
  have hsz' : vs.toArray.size + ws.toArray.size ≤ sizeLine := by rw [List.size_toArray, List.size_toArray]; exact hz
  refine call_meets PySem.F.slot_list_extend ⟨_, hl, rfl⟩ PySem.F.entry_list_extend (PySem.F.args_list_extend_2 _ _) (AutoSeq1.list_extend_list_list_0 l vs.toArray n b ws.toArray n2 (extend_door hsz') (Nat.le_trans (Nat.le_add_right _ _) hsz') (Nat.le_succ_of_le hsz')) ⟨hl, hb', ?_⟩
  have e1 : vs.toArray ++ ws.toArray = (vs ++ ws).toArray := by simp
  have ho' : (s.heap.update l (Obj.mapSeq fun x => x ++ ws.toArray)).get? l = some (lo (vs ++ ws) (if (vs.toArray ++ ws.toArray).size == vs.toArray.size then n else n + 1)) := by
    rw [Heap.get?_update_self _ hl (by rw [mapSeq_app]; rfl), mapSeq_app, e1]
  exact q _ _ _ _ _ s.toks (h _) (W.upd (Heap.SameBut.update ..) ho') (.upd (W.news _ (List.mem_append_left _ (List.mem_cons_self ..))).2.1 (Heap.SameBut.update ..))
theorem T_storeCell {x : PySem.Str} {v : Value} {v0 : Option Value} {c : Addr} {o : Obj} {Q : Unit → Loc → Led → Led → Prop} (hx : e.kindOf x = some .cell) (hc : e.cells.lookup x = some c) (hd : o.data = .cell v0) (h : ∀ o', o'.data = .cell (some v) → Q () m ((c, o') :: μ) ν) :
    T C k e fe (storeName e x v) m ((c, o) :: μ) ν Q := by
  intro A A₀ base h₀ outer L s Q' a W q
  refine wpAny_storeName_cell a.kind hx hc ⟨o, W.getm (List.mem_cons_self ..), hd⟩ fun h' hv hs => ?_
  obtain ⟨o', ho', hd'⟩ := hv
  exact q _ _ _ _ _ s.toks (h o' hd') (W.upd hs ho') (.upd (W.news _ (List.mem_append_left _ (List.mem_cons_self ..))).2.1 hs)
end
end Mine
namespace Mine

/-- the same ground, and given lists -/
abbrev Cx.with (C : Cx) (g : List (Addr × List Value)) : Cx := ⟨C.prog, C.w, C.K, C.p, C.loose, C.mean, C.mg, C.mb, g⟩
section
variable {C : Cx} {k : Nat} {e fe : Env} {m : Loc} {μ ν : Led}
theorem At.less {g : List (Addr × List Value)} {A A₀ : Around} {base h₀ : Heap} {outer : List Env} {L : Addr} (hg : C.giv = []) (a : At (C.with g) k e fe A A₀ base h₀ outer L) : At C k e fe A A₀ base h₀ outer L :=
  ⟨a.frames, a.frame, a.fkind, a.handled, a.depth, a.units, a.below, a.hK, a.top, a.kind, a.globals, a.builtins, a.fresh, fun p hp => by rw [hg] at hp; cases hp⟩
theorem T_with {α : Type} {t : Sem α} {P : α → Loc → Led → Led → Prop} {g : List (Addr × List Value)} (hg : C.giv = []) (h : T C k e fe t m μ ν P) : T (C.with g) k e fe t m μ ν P :=
  fun A A₀ base h₀ outer L s Q a W q => h A A₀ base h₀ outer L s Q (a.less hg) W q
theorem Fn.with {g : List (Addr × List Value)} {f : Addr} {args : List Value} {R : D → Prop} (hg : C.giv = []) (h : Fn C k f args ν R) : Fn (C.with g) k f args ν R := fun e fe m => T_with hg (h e fe m)

/-- a slice of a given list -/
theorem T_sliceG {pos : Pos} {P : Value → Loc → Led → Led → Prop} {value : Expr} {lower upper : Option Expr} {sp : Pos}
    (h : T C k e fe (eval value e) m μ ν (fun o m1 μ1 ν1 => T C k e fe (evalPart lower e) m1 μ1 ν1 (fun vl m2 μ2 ν2 => T C k e fe (evalPart upper e) m2 μ2 ν2 (fun vu m3 μ3 ν3 =>
      ∃ l vs lo1 hi1, o = .ref l ∧ (l, vs) ∈ C.giv ∧ IsPart vl lo1 ∧ IsPart vu hi1 ∧ vs.length ≤ sizeLine ∧ ∀ l', (∀ p ∈ μ3 ++ ν3, p.1 ≠ l') → P (.ref l') m3 μ3 ((l', lo (slicePick vs.toArray lo1 hi1 none).toList 0) :: ν3)))))
    (hs : ∀ l i : Addr, subscripted (.Slice lower upper none sp) false (.ref l) (.ref i) = operate [.ref i, .ref l] (getItem (.ref l) (.ref i)) := by intros; with_unfolding_all rfl)
    (ht : ∀ (l : Addr) r, letTemporaryGo value (.ref l) r = pure () := by intros; with_unfolding_all rfl) : T C k e fe (eval (.Subscript value (.Slice lower upper none sp) pos) e) m μ ν P := by
  intro A A₀ base h₀ outer L s Q a W q
  refine Subscript_ (h A A₀ base h₀ outer L s _ a W fun o m1 μ1 ν1 h1 tk1 p1 w1 g1 => ?_)
  refine wpAny_Slice (p1 A A₀ base h₀ outer L { s with heap := h1, toks := tk1 } _ a w1 fun vl m2 μ2 ν2 h2 tk2 p2 w2 g2 => ?_)
  refine p2 A A₀ base h₀ outer L { s with heap := h2, toks := tk2 } _ a w2 fun vu m3 μ3 ν3 h3 tk3 p3 w3 g3 => ?_
  obtain ⟨l, vs, lo1, hi1, rfl, hm, pl, pu, hz, hP⟩ := p3
  obtain ⟨mf, F, N, back⟩ := w3.lift a.fresh
  refine wpAny_pure ?_
  refine slice_list (s := { s with heap := h3, toks := tk3 }) F N ((a.giv _ hm).at fun o x => w3.keeps _ o x) pl pu (fun h' F' N' => ?_) (hs _ _) (ht _) (by rw [List.size_toArray]; exact hz)
  obtain ⟨W', g'⟩ := back h' _ F' N' fun p hp => List.mem_cons_of_mem _ hp
  have hne : ∀ p ∈ μ3 ++ ν3, p.1 ≠ h3.objs.size + 1 := fun p hp => Nat.ne_of_lt (Nat.lt_succ_of_lt (w3.lt p hp))
  have hnone : h3.get? (h3.objs.size + 1) = none := by
    cases x : h3.get? (h3.objs.size + 1) with
    | none => rfl
    | some o => exact absurd (Heap.lt_size x) (by show ¬ (h3.objs.size + 1 < h3.objs.size); omega)
  have ho := (N' _ (List.mem_cons_self ..)).1
  have W2 := W'.add (o := lo (slicePick vs.toArray lo1 hi1 none).toList 0) ho (Nat.ne_of_gt (Nat.lt_succ_of_lt w3.ltL)) (w3.none_size (Nat.le_succ _)) (Nat.ne_of_gt (Nat.lt_succ_of_lt w3.ns.lt)) (fun p hp => hne p (List.mem_append_left _ hp))
  exact q _ m3 μ3 _ h' tk3 (hP _ hne) W2 (((g1.trans g2).trans g3).trans (g'.add hnone))
end
end Mine
namespace Mine

abbrev IsZ (h : Heap) (z TI TO : Addr) (f0 : Value) (b : Bool) : Prop :=
  h.get? z = some { cls := .type "zip", dict := none, data := .fields #[f0, .bool b, .bool false, .ref TI, .ref TO], slots := #[] }
/-- a zip of two lists, i pairs drawn -/
structure ZS (z TI TO i1 i2 l1 l2 : Addr) (xs ys : Array Value) (i : Nat) (h : Heap) : Prop where
  zip : ∃ f0 b, IsZ h z TI TO f0 b ∧ (f0 = .none ∨ ∃ T : Nat, f0 = rawInt T)
  its : IsPair h TI (.ref i1) (.ref i2)
  own : ∃ a b, IsPair h TO a b
  it1 : h.IsListIter i1 l1 i
  it2 : h.IsListIter i2 l2 i
  ls1 : h.IsList l1 xs
  ls2 : h.IsList l2 ys

section
variable {prog : Program} {w : World} {A : Around} {E : Value → Shared → Prop} {s : Shared} {z TI TO i1 i2 l1 l2 : Addr} {xs ys : Array Value} {i : Nat}

theorem nd_alive {α : Type} {M : Model} {a : Addr} {k : Option Obj → Sem α} {Q : α → Shared → Prop} (h : wpAny M A (k (s.heap.get? a)) Q E s) : wpAny M A (.loadIfAlive a k) Q E s := h
theorem own_free {f0 : Value} {b : Bool} {Q : Bool → Shared → Prop} (hz : IsZ s.heap z TI TO f0 b) (hf : f0 = .none ∨ ∃ T : Nat, f0 = rawInt T) (h1 : Q true s) (h2 : ∀ h', IsZ h' z TI TO f0 true → Heap.SameBut z s.heap h' → Q false { s with heap := h' }) :
    wpAny (model prog w) A (Builtin.SmallTypes.ownedTupleIsFree (.ref z)) Q E s := by
  unfold Builtin.SmallTypes.ownedTupleIsFree
  refine wpAny_bind (wpAny_field hz rfl (x := f0) rfl ?_)
  rcases hf with rfl | ⟨T, rfl⟩
  · exact wpAny_pure h1
  · refine wpAny_bind (nd_alive (wpAny_pure ?_))
    cases s.heap.get? (Int.toNat (T : Int)) with
    | none => exact wpAny_pure h1
    | some o =>
      refine wpAny_bind (wpAny_field hz rfl (x := .bool b) rfl ?_)
      cases b with
      | true => exact wpAny_pure (h2 s.heap hz ⟨rfl, fun _ _ => rfl⟩)
      | false => exact wpAny_bind (wpAny_setField_rec hz (by simp) fun h' hz' hs' => wpAny_pure (h2 h' hz' hs'))

/-- the next pair of a zip -/
theorem zip_item (D : ZipApart z TI TO i1 i2 l1 l2) (S : ZS z TI TO i1 i2 l1 l2 xs ys i s.heap) {x y : Value} (hx : xs[i]? = some x) (hy : ys[i]? = some y) {Q : Value → Shared → Prop}
    (hQ : ∀ h', ZS z TI TO i1 i2 l1 l2 xs ys (i + 1) h' → IsPair h' s.heap.objs.size x y → h'.objs.size = s.heap.objs.size + 1 → (∀ c o, c ≠ z → c ≠ TO → c ≠ i1 → c ≠ i2 → s.heap.get? c = some o → h'.get? c = some o) → Q (.ref s.heap.objs.size) { s with heap := h' }) :
    wpAny (model prog w) A (Builtin.«zip.__next__» ⟨[.ref z], []⟩) (fun fin s' => ∃ v, fin = .done (.ret v) ∧ Q v s') E s := by
  obtain ⟨⟨f0, b, hz, hf⟩, hTI, ⟨a0, b0, hTO⟩, h1, h2, hl1, hl2⟩ := S
  show wpAny _ _ (field (.ref z) 2 >>= _) _ _ _
  refine wpAny_bind (wpAny_field hz rfl (x := .bool false) rfl ?_)
  show wpAny _ _ (field (.ref z) 3 >>= _) _ _ _
  refine wpAny_bind (wpAny_field hz rfl (x := .ref TI) rfl ?_)
  refine wpAny_bind (wpAny_seqItems hTI rfl ?_)
  show wpAny _ _ (Builtin.SmallTypes.ownedTupleIsFree (.ref z) >>= _) _ _ _
  refine wpAny_bind (own_free hz hf ?_ fun g0 gz0 gs0 => ?_)
  · simp only [if_true]
    refine wpAny_bind (wpAny_rule (wpAny_bind (wpAny_field hz rfl (x := .ref TO) rfl ?_)))
    refine wpAny_bind (wpAny_setField_rec hz (by simp) fun k1 kz1 ks1 => ?_)
    replace kz1 : IsZ k1 z TI TO .ellipsis b := kz1
    refine wpAny_bind ?_
    simp only [List.zipIdx_cons, List.zipIdx_nil, List.forIn_cons, List.forIn_nil]
    refine wpAny_bind (wpAny_bind (wpAny_onRaise ?_))
    show wpAny _ _ (Builtin.SmallTypes.nextOf (.ref i1) >>= _) _ _ _
    refine wpAny_bind (wpAny_nextOf_list_item (h1.extBut ks1.extBut D.i1z) (hl1.extBut ks1.extBut D.l1z) hx fun k2 kh1 ks2 => wpAny_pure ?_)
    have kTO2 : IsPair k2 TO a0 b0 := ks2.extBut _ _ D.TOi1 (ks1.extBut _ _ D.TOz hTO)
    refine wpAny_bind (wpAny_seqItems kTO2 rfl (wpAny_bind (wpAny_updateSeq_pair kTO2 fun k3 kTO3 ks3 => ?_)))
    replace kTO3 : IsPair k3 TO x b0 := kTO3
    refine wpAny_bind (wpAny_letGo (wpAny_pure ?_))
    refine wpAny_bind (wpAny_bind (wpAny_onRaise ?_))
    show wpAny _ _ (Builtin.SmallTypes.nextOf (.ref i2) >>= _) _ _ _
    have b3 : ∀ c o, c ≠ z → c ≠ TO → c ≠ i1 → s.heap.get? c = some o → k3.get? c = some o := fun c o c1 c2 c3 ho => ks3.extBut _ _ c2 (ks2.extBut _ _ c3 (ks1.extBut _ _ c1 ho))
    refine wpAny_bind (wpAny_nextOf_list_item (h2.at fun o ho => b3 _ o D.i2z D.TOi2.symm D.i12.symm ho) (hl2.at fun o ho => b3 _ o D.l2z D.l2TO D.l2i1 ho) hy fun k4 kh2 ks4 => wpAny_pure ?_)
    have kTO4 : IsPair k4 TO x b0 := ks4.extBut _ _ D.TOi2 kTO3
    refine wpAny_bind (wpAny_seqItems kTO4 rfl (wpAny_bind (wpAny_updateSeq_pair kTO4 fun k5 kTO5 ks5 => ?_)))
    replace kTO5 : IsPair k5 TO x y := kTO5
    refine wpAny_bind (wpAny_letGo (wpAny_pure (wpAny_pure ?_)))
    refine wpAny_bind (wpAny_seqItems kTO5 rfl (wpAny_bind (wpAny_newTuple ?_)))
    have sz5 : k5.objs.size = s.heap.objs.size := by rw [ks5.1, ks4.1, ks3.1, ks2.1, ks1.1]
    have b5 : ∀ c o, c ≠ z → c ≠ TO → c ≠ i1 → c ≠ i2 → s.heap.get? c = some o → k5.get? c = some o := fun c o c1 c2 c3 c4 ho => ks5.extBut _ _ c2 (ks4.extBut _ _ c4 (b3 c o c1 c2 c3 ho))
    have kz5 : IsZ k5 z TI TO .ellipsis b := ks5.extBut _ _ D.TOz.symm (ks4.extBut _ _ D.i2z.symm (ks3.extBut _ _ D.TOz.symm (ks2.extBut _ _ D.i1z.symm kz1)))
    have kh15 : k5.IsListIter i1 l1 (i + 1) := ((kh1.extBut ks3.extBut D.TOi1.symm).extBut ks4.extBut D.i12).extBut ks5.extBut D.TOi1.symm
    have kh25 : k5.IsListIter i2 l2 (i + 1) := kh2.extBut ks5.extBut D.TOi2.symm
    have zlt : z < k5.objs.size := Heap.lt_size kz5
    show wpAny _ _ (Builtin.SmallTypes.ownedTupleHandOut (.ref z) (.ref k5.objs.size) >>= _) _ _ _
    refine wpAny_bind ?_
    unfold Builtin.SmallTypes.ownedTupleHandOut
    have kz6 : IsZ (k5.push { cls := .type "tuple", data := .seq #[x, y] }) z TI TO .ellipsis b := Heap.get?_push_of_some _ kz5
    refine wpAny_bind (wpAny_setField_rec kz6 (by simp) fun k7 kz7 ks7 => ?_)
    replace kz7 : IsZ k7 z TI TO (rawInt k5.objs.size) b := kz7
    refine wpAny_setField_rec kz7 (by simp) fun k8 kz8 ks8 => ?_
    replace kz8 : IsZ k8 z TI TO (rawInt k5.objs.size) false := kz8
    have up : ∀ c o, c ≠ z → k5.get? c = some o → k8.get? c = some o := fun c o c1 ho => ks8.extBut _ _ c1 (ks7.extBut _ _ c1 (Heap.get?_push_of_some _ ho))
    have kT8 : IsPair k8 k5.objs.size x y := ks8.extBut _ _ (Nat.ne_of_gt zlt) (ks7.extBut _ _ (Nat.ne_of_gt zlt) (Heap.get?_push_size _ rfl))
    have sz8 : k8.objs.size = k5.objs.size + 1 := by rw [ks8.1, ks7.1, Heap.size_push]
    refine wpAny_pure ⟨_, rfl, ?_⟩
    show Q (.ref k5.objs.size) _
    rw [sz5] at kT8 sz8 ⊢
    refine hQ k8 ⟨⟨_, _, kz8, .inr ⟨k5.objs.size, rfl⟩⟩, up _ _ D.TIz (b5 _ _ D.TIz D.TITO D.TIi1 D.TIi2 hTI), ⟨x, y, up _ _ D.TOz kTO5⟩, kh15.at fun o ho => up _ o D.i1z ho, kh25.at fun o ho => up _ o D.i2z ho, hl1.at fun o ho => up _ o D.l1z (b5 _ o D.l1z D.l1TO D.l1i1 D.l1i2 ho), hl2.at fun o ho => up _ o D.l2z (b5 _ o D.l2z D.l2TO D.l2i1 D.l2i2 ho)⟩ kT8 sz8 fun c o c1 c2 c3 c4 ho => up c o c1 (b5 c o c1 c2 c3 c4 ho)
  · simp only [Bool.false_eq_true, if_false]
    refine wpAny_bind ?_
    rw [← Array.forIn_toList]
    simp only [List.forIn_cons, List.forIn_nil]
    refine wpAny_bind (wpAny_bind (wpAny_holding ?_))
    show wpAny _ _ (Builtin.SmallTypes.nextOf (.ref i1) >>= _) _ _ _
    refine wpAny_bind (wpAny_nextOf_list_item (h1.extBut gs0.extBut D.i1z) (hl1.extBut gs0.extBut D.l1z) hx fun k2 kh1 ks2 => wpAny_pure (wpAny_pure ?_))
    refine wpAny_bind (wpAny_bind (wpAny_holding ?_))
    show wpAny _ _ (Builtin.SmallTypes.nextOf (.ref i2) >>= _) _ _ _
    have b2 : ∀ c o, c ≠ z → c ≠ i1 → s.heap.get? c = some o → k2.get? c = some o := fun c o c1 c3 ho => ks2.extBut _ _ c3 (gs0.extBut _ _ c1 ho)
    refine wpAny_bind (wpAny_nextOf_list_item (h2.at fun o ho => b2 _ o D.i2z D.i12.symm ho) (hl2.at fun o ho => b2 _ o D.l2z D.l2i1 ho) hy fun k4 kh2 ks4 => wpAny_pure (wpAny_pure (wpAny_pure ?_)))
    refine wpAny_bind (wpAny_newTuple (hsz := Nat.le_of_ble_eq_true rfl) ?_)
    have sz4 : k4.objs.size = s.heap.objs.size := by rw [ks4.1, ks2.1, gs0.1]
    have kz4 : IsZ k4 z TI TO f0 true := ks4.extBut _ _ D.i2z.symm (ks2.extBut _ _ D.i1z.symm gz0)
    have up : ∀ c o, k4.get? c = some o → (k4.push { cls := .type "tuple", data := .seq #[x, y] }).get? c = some o := fun c o ho => Heap.get?_push_of_some _ ho
    have b4 : ∀ c o, c ≠ z → c ≠ i1 → c ≠ i2 → s.heap.get? c = some o → k4.get? c = some o := fun c o c1 c3 c4 ho => ks4.extBut _ _ c4 (b2 c o c1 c3 ho)
    have kT : IsPair (k4.push { cls := .type "tuple", data := .seq #[x, y] }) k4.objs.size x y := Heap.get?_push_size _ rfl
    have sz5 : (k4.push { cls := .type "tuple", data := .seq #[x, y] }).objs.size = k4.objs.size + 1 := Heap.size_push ..
    refine wpAny_pure ⟨_, rfl, ?_⟩
    show Q (.ref k4.objs.size) _
    rw [sz4] at kT sz5 ⊢
    exact hQ _ ⟨⟨f0, true, up _ _ kz4, hf⟩, up _ _ (b4 _ _ D.TIz D.TIi1 D.TIi2 hTI), ⟨a0, b0, up _ _ (b4 _ _ D.TOz D.TOi1 D.TOi2 hTO)⟩, (kh1.extBut ks4.extBut D.i12).at fun o ho => up _ o ho, kh2.at fun o ho => up _ o ho, hl1.at fun o ho => up _ o (b4 _ o D.l1z D.l1i1 D.l1i2 ho), hl2.at fun o ho => up _ o (b4 _ o D.l2z D.l2i1 D.l2i2 ho)⟩ kT sz5 fun c o c1 c2 c3 c4 ho => up c o (b4 c o c1 c3 c4 ho)

/-- a zip at its end -/
theorem zip_end (hh : A.handled = none) (D : ZipApart z TI TO i1 i2 l1 l2) (S : ZS z TI TO i1 i2 l1 l2 xs ys i s.heap) (hend : xs[i]? = none ∨ ys[i]? = none) {Q : Fin → Shared → Prop}
    (hE : ∀ h' e, (∀ c o, c ≠ z → c ≠ TO → c ≠ i1 → c ≠ i2 → s.heap.get? c = some o → h'.get? c = some o) → (∃ o, h'.get? e = some o ∧ o.cls = .type "StopIteration") → E (.ref e) { s with heap := h' }) :
    wpAny (model prog w) A (Builtin.«zip.__next__» ⟨[.ref z], []⟩) Q E s := by
  obtain ⟨⟨f0, b, hz, hf⟩, hTI, ⟨a0, b0, hTO⟩, h1, h2, hl1, hl2⟩ := S
  show wpAny _ _ (field (.ref z) 2 >>= _) _ _ _
  refine wpAny_bind (wpAny_field hz rfl (x := .bool false) rfl ?_)
  show wpAny _ _ (field (.ref z) 3 >>= _) _ _ _
  refine wpAny_bind (wpAny_field hz rfl (x := .ref TI) rfl ?_)
  refine wpAny_bind (wpAny_seqItems hTI rfl ?_)
  show wpAny _ _ (Builtin.SmallTypes.ownedTupleIsFree (.ref z) >>= _) _ _ _
  refine wpAny_bind (own_free hz hf ?_ fun g0 gz0 gs0 => ?_)
  · simp only [if_true]
    refine wpAny_bind (wpAny_rule (wpAny_bind (wpAny_field hz rfl (x := .ref TO) rfl ?_)))
    refine wpAny_bind (wpAny_setField_rec hz (by simp) fun k1 kz1 ks1 => ?_)
    replace kz1 : IsZ k1 z TI TO .ellipsis b := kz1
    refine wpAny_bind ?_
    simp only [List.zipIdx_cons, List.zipIdx_nil, List.forIn_cons, List.forIn_nil]
    refine wpAny_bind (wpAny_bind (wpAny_onRaise ?_))
    show wpAny _ _ (Builtin.SmallTypes.nextOf (.ref i1) >>= _) _ _ _
    cases hx : xs[i]? with
    | none =>
      refine wpAny_bind (wpAny_nextOf_list_end hh (h1.extBut ks1.extBut D.i1z) (hl1.extBut ks1.extBut D.l1z) hx fun k2 e ks2 he => ?_)
      obtain ⟨oe, hoe, hce⟩ := he
      have kz2 : IsZ k2 z TI TO .ellipsis b := ks2 _ _ D.i1z.symm kz1
      have ez : e ≠ z := fun e1 => by subst e1; rw [kz2] at hoe; cases hoe; simp at hce
      exact wpAny_setField_rec kz2 (by simp) fun k3 _ ks3 => hE k3 e (fun c o c1 _ c3 _ ho => ks3.extBut _ _ c1 (ks2 _ _ c3 (ks1.extBut _ _ c1 ho))) ⟨oe, ks3.extBut _ _ ez hoe, hce⟩
    | some x =>
      have hy : ys[i]? = none := hend.resolve_left (by rw [hx]; simp)
      refine wpAny_bind (wpAny_nextOf_list_item (h1.extBut ks1.extBut D.i1z) (hl1.extBut ks1.extBut D.l1z) hx fun k2 kh1 ks2 => wpAny_pure ?_)
      have kTO2 : IsPair k2 TO a0 b0 := ks2.extBut _ _ D.TOi1 (ks1.extBut _ _ D.TOz hTO)
      refine wpAny_bind (wpAny_seqItems kTO2 rfl (wpAny_bind (wpAny_updateSeq_pair kTO2 fun k3 kTO3 ks3 => ?_)))
      refine wpAny_bind (wpAny_letGo (wpAny_pure ?_))
      refine wpAny_bind (wpAny_bind (wpAny_onRaise ?_))
      show wpAny _ _ (Builtin.SmallTypes.nextOf (.ref i2) >>= _) _ _ _
      have b3 : ∀ c o, c ≠ z → c ≠ TO → c ≠ i1 → s.heap.get? c = some o → k3.get? c = some o := fun c o c1 c2 c3 ho => ks3.extBut _ _ c2 (ks2.extBut _ _ c3 (ks1.extBut _ _ c1 ho))
      refine wpAny_bind (wpAny_nextOf_list_end hh (h2.at fun o ho => b3 _ o D.i2z D.TOi2.symm D.i12.symm ho) (hl2.at fun o ho => b3 _ o D.l2z D.l2TO D.l2i1 ho) hy fun k4 e ks4 he => ?_)
      obtain ⟨oe, hoe, hce⟩ := he
      have kz4 : IsZ k4 z TI TO .ellipsis b := ks4 _ _ D.i2z.symm (ks3.extBut _ _ D.TOz.symm (ks2.extBut _ _ D.i1z.symm kz1))
      have ez : e ≠ z := fun e1 => by subst e1; rw [kz4] at hoe; cases hoe; simp at hce
      exact wpAny_setField_rec kz4 (by simp) fun k5 _ ks5 => hE k5 e (fun c o c1 c2 c3 c4 ho => ks5.extBut _ _ c1 (ks4 _ _ c4 (b3 c o c1 c2 c3 ho))) ⟨oe, ks5.extBut _ _ ez hoe, hce⟩
  · simp only [Bool.false_eq_true, if_false]
    refine wpAny_bind ?_
    rw [← Array.forIn_toList]
    simp only [List.forIn_cons, List.forIn_nil]
    refine wpAny_bind (wpAny_bind (wpAny_holding ?_))
    show wpAny _ _ (Builtin.SmallTypes.nextOf (.ref i1) >>= _) _ _ _
    cases hx : xs[i]? with
    | none =>
      exact wpAny_bind (wpAny_nextOf_list_end hh (h1.extBut gs0.extBut D.i1z) (hl1.extBut gs0.extBut D.l1z) hx fun k2 e ks2 he => hE k2 e (fun c o c1 _ c3 _ ho => ks2 _ _ c3 (gs0.extBut _ _ c1 ho)) he)
    | some x =>
      have hy : ys[i]? = none := hend.resolve_left (by rw [hx]; simp)
      refine wpAny_bind (wpAny_nextOf_list_item (h1.extBut gs0.extBut D.i1z) (hl1.extBut gs0.extBut D.l1z) hx fun k2 kh1 ks2 => wpAny_pure (wpAny_pure ?_))
      refine wpAny_bind (wpAny_bind (wpAny_holding ?_))
      show wpAny _ _ (Builtin.SmallTypes.nextOf (.ref i2) >>= _) _ _ _
      have b2 : ∀ c o, c ≠ z → c ≠ i1 → s.heap.get? c = some o → k2.get? c = some o := fun c o c1 c3 ho => ks2.extBut _ _ c3 (gs0.extBut _ _ c1 ho)
      exact wpAny_bind (wpAny_nextOf_list_end hh (h2.at fun o ho => b2 _ o D.i2z D.i12.symm ho) (hl2.at fun o ho => b2 _ o D.l2z D.l2i1 ho) hy fun k4 e ks4 he => hE k4 e (fun c o c1 c2 c3 c4 ho => ks4 _ _ c4 (b2 c o c1 c3 ho)) he)
end
end Mine
namespace Mine

theorem meets_enumZ (z TI TO : Addr) (f0 : Value) (b : Bool) :
    Meets (Builtin.«enumerate.__new__» ⟨[.type "enumerate", .ref z], []⟩) (fun _ R s => IsZ s.heap z TI TO f0 b ∧
      R (.ok (.ret (.ref s.heap.objs.size))) { s with heap := s.heap.push { cls := .type "enumerate", data := .fields #[.none, .bool false, .ref z, rawInt 0, .none, .none] } }) :=
  .of_wp fun prog w A R s h => by
    obtain ⟨hp, g, d, tk, os⟩ := s; obtain ⟨hz, h⟩ := h
    have hsub := sub_enumerate
    have self : ∀ {A : Around} {E : Value → Shared → Prop} {Q : Value → Shared → Prop}, Q (.ref z) ⟨hp, g, d, tk, os⟩ → wpAny (model prog w) A (pyIter (.ref z)) Q E ⟨hp, g, d, tk, os⟩ := fun {A E Q} hq => by
      have hT : Shared.TypeIs ⟨hp, g, d, tk, os⟩ (.ref z) "zip" := ⟨_, hz, rfl⟩
      refine wpAny_pyIter_slot hT F.slot_zip_iter (wpAny_call_entry F.slot_zip_iter hT F.entry_zip_iter ?_ (F.args_zip_iter_1 _))
      show wpAny _ _ (ret (.ref z)) _ _ _
      exact wpAny_pure ⟨_, rfl, "zip", _, hT, F.slot_zip_next.lookup, hq⟩
    wp_walk using AutoSeq1.wpAny_loadPart' hz
    refine wpAny_stack_any fun st => wpAny_pure ?_
    split
    · rename_i c _ _ _ _ _
      cases (c == Value.type "enumerate")
      · wp_walk using AutoSeq1.wpAny_loadPart' hz, self
        exact ⟨_, rfl, h⟩
      · wp_walk using AutoSeq1.wpAny_loadPart' hz, self
        exact ⟨_, rfl, h⟩
    · wp_walk using AutoSeq1.wpAny_loadPart' hz, self
      exact ⟨_, rfl, h⟩

section
variable {prog : Program} {w : World} {A : Around} {E : Value → Shared → Prop} {s : Shared} {ea z TI TO i1 i2 l1 l2 : Addr} {xs ys : Array Value} {i : Nat}

theorem call_enumZ {f0 : Value} {b : Bool} {Q : Value → Shared → Prop} (hz : IsZ s.heap z TI TO f0 b) (h : Q (.ref s.heap.objs.size) { s with heap := s.heap.push (enO z 0 .none) }) : wpAny (model prog w) A (call (.type "enumerate") [.ref z]) Q E s := by
  refine callType_new F.called_enumerate (by decide) (F.typeCall_enumerate_1 _) (F.newCall_enumerate_1 _) (fun obj => F.args_object_init_2 obj _) F.entry_enumerate_new
    (meets_enumZ z TI TO f0 b) ⟨hz, ?_⟩
  exact ⟨⟨_, Heap.get?_push_size _ rfl, rfl⟩, h⟩

/-- the enumerating object is apart from the zip's -/
structure EApart (ea z TI TO i1 i2 l1 l2 : Addr) : Prop where
  z : ea ≠ z
  TI : ea ≠ TI
  TO : ea ≠ TO
  i1 : ea ≠ i1
  i2 : ea ≠ i2
  l1 : ea ≠ l1
  l2 : ea ≠ l2

theorem ZS.keep (S : ZS z TI TO i1 i2 l1 l2 xs ys i s.heap) {h' : Heap} (hk : ∀ b, b = z ∨ b = TI ∨ b = TO ∨ b = i1 ∨ b = i2 ∨ b = l1 ∨ b = l2 → ∀ o, s.heap.get? b = some o → h'.get? b = some o) : ZS z TI TO i1 i2 l1 l2 xs ys i h' := by
  obtain ⟨⟨f0, b, hz, hf⟩, hTI, ⟨a0, b0, hTO⟩, h1, h2, hl1, hl2⟩ := S
  exact ⟨⟨f0, b, hk _ (by simp) _ hz, hf⟩, hk _ (by simp) _ hTI, ⟨a0, b0, hk _ (by simp) _ hTO⟩, h1.at fun o ho => hk _ (by simp) _ ho, h2.at fun o ho => hk _ (by simp) _ ho, hl1.at fun o ho => hk _ (by simp) _ ho, hl2.at fun o ho => hk _ (by simp) _ ho⟩

theorem enumZ_item {old : Value} (D : ZipApart z TI TO i1 i2 l1 l2) (EA : EApart ea z TI TO i1 i2 l1 l2) (he : IsEnum s.heap ea z ((i : Nat) : Int) old) (S : ZS z TI TO i1 i2 l1 l2 xs ys i s.heap) {x y : Value} (hx : xs[i]? = some x) (hy : ys[i]? = some y) {Q : Option Value → Shared → Prop}
    (hQ : ∀ h' tk, IsEnumOut h' ea z ((i : Int) + 1) (.ref s.heap.objs.size) (s.heap.objs.size + 1) → ZS z TI TO i1 i2 l1 l2 xs ys (i + 1) h' → IsPair h' s.heap.objs.size x y →
      h'.get? (s.heap.objs.size + 1) = some { cls := .type "tuple", data := .seq #[.int i tk, .ref s.heap.objs.size] } →
      (∀ c o, c ≠ ea → c ≠ z → c ≠ TO → c ≠ i1 → c ≠ i2 → s.heap.get? c = some o → h'.get? c = some o) → Q (some (.ref (s.heap.objs.size + 1))) { s with heap := h', toks := tk + 1 }) :
    wpAny (model prog w) A (pyNext (.ref ea)) Q E s := by
  obtain ⟨hp, g, d, tk, os⟩ := s
  have hT : Shared.TypeIs ⟨hp, g, d, tk, os⟩ (.ref ea) "enumerate" := ⟨_, he, rfl⟩
  unfold pyNext
  refine wpAny_bind (wpAny_attempt (wpAny_callSpecial?_slot (name := PySem.Str.ofString "__next__") hT F.slot_enumerate_next
    (wpAny_call_entry F.slot_enumerate_next hT F.entry_enumerate_next ?_ (F.args_enumerate_next_1 _))))
  show wpAny _ _ (field (.ref ea) 2 >>= _) _ _ _
  refine wpAny_bind (wpAny_field he rfl (x := .ref z) rfl ?_)
  obtain ⟨f0, b, hz, hf⟩ := S.zip
  have hTz : Shared.TypeIs ⟨hp, g, d, tk, os⟩ (.ref z) "zip" := ⟨_, hz, rfl⟩
  unfold Builtin.SmallTypes.nextOf
  refine wpAny_bind (wpAny_bind (wpAny_callSpecial?_slot (name := PySem.Str.ofString "__next__") hTz F.slot_zip_next
    (wpAny_call_entry F.slot_zip_next hTz F.entry_zip_next (zip_item D S hx hy fun h₁ S₁ hP₁ hz₁ hk₁ => ?_) (F.args_zip_next_1 _))))
  dsimp only at hP₁ hz₁ hk₁
  refine wpAny_pure ?_
  have he₁ : IsEnum h₁ ea z i old := hk₁ _ _ EA.z EA.TO EA.i1 EA.i2 he
  have hel : ea < hp.objs.size := Heap.lt_size he
  show wpAny _ _ (field (.ref ea) 3 >>= _) _ _ ⟨h₁, g, d, tk, os⟩
  refine wpAny_bind (wpAny_field he₁ rfl (x := rawInt i) rfl ?_)
  show wpAny _ _ (field (.ref ea) 4 >>= _) _ _ ⟨h₁, g, d, tk, os⟩
  refine wpAny_bind (wpAny_field he₁ rfl (x := .none) rfl ?_)
  show wpAny _ _ (mkInt i >>= _) _ _ ⟨h₁, g, d, tk, os⟩
  refine wpAny_bind (wpAny_mkInt ?_)
  show wpAny _ _ (setField (.ref ea) 3 (rawInt ((i : Int) + 1)) >>= _) _ _ ⟨h₁, g, d, tk + 1, os⟩
  refine wpAny_bind (wpAny_setField_rec he₁ (by simp) fun h₂ he₂ hs₂ => ?_)
  replace he₂ : IsEnum h₂ ea z ((i : Int) + 1) old := he₂
  show wpAny _ _ (setField (.ref ea) 4 .none >>= _) _ _ ⟨h₂, g, d, tk + 1, os⟩
  refine wpAny_bind (wpAny_setField_rec he₂ (by simp) fun h₃ he₃ hs₃ => ?_)
  replace he₃ : IsEnum h₃ ea z ((i : Int) + 1) old := he₃
  show wpAny _ _ (newTuple [.int i tk, .ref hp.objs.size] >>= _) _ _ ⟨h₃, g, d, tk + 1, os⟩
  refine wpAny_bind (wpAny_newTuple ?_)
  have sz3 : h₃.objs.size = hp.objs.size + 1 := by rw [hs₃.1, hs₂.1, hz₁]
  have he₄ : IsEnum (h₃.push { cls := .type "tuple", data := .seq #[.int i tk, .ref hp.objs.size] }) ea z ((i : Int) + 1) old := Heap.get?_push_of_some _ he₃
  have up3 : ∀ c o, c ≠ ea → h₁.get? c = some o → (h₃.push { cls := .type "tuple", data := .seq #[.int i tk, .ref hp.objs.size] }).get? c = some o := fun c o hc ho => Heap.get?_push_of_some _ (hs₃.extBut _ _ hc (hs₂.extBut _ _ hc ho))
  have ht₄ : (h₃.push { cls := .type "tuple", data := .seq #[.int i tk, .ref hp.objs.size] }).get? (hp.objs.size + 1) = some { cls := .type "tuple", data := .seq #[.int i tk, .ref hp.objs.size] } := by rw [← sz3]; exact Heap.get?_push_size _ rfl
  generalize h₃.push { cls := .type "tuple", data := .seq #[.int i tk, .ref hp.objs.size] } = h₄ at he₄ up3 ht₄
  show wpAny _ _ (Builtin.SmallTypes.ownedTupleIsFree (.ref ea) >>= _) _ _ ⟨h₄, g, d, tk + 1, os⟩
  rw [sz3]
  refine wpAny_bind ?_
  unfold Builtin.SmallTypes.ownedTupleIsFree
  refine wpAny_bind (wpAny_field he₄ rfl (x := .none) rfl (wpAny_pure ?_))
  simp only [if_true]
  refine wpAny_bind (wpAny_rule (wpAny_bind (wpAny_field he₄ rfl (x := old) rfl ?_)))
  refine wpAny_bind (wpAny_setField_rec he₄ (by simp) fun h₅ he₅ hs₅ => ?_)
  replace he₅ : IsEnum h₅ ea z ((i : Int) + 1) (.ref hp.objs.size) := he₅
  show wpAny _ _ (Builtin.SmallTypes.ownedTupleHandOut (.ref ea) (.ref (hp.objs.size + 1)) >>= _) _ _ ⟨h₅, g, d, tk + 1, os⟩
  refine wpAny_bind ?_
  unfold Builtin.SmallTypes.ownedTupleHandOut
  refine wpAny_bind (wpAny_setField_rec he₅ (by simp) fun h₆ he₆ hs₆ => ?_)
  replace he₆ : IsEnumOut h₆ ea z ((i : Int) + 1) (.ref hp.objs.size) (hp.objs.size + 1) := he₆
  refine wpAny_setField_rec he₆ (by simp) fun h₇ he₇ hs₇ => ?_
  replace he₇ : IsEnumOut h₇ ea z ((i : Int) + 1) (.ref hp.objs.size) (hp.objs.size + 1) := he₇
  have up7 : ∀ c o, c ≠ ea → h₄.get? c = some o → h₇.get? c = some o := fun c o hc ho => hs₇.extBut _ _ hc (hs₆.extBut _ _ hc (hs₅.extBut _ _ hc ho))
  refine wpAny_bind (wpAny_letGo (wpAny_pure ⟨_, rfl, ?_⟩))
  refine wpAny_pure ?_
  refine hQ h₇ tk he₇ (ZS.keep (s := ⟨h₁, g, d, tk, os⟩) S₁ fun c hc o ho => up7 c o ?_ (up3 c o ?_ ho)) (up7 _ _ (Nat.ne_of_gt hel) (up3 _ _ (Nat.ne_of_gt hel) hP₁)) (up7 _ _ (Nat.ne_of_gt (Nat.lt_succ_of_lt hel)) ht₄) fun c o c0 c1 c2 c3 c4 ho => up7 c o c0 (up3 c o c0 (hk₁ c o c1 c2 c3 c4 ho))
  all_goals (rcases hc with rfl | rfl | rfl | rfl | rfl | rfl | rfl <;> first | exact EA.z.symm | exact EA.TI.symm | exact EA.TO.symm | exact EA.i1.symm | exact EA.i2.symm | exact EA.l1.symm | exact EA.l2.symm)

theorem enumZ_end {old : Value} {j : Int} (hh : A.handled = none) (D : ZipApart z TI TO i1 i2 l1 l2) (he : IsEnum s.heap ea z j old) (S : ZS z TI TO i1 i2 l1 l2 xs ys i s.heap) (hend : xs[i]? = none ∨ ys[i]? = none) {Q : Option Value → Shared → Prop}
    (hQ : ∀ h', (∀ c o, c ≠ z → c ≠ TO → c ≠ i1 → c ≠ i2 → s.heap.get? c = some o → h'.get? c = some o) → Q none { s with heap := h' }) : wpAny (model prog w) A (pyNext (.ref ea)) Q E s := by
  have hT : s.TypeIs (.ref ea) "enumerate" := ⟨_, he, rfl⟩
  unfold pyNext
  refine wpAny_bind (wpAny_attempt (wpAny_callSpecial?_slot (name := PySem.Str.ofString "__next__") hT F.slot_enumerate_next
    (wpAny_call_entry F.slot_enumerate_next hT F.entry_enumerate_next ?_ (F.args_enumerate_next_1 _))))
  show wpAny _ _ (field (.ref ea) 2 >>= _) _ _ _
  refine wpAny_bind (wpAny_field he rfl (x := .ref z) rfl ?_)
  obtain ⟨f0, b, hz, hf⟩ := S.zip
  have hTz : s.TypeIs (.ref z) "zip" := ⟨_, hz, rfl⟩
  unfold Builtin.SmallTypes.nextOf
  refine wpAny_bind (wpAny_bind (wpAny_callSpecial?_slot (name := PySem.Str.ofString "__next__") hTz F.slot_zip_next
    (wpAny_call_entry F.slot_zip_next hTz F.entry_zip_next (zip_end (A := A.in1.in1) hh D S hend fun h' e hk he' => ?_) (F.args_zip_next_1 _))))
  obtain ⟨o, ho, hc⟩ := he'
  refine wpAny_bind (wpAny_isInstance (T := "StopIteration") (b := true) ⟨o, ho, hc⟩ isSubtype_stop ?_)
  exact wpAny_pure (hQ _ hk)
end
end Mine
namespace Mine

abbrev zO (TI TO : Addr) : Obj := { cls := .type "zip", dict := none, data := .fields #[.none, .bool false, .bool false, .ref TI, .ref TO], slots := #[] }
abbrev pO (a b : Value) : Obj := { cls := .type "tuple", data := .seq #[a, b] }


def hid6 (a b c d e f : Addr) : List Addr := [a, b, c, d, e, f]
def led6 (ea z TI TO i1 i2 : Addr) (o1 o2 : Obj) : Led := [(ea, enO z 0 .none), (z, zO TI TO), (TI, pO (.ref i1) (.ref i2)), (TO, pO .none .none), (i1, o1), (i2, o2)]
section
variable {a b c d e f g h x : Addr} {p : Addr → Prop}
theorem all6 (h0 : p a) (h1 : p b) (h2 : p c) (h3 : p d) (h4 : p e) (h5 : p f) : ∀ x ∈ hid6 a b c d e f, p x := by
  intro x hx
  simp only [hid6, List.mem_cons, List.not_mem_nil, or_false] at hx
  rcases hx with rfl | rfl | rfl | rfl | rfl | rfl <;> assumption
theorem all8 (h0 : p a) (h1 : p b) (h2 : p c) (h3 : p d) (h4 : p e) (h5 : p f) (h6 : p g) (h7 : p h) : ∀ x ∈ hid6 a b c d e f ++ [g, h], p x := by
  intro x hx
  rcases List.mem_append.mp hx with hx | hx
  · exact all6 h0 h1 h2 h3 h4 h5 x hx
  · rcases List.mem_cons.mp hx with rfl | hx
    · exact h6
    · rw [List.mem_singleton.mp hx]; exact h7
theorem or7 (h0 : p a) (h1 : p b) (h2 : p c) (h3 : p d) (h4 : p e) (h5 : p f) (h6 : p g) (hx : x = a ∨ x = b ∨ x = c ∨ x = d ∨ x = e ∨ x = f ∨ x = g) : p x := by
  rcases hx with rfl | rfl | rfl | rfl | rfl | rfl | rfl <;> assumption
theorem in8 (hx : x = b ∨ x = c ∨ x = d ∨ x = e ∨ x = f ∨ x = g ∨ x = h) : x ∈ hid6 a b c d e f ++ [g, h] := by
  rcases hx with rfl | rfl | rfl | rfl | rfl | rfl | rfl <;> simp [hid6]
theorem not6 (hx : x ∉ hid6 a b c d e f) : x ≠ a ∧ x ≠ b ∧ x ≠ c ∧ x ≠ d ∧ x ≠ e ∧ x ≠ f := by
  simpa [hid6] using hx
theorem h6_0 : a ∈ hid6 a b c d e f := List.mem_cons_self
theorem led6_all {ea z TI TO i1 i2 : Addr} {o1 o2 : Obj} {p : Addr × Obj → Prop} (h : ∀ q ∈ led6 ea z TI TO i1 i2 o1 o2, p q) : p (ea, enO z 0 .none) ∧ p (z, zO TI TO) ∧ p (TI, pO (.ref i1) (.ref i2)) ∧ p (TO, pO .none .none) ∧ p (i1, o1) ∧ p (i2, o2) := by
  simpa [led6] using h
theorem led6_has {ea z TI TO i1 i2 : Addr} {o1 o2 : Obj} : ∀ b ∈ hid6 ea z TI TO i1 i2, ∃ q ∈ led6 ea z TI TO i1 i2 o1 o2, q.1 = b := by
  refine all6 ?_ ?_ ?_ ?_ ?_ ?_ <;> simp [led6]
theorem led6_nodup {ea z TI TO i1 i2 : Addr} {o1 o2 : Obj} {l : List Addr} (h : ((led6 ea z TI TO i1 i2 o1 o2).map (·.1)).Nodup) : ea ≠ z ∧ ea ≠ TI ∧ ea ≠ TO ∧ ea ≠ i1 ∧ ea ≠ i2 := by
  have := (List.nodup_cons.mp h).1
  simpa using this
end

section
variable {C : Cx} {k : Nat} {e fe : Env} {m : Loc} {μ ν : Led}

theorem T_zip {P : Value → Loc → Led → Led → Prop} {l1 l2 : Addr} {vs ws : List Value} {n1 n2 : Nat} (hm1 : (l1, lo vs n1) ∈ μ ++ ν) (hm2 : (l2, lo ws n2) ∈ μ ++ ν)
    (h : ∀ z TI TO i1 i2 o1 o2, ZipApart z TI TO i1 i2 l1 l2 → o1.cls = .type "list_iterator" → o1.data = .fields #[.ref l1, .int 0 0] → o2.cls = .type "list_iterator" → o2.data = .fields #[.ref l2, .int 0 0] →
      P (.ref z) m ((z, zO TI TO) :: (TI, pO (.ref i1) (.ref i2)) :: (TO, pO .none .none) :: (i1, o1) :: (i2, o2) :: μ) ν) : T C k e fe (call (.type "zip") [.ref l1, .ref l2]) m μ ν P := by
  intro A A₀ base h₀ outer L s Q a W q
  have a1 := Heap.lt_size (W.all hm1)
  have a2 := Heap.lt_size (W.all hm2)
  refine call_zip_2 (isL_lo (W.all hm1)) (isL_lo (W.all hm2)) fun h' hz hTI hTO hi1 hi2 hsz keep => ?_
  obtain ⟨o1, g1, c1, d1⟩ := hi1
  obtain ⟨o2, g2, c2, d2⟩ := hi2
  have W0 := W.ext keep
  have fr : ∀ j, h₀.get? (s.heap.objs.size + j) = none := fun j => W.none_size (Nat.le_add_right _ j)
  have nL : ∀ j, s.heap.objs.size + j ≠ L := fun j => Nat.ne_of_gt (Nat.lt_of_lt_of_le W.ltL (Nat.le_add_right _ j))
  have nl : ∀ j, s.heap.objs.size + j ≠ e.locals := fun j => Nat.ne_of_gt (Nat.lt_of_lt_of_le W.ns.lt (Nat.le_add_right _ j))
  have off : ∀ j, ∀ p ∈ μ ++ ν, p.1 ≠ s.heap.objs.size + j := fun j p hp => Nat.ne_of_lt (Nat.lt_of_lt_of_le (W.lt p hp) (Nat.le_add_right _ j))
  have ne : ∀ {i j : Nat}, i < j → s.heap.objs.size + i ≠ s.heap.objs.size + j := fun h => Nat.ne_of_lt (Nat.add_lt_add_left h _)
  have cut : ∀ {x : Addr × Obj} {l : Led} {n : Addr}, x.1 ≠ n → (∀ p ∈ l ++ ν, p.1 ≠ n) → ∀ p ∈ (x :: l) ++ ν, p.1 ≠ n := fun hx hl p hp => by
    rcases List.mem_cons.mp hp with rfl | hp
    · exact hx
    · exact hl p hp
  have W1 := W0.addM (a := s.heap.objs.size + 1) g2 (nL 1) (fr 1) (nl 1) (off 1)
  have W2 := W1.addM (a := s.heap.objs.size) g1 (nL 0) (fr 0) (nl 0) (cut (ne (i := 0) (j := 1) (by decide)).symm (off 0))
  have W3 := W2.addM (a := s.heap.objs.size + 3) (o := pO .none .none) hTO (nL 3) (fr 3) (nl 3) (cut (ne (i := 0) (j := 3) (by decide)) (cut (ne (i := 1) (j := 3) (by decide)) (off 3)))
  have W4 := W3.addM (a := s.heap.objs.size + 2) (o := pO (.ref s.heap.objs.size) (.ref (s.heap.objs.size + 1))) hTI (nL 2) (fr 2) (nl 2) (cut (ne (i := 2) (j := 3) (by decide)).symm (cut (ne (i := 0) (j := 2) (by decide)) (cut (ne (i := 1) (j := 2) (by decide)) (off 2))))
  have W5 := W4.addM (a := s.heap.objs.size + 4) (o := zO (s.heap.objs.size + 2) (s.heap.objs.size + 3)) hz (nL 4) (fr 4) (nl 4) (cut (ne (i := 2) (j := 4) (by decide)) (cut (ne (i := 3) (j := 4) (by decide)) (cut (ne (i := 0) (j := 4) (by decide)) (cut (ne (i := 1) (j := 4) (by decide)) (off 4)))))
  have old : ∀ j, s.heap.get? (s.heap.objs.size + j) = none := fun j => by
    cases x : s.heap.get? (s.heap.objs.size + j) with
    | none => rfl
    | some o => exact absurd (Heap.lt_size x) (Nat.not_lt.mpr (Nat.le_add_right _ j))
  refine q _ m _ _ h' s.toks (h _ _ _ _ _ o1 o2 (zipApart_new a1 a2) c1 d1 c2 d2) W5 ⟨fun b o _ _ _ ho => keep b o ho, fun p hp => ?_, fun p hp => .inl hp, fun p hp => hp, fun _ _ n => n.keeps keep⟩
  simp only [List.mem_cons] at hp
  rcases hp with rfl | rfl | rfl | rfl | rfl | hp
  · exact .inr (.inl (old 4))
  · exact .inr (.inl (old 2))
  · exact .inr (.inl (old 3))
  · exact .inr (.inl (old 0))
  · exact .inr (.inl (old 1))
  · exact .inl ⟨p, hp, rfl⟩
theorem T_enumZ {P : Value → Loc → Led → Led → Prop} {z TI TO : Addr} (hm : (z, zO TI TO) ∈ μ ++ ν) (h : ∀ ea, (∀ p ∈ μ ++ ν, p.1 ≠ ea) → P (.ref ea) m ((ea, enO z 0 .none) :: μ) ν) : T C k e fe (call (.type "enumerate") [.ref z]) m μ ν P :=
  fun A A₀ base h₀ outer L s Q a W q => call_enumZ (f0 := .none) (b := false) (W.all hm) (q _ _ _ _ _ s.toks (h s.heap.objs.size fun p hp => Nat.ne_of_lt (W.lt p hp)) (W.pushM _ rfl) (.pushM _))

theorem T_compEnumZip {y xi xv : PySem.Str} {py pi pv pt : Pos} {k' : Nat} {elt iter : Expr} {ifs : List Expr} {scope : Scope} {cl : List (PySem.Str × Addr)} {pos spos : Pos} {vs ws : List Value} {P : Flow → Loc → Led → Led → Prop} (J : Nat → List Value → Led → Prop)
    (mono : ∀ i ys ν1 ν2, Sub ν1 ν2 → J i ys ν1 → J i ys ν2)
    (hsw : swapsWith (.ListComp elt [⟨.Tuple [.Name xi pi, .Name xv pv] k' pt, iter, ifs, 0⟩] scope pos) (some (.Name y py)) spos.line e = pure true)
    (hclos : closureFor scope e = pure cl) (hcell : ∀ y ∈ scope.names, y.2 ≠ .cell) (hkind : scope.kind = .function) (hnames : ∀ y ∈ scope.names, y.2 = .local → scope.names.lookup y.1 = some .local) (hxi : scope.names.lookup xi = some .local) (hxv : scope.names.lookup xv = some .local) (hxx : xi ≠ xv) (hy : e.kindOf y = some .local)
    (h : T C k e fe (eval iter e) m μ ν (fun xv' m1 μ1 ν1 => ∃ ea z TI TO i1 i2 o1 o2 l1 l2 n1 n2, xv' = .ref ea ∧ ZipApart z TI TO i1 i2 l1 l2 ∧ μ1 = led6 ea z TI TO i1 i2 o1 o2 ∧
      o1.cls = .type "list_iterator" ∧ o1.data = .fields #[.ref l1, .int 0 0] ∧ o2.cls = .type "list_iterator" ∧ o2.data = .fields #[.ref l2, .int 0 0] ∧ (l1, lo vs n1) ∈ ν1 ∧ (l2, lo ws n2) ∈ ν1 ∧ vs.length ≤ sizeLine ∧ J 0 [] ν1 ∧
      ∀ D ν2 ys c, Sub ν1 ν2 → J (min vs.length ws.length) ys ν2 → ys.length ≤ vs.length → P .next (fun u => if u = y then some (.ref D) else m1 u) [] ((D, lo ys c) :: ν2)))
    (turn : ∀ Cc i v u t T n mc ν1 ys, i < min vs.length ws.length → vs[i]? = some v → ws[i]? = some u → Sub ν ν1 → J i ys ν1 → mc xi = some (.int i t) → mc xv = some (.ref T) → (T, tu [v, u] n) ∈ ν1 → Turn C k (compEnvC scope cl Cc e) fe ifs elt mc ν1 (fun y ν3 => J (i + 1) (ys ++ [y]) ν3) (fun ν3 => J (i + 1) ys ν3))
    (hs : ∀ x, foldedSetIterable iter e x = pure x := by intro _; rfl)
    (hpk : (e.scope.kind == .class || (e.scope.kind == .module && e.locals != e.globals)) = false := by rfl) : T C k e fe (exec (.Assign [.Name y py] (.ListComp elt [⟨.Tuple [.Name xi pi, .Name xv pv] k' pt, iter, ifs, 0⟩] scope pos) spos) e) m μ ν P := by
  intro A A₀ base h₀ outer L s Q a W q
  rw [exec_Assign_Name_used _ _ _ _ hsw]
  refine wpAny_bind (wpAny_standAt (wpAny_bind ?_))
  show wpAny _ A (do let _ ← comprehension (.ListComp elt [⟨.Tuple [.Name xi pi, .Name xv pv] k' pt, iter, ifs, 0⟩] scope pos) scope e _ (newList []) false (eval iter e) (some (assign (.Name y py) e))) _ _ s
  refine wpAny_bind (wpAny_mono (wpAny_comprehension_free (use := some (assign (.Name y py) e)) (Q := fun _ s' => Q .next s') rfl hs hclos hkind hnames ?_) (fun _ s' hq => wpAny_pure (wpAny_pure hq)) fun _ _ e => e)
  refine h A A₀ base h₀ outer L s _ a W fun xv' m1 μ1 ν1 h1 tk1 p1 w1 g1 => ?_
  obtain ⟨ea, z, TI, TO, i1, i2, o1, o2, l1, l2, n1, n2, rfl, D, rfl, c1, d1, c2, d2, hm1, hm2, hz, hJ0, hP⟩ := p1
  have mm : ∀ p ∈ led6 ea z TI TO i1 i2 o1 o2, h1.get? p.1 = some p.2 ∧ (p.1 ≠ L ∧ h₀.get? p.1 = none ∧ p.1 ≠ e.locals ∧ ∀ r ∈ ν1, r.1 ≠ p.1) ∧ p.1 ≠ l1 ∧ p.1 ≠ l2 := fun p hp =>
    let N := w1.news p (List.mem_append_left _ hp)
    ⟨N.1, ⟨N.2.1, N.2.2, w1.off p (List.mem_append_left _ hp), fun r hr => (w1.apart p hp r hr).symm⟩, w1.apart p hp _ hm1, w1.apart p hp _ hm2⟩
  obtain ⟨ae, mz, mTI, mTO, mi1, mi2⟩ := led6_all mm
  clear mm
  have EA : EApart ea z TI TO i1 i2 l1 l2 := let nd := led6_nodup (l := []) w1.nodup; ⟨nd.1, nd.2.1, nd.2.2.1, nd.2.2.2.1, nd.2.2.2.2, ae.2.2.1, ae.2.2.2⟩
  have N1 := w1.news (l1, lo vs n1) (List.mem_append_right _ hm1)
  have N2 := w1.news (l2, lo ws n2) (List.mem_append_right _ hm2)
  have O1 := w1.off (l1, lo vs n1) (List.mem_append_right _ hm1)
  have O2 := w1.off (l2, lo ws n2) (List.mem_append_right _ hm2)
  have hH : ∀ b ∈ hid6 ea z TI TO i1 i2, b ≠ L ∧ h₀.get? b = none ∧ b ≠ e.locals ∧ ∀ r ∈ ν1, r.1 ≠ b := all6 ae.2.1 mz.2.1 mTI.2.1 mTO.2.1 mi1.2.1 mi2.2.1
  have hLh : L ∉ hid6 ea z TI TO i1 i2 := fun hb => (hH L hb).1 rfl
  have S0 : ZS z TI TO i1 i2 l1 l2 vs.toArray ws.toArray 0 h1 := ⟨⟨.none, false, mz.1, .inl rfl⟩, mTI.1, ⟨_, _, mTO.1⟩, ⟨o1, mi1.1, c1, d1⟩, ⟨o2, mi2.1, c2, d2⟩, isL_lo N1.1, isL_lo N2.1⟩
  have wu : Wd h₀ L e h1 m1 [] ν1 := ⟨w1.fr, w1.ns, fun p hp => w1.news p (List.mem_append_right _ hp), fun p hp => w1.off p (List.mem_append_right _ hp), fun p hp => absurd hp (List.not_mem_nil), List.nodup_nil⟩
  refine wpAny_pyIter_enum ae.1 ?_
  refine comp_open (hs := h1) (μ₁ := led6 ea z TI TO i1 i2 o1 o2) (ν₁ := ν1) (m := m1) (hid := hid6 ea z TI TO i1 i2) (fpS := hid6 ea z TI TO i1 i2 ++ [l1, l2]) (n := min vs.length ws.length)
    (St := fun i h => ∃ old, IsEnum h ea z ((i : Nat) : Int) old ∧ ZS z TI TO i1 i2 l1 l2 vs.toArray ws.toArray i h) (Pit := fun _ i mc ν2 => ∃ v u t T n, vs[i]? = some v ∧ ws[i]? = some u ∧ mc xi = some (.int i t) ∧ mc xv = some (.ref T) ∧ (T, tu [v, u] n) ∈ ν2)
    (s := { s with heap := h1, toks := tk1 }) a hcell hkind ?_ ?_ ?_ ?_ (fun b hb => (hH b hb).2.1) ?_ ?_ ?_ J hJ0 ?_ ⟨.none, ae.1, S0⟩ wu ?_ (Nat.le_trans (Nat.min_le_left _ _) hz) (fun _ _ x => x) ?_ ?_
  · rintro i h h' ⟨old, a1, S⟩ hk
    exact ⟨old, hk ea (List.mem_append_left _ h6_0) _ a1, ZS.keep (s := { s with heap := h }) S fun b hb o ho => hk b (in8 hb) o ho⟩
  · rintro i h ⟨old, a1, ⟨⟨f0, b', hzz, _⟩, hTI, ⟨_, _, hTO⟩, ⟨o3, h3, _⟩, ⟨o4, h4, _⟩, ⟨o5, h5, _⟩, ⟨o6, h6, _⟩⟩⟩
    exact all8 (p := fun b => ∃ o, h.get? b = some o) ⟨_, a1⟩ ⟨_, hzz⟩ ⟨_, hTI⟩ ⟨_, hTO⟩ ⟨_, h3⟩ ⟨_, h4⟩ ⟨_, h5⟩ ⟨_, h6⟩
  · exact fun b hb => List.mem_append_left _ hb
  · intro b hb
    rcases List.mem_append.mp hb with h | h
    · exact ⟨(hH b h).2.2.1, (hH b h).1⟩
    · rcases List.mem_cons.mp h with r | r
      · rw [r]; exact ⟨O1, N1.2.1⟩
      · rw [List.mem_singleton.mp r]; exact ⟨O2, N2.2.1⟩
  · rintro Cc i H tk mc ν' Rn K hfc hC0 hlt ⟨old, he', S⟩ hw ho hsn hK
    have hv := List.getElem?_eq_getElem (l := vs) (i := i) (by omega)
    have hu := List.getElem?_eq_getElem (l := ws) (i := i) (by omega)
    generalize vs[i] = v at hv
    generalize ws[i] = u at hu
    have heH : ea < H.objs.size := Heap.lt_size he'
    refine enumZ_item (s := { s with heap := H, toks := tk }) D EA he' S (by simpa using hv) (by simpa using hu) fun h2 tk2 heo S2 hP2 ht2 hk2 => ?_
    dsimp only at heo hP2 ht2 hk2
    refine wpAny_letOwnedTupleGo_enum heo fun h3 he3 hs3 => ?_
    replace hs3 : Heap.SameBut ea h2 h3 := hs3
    have ht3 : h3.IsTuple (H.objs.size + 1) #[.int i tk2, .ref H.objs.size] := ⟨_, (hs3.2 _ (Nat.ne_of_gt (Nat.lt_succ_of_lt heH))).trans ht2, rfl, _, rfl⟩
    have hP3 : IsPair h3 H.objs.size v u := (hs3.2 _ (Nat.ne_of_gt heH)).trans hP2
    refine wpAny_assign_Tuple a.handled ht3 rfl rfl fun h4 hx4 => ?_
    replace hx4 : Heap.ExtBut h3.objs.size h3 h4 := hx4
    have k34 : ∀ b o', h3.get? b = some o' → h4.get? b = some o' := fun b o' hb => hx4 b o' (Nat.ne_of_lt (Heap.lt_size hb)) hb
    have k24 : ∀ b o', b ∉ hid6 ea z TI TO i1 i2 → H.get? b = some o' → h4.get? b = some o' := fun b o' hb ho' =>
      have hb := not6 hb
      k34 b o' ((hs3.2 b hb.1).trans (hk2 b o' hb.1 hb.2.1 hb.2.2.2.1 hb.2.2.2.2.1 hb.2.2.2.2.2 ho'))
    have hCh : Cc ∉ hid6 ea z TI TO i1 i2 := fun hb => hfc Cc (List.mem_append_left _ hb) rfl
    have hT0 : H.get? H.objs.size = none := none_at_size H
    have hCH : Cc < H.objs.size := hw.ns.lt
    have w4 := hw.skip k24 hLh hCh (fun b hb => (hH b hb).2.1) (fun p hp hb => ho p (by simpa using hp) hb)
    have w4' := w4.add (o := tu [v, u] 0) (a := H.objs.size) (k34 _ _ hP3) (Nat.ne_of_gt hw.ltL) (hw.none_size (Nat.le_refl _)) (Nat.ne_of_gt hCH) (fun p hp => absurd hp (List.not_mem_nil))
    show wpAny _ A (do holding [.ref H.objs.size] (assign (.Name xi pi) (compEnvC scope cl Cc e) (.int i tk2)); do holding [] (assign (.Name xv pv) (compEnvC scope cl Cc e) (.ref H.objs.size)); pure ()) _ _ _
    refine wpAny_bind (wpAny_holding (wpAny_assign_Name (wpAny_storeName_local (lookup_relabel_local hxi) w4'.ns (fun h5 hn5 hs5 => ?_) (by simp [compEnvC, relabel, hkind]))))
    replace hs5 : Heap.SameBut Cc h4 h5 := hs5
    have w5 := w4'.store hC0 hn5 hs5
    refine wpAny_bind (wpAny_holding (wpAny_assign_Name (wpAny_storeName_local (lookup_relabel_local hxv) w5.ns (fun h6 hn6 hs6 => wpAny_pure ?_) (by simp [compEnvC, relabel, hkind]))))
    replace hs6 : Heap.SameBut Cc h5 h6 := hs6
    have w6 := w5.store hC0 hn6 hs6
    have up6 : ∀ b o', b ≠ Cc → h4.get? b = some o' → h6.get? b = some o' := fun b o' hb ho' => (hs6.2 b hb).trans ((hs5.2 b hb).trans ho')
    have ch : Ch (compEnvC scope cl Cc e) L (hid6 ea z TI TO i1 i2) H ν' h6 ((H.objs.size, tu [v, u] 0) :: ν') := by
      have c0 := ((Ch.hidden (ce := compEnvC scope cl Cc e) (ν := ν') hLh k24).trans (Ch.store hs5)).trans (Ch.store hs6)
      refine ⟨c0.keep, fun p hp => ?_, fun p hp => List.mem_cons_of_mem _ hp, c0.lk⟩
      rcases List.mem_cons.mp hp with rfl | hp
      · refine .inr ⟨fun hb => ?_, Nat.ne_of_gt hCH, Nat.ne_of_gt hw.ltL, hT0⟩
        have : ∃ o, H.get? H.objs.size = some o := by
          obtain ⟨⟨f0, b', hzz, _⟩, hTI, ⟨_, _, hTO⟩, ⟨o3, h3, _⟩, ⟨o4, h4, _⟩, _, _⟩ := S
          exact all6 (p := fun b => ∃ o, H.get? b = some o) ⟨_, he'⟩ ⟨_, hzz⟩ ⟨_, hTI⟩ ⟨_, hTO⟩ ⟨_, h3⟩ ⟨_, h4⟩ _ hb
        obtain ⟨o, ho⟩ := this
        rw [hT0] at ho; cases ho
      · exact .inl hp
    refine hK h6 _ _ ((H.objs.size, tu [v, u] 0) :: ν') ⟨.ref H.objs.size, ?_, ?_⟩ w6 ch ⟨v, u, tk2, H.objs.size, 0, hv, hu, by simp [hxx], by simp, List.mem_cons_self⟩
    · exact up6 _ _ (hfc ea (List.mem_append_left _ h6_0)) (k34 _ _ he3)
    · exact ZS.keep (s := { s with heap := h2 }) S2 fun b hb o ho => up6 b o (hfc b (in8 hb)) (k34 _ _ ((hs3.2 b (or7 (p := fun b => b ≠ ea) EA.z.symm EA.TI.symm EA.TO.symm EA.i1.symm EA.i2.symm EA.l1.symm EA.l2.symm hb)).trans ho))
  · rintro e' h tk mc ν' Rn K ⟨old, he', S⟩ hw ho hK
    refine enumZ_end (s := { s with heap := h, toks := tk }) a.handled D he' S ?_ fun h2 he2 => hK h2 tk fun b o' hb ho' => ?_
    · rcases Nat.le_total vs.length ws.length with h | h
      · exact .inl (by rw [Nat.min_eq_left h]; simp)
      · exact .inr (by rw [Nat.min_eq_right h]; simp)
    · replace hb := not6 hb
      exact he2 b o' hb.2.1 hb.2.2.2.1 hb.2.2.2.2.1 hb.2.2.2.2.2 ho'
  · rintro h tk Q E ⟨old, he', _⟩ hQ
    exact wpAny_pyIter_enum (s := { s with heap := h, toks := tk }) he' hQ
  · intro Cc i mc ν2 ys hi hsn hj ν3 hs3 ⟨v, u, t, T, n, hv, hu, hmi, hmx, hmT⟩
    exact turn Cc i v u t T n mc ν3 ys hi hv hu (Sub.trans g1.sub (hsn.trans hs3)) (mono _ _ _ _ hs3 hj) hmi hmx hmT
  · intro p hp hb
    exact (hH _ hb).2.2.2 p hp rfl
  · exact fun b hb => .inr (led6_has b hb)
  · intro D' Cc h' tk mc ν' ys c hj hsn hyl hns hoff hlC hC0 hLC w2 g2 hnC
    show wpAny _ A (assign (.Name y py) e (.ref D')) _ _ _
    refine wpAny_assign_Name (wpAny_storeName_local hy w2.ns (fun h₂ hn₂ hs₂ => ?_) hpk)
    have w3 := w2.store a.fresh hn₂ hs₂
    have g3 := g2.trans (Go.store hs₂)
    exact ⟨mc, hns.sameBut hs₂ (Ne.symm hlC), fun h'' hs'' => q _ _ _ _ h'' _ (hP D' ν' ys c hsn hj (Nat.le_trans hyl (Nat.min_le_left _ _))) (w3.but hs'' hoff hlC hC0 hLC) (g1.trans (g3.but hs'' hnC))⟩
end
end Mine
namespace Mine

/-- the law's own frame -/
theorem top_T {C : Cx} {k : Nat} {e : Env} {body : List Stmt} {s : Shared} {h₁ : Heap} {tk : Nat} {m : Loc} {c : Addr} {o : Obj} {P : Flow → Loc → Led → Led → Prop} {Q : Flow → Shared → Prop} {E : Value → Shared → Prop}
    (hd : callerA.depth + 1 + k < recursionLimit) (hu : callerA.units + 3 + 8 * k + 8 < cLine) (hf : e.frame = some e.locals) (hk : e.scope.kind = .function) (hgl : e.globals = mainGlobals) (hbu : e.builtins = builtinsNs) (hL : e.locals = s.heap.objs.size)
    (B : Below callerA s.heap [] s.heap) (X : C.K.In s.heap) (T0 : Top C.p C.loose C.mean C.mg C.mb s.heap) (F : Fr s.heap s.heap.objs.size h₁ m) (N : News s.heap s.heap.objs.size h₁ [(c, o)]) (hg : ∀ p ∈ C.giv, s.heap.IsList p.1 p.2.toArray)
    (h : T C k e e (execs body e) m [(c, o)] [] P)
    (q : ∀ fl m' μ' ν' h' tk', P fl m' μ' ν' → (∀ b o, s.heap.get? b = some o → h'.get? b = some o) → Q fl { s with heap := h', toks := tk' }) :
    wpAny (model C.prog C.w) (callerA.deeper e) (execs body e) Q E { s with heap := h₁, toks := tk } := by
  have hn : s.heap.get? s.heap.objs.size = none := none_at_size _
  have a : At C k e e (callerA.deeper e) callerA s.heap s.heap [] s.heap.objs.size := ⟨rfl, hL ▸ hf, hk, rfl, hd, hu, B, X, T0, hk, hgl, hbu, by rw [hL]; exact hn, hg⟩
  have W : Wd s.heap s.heap.objs.size e h₁ m [(c, o)] [] := ⟨⟨m, F⟩, by rw [hL]; exact F.ns, fun p hp => N p (by simpa using hp), fun p hp => by rw [hL]; exact (N p (by simpa using hp)).2.1, fun p _ q hq => absurd hq (List.not_mem_nil), by simp⟩
  exact wpAny_mono (h (callerA.deeper e) callerA s.heap s.heap [] s.heap.objs.size { s with heap := h₁, toks := tk } (fun fl s' => Q fl s') a W fun fl m' μ' ν' h' tk' p w' g => q fl m' μ' ν' h' tk' p (w'.fr.elim fun _ F' => F'.keep)) (fun _ _ x => x) fun _ _ x => x.elim
section
variable {C : Cx} {k : Nat} {e fe : Env} {m : Loc} {μ ν : Led}
theorem T_intInt {a : Int} {t : Tok} {P : Value → Loc → Led → Led → Prop} (h : P (.int a t) m μ ν) : T C k e fe (call (.type "int") [.int a t]) m μ ν P :=
  T_quiet (fun _ => _) (fun _ _ _ _ _ _ s _ _ W q => call_int_int (q 0 s.toks)) fun _ => h
end
end Mine
namespace Mine
noncomputable def cx (w : World) (mean : ExcName → Option Value) (mg mb : Loc) : Cx :=
  { prog := PySem.Challenge.pw_sa0342_01, w := w, K := hd.heap_39 w.params, p := vw, loose := looseW vw [], mean := mean, mg := mg, mb := mb }
theorem dummy : (fun (_ : OpenLaw) (_ : Params → Frag) => True) PySem.Challenge.rw_sa0342_01 hd.heap_39 := by
  k_fill
  trivial
section
variable {w : World} {mean : ExcName → Option Value} {mg mb : Loc}
theorem kp_EulerSeries : keepIn (cx w mean mg mb).K (.ref 173) = true := by show keepIn (hd.heap_39 w.params) _ = _; k_is
end
end Mine
namespace Mine
local macro_rules | `(tactic| walk_at "gl") => `(tactic| (show nsIn (hd.heap_39 _) _ _ = _; k_is))
local macro_rules | `(tactic| walk_at "kp") => `(tactic| (show keepIn (hd.heap_39 _) _ = _; k_is))
local macro_rules | `(tactic| walk_at "kis") => `(tactic| (show (_ : _) = _; (try unfold cx); dsimp only; k_is))
local macro_rules | `(tactic| walk_at "lk") => `(tactic| first
  | assumption
  | (with_reducible first | exact if_pos rfl)
  | (refine Eq.trans (if_neg (by decide)) ?_; walk_at "lk")
  | exact rfl)
local macro_rules | `(tactic| walk_at "mem") => `(tactic| first
  | assumption
  | exact List.mem_cons_self
  | (refine List.mem_append_right _ ?_; walk_at "mem")
  | (refine List.mem_cons_of_mem _ ?_; walk_at "mem")
  | (refine List.mem_append_left _ ?_; walk_at "mem")
  | (refine Sub.mem (by assumption) ?_; walk_at "mem"))
local macro_rules | `(tactic| walk_at "m") => `(tactic| first
  | ((with_reducible refine' T_nameL ?k1 ?k2 ?_ ?k3); (case k1 => kernel_rfl!); (case k2 => walk_at "lk"); (case k3 => decide))
  | (with_reducible first | (refine T_int ?_; intro _) | refine T_binop ?_ | (refine T_add ?_; intro _) | (refine T_sub ?_; intro _))
  | ((with_reducible refine T_slice ?_ ?k1 ?k2); (case k1 => (intros; with_unfolding_all rfl)); (case k2 => (intros; with_unfolding_all rfl)))
  | (with_reducible first | refine T_subscript ?_ | refine then_next ?_ | refine T_st ?_ | refine T_assignName ?_ (by kernel_rfl!) | refine T_store (by kernel_rfl!) ?_ (by kernel_rfl!) | refine T_call ?_ (by kernel_rfl!) | refine T_args_cons ?_ (by kernel_rfl!) | refine T_args_nil ?_)
  | ((with_reducible refine' T_nameG ?k1 ?k2 ?_ ?k3); (case k1 => kernel_rfl!); (case k2 => walk_at "gl"); (case k3 => decide))
  | ((with_reducible refine' T_nameB ?k1 ?k2 ?k4 ?_ ?k5 ?k3); (case k1 => kernel_rfl!); (case k2 => walk_at "gl"); (case k4 => first | exact PyProof.Rows.Boot.len | exact PyProof.Rows.Boot.range | exact PyProof.Rows.Boot.enumerate | exact PyProof.Rows.Boot.min | exact PyProof.Rows.Boot.abs | exact PyProof.Rows.Boot.int | exact PyProof.Rows.Boot.sum | exact PyProof.Rows.Boot.zip); (case k3 => decide); (case k5 => decide))
  | (with_reducible first | refine T_callB ?_ (by kernel_rfl!) (by kernel_rfl!))
  | ((with_reducible refine T_callF ?k0 ?_ ?k1 ?k2); (case k0 => walk_at "kp"); (case k1 => kernel_rfl!); (case k2 => kernel_rfl!))
  | (with_reducible first | refine T_callM ?_ (by kernel_rfl!) (by kernel_rfl!) | refine T_callT ?_ (by kernel_rfl!) (by kernel_rfl!) | refine T_callB0 ?_ | refine T_aug ?_)
  | ((with_reducible refine' T_loadL ?k1 ?k2 ?_); (case k1 => kernel_rfl!); (case k2 => walk_at "lk"))
  | (with_reducible first | (refine T_iadd ?_; intro _) | (refine T_isub ?_; intro _) | refine T_ifst ?_ | refine T_ifexp ?_)
  | ((with_reducible refine T_isTrue_cmp ?_ ?k1); (case k1 => with_unfolding_all rfl))
  | ((with_reducible refine T_cmp ?_ ?k1); (case k1 => with_unfolding_all rfl))
  | (with_reducible first | refine T_lt ?_ | refine T_gt ?_ | refine T_eq ?_ | refine T_ne ?_ | refine T_le ?_ | refine T_eqb ?_ | refine T_neb ?_ | refine T_truthy ?_ | refine T_return ?_ | refine then_ret ?_ | refine T_nil ?_ | refine T_tuple ?_ | refine T_list ?_ | refine T_bool ?_ | refine T_unop ?_ | (refine T_neg ?_; intro _) | refine T_isTrue_bool ?_ | refine T_setItem ?_ (by kernel_rfl!) | refine T_partNone ?_ | refine T_partSome ?_ | refine T_bindName ?_ | refine T_assign1 ?_ | refine T_assignTS2 (by kernel_rfl!) ?_ (by kernel_rfl!) | refine T_assignTS3 (by kernel_rfl!) ?_ (by kernel_rfl!) | refine two_mk ?_ | refine three_mk ?_ | refine T_assignT ?_ (by kernel_rfl!) (by kernel_rfl!))
  | ((with_reducible refine T_newTuple ?k0 ?_); (case k0 => exact Nat.le_of_ble_eq_true rfl); intro _ _)
  | ((with_reducible refine' T_unpack ?k0 ?k1 ?_); (case k0 => walk_at "mem"); (case k1 => exact rfl))
  | ((with_reducible refine' T_assignT2 ?k0 ?_); (case k0 => walk_at "mem"))
  | ((with_reducible refine' T_assignT3 ?k0 ?_); (case k0 => walk_at "mem"))
  | ((with_reducible refine' T_assignT4 ?k0 ?_); (case k0 => walk_at "mem"))
  | (with_reducible first | refine T_exprN ?_ (by kernel_rfl!) (by kernel_rfl!) | refine T_methodN ?_ (by kernel_rfl!))
  | ((with_reducible refine' T_getAppend ?k0 ?_); (case k0 => walk_at "mem"))
  | (with_reducible first | refine none_then ?_ | refine on_next ?_ | refine on_ret ?_ | refine T_all_cons ?_ | refine T_any_cons ?_ | refine T_all_nil ?_ | refine T_any_nil ?_ | refine Hid.out (by assumption) ?_))
local macro_rules | `(tactic| walk_at "ms") => `(tactic| repeat walk_at "m")
local macro_rules | `(tactic| walk_at "out") => `(tactic| repeat (first | with_reducible refine Hid.out (by assumption) ?_ | with_reducible refine then_ret ?_ | with_reducible refine on_ret ?_ | with_reducible refine on_next ?_))
section
variable {w : World} {mean : ExcName → Option Value} {mg mb : Loc} {k : Nat} {ν : Led}
theorem c_normal {v : Value} {xs : List Int} (hv : Rep ν (L xs) v) (hz : xs.length ≤ 10000) :
    Fn (cx w mean mg mb) (k + 1) 58 [v] ν (fun d => ∃ j, Stripped xs j ∧ d = L (xs.take j)) := by
  intro e fe m
  obtain ⟨l, vs, n, rfl, hm, hi⟩ := rep_L.mp hv
  refine T_def (binds := [(PySem.Str.ofString "a", .ref l)]) (by walk_at "kis") (by walk_at "kis") (fun s => BindsTo.of_eq rfl) (locs rfl) rfl rfl rfl (by decide) fun L' Qd hQd => ?_
  have hlen := hi.length
  walk_at "ms"
  refine T_len (by walk_at "mem") (by (first | lia | omega)) ?_; intro _
  walk_at "ms"
  refine T_while (fun n m1 μ1 ν1 => μ1 = [] ∧ ν1 = ν ∧ m1 (PySem.Str.ofString "a") = some (.ref l) ∧ (∃ t, m1 (PySem.Str.ofString "end") = some (.int (n : Int) t)) ∧ n ≤ xs.length ∧ ∀ i, n ≤ i → ∀ x, xs[i]? = some x → x = 0) vs.length ?_ ?_
  · walk_at "out"
    refine ⟨rfl, rfl, by walk_at "lk", ⟨_, by walk_at "lk"⟩, by (first | lia | omega), fun i hi' x hx => ?_⟩
    have := (List.getElem?_eq_some_iff.mp hx).1; (first | lia | omega)
  · intro j m1 μ1 ν1 _ Qt0 hQt0 z0J
    refine an6 z0J fun z0e0 z0e1 ha z0p3 hj hz' => ?_
    clear z0J
    subst z0e0
    subst z0e1
    obtain ⟨t, he⟩ := z0p3
    walk_at "ms"
    walk_at "out"
    refine ⟨fun hb => ?_, fun hb => ⟨(fun h => nomatch h), fun _ => ?_⟩⟩
    · have hj0 := of_decide_eq_true hb
      have hlt : j - 1 < xs.length := by (first | lia | omega)
      obtain ⟨tx, hx⟩ := hi.get (j - 1) _ (List.getElem?_eq_getElem hlt)
      walk_at "ms"
      refine T_item (by walk_at "mem") (by (first | lia | omega)) (by (first | lia | omega)) (by rw [show ((j : Int) - 1).toNat = j - 1 by (first | lia | omega)]; exact hx) ?_
      walk_at "ms"
      walk_at "out"
      refine ⟨fun hb => ?_, fun hb => ⟨(fun h => nomatch h), fun _ => ?_⟩⟩
      · have hx0 := of_decide_eq_true hb
        walk_at "ms"
        walk_at "out"
        refine ⟨fun _ => ?_, (fun h => nomatch h)⟩
        walk_at "ms"
        walk_at "out"
        refine ⟨j - 1, by (first | lia | omega), rfl, rfl, by walk_at "lk", ⟨_, by rw [show (((j - 1 : Nat)) : Int) = (j : Int) - 1 by (first | lia | omega)]; walk_at "lk"⟩, by (first | lia | omega), fun i hi' x hx' => ?_⟩
        · rcases Nat.lt_or_ge i j with h1 | h1
          · have : i = j - 1 := by (first | lia | omega)
            subst this
            rw [List.getElem?_eq_getElem hlt] at hx'
            rw [← Option.some.inj hx']; exact hx0
          · exact hz' i h1 x hx'
      · have hx0 := of_decide_eq_false hb
        walk_at "ms"
        walk_at "out"
        refine mk5 l vs n none (some (j : Int)) ⟨rfl, by walk_at "mem", .none, .int _ _, by simp only [sizeLine]; (first | lia | omega), fun l' hl' => ?_⟩
        walk_at "ms"
        walk_at "out"
        refine ⟨rfl, rfl, _, ⟨j, ⟨hj, hz', fun x _ h1 h2 => hx0 ?_⟩, rfl⟩, rep_L.mpr ⟨l', _, 0, rfl, List.mem_cons_self, ?_⟩⟩
        · rw [List.getElem?_eq_getElem hlt] at h1; rw [Option.some.inj h1]; exact h2
        · rw [slicePick_upto' vs.toArray j]; simpa using hi.take j
    · have hj0 := of_decide_eq_false hb
      walk_at "ms"
      walk_at "out"
      refine mk5 l vs n none (some (j : Int)) ⟨rfl, by walk_at "mem", .none, .int _ _, by simp only [sizeLine]; (first | lia | omega), fun l' hl' => ?_⟩
      walk_at "ms"
      walk_at "out"
      refine ⟨rfl, rfl, _, ⟨j, ⟨hj, hz', fun x h0 h1 h2 => by (first | lia | omega)⟩, rfl⟩, rep_L.mpr ⟨l', _, 0, rfl, List.mem_cons_self, ?_⟩⟩
      rw [slicePick_upto' vs.toArray j]; simpa using hi.take j

end
section
variable {w : World} {mean : ExcName → Option Value} {mg mb : Loc} {k : Nat} {ν : Led}
theorem c_nat_of {W : Nat} (hW : 1 ≤ W ∧ W ≤ 20) {x : Int} {t tw : Tok} (h0 : 0 ≤ x) (hx : x < 2 ^ 60) :
    Fn (cx w mean mg mb) (k + 1) 65 [.int x t, .int W tw] ν (fun d => ∃ xs, d = L xs ∧ Nm (2 ^ W) xs x) := by
  intro e fe m
  refine T_def (binds := [(PySem.Str.ofString "number", .int x t), (PySem.Str.ofString "w", .int W tw)]) (by walk_at "kis") (by walk_at "kis") (fun s => BindsTo.of_eq rfl) (locs rfl) rfl rfl rfl (by decide) fun L' Qd hQd => ?_
  have hB : (2 : Int) ≤ 2 ^ W := by have := pow_le_pow (B := 2) (by decide) hW.1; simpa using this
  walk_at "ms"
  refine T_if (fun hb => absurd (of_decide_eq_true hb) (by (first | lia | omega))) fun _ => ?_
  walk_at "ms"
  refine T_newListM (Nat.le_of_ble_eq_true rfl) fun l hl => ?_
  walk_at "ms"
  refine T_shl (by (first | lia | omega)) (by (first | lia | omega)) (by decide) ?_; intro _
  walk_at "ms"
  rw [Int.toNat_natCast, Int.one_mul]
  refine T_while (fun n m1 μ1 ν1 => ∃ vs c y xs, μ1 = [(l, lo vs c)] ∧ IntsAre vs xs ∧ m1 (PySem.Str.ofString "found") = some (.ref l) ∧ (∃ t, m1 (PySem.Str.ofString "number") = some (.int y t)) ∧ (∃ t, m1 (PySem.Str.ofString "w") = some (.int W t)) ∧
    (∃ t, m1 (PySem.Str.ofString "mask") = some (.int (2 ^ W - 1) t)) ∧ n = y.toNat ∧ 0 ≤ y ∧ Dig (2 ^ W) xs ∧ val (2 ^ W) xs + (2 ^ W) ^ xs.length * y = x ∧ (xs ≠ [] → (2 ^ W) ^ (xs.length - 1) ≤ x)) x.toNat ?_ ?_
  · walk_at "out"
    exact mk4 [] 0 x [] ⟨rfl, .nil, by walk_at "lk", ⟨_, by walk_at "lk"⟩, ⟨_, by walk_at "lk"⟩, ⟨_, by walk_at "lk"⟩, rfl, h0, .nil, by simp [val], fun h => absurd rfl h⟩
  · intro n m1 μ1 ν1 hs Qt0 hQt0 z0J
    refine ex4 z0J fun vs c y xs z0r0 => ?_
    clear z0J
    refine an7 z0r0 fun z0e4 hi hf z0p7 z0p8 z0p9 z0r1 => ?_
    clear z0r0
    refine an5 z0r1 fun z0e10 hy hd hv hg => ?_
    clear z0r1
    subst z0e4
    obtain ⟨tn, hn⟩ := z0p7
    obtain ⟨tw', hw⟩ := z0p8
    obtain ⟨tm, hm⟩ := z0p9
    subst z0e10
    have hlen := hi.length
    have hvn := val_nonneg (B := 2 ^ W) (by (first | lia | omega)) hd
    walk_at "ms"
    walk_at "out"
    refine ⟨fun hb => ?_, fun hb => ?_⟩
    · have hy0 := of_decide_eq_true hb
      have hp := pow_pos' (B := 2 ^ W) (by (first | lia | omega)) xs.length
      have hge : (2 ^ W) ^ xs.length ≤ x := by have := mul_pos_ge hp hy0; (first | lia | omega)
      have hl60 : xs.length < 60 := pow_lt_pow_iff2 (B := 2) (by decide) (by have := two_pow_le_pow hB xs.length; (first | lia | omega))
      walk_at "ms"
      refine T_mask (n := W) rfl hy ?_; intro _
      walk_at "ms"
      refine T_append (by simp only [sizeLine]; (first | lia | omega)) ?_
      walk_at "ms"
      refine T_ishr (by (first | lia | omega)) ?_; intro _
      walk_at "ms"
      rw [Int.toNat_natCast]
      walk_at "out"
      refine ⟨(y / 2 ^ W).toNat, ?_, mk4 _ _ (y / 2 ^ W) (xs ++ [y % 2 ^ W]) ⟨rfl, hi.append (.cons _ _ .nil), by walk_at "lk", ⟨_, by walk_at "lk"⟩, ⟨_, by walk_at "lk"⟩, ⟨_, by walk_at "lk"⟩, rfl, Int.ediv_nonneg hy (by (first | lia | omega)), hd.snoc (emod_dig (by (first | lia | omega)) y), ?_, fun _ => ?_⟩⟩
      · have h1 : y / 2 ^ W < y := Int.ediv_lt_self_of_pos_of_ne_one hy0 (by (first | lia | omega)) |> fun h => h
        (first | lia | omega)
      · have := snoc_carry (B := 2 ^ W) xs y
        simp only [List.length_append, List.length_cons, List.length_nil, Nat.zero_add]; (first | lia | omega)
      · simpa using hge
    · have hy0 := of_decide_eq_false hb
      have hy' : y = 0 := by (first | lia | omega)
      subst hy'
      walk_at "m"
      refine T_freeze ?_
      walk_at "ms"
      walk_at "out"
      refine ⟨rfl, rfl, _, ⟨xs, rfl, .of_ge (by (first | lia | omega)) hd (by simpa using hv) hg⟩, rep_L.mpr ⟨l, _, _, rfl, List.mem_cons_self, hi⟩⟩

end
section
variable {w : World} {mean : ExcName → Option Value} {mg mb : Loc} {k : Nat} {ν : Led}
theorem c_compare {B : Int} (hB : 1 ≤ B) {va vb : Value} {xs ys : List Int} {x y : Int} (ha : Rep ν (L xs) va) (hb : Rep ν (L ys) vb) (hx : Nm B xs x) (hy : Nm B ys y) (zx : xs.length ≤ 10000) (zy : ys.length ≤ 10000) :
    Fn (cx w mean mg mb) (k + 1) 72 [va, vb] ν (fun d => ∃ c, d = .int c ∧ ((c = -1 ∧ x < y) ∨ (c = 0 ∧ x = y) ∨ (c = 1 ∧ y < x))) := by
  intro e fe m
  obtain ⟨la, ua, na, rfl, hma, hia⟩ := rep_L.mp ha
  obtain ⟨lb, ub, nb, rfl, hmb, hib⟩ := rep_L.mp hb
  have ea := hia.length
  have eb := hib.length
  refine T_def (binds := [(PySem.Str.ofString "a", .ref la), (PySem.Str.ofString "b", .ref lb)]) (by walk_at "kis") (by walk_at "kis") (fun s => BindsTo.of_eq rfl) (locs rfl) rfl rfl rfl (by decide) fun L' Qd hQd => ?_
  walk_at "ms"
  refine T_len (by walk_at "mem") (by (first | lia | omega)) ?_; intro _
  walk_at "ms"
  refine T_len (by walk_at "mem") (by (first | lia | omega)) ?_; intro _
  walk_at "ms"
  refine T_if (fun hb => ?_) (fun hb => ?_)
  · have hne := of_decide_eq_true hb
    walk_at "ms"
    refine T_len (by walk_at "mem") (by (first | lia | omega)) ?_; intro _
    walk_at "ms"
    refine T_len (by walk_at "mem") (by (first | lia | omega)) ?_; intro _
    walk_at "ms"
    refine T_if (fun hb => ?_) (fun hb => ?_)
    · have hlt := of_decide_eq_true hb
      walk_at "ms"
      walk_at "out"
      exact ⟨rfl, rfl, _, ⟨-1, rfl, .inl ⟨rfl, nm_len_lt hB hx hy (by (first | lia | omega))⟩⟩, .i⟩
    · have hlt := of_decide_eq_false (Bool.not_eq_true _ ▸ hb)
      walk_at "ms"
      walk_at "out"
      exact ⟨rfl, rfl, _, ⟨1, rfl, .inr (.inr ⟨rfl, nm_len_lt hB hy hx (by (first | lia | omega))⟩)⟩, .i⟩
  · have heq : xs.length = ys.length := by
      have := of_decide_eq_false (Bool.not_eq_true _ ▸ hb)
      (first | lia | omega)
    walk_at "ms"
    refine T_forRange (a := (ua.length : Int) - 1) (b := -1) (c := -1) (n := xs.length) (fun i m1 μ1 ν1 => μ1 = [] ∧ m1 (PySem.Str.ofString "a") = some (.ref la) ∧ m1 (PySem.Str.ofString "b") = some (.ref lb) ∧ ∀ j, xs.length ≤ j + i → xs[j]? = ys[j]?) rfl (small_down (by (first | lia | omega)) (by (first | lia | omega)) (by (first | lia | omega)) (by (first | lia | omega))) (by rw [size_down]; (first | lia | omega)) ?_ ?_ ?_
    · refine T_hide fun _ _ => ?_
      walk_at "ms"
      refine T_len (by walk_at "mem") (by (first | lia | omega)) ?_; intro _
      walk_at "ms"
      refine T_range3 fun r t u v => ?_
      walk_at "out"
      refine mk4 r t u v ⟨rfl, List.mem_cons_self, rfl, by walk_at "lk", by walk_at "lk", fun j hj => ?_⟩
      rw [List.getElem?_eq_none (by (first | lia | omega)), List.getElem?_eq_none (by (first | lia | omega))]
    · rintro i t m1 μ1 ν1 hi hs Qt0 hQt0 ⟨rfl, hma', hmb', hd⟩
      have hlx : xs.length - 1 - i < xs.length := by (first | lia | omega)
      have hly : xs.length - 1 - i < ys.length := by (first | lia | omega)
      have hx1 := List.getElem?_eq_getElem hlx
      have hy1 := List.getElem?_eq_getElem hly
      obtain ⟨tx, gx⟩ := hia.get _ _ hx1
      obtain ⟨ty, gy⟩ := hib.get _ _ hy1
      have eidx : ((ua.length : Int) - 1 + (i : Int) * -1).toNat = xs.length - 1 - i := by (first | lia | omega)
      walk_at "ms"
      refine T_item (by walk_at "mem") (by (first | lia | omega)) (by (first | lia | omega)) (by rw [eidx]; exact gx) ?_
      walk_at "ms"
      refine T_item (by walk_at "mem") (by (first | lia | omega)) (by (first | lia | omega)) (by rw [eidx]; exact gy) ?_
      walk_at "ms"
      refine T_if (fun hb => ?_) (fun hb => ?_)
      · have hne := of_decide_eq_true hb
        walk_at "ms"
        refine T_item (by walk_at "mem") (by (first | lia | omega)) (by (first | lia | omega)) (by rw [eidx]; exact gx) ?_
        walk_at "ms"
        refine T_item (by walk_at "mem") (by (first | lia | omega)) (by (first | lia | omega)) (by rw [eidx]; exact gy) ?_
        walk_at "ms"
        have hd' : ∀ j, xs.length - 1 - i < j → xs[j]? = ys[j]? := fun j hj => hd j (by (first | lia | omega))
        refine T_if (fun hb => ?_) (fun hb => ?_)
        · have hlt := of_decide_eq_true hb
          walk_at "ms"
          walk_at "out"
          refine ⟨rfl, rfl, _, ⟨-1, rfl, .inl ⟨rfl, ?_⟩⟩, .i⟩
          have := val_cmp (B := B) (by (first | lia | omega)) hx.dig hy.dig hx1 hy1 hd' hlt
          rwa [hx.eq, hy.eq] at this
        · have hlt := of_decide_eq_false (Bool.not_eq_true _ ▸ hb)
          walk_at "ms"
          walk_at "out"
          refine ⟨rfl, rfl, _, ⟨1, rfl, .inr (.inr ⟨rfl, ?_⟩)⟩, .i⟩
          have := val_cmp (B := B) (by (first | lia | omega)) hy.dig hx.dig hy1 hx1 (fun j hj => (hd' j hj).symm) (by (first | lia | omega))
          rwa [hx.eq, hy.eq] at this
      · have hne := of_decide_eq_false (Bool.not_eq_true _ ▸ hb)
        walk_at "ms"
        walk_at "out"
        refine ⟨rfl, by walk_at "lk", by walk_at "lk", fun j hj => ?_⟩
        rcases Nat.lt_or_ge (xs.length - 1 - i) j with h1 | h1
        · exact hd j (by (first | lia | omega))
        · have : j = xs.length - 1 - i := by (first | lia | omega)
          subst this
          rw [hx1, hy1]
          exact congrArg some (Decidable.not_not.mp hne)
    · rintro m1 μ1 ν1 hs ⟨rfl, hma', hmb', hd⟩
      walk_at "ms"
      walk_at "out"
      refine ⟨rfl, rfl, _, ⟨0, rfl, .inr (.inl ⟨rfl, ?_⟩)⟩, .i⟩
      have : xs = ys := List.ext_getElem? fun j => hd j (by (first | lia | omega))
      rw [← hx.eq, ← hy.eq, this]

end
section
variable {w : World} {mean : ExcName → Option Value} {mg mb : Loc} {k : Nat} {ν : Led}
theorem c_add {W : Nat} (hW : 6 ≤ W ∧ W ≤ 10) {va vb : Value} {tw : Tok} {xs ys : List Int} {x y : Int} (ha : Rep ν (L xs) va) (hb : Rep ν (L ys) vb) (hx : Nm (2 ^ W) xs x) (hy : Nm (2 ^ W) ys y) (zx : xs.length ≤ 10000) (zy : ys.length ≤ 10000) :
    Fn (cx w mean mg mb) (k + 1) 79 [va, vb, .int W tw] ν (fun d => ∃ zs, d = L zs ∧ Nm (2 ^ W) zs (x + y)) := by
  intro e fe m
  have hB : (2 : Int) ≤ 2 ^ W := by have := pow_le_pow (B := 2) (by decide) hW.1; (first | lia | omega)
  have hx0 := hx.nonneg (by (first | lia | omega))
  have hy0 := hy.nonneg (by (first | lia | omega))
  obtain ⟨la, ua, na, rfl, hma, hia⟩ := rep_L.mp ha
  obtain ⟨lb, ub, nb, rfl, hmb, hib⟩ := rep_L.mp hb
  have ea := hia.length
  have eb := hib.length
  refine T_def (binds := [(PySem.Str.ofString "a", .ref la), (PySem.Str.ofString "b", .ref lb), (PySem.Str.ofString "w", .int W tw)]) (by walk_at "kis") (by walk_at "kis") (fun s => BindsTo.of_eq rfl) (locs rfl) rfl rfl rfl (by decide) fun L' Qd hQd => ?_
  refine T_st (T_mono (P := fun f m1 μ1 ν1 => f = .next ∧ μ1 = [] ∧ ∃ la lb ua ub na nb xs' ys' x' y', (la, lo ua na) ∈ ν1 ∧ (lb, lo ub nb) ∈ ν1 ∧ IntsAre ua xs' ∧ IntsAre ub ys' ∧ Nm (2 ^ W) xs' x' ∧ Nm (2 ^ W) ys' y' ∧ x' + y' = x + y ∧ ys'.length ≤ xs'.length ∧ xs'.length ≤ 10000 ∧
    m1 (PySem.Str.ofString "a") = some (.ref la) ∧ m1 (PySem.Str.ofString "b") = some (.ref lb) ∧ (∃ t, m1 (PySem.Str.ofString "w") = some (.int W t))) ?_ ?_)
  · walk_at "ms"
    refine T_len (by walk_at "mem") (by (first | lia | omega)) ?_; intro _
    walk_at "ms"
    refine T_len (by walk_at "mem") (by (first | lia | omega)) ?_; intro _
    walk_at "ms"
    refine T_if (fun hb => ?_) (fun hb => ?_)
    · have hlt := of_decide_eq_true hb
      walk_at "ms"
      walk_at "out"
      exact ⟨rfl, rfl, mk10 lb la ub ua nb na ys xs y x ⟨by walk_at "mem", by walk_at "mem", hib, hia, hy, hx, by (first | lia | omega), by (first | lia | omega), by (first | lia | omega), by walk_at "lk", by walk_at "lk", ⟨_, by walk_at "lk"⟩⟩⟩
    · have hlt := of_decide_eq_false (Bool.not_eq_true _ ▸ hb)
      walk_at "ms"
      walk_at "out"
      exact ⟨rfl, rfl, mk10 la lb ua ub na nb xs ys x y ⟨by walk_at "mem", by walk_at "mem", hia, hib, hx, hy, by (first | lia | omega), by (first | lia | omega), by (first | lia | omega), by walk_at "lk", by walk_at "lk", ⟨_, by walk_at "lk"⟩⟩⟩
  clear hma hmb hia hib ha hb ea eb
  intro f m1 μ1 ν1 hs1 z0J
  refine an3 z0J fun z0e0 z0e1 z0r0 => ?_
  clear z0J
  refine ex10 z0r0 fun la lb ua ub na nb xs' ys' x' y' z0r1 => ?_
  clear z0r0
  refine an7 z0r1 fun hma hmb hia hib hx' hy' z0r2 => ?_
  clear z0r1
  refine an6 z0r2 fun hsum hle hz ga gb z0p23 => ?_
  clear z0r2
  subst z0e0
  subst z0e1
  obtain ⟨t0, gw⟩ := z0p23
  clear hx hy zx zy hx0 hy0
  have hx0 := hx'.nonneg (by (first | lia | omega))
  have hy0 := hy'.nonneg (by (first | lia | omega))
  have ea := hia.length
  have eb := hib.length
  walk_at "ms"
  refine T_newListM (Nat.le_of_ble_eq_true rfl) fun l hl => ?_
  walk_at "ms"
  refine T_shl (by (first | lia | omega)) (by (first | lia | omega)) (by decide) ?_; intro _
  walk_at "ms"
  rw [Int.toNat_natCast, Int.one_mul]
  refine T_forRange (a := 0) (b := (ub.length : Int)) (c := 1) (n := ys'.length) (fun i m1 μ1 ν1 => ∃ vs c zs cy, μ1 = [(l, lo vs c)] ∧ IntsAre vs zs ∧ m1 (PySem.Str.ofString "a") = some (.ref la) ∧ m1 (PySem.Str.ofString "b") = some (.ref lb) ∧ (∃ t, m1 (PySem.Str.ofString "w") = some (.int W t)) ∧
    m1 (PySem.Str.ofString "found") = some (.ref l) ∧ (∃ t, m1 (PySem.Str.ofString "carry") = some (.int cy t)) ∧ (∃ t, m1 (PySem.Str.ofString "mask") = some (.int (2 ^ W - 1) t)) ∧ zs.length = i ∧ Dig (2 ^ W) zs ∧ 0 ≤ cy ∧ cy ≤ 1 ∧ val (2 ^ W) zs + (2 ^ W) ^ i * cy = val (2 ^ W) (xs'.take i) + val (2 ^ W) (ys'.take i))
    rfl (small_up (by (first | lia | omega)) (by (first | lia | omega)) (by (first | lia | omega)) (by (first | lia | omega))).1 (by rw [(small_up (a := 0) (b := ub.length) (by (first | lia | omega)) (by (first | lia | omega)) (by (first | lia | omega)) (by (first | lia | omega))).2]; (first | lia | omega)) ?_ ?_ ?_
  · refine T_hide fun _ _ => ?_
    walk_at "ms"
    refine T_len (by walk_at "mem") (by (first | lia | omega)) ?_; intro _
    walk_at "ms"
    refine T_range1 fun r t u v => ?_
    walk_at "out"
    exact mk4 r t u v ⟨rfl, List.mem_cons_self, mk4 [] 0 [] 0 ⟨rfl, .nil, by walk_at "lk", by walk_at "lk", ⟨_, by walk_at "lk"⟩, by walk_at "lk", ⟨_, by walk_at "lk"⟩, ⟨_, by walk_at "lk"⟩, rfl, .nil, by decide, by decide, by simp [val]⟩⟩
  · intro i t m2 μ2 ν2 hi hs2 Qt1 hQt1 z1J
    refine ex4 z1J fun vs c zs cy z1r0 => ?_
    clear z1J
    refine an8 z1r0 fun z1e4 hvs ga gb z1p8 gf z1p10 z1r1 => ?_
    clear z1r0
    refine an6 z1r1 fun z1p11 hzl hd hc0 hc1 hv => ?_
    clear z1r1
    subst z1e4
    obtain ⟨t1, gw⟩ := z1p8
    obtain ⟨t2, gc⟩ := z1p10
    obtain ⟨t3, gm⟩ := z1p11
    have evs := hvs.length
    have hx1 := List.getElem?_eq_getElem (l := xs') (i := i) (by (first | lia | omega))
    have hy1 := List.getElem?_eq_getElem (l := ys') (i := i) (by (first | lia | omega))
    obtain ⟨tx, gx⟩ := hia.get _ _ hx1
    obtain ⟨ty, gy⟩ := hib.get _ _ hy1
    have dx := hx'.dig.get hx1
    have dy := hy'.dig.get hy1
    have eidx : ((0 : Int) + (i : Int) * 1).toNat = i := by (first | lia | omega)
    walk_at "ms"
    refine T_item (by walk_at "mem") (by (first | lia | omega)) (by (first | lia | omega)) (by rw [eidx]; exact gx) ?_
    walk_at "ms"
    refine T_item (by walk_at "mem") (by (first | lia | omega)) (by (first | lia | omega)) (by rw [eidx]; exact gy) ?_
    walk_at "ms"
    refine T_mask (n := W) rfl (by (first | lia | omega)) ?_; intro _
    walk_at "ms"
    refine T_append (by simp only [sizeLine]; (first | lia | omega)) ?_
    walk_at "ms"
    refine T_ishr (by (first | lia | omega)) ?_; intro _
    walk_at "ms"
    rw [Int.toNat_natCast]
    have hq : (cy + (xs'[i] + ys'[i])) / 2 ^ W ≤ 1 := by
      have := Int.ediv_lt_of_lt_mul (a := cy + (xs'[i] + ys'[i])) (b := 2) (c := 2 ^ W) (by (first | lia | omega)) (by (first | lia | omega)); (first | lia | omega)
    walk_at "out"
    refine mk4 _ _ (zs ++ [(cy + (xs'[i] + ys'[i])) % 2 ^ W]) ((cy + (xs'[i] + ys'[i])) / 2 ^ W) ⟨rfl, hvs.append (.cons _ _ .nil), by walk_at "lk", by walk_at "lk", ⟨_, by walk_at "lk"⟩, by walk_at "lk", ⟨_, by walk_at "lk"⟩, ⟨_, by walk_at "lk"⟩, by simp [hzl], hd.snoc (emod_dig (by (first | lia | omega)) _), Int.ediv_nonneg (by (first | lia | omega)) (by (first | lia | omega)), hq, ?_⟩
    have h1 := snoc_carry (B := 2 ^ W) zs (cy + (xs'[i] + ys'[i]))
    rw [hzl] at h1
    rw [val_take_succ hx1, val_take_succ hy1, h1, Int.mul_add, Int.mul_add]; (first | lia | omega)
  intro m2 μ2 ν2 hs2 z2J
  refine ex4 z2J fun vs c zs cy z2r0 => ?_
  clear z2J
  refine an8 z2r0 fun z2e4 hvs ga gb z2p8 gf z2p10 z2r1 => ?_
  clear z2r0
  refine an6 z2r1 fun z2p11 hzl hd hc0 hc1 hv => ?_
  clear z2r1
  subst z2e4
  obtain ⟨t1, gw⟩ := z2p8
  obtain ⟨t2, gc⟩ := z2p10
  obtain ⟨t3, gm⟩ := z2p11
  rw [take_all (Nat.le_refl ys'.length), hy'.eq] at hv
  walk_at "ms"
  refine T_forRange (a := (ub.length : Int)) (b := (ua.length : Int)) (c := 1) (n := xs'.length - ys'.length) (fun i m1 μ1 ν1 => ∃ vs c zs cy, μ1 = [(l, lo vs c)] ∧ IntsAre vs zs ∧ m1 (PySem.Str.ofString "a") = some (.ref la) ∧ (∃ t, m1 (PySem.Str.ofString "w") = some (.int W t)) ∧
    m1 (PySem.Str.ofString "found") = some (.ref l) ∧ (∃ t, m1 (PySem.Str.ofString "carry") = some (.int cy t)) ∧ (∃ t, m1 (PySem.Str.ofString "mask") = some (.int (2 ^ W - 1) t)) ∧ zs.length = ys'.length + i ∧ Dig (2 ^ W) zs ∧ 0 ≤ cy ∧ cy ≤ 1 ∧ val (2 ^ W) zs + (2 ^ W) ^ (ys'.length + i) * cy = val (2 ^ W) (xs'.take (ys'.length + i)) + y')
    rfl (small_up (by (first | lia | omega)) (by (first | lia | omega)) (by (first | lia | omega)) (by (first | lia | omega))).1 (by rw [(small_up (a := ub.length) (b := ua.length) (by (first | lia | omega)) (by (first | lia | omega)) (by (first | lia | omega)) (by (first | lia | omega))).2]; (first | lia | omega)) ?_ ?_ ?_
  · refine T_hide fun _ _ => ?_
    walk_at "ms"
    refine T_len (by walk_at "mem") (by (first | lia | omega)) ?_; intro _
    walk_at "ms"
    refine T_len (by walk_at "mem") (by (first | lia | omega)) ?_; intro _
    walk_at "ms"
    refine T_range2 fun r t u v => ?_
    walk_at "out"
    exact mk4 r t u v ⟨rfl, List.mem_cons_self, mk4 vs c zs cy ⟨rfl, hvs, ga, ⟨_, gw⟩, gf, ⟨_, gc⟩, ⟨_, gm⟩, by (first | lia | omega), hd, hc0, hc1, by simpa using hv⟩⟩
  · intro i t m3 μ3 ν3 hi hs3 Qt3 hQt3 z3J
    refine ex4 z3J fun vs c zs cy z3r0 => ?_
    clear z3J
    refine an7 z3r0 fun z3e4 hvs ga z3p7 gf z3p9 z3r1 => ?_
    clear z3r0
    refine an6 z3r1 fun z3p10 hzl hd hc0 hc1 hv => ?_
    clear z3r1
    subst z3e4
    obtain ⟨t1, gw⟩ := z3p7
    obtain ⟨t2, gc⟩ := z3p9
    obtain ⟨t3, gm⟩ := z3p10
    have evs := hvs.length
    have hx1 := List.getElem?_eq_getElem (l := xs') (i := ys'.length + i) (by (first | lia | omega))
    obtain ⟨tx, gx⟩ := hia.get _ _ hx1
    have dx := hx'.dig.get hx1
    have eidx : ((ub.length : Int) + (i : Int) * 1).toNat = ys'.length + i := by (first | lia | omega)
    walk_at "ms"
    refine T_item (by walk_at "mem") (by (first | lia | omega)) (by (first | lia | omega)) (by rw [eidx]; exact gx) ?_
    walk_at "ms"
    refine T_mask (n := W) rfl (by (first | lia | omega)) ?_; intro _
    walk_at "ms"
    refine T_append (by simp only [sizeLine]; (first | lia | omega)) ?_
    walk_at "ms"
    refine T_ishr (by (first | lia | omega)) ?_; intro _
    walk_at "ms"
    rw [Int.toNat_natCast]
    have hq : (cy + xs'[ys'.length + i]) / 2 ^ W ≤ 1 := by
      have := Int.ediv_lt_of_lt_mul (a := cy + xs'[ys'.length + i]) (b := 2) (c := 2 ^ W) (by (first | lia | omega)) (by (first | lia | omega)); (first | lia | omega)
    walk_at "out"
    refine mk4 _ _ (zs ++ [(cy + xs'[ys'.length + i]) % 2 ^ W]) ((cy + xs'[ys'.length + i]) / 2 ^ W) ⟨rfl, hvs.append (.cons _ _ .nil), by walk_at "lk", ⟨_, by walk_at "lk"⟩, by walk_at "lk", ⟨_, by walk_at "lk"⟩, ⟨_, by walk_at "lk"⟩, by simp [hzl]; (first | lia | omega), hd.snoc (emod_dig (by (first | lia | omega)) _), Int.ediv_nonneg (by (first | lia | omega)) (by (first | lia | omega)), hq, ?_⟩
    have h1 := snoc_carry (B := 2 ^ W) zs (cy + xs'[ys'.length + i])
    rw [hzl] at h1
    rw [← Nat.add_assoc, val_take_succ hx1, h1, Int.mul_add]; (first | lia | omega)
  intro m3 μ3 ν3 hs3 z4J
  refine ex4 z4J fun vs c zs cy z4r0 => ?_
  clear z4J
  refine an7 z4r0 fun z4e4 hvs ga z4p7 gf z4p9 z4r1 => ?_
  clear z4r0
  refine an6 z4r1 fun z4p10 hzl hd hc0 hc1 hv => ?_
  clear z4r1
  subst z4e4
  obtain ⟨t1, gw⟩ := z4p7
  obtain ⟨t2, gc⟩ := z4p9
  obtain ⟨t3, gm⟩ := z4p10
  have evs := hvs.length
  rw [take_all (by (first | lia | omega)), hx'.eq] at hv
  walk_at "ms"
  refine T_if (fun hb => ?_) (fun hb => ?_)
  · have hcy : cy = 1 := by have := of_decide_eq_true hb; (first | lia | omega)
    subst hcy
    walk_at "ms"
    refine T_append (by simp only [sizeLine]; (first | lia | omega)) ?_
    walk_at "m"
    walk_at "m"
    refine T_freeze ?_
    walk_at "ms"
    walk_at "out"
    refine ⟨rfl, rfl, _, ⟨zs ++ [1], rfl, ⟨hd.snoc ⟨by decide, by (first | lia | omega)⟩, fun _ => by simp, ?_⟩⟩, rep_L.mpr ⟨l, _, _, rfl, List.mem_cons_self, hvs.append (.cons _ _ .nil)⟩⟩
    rw [val_snoc, hzl]; (first | lia | omega)
  · have hcy : cy = 0 := by have := of_decide_eq_false (Bool.not_eq_true _ ▸ hb); (first | lia | omega)
    subst hcy
    walk_at "m"
    refine T_freeze ?_
    walk_at "ms"
    walk_at "out"
    refine ⟨rfl, rfl, _, ⟨zs, rfl, .of_ge (by (first | lia | omega)) hd (by (first | lia | omega)) fun hne => ?_⟩, rep_L.mpr ⟨l, _, _, rfl, List.mem_cons_self, hvs⟩⟩
    have hne' : xs' ≠ [] := by intro e1; subst e1; simp at hle; subst hle; exact hne (List.eq_nil_of_length_eq_zero (by simpa using hzl))
    have := hx'.ge (by (first | lia | omega)) hne'
    rw [show zs.length = xs'.length by (first | lia | omega)]; (first | lia | omega)

end
section
variable {w : World} {mean : ExcName → Option Value} {mg mb : Loc} {k : Nat} {ν : Led}
theorem c_divrem_limb {W : Nat} (hW : 6 ≤ W ∧ W ≤ 10) {va : Value} {lim : Int} {tl tw : Tok} {xs : List Int} {x : Int} (ha : Rep ν (L xs) va) (hx : Nm (2 ^ W) xs x) (zx : xs.length ≤ 10000) (lim0 : 0 < lim) (lim1 : lim < 2 ^ W) :
    Fn (cx w mean mg mb) (k + 2) 100 [va, .int lim tl, .int W tw] ν (fun d => ∃ qs, d = .tup [L qs, .int (x % lim)] ∧ Nm (2 ^ W) qs (x / lim)) := by
  intro e fe m
  have hB : (2 : Int) ≤ 2 ^ W := by have := pow_le_pow (B := 2) (by decide) hW.1; (first | lia | omega)
  have hB2 : (2 : Int) ^ W ≤ 1024 := by have := pow_le_pow (B := 2) (by decide) hW.2; (first | lia | omega)
  obtain ⟨la, ua, na, rfl, hma, hia⟩ := rep_L.mp ha
  have ea := hia.length
  refine T_def (binds := [(PySem.Str.ofString "a", .ref la), (PySem.Str.ofString "limb", .int lim tl), (PySem.Str.ofString "w", .int W tw)]) (by walk_at "kis") (by walk_at "kis") (fun s => BindsTo.of_eq rfl) (locs rfl) rfl rfl rfl (by decide) fun L' Qd hQd => ?_
  walk_at "ms"
  refine T_if (fun hb => absurd (of_decide_eq_true hb) (by (first | lia | omega))) fun _ => ?_
  walk_at "ms"
  refine T_newList (Nat.le_of_ble_eq_true rfl) fun l0 hl0 => ?_
  walk_at "ms"
  refine T_len (by walk_at "mem") (by (first | lia | omega)) ?_; intro _
  walk_at "ms"
  refine T_mulListM (by walk_at "mem") (by (first | lia | omega)) (by (first | lia | omega)) fun l hl => ?_
  walk_at "ms"
  refine T_forRange (a := (ua.length : Int) - 1) (b := -1) (c := -1) (n := xs.length) (fun i m1 μ1 ν1 => ∃ vs c zs r, μ1 = [(l, lo vs c)] ∧ IntsAre vs zs ∧ m1 (PySem.Str.ofString "a") = some (.ref la) ∧ (∃ t, m1 (PySem.Str.ofString "w") = some (.int W t)) ∧ (∃ t, m1 (PySem.Str.ofString "limb") = some (.int lim t)) ∧
    m1 (PySem.Str.ofString "found") = some (.ref l) ∧ (∃ t, m1 (PySem.Str.ofString "rest") = some (.int r t)) ∧ zs.length = xs.length ∧ Dig (2 ^ W) zs ∧ 0 ≤ r ∧ r < lim ∧ (∀ j, j + i < xs.length → zs[j]? = some 0) ∧ lim * val (2 ^ W) zs + (2 ^ W) ^ (xs.length - i) * r + val (2 ^ W) (xs.take (xs.length - i)) = x)
    rfl (small_down (by (first | lia | omega)) (by (first | lia | omega)) (by (first | lia | omega)) (by (first | lia | omega))) (by rw [size_down]; (first | lia | omega)) ?_ ?_ ?_
  · refine T_hide fun _ _ => ?_
    walk_at "ms"
    refine T_len (by walk_at "mem") (by (first | lia | omega)) ?_; intro _
    walk_at "ms"
    refine T_range3 fun r t u v => ?_
    walk_at "out"
    refine mk4 r t u v ⟨rfl, List.mem_cons_self, mk4 _ _ (List.replicate xs.length 0) 0 ⟨rfl, ?_, by walk_at "lk", ⟨_, by walk_at "lk"⟩, ⟨_, by walk_at "lk"⟩, by walk_at "lk", ⟨_, by walk_at "lk"⟩, by simp, .rep (by (first | lia | omega)), by decide, lim0, fun j hj => ?_, ?_⟩⟩
    · rw [show (ua.length : Int).toNat = xs.length by (first | lia | omega)]; exact ints_rep _ _ _
    · rw [List.getElem?_replicate, if_pos (by (first | lia | omega))]
    · rw [val_rep, take_all (by (first | lia | omega)), hx.eq]; simp
  · intro i t m2 μ2 ν2 hi hs2 Qt0 hQt0 z0J
    refine ex4 z0J fun vs c zs r z0r0 => ?_
    clear z0J
    refine an8 z0r0 fun z0e4 hvs ga z0p7 z0p8 gf z0p10 z0r1 => ?_
    clear z0r0
    refine an6 z0r1 fun hzl hd hr0 hr1 hz0 hv => ?_
    clear z0r1
    subst z0e4
    obtain ⟨t1, gw⟩ := z0p7
    obtain ⟨t2, gl⟩ := z0p8
    obtain ⟨t3, gr⟩ := z0p10
    have evs := hvs.length
    have hx1 := List.getElem?_eq_getElem (l := xs) (i := xs.length - 1 - i) (by (first | lia | omega))
    obtain ⟨tx, gx⟩ := hia.get _ _ hx1
    have dx := hx.dig.get hx1
    have eidx : ((ua.length : Int) - 1 + (i : Int) * -1).toNat = xs.length - 1 - i := by (first | lia | omega)
    have hrB : r * 2 ^ W + xs[xs.length - 1 - i] < lim * 2 ^ W := by
      have : (r + 1) * 2 ^ W ≤ lim * 2 ^ W := Int.mul_le_mul_of_nonneg_right (by (first | lia | omega)) (by (first | lia | omega))
      rw [Int.add_mul, Int.one_mul] at this; (first | lia | omega)
    have hrn : 0 ≤ r * 2 ^ W := Int.mul_nonneg hr0 (by (first | lia | omega))
    walk_at "ms"
    refine T_shl (by (first | lia | omega)) (by (first | lia | omega)) (by (first | lia | omega)) ?_; intro _
    walk_at "ms"
    rw [Int.toNat_natCast]
    refine T_item (by walk_at "mem") (by (first | lia | omega)) (by (first | lia | omega)) (by rw [eidx]; exact gx) ?_
    refine T_or (n := W) (by (first | lia | omega)) dx.1 dx.2 ⟨_, rfl⟩ ?_; intro _
    walk_at "ms"
    refine T_fdiv lim0 (by (first | lia | omega)) ?_; intro _
    walk_at "ms"
    refine T_set (by (first | lia | omega)) (by (first | lia | omega)) (by (first | lia | omega)) ?_
    rw [eidx]
    walk_at "ms"
    refine T_imod lim0 ?_; intro _
    walk_at "ms"
    have hq1 : (r * 2 ^ W + xs[xs.length - 1 - i]) / lim < 2 ^ W := Int.ediv_lt_of_lt_mul lim0 (by rw [Int.mul_comm _ lim]; exact hrB)
    have hq0 : 0 ≤ (r * 2 ^ W + xs[xs.length - 1 - i]) / lim := Int.ediv_nonneg (by (first | lia | omega)) (by (first | lia | omega))
    have hz1 := hz0 (xs.length - 1 - i) (by (first | lia | omega))
    walk_at "out"
    refine mk4 _ _ (zs.set (xs.length - 1 - i) ((r * 2 ^ W + xs[xs.length - 1 - i]) / lim)) ((r * 2 ^ W + xs[xs.length - 1 - i]) % lim) ⟨rfl, ints_set hvs _, by walk_at "lk", ⟨_, by walk_at "lk"⟩, ⟨_, by walk_at "lk"⟩, by walk_at "lk", ⟨_, by walk_at "lk"⟩, by simp [hzl], hd.set ⟨hq0, hq1⟩, Int.emod_nonneg _ (by (first | lia | omega)), Int.emod_lt_of_pos _ lim0, fun j hj => ?_, ?_⟩
    · rw [List.getElem?_set_ne (by (first | lia | omega))]; exact hz0 j (by (first | lia | omega))
    · rw [val_set hz1]
      have e1 : xs.length - i = (xs.length - 1 - i) + 1 := by (first | lia | omega)
      have e2 : xs.length - (i + 1) = xs.length - 1 - i := by (first | lia | omega)
      rw [e1, val_take_succ hx1] at hv
      rw [e2, ← hv, Int.pow_succ]
      have := Int.mul_ediv_add_emod (r * 2 ^ W + xs[xs.length - 1 - i]) lim
      generalize (r * 2 ^ W + xs[xs.length - 1 - i]) / lim = q at *
      generalize (r * 2 ^ W + xs[xs.length - 1 - i]) % lim = r' at *
      generalize ((2 : Int) ^ W) ^ (xs.length - 1 - i) = p at *
      generalize xs[xs.length - 1 - i] = y at *
      generalize (2 : Int) ^ W = b at *
      generalize val b zs = z at *
      have h2 : p * (lim * q + r') = p * (r * b + y) := by rw [this]
      grind
  · intro m2 μ2 ν2 hs2 z1J
    refine ex4 z1J fun vs c zs r z1r0 => ?_
    clear z1J
    refine an8 z1r0 fun z1e4 hvs ga z1p7 z1p8 gf z1p10 z1r1 => ?_
    clear z1r0
    refine an6 z1r1 fun hzl hd hr0 hr1 hz0 hv => ?_
    clear z1r1
    subst z1e4
    obtain ⟨t1, gw⟩ := z1p7
    obtain ⟨t2, gl⟩ := z1p8
    obtain ⟨t3, gr⟩ := z1p10
    have hv' : lim * val (2 ^ W) zs + r = x := by simpa [val] using hv
    have hq : val (2 ^ W) zs = x / lim := by
      rw [← hv', Int.mul_add_ediv_left _ _ (by (first | lia | omega)), Int.ediv_eq_zero_of_lt hr0 hr1, Int.add_zero]
    have hr : r = x % lim := by rw [← hv', Int.mul_add_emod_self_left, Int.emod_eq_of_lt hr0 hr1]
    subst hr
    walk_at "m"
    refine T_freeze ?_
    walk_at "ms"
    refine T_fn (c_normal (xs := zs) (rep_L.mpr ⟨l, _, _, rfl, by walk_at "mem", hvs⟩) (by (first | lia | omega))) fun v d ν' hs3 hd' hr' => ?_
    obtain ⟨j, hj, rfl⟩ := hd'
    walk_at "ms"
    walk_at "out"
    exact ⟨rfl, rfl, _, ⟨zs.take j, rfl, hj.nm hd hq⟩, rep_tup.mpr ⟨_, _, _, rfl, List.mem_cons_self, .cons (hr'.mono (.cons .refl)) (.one .i)⟩⟩

end
section
variable {w : World} {mean : ExcName → Option Value} {mg mb : Loc} {k : Nat} {ν : Led}
theorem c_shift_left {W : Nat} (hW : 6 ≤ W ∧ W ≤ 10) {va : Value} {N : Nat} {tn tw : Tok} {xs : List Int} {x : Int} (ha : Rep ν (L xs) va) (hx : Nm (2 ^ W) xs x) (zx : xs.length ≤ 10000) (zN : N ≤ 1000) :
    Fn (cx w mean mg mb) (k + 1) 107 [va, .int N tn, .int W tw] ν (fun d => ∃ zs, d = L zs ∧ Nm (2 ^ W) zs (x * 2 ^ N)) := by
  intro e fe m
  have hB : (2 : Int) ≤ 2 ^ W := by have := pow_le_pow (B := 2) (by decide) hW.1; (first | lia | omega)
  have hB2 : (2 : Int) ^ W ≤ 1024 := by have := pow_le_pow (B := 2) (by decide) hW.2; (first | lia | omega)
  obtain ⟨la, ua, na, rfl, hma, hia⟩ := rep_L.mp ha
  have ea := hia.length
  refine T_def (binds := [(PySem.Str.ofString "a", .ref la), (PySem.Str.ofString "n", .int N tn), (PySem.Str.ofString "w", .int W tw)]) (by walk_at "kis") (by walk_at "kis") (fun s => BindsTo.of_eq rfl) (locs rfl) rfl rfl rfl (by decide) fun L' Qd hQd => ?_
  walk_at "ms"
  refine T_len (by walk_at "mem") (by (first | lia | omega)) ?_; intro _
  walk_at "ms"
  refine T_if (fun hb => ?_) (fun hb => ?_)
  · have h0 := of_decide_eq_true hb
    walk_at "ms"
    refine T_newList (Nat.le_of_ble_eq_true rfl) fun l hl => ?_
    walk_at "ms"
    have e0 : xs = [] := List.eq_nil_of_length_eq_zero (by (first | lia | omega))
    have e1 : x = 0 := (hx.nil_iff (by (first | lia | omega))).mp e0
    subst e1
    walk_at "out"
    exact ⟨rfl, rfl, _, ⟨[], rfl, by rw [Int.zero_mul]; exact .nil⟩, rep_L.mpr ⟨l, _, _, rfl, List.mem_cons_self, .nil⟩⟩
  have h0 : xs ≠ [] := by
    have := of_decide_eq_false (Bool.not_eq_true _ ▸ hb)
    intro e0; have : xs.length = 0 := by rw [e0]; rfl
    (first | lia | omega)
  walk_at "ms"
  refine T_fdiv (by (first | lia | omega)) (by (first | lia | omega)) ?_; intro _
  walk_at "ms"
  refine T_fmod (by (first | lia | omega)) ?_; intro _
  walk_at "ms"
  refine T_newList (Nat.le_of_ble_eq_true rfl) fun l0 hl0 => ?_
  walk_at "ms"
  have eS : (N : Int) / (W : Int) = ((N / W : Nat) : Int) := by push_cast; rfl
  have eF : (N : Int) % (W : Int) = ((N % W : Nat) : Int) := by push_cast; rfl
  have hS : N / W ≤ N := Nat.div_le_self _ _
  have hF : N % W < W := Nat.mod_lt _ (by (first | lia | omega))
  have hpW := split_pow W N
  have hlW := lt_split (W := W) (N := N) (by (first | lia | omega))
  have hF1 : (1 : Int) ≤ 2 ^ (N % W) := by have := pow_pos' (B := 2) (by decide) (N % W); (first | lia | omega)
  rw [eS, eF]
  generalize N / W = S at *
  generalize N % W = F at *
  refine T_mulListM (by walk_at "mem") (by (first | lia | omega)) (by (first | lia | omega)) fun l hl => ?_
  walk_at "ms"
  refine T_shl (by (first | lia | omega)) (by (first | lia | omega)) (by decide) ?_; intro _
  walk_at "ms"
  rw [Int.toNat_natCast, Int.toNat_natCast, Int.one_mul]
  refine T_forList (vs := ua) (fun i m1 μ1 ν1 => ∃ vs c zs cy, μ1 = [(l, lo vs c)] ∧ IntsAre vs zs ∧ (∃ t, m1 (PySem.Str.ofString "w") = some (.int W t)) ∧ (∃ t, m1 (PySem.Str.ofString "few") = some (.int F t)) ∧
    m1 (PySem.Str.ofString "found") = some (.ref l) ∧ (∃ t, m1 (PySem.Str.ofString "carry") = some (.int cy t)) ∧ (∃ t, m1 (PySem.Str.ofString "mask") = some (.int (2 ^ W - 1) t)) ∧ zs.length = S + i ∧ Dig (2 ^ W) zs ∧ 0 ≤ cy ∧ cy < 2 ^ F ∧ val (2 ^ W) zs + (2 ^ W) ^ (S + i) * cy = val (2 ^ W) (xs.take i) * 2 ^ N)
    rfl ?_ ?_ ?_
  · refine T_hide fun _ _ => ?_
    walk_at "ms"
    walk_at "out"
    refine ⟨_, _, rfl, by walk_at "mem", mk4 _ _ (List.replicate S 0) 0 ⟨rfl, ints_rep _ _ _, ⟨_, by walk_at "lk"⟩, ⟨_, by walk_at "lk"⟩, by walk_at "lk", ⟨_, by walk_at "lk"⟩, ⟨_, by walk_at "lk"⟩, by simp, .rep (by (first | lia | omega)), by decide, by (first | lia | omega), ?_⟩⟩
    rw [val_rep]; simp [val]
  · intro i v m1 μ1 ν1 hi hv hs1 Qt0 hQt0 z0J
    refine ex4 z0J fun vs c zs cy z0r0 => ?_
    clear z0J
    refine an7 z0r0 fun z0e4 hvs z0p6 z0p7 gl z0p9 z0r1 => ?_
    clear z0r0
    refine an6 z0r1 fun z0p10 hzl hd hc0 hc1 hval => ?_
    clear z0r1
    subst z0e4
    obtain ⟨t1, gw⟩ := z0p6
    obtain ⟨t2, gf⟩ := z0p7
    obtain ⟨t3, gc⟩ := z0p9
    obtain ⟨t4, gm⟩ := z0p10
    have evs := hvs.length
    have hx1 := List.getElem?_eq_getElem (l := xs) (i := i) (by (first | lia | omega))
    obtain ⟨tx, gx⟩ := hia.get _ _ hx1
    rw [gx] at hv
    obtain rfl := Option.some.inj hv
    have dx := hx.dig.get hx1
    walk_at "ms"
    refine T_shl (by (first | lia | omega)) (by (first | lia | omega)) (by (first | lia | omega)) ?_; intro _
    rw [Int.toNat_natCast]
    refine T_ior (bitOr_up hc0 hc1 dx.1) ?_; intro _
    walk_at "ms"
    have hm0 : 0 ≤ xs[i] * 2 ^ F := Int.mul_nonneg dx.1 (by (first | lia | omega))
    refine T_mask (n := W) rfl (by (first | lia | omega)) ?_; intro _
    walk_at "ms"
    refine T_append (by simp only [sizeLine]; (first | lia | omega)) ?_
    walk_at "ms"
    refine T_ishr (by (first | lia | omega)) ?_; intro _
    walk_at "ms"
    rw [Int.toNat_natCast]
    have hq : (cy + xs[i] * 2 ^ F) / 2 ^ W < 2 ^ F := by
      refine Int.ediv_lt_of_lt_mul (by (first | lia | omega)) ?_
      have : (xs[i] + 1) * 2 ^ F ≤ 2 ^ W * 2 ^ F := Int.mul_le_mul_of_nonneg_right (by (first | lia | omega)) (by (first | lia | omega))
      rw [Int.mul_comm (2 ^ F)]; rw [Int.add_mul, Int.one_mul] at this; (first | lia | omega)
    walk_at "out"
    refine mk4 _ _ (zs ++ [(cy + xs[i] * 2 ^ F) % 2 ^ W]) ((cy + xs[i] * 2 ^ F) / 2 ^ W) ⟨rfl, hvs.append (.cons _ _ .nil), ⟨_, by walk_at "lk"⟩, ⟨_, by walk_at "lk"⟩, by walk_at "lk", ⟨_, by walk_at "lk"⟩, ⟨_, by walk_at "lk"⟩, by simp [hzl]; (first | lia | omega), hd.snoc (emod_dig (by (first | lia | omega)) _), Int.ediv_nonneg (by (first | lia | omega)) (by (first | lia | omega)), hq, ?_⟩
    have h1 := snoc_carry (B := 2 ^ W) zs (cy + xs[i] * 2 ^ F)
    rw [hzl] at h1
    rw [val_take_succ hx1, ← Nat.add_assoc, h1, Int.mul_add, ← Int.add_assoc, hval, Int.pow_add, hpW]
    generalize ((2 : Int) ^ W) ^ S = p at *
    generalize ((2 : Int) ^ W) ^ i = q at *
    generalize (2 : Int) ^ F = r at *
    grind
  intro m1 μ1 ν1 hs1 z1J
  refine ex4 z1J fun vs c zs cy z1r0 => ?_
  clear z1J
  refine an7 z1r0 fun z1e4 hvs z1p6 z1p7 gl z1p9 z1r1 => ?_
  clear z1r0
  refine an6 z1r1 fun z1p10 hzl hd hc0 hc1 hval => ?_
  clear z1r1
  subst z1e4
  obtain ⟨t1, gw⟩ := z1p6
  obtain ⟨t2, gf⟩ := z1p7
  obtain ⟨t3, gc⟩ := z1p9
  obtain ⟨t4, gm⟩ := z1p10
  have evs := hvs.length
  rw [take_all (by (first | lia | omega)), hx.eq] at hval
  walk_at "ms"
  refine T_if (fun hb => ?_) (fun hb => ?_)
  · have hcy := of_decide_eq_true hb
    walk_at "ms"
    refine T_append (by simp only [sizeLine]; (first | lia | omega)) ?_
    walk_at "m"
    walk_at "m"
    refine T_freeze ?_
    walk_at "ms"
    walk_at "out"
    refine ⟨rfl, rfl, _, ⟨zs ++ [cy], rfl, ⟨hd.snoc ⟨by (first | lia | omega), by (first | lia | omega)⟩, fun _ => by simp; (first | lia | omega), ?_⟩⟩, rep_L.mpr ⟨l, _, _, rfl, List.mem_cons_self, hvs.append (.cons _ _ .nil)⟩⟩
    rw [val_snoc, hzl]; exact hval
  · have hcy : cy = 0 := by have := of_decide_eq_false (Bool.not_eq_true _ ▸ hb); (first | lia | omega)
    subst hcy
    walk_at "m"
    refine T_freeze ?_
    walk_at "ms"
    walk_at "out"
    refine ⟨rfl, rfl, _, ⟨zs, rfl, .of_ge (by (first | lia | omega)) hd (by simpa using hval) fun hne => ?_⟩, rep_L.mpr ⟨l, _, _, rfl, List.mem_cons_self, hvs⟩⟩
    have h1 := hx.ge (by (first | lia | omega)) h0
    have hn : xs.length ≠ 0 := fun h => h0 (List.eq_nil_of_length_eq_zero h)
    rw [show zs.length - 1 = (xs.length - 1) + S by (first | lia | omega), Int.pow_add, hpW]
    have hp := pow_pos' (B := 2 ^ W) (by (first | lia | omega)) S
    have h2 : (2 ^ W) ^ (xs.length - 1) * (2 ^ W) ^ S ≤ x * (2 ^ W) ^ S := Int.mul_le_mul_of_nonneg_right h1 (by (first | lia | omega))
    have h3 : x * (2 ^ W) ^ S * 1 ≤ x * (2 ^ W) ^ S * 2 ^ F := Int.mul_le_mul_of_nonneg_left hF1 (Int.mul_nonneg (hx.nonneg (by (first | lia | omega))) (by (first | lia | omega)))
    rw [← Int.mul_assoc]; (first | lia | omega)

end
section
variable {w : World} {mean : ExcName → Option Value} {mg mb : Loc} {k : Nat} {ν : Led}
theorem shr_digit {p q y z : Int} (hp : 0 < p) (hq : 0 < q) (hy : 0 ≤ y) (hy' : y < p * q) : (y / p + z * q) % (p * q) = y / p + (z % p) * q := by
  have h1 : y / p < q := Int.ediv_lt_of_lt_mul hp (by rw [Int.mul_comm]; exact hy')
  have h2 : 0 ≤ y / p := Int.ediv_nonneg hy (by (first | lia | omega))
  have h3 := Int.emod_nonneg z (b := p) (by (first | lia | omega))
  have h4 := Int.emod_lt_of_pos z hp
  have h5 : z * q = p * q * (z / p) + (z % p) * q := by
    have := Int.mul_ediv_add_emod z p
    have h6 : z * q = (p * (z / p) + z % p) * q := by rw [this]
    rw [h6]; grind
  rw [h5, show y / p + (p * q * (z / p) + z % p * q) = (y / p + z % p * q) + p * q * (z / p) by (first | lia | omega), Int.add_mul_emod_self_left]
  refine Int.emod_eq_of_lt (Int.add_nonneg h2 (Int.mul_nonneg h3 (by (first | lia | omega)))) ?_
  have h7 : (z % p + 1) * q ≤ p * q := Int.mul_le_mul_of_nonneg_right (by (first | lia | omega)) (by (first | lia | omega))
  rw [Int.add_mul, Int.one_mul] at h7; (first | lia | omega)
theorem c_shift_right {W : Nat} (hW : 6 ≤ W ∧ W ≤ 10) {va : Value} {N : Nat} {tn tw : Tok} {xs : List Int} {x : Int} (ha : Rep ν (L xs) va) (hx : Nm (2 ^ W) xs x) (zx : xs.length ≤ 10000) (zN : N < W) :
    Fn (cx w mean mg mb) (k + 2) 114 [va, .int N tn, .int W tw] ν (fun d => ∃ zs, d = L zs ∧ Nm (2 ^ W) zs (x / 2 ^ N)) := by
  intro e fe m
  have hB : (2 : Int) ≤ 2 ^ W := by have := pow_le_pow (B := 2) (by decide) hW.1; (first | lia | omega)
  have hB2 : (2 : Int) ^ W ≤ 1024 := by have := pow_le_pow (B := 2) (by decide) hW.2; (first | lia | omega)
  obtain ⟨la, ua, na, rfl, hma, hia⟩ := rep_L.mp ha
  have ea := hia.length
  refine T_def (binds := [(PySem.Str.ofString "a", .ref la), (PySem.Str.ofString "n", .int N tn), (PySem.Str.ofString "w", .int W tw)]) (by walk_at "kis") (by walk_at "kis") (fun s => BindsTo.of_eq rfl) (locs rfl) rfl rfl rfl (by decide) fun L' Qd hQd => ?_
  walk_at "ms"
  refine T_fdiv (by (first | lia | omega)) (by (first | lia | omega)) ?_; intro _
  walk_at "ms"
  refine T_fmod (by (first | lia | omega)) ?_; intro _
  walk_at "ms"
  rw [show (N : Int) / (W : Int) = 0 from Int.ediv_eq_zero_of_lt (by (first | lia | omega)) (by (first | lia | omega)), show (N : Int) % (W : Int) = N from Int.emod_eq_of_lt (by (first | lia | omega)) (by (first | lia | omega))]
  refine T_newListM (Nat.le_of_ble_eq_true rfl) fun l hl => ?_
  walk_at "ms"
  refine T_shl (by (first | lia | omega)) (by (first | lia | omega)) (by decide) ?_; intro _
  walk_at "ms"
  rw [Int.toNat_natCast, Int.one_mul]
  have hp : (0 : Int) < 2 ^ N := Int.pow_pos (by decide)
  have hq : (0 : Int) < 2 ^ (W - N) := Int.pow_pos (by decide)
  have hpq : (2 : Int) ^ W = 2 ^ N * 2 ^ (W - N) := by rw [← Int.pow_add]; congr 1; (first | lia | omega)
  refine T_forRange (a := 0) (b := (ua.length : Int)) (c := 1) (n := xs.length) (fun i m1 μ1 ν1 => ∃ vs c zs, μ1 = [(l, lo vs c)] ∧ IntsAre vs zs ∧ m1 (PySem.Str.ofString "a") = some (.ref la) ∧ (∃ t, m1 (PySem.Str.ofString "w") = some (.int W t)) ∧ (∃ t, m1 (PySem.Str.ofString "few") = some (.int N t)) ∧
    m1 (PySem.Str.ofString "found") = some (.ref l) ∧ (∃ t, m1 (PySem.Str.ofString "mask") = some (.int (2 ^ W - 1) t)) ∧ zs.length = i ∧ Dig (2 ^ W) zs ∧ 2 ^ N * val (2 ^ W) zs + (xs.getD 0 0) % 2 ^ N = val (2 ^ W) (xs.take i) + (2 ^ W) ^ i * ((xs.getD i 0) % 2 ^ N))
    rfl (small_up (by (first | lia | omega)) (by (first | lia | omega)) (by (first | lia | omega)) (by (first | lia | omega))).1 (by rw [(small_up (a := 0) (b := ua.length) (by (first | lia | omega)) (by (first | lia | omega)) (by (first | lia | omega)) (by (first | lia | omega))).2]; (first | lia | omega)) ?_ ?_ ?_
  · refine T_hide fun _ _ => ?_
    walk_at "ms"
    refine T_len (by walk_at "mem") (by (first | lia | omega)) ?_; intro _
    walk_at "ms"
    refine T_range2 fun r t u v => ?_
    walk_at "out"
    exact mk4 r t u v ⟨rfl, List.mem_cons_self, mk3 [] 0 [] ⟨rfl, .nil, by walk_at "lk", ⟨_, by walk_at "lk"⟩, ⟨_, by walk_at "lk"⟩, by walk_at "lk", ⟨_, by walk_at "lk"⟩, rfl, .nil, by simp [val]⟩⟩
  · intro i t m2 μ2 ν2 hi hs2 Qt0 hQt0 z0J
    refine ex3 z0J fun vs c zs z0r0 => ?_
    clear z0J
    refine an6 z0r0 fun z0e3 hvs ga z0p6 z0p7 z0r1 => ?_
    clear z0r0
    refine an5 z0r1 fun gl z0p9 hzl hd hv => ?_
    clear z0r1
    subst z0e3
    obtain ⟨t1, gw⟩ := z0p6
    obtain ⟨t2, gf⟩ := z0p7
    obtain ⟨t3, gm⟩ := z0p9
    have evs := hvs.length
    have hx1 := List.getElem?_eq_getElem (l := xs) (i := i) (by (first | lia | omega))
    obtain ⟨tx, gx⟩ := hia.get _ _ hx1
    have dx := hx.dig.get hx1
    have eidx : ((0 : Int) + (i : Int) * 1).toNat = i := by (first | lia | omega)
    have gd : xs.getD i 0 = xs[i] := by rw [List.getD_eq_getElem?_getD, hx1]; rfl
    have next : ∀ y, y = xs.getD (i + 1) 0 → 0 ≤ y → 2 ^ N * val (2 ^ W) (zs ++ [(xs[i] / 2 ^ N + y * 2 ^ (W - N)) % 2 ^ W]) + (xs.getD 0 0) % 2 ^ N = val (2 ^ W) (xs.take (i + 1)) + (2 ^ W) ^ (i + 1) * ((xs.getD (i + 1) 0) % 2 ^ N) := by
      rintro y rfl hy
      have h1 := shr_digit (y := xs[i]) (z := xs.getD (i + 1) 0) hp hq dx.1 (by rw [← hpq]; exact dx.2)
      rw [gd] at hv
      rw [val_snoc, hzl, val_take_succ hx1, Int.pow_succ, hpq, h1]
      rw [hpq] at hv
      have h2 := Int.mul_ediv_add_emod xs[i] (2 ^ N)
      generalize xs[i] / 2 ^ N = d at *
      generalize xs[i] % 2 ^ N = r at *
      generalize (xs.getD (i + 1) 0) % 2 ^ N = s at *
      generalize (xs.getD 0 0) % 2 ^ N = o at *
      generalize val _ zs = z at *
      generalize val _ (xs.take i) = f at *
      rw [← h2]
      generalize (2 : Int) ^ N = p at *
      generalize (2 : Int) ^ (W - N) = q at *
      generalize (p * q) ^ i = pw at *
      grind
    walk_at "ms"
    refine T_len (by walk_at "mem") (by (first | lia | omega)) ?_; intro _
    walk_at "ms"
    refine T_if (fun hb => ?_) (fun hb => ?_)
    · have hlt := of_decide_eq_true hb
      have hx2 := List.getElem?_eq_getElem (l := xs) (i := i + 1) (by (first | lia | omega))
      obtain ⟨tx2, gx2⟩ := hia.get _ _ hx2
      have dx2 := hx.dig.get hx2
      have eidx2 : ((0 : Int) + (i : Int) * 1 + 1).toNat = i + 1 := by (first | lia | omega)
      walk_at "ms"
      refine T_item (by walk_at "mem") (by (first | lia | omega)) (by (first | lia | omega)) (by rw [eidx2]; exact gx2) ?_
      walk_at "ms"
      refine T_item (by walk_at "mem") (by (first | lia | omega)) (by (first | lia | omega)) (by rw [eidx]; exact gx) ?_
      walk_at "ms"
      refine T_shr (by (first | lia | omega)) ?_; intro _
      walk_at "ms"
      refine T_shl (by (first | lia | omega)) (by (first | lia | omega)) (by (first | lia | omega)) ?_; intro _
      rw [Int.toNat_natCast, show ((W : Int) - (N : Int)).toNat = W - N by (first | lia | omega)]
      have h0 : 0 ≤ xs[i] / 2 ^ N := Int.ediv_nonneg dx.1 (by (first | lia | omega))
      refine T_bor (bitOr_up h0 (Int.ediv_lt_of_lt_mul hp (by rw [Int.mul_comm, ← hpq]; exact dx.2)) dx2.1) ?_; intro _
      walk_at "ms"
      have hm := Int.mul_nonneg dx2.1 (Int.le_of_lt hq)
      refine T_mask (n := W) rfl (by (first | lia | omega)) ?_; intro _
      walk_at "ms"
      refine T_append (by simp only [sizeLine]; (first | lia | omega)) ?_
      walk_at "ms"
      walk_at "out"
      exact mk3 _ _ (zs ++ [(xs[i] / 2 ^ N + xs[i + 1] * 2 ^ (W - N)) % 2 ^ W]) ⟨rfl, hvs.append (.cons _ _ .nil), by walk_at "lk", ⟨_, by walk_at "lk"⟩, ⟨_, by walk_at "lk"⟩, by walk_at "lk", ⟨_, by walk_at "lk"⟩, by simp [hzl], hd.snoc (emod_dig (by (first | lia | omega)) _), next _ (by rw [List.getD_eq_getElem?_getD, hx2]; rfl) dx2.1⟩
    · have hlt := of_decide_eq_false (Bool.not_eq_true _ ▸ hb)
      walk_at "ms"
      refine T_item (by walk_at "mem") (by (first | lia | omega)) (by (first | lia | omega)) (by rw [eidx]; exact gx) ?_
      walk_at "ms"
      refine T_shr (by (first | lia | omega)) ?_; intro _
      walk_at "ms"
      refine T_shl (by (first | lia | omega)) (by (first | lia | omega)) (by (first | lia | omega)) ?_; intro _
      rw [Int.toNat_natCast, show ((W : Int) - (N : Int)).toNat = W - N by (first | lia | omega)]
      have h0 : 0 ≤ xs[i] / 2 ^ N := Int.ediv_nonneg dx.1 (by (first | lia | omega))
      refine T_bor (bitOr_up h0 (Int.ediv_lt_of_lt_mul hp (by rw [Int.mul_comm, ← hpq]; exact dx.2)) (by decide)) ?_; intro _
      walk_at "ms"
      refine T_mask (n := W) rfl (by (first | lia | omega)) ?_; intro _
      walk_at "ms"
      refine T_append (by simp only [sizeLine]; (first | lia | omega)) ?_
      walk_at "ms"
      walk_at "out"
      exact mk3 _ _ (zs ++ [(xs[i] / 2 ^ N + 0 * 2 ^ (W - N)) % 2 ^ W]) ⟨rfl, hvs.append (.cons _ _ .nil), by walk_at "lk", ⟨_, by walk_at "lk"⟩, ⟨_, by walk_at "lk"⟩, by walk_at "lk", ⟨_, by walk_at "lk"⟩, by simp [hzl], hd.snoc (emod_dig (by (first | lia | omega)) _), next 0 (by rw [List.getD_eq_getElem?_getD, List.getElem?_eq_none (by (first | lia | omega))]; rfl) (by decide)⟩
  intro m2 μ2 ν2 hs2 z1J
  refine ex3 z1J fun vs c zs z1r0 => ?_
  clear z1J
  refine an6 z1r0 fun z1e3 hvs ga z1p6 z1p7 z1r1 => ?_
  clear z1r0
  refine an5 z1r1 fun gl z1p9 hzl hd hv => ?_
  clear z1r1
  subst z1e3
  obtain ⟨t1, gw⟩ := z1p6
  obtain ⟨t2, gf⟩ := z1p7
  obtain ⟨t3, gm⟩ := z1p9
  rw [take_all (Nat.le_refl _), hx.eq, show xs.getD xs.length 0 = 0 by rw [List.getD_eq_getElem?_getD, List.getElem?_eq_none (Nat.le_refl _)]; rfl] at hv
  have hv' : 2 ^ N * val (2 ^ W) zs + (xs.getD 0 0) % 2 ^ N = x := by simpa using hv
  have hq' : val (2 ^ W) zs = x / 2 ^ N := by
    rw [← hv', Int.mul_add_ediv_left _ _ (by (first | lia | omega)), Int.ediv_eq_zero_of_lt (Int.emod_nonneg _ (by (first | lia | omega))) (Int.emod_lt_of_pos _ hp), Int.add_zero]
  walk_at "m"
  refine T_freeze ?_
  walk_at "ms"
  refine T_fn (c_normal (xs := zs) (rep_L.mpr ⟨l, _, _, rfl, by walk_at "mem", hvs⟩) (by (first | lia | omega))) fun v d ν' hs3 hd' hr' => ?_
  obtain ⟨j, hj, rfl⟩ := hd'
  walk_at "out"
  exact ⟨rfl, rfl, _, ⟨zs.take j, rfl, hj.nm hd hq'⟩, hr'⟩

end
section
variable {w : World} {mean : ExcName → Option Value} {mg mb : Loc} {k : Nat} {ν : Led}
theorem c_bits {va : Value} {y : Int} {tw : Tok} {W : Nat} (hW : W ≤ 10) (ha : Rep ν (L [y]) va) :
    Fn (cx w mean mg mb) (k + 1) 121 [va, .int W tw] ν (fun d => d = .int (Builtin.Int.intBits y)) := by
  intro e fe m
  obtain ⟨la, ua, na, rfl, hma, hia⟩ := rep_L.mp ha
  obtain ⟨ty, gy⟩ := hia.get 0 y rfl
  have ea : ua.length = 1 := hia.length
  refine T_def (binds := [(PySem.Str.ofString "a", .ref la), (PySem.Str.ofString "w", .int W tw)]) (by walk_at "kis") (by walk_at "kis") (fun s => BindsTo.of_eq rfl) (locs rfl) rfl rfl rfl (by decide) fun L' Qd hQd => ?_
  walk_at "ms"
  refine T_len (by walk_at "mem") (by (first | lia | omega)) ?_; intro _
  walk_at "ms"
  refine T_if (fun hb => ?_) (fun hb => absurd (of_decide_eq_false (Bool.not_eq_true _ ▸ hb)) (by (first | lia | omega)))
  walk_at "ms"
  refine T_len (by walk_at "mem") (by (first | lia | omega)) ?_; intro _
  walk_at "ms"
  refine T_mulS (p := 20) (q := 60) (by rw [ea]; decide) (natAbs_lt (by (first | lia | omega)) (by (first | lia | omega))) (by decide) ?_; intro _
  walk_at "ms"
  refine T_methodX ?_ (by kernel_rfl!)
  walk_at "ms"
  refine T_itemNeg (by walk_at "mem") (by decide) (by (first | lia | omega)) (by decide) (by rw [ea]; exact gy) ?_
  refine T_getBitlen ?_
  walk_at "ms"
  refine T_bitlen ?_; intro _
  walk_at "ms"
  rw [show ((ua.length : Int) - 1) * W + (Builtin.Int.intBits y : Nat) = (Builtin.Int.intBits y : Nat) by rw [ea]; simp]
  walk_at "out"
  exact ⟨rfl, rfl, _, rfl, .i⟩
theorem c_signed {v : Value} {xs : List Int} (hv : Rep ν (L xs) v) (zx : xs.length ≤ 10000) :
    Fn (cx w mean mg mb) (k + 1) 128 [.bool false, v] ν (fun d => d = Sg xs) := by
  intro e fe m
  obtain ⟨l, vs, n, rfl, hm, hi⟩ := rep_L.mp hv
  refine T_def (binds := [(PySem.Str.ofString "is_below", .bool false), (PySem.Str.ofString "nat", .ref l)]) (by walk_at "kis") (by walk_at "kis") (fun s => BindsTo.of_eq rfl) (locs rfl) rfl rfl rfl (by decide) fun L' Qd hQd => ?_
  walk_at "ms"
  refine T_and2 ?_
  walk_at "ms"
  walk_at "out"
  refine ⟨(fun h => nomatch h), fun _ => ?_⟩
  walk_at "ms"
  walk_at "out"
  exact ⟨rfl, rfl, _, rfl, rep_Sg.mpr ⟨_, _, _, rfl, List.mem_cons_self, rep_L.mpr ⟨_, _, _, rfl, by walk_at "mem", hi⟩⟩⟩
theorem c_s_add {W : Nat} (hW : 6 ≤ W ∧ W ≤ 10) {va vb : Value} {tw : Tok} {xs ys : List Int} {x y : Int} (ha : Rep ν (Sg xs) va) (hb : Rep ν (Sg ys) vb) (hx : Nm (2 ^ W) xs x) (hy : Nm (2 ^ W) ys y) (zx : xs.length ≤ 9000) (zy : ys.length ≤ 9000) (zxy : x + y < 2 ^ 9000) :
    Fn (cx w mean mg mb) (k + 2) 135 [va, vb, .int W tw] ν (fun d => ∃ zs, d = Sg zs ∧ Nm (2 ^ W) zs (x + y)) := by
  intro e fe m
  have hB : (2 : Int) ≤ 2 ^ W := by have := pow_le_pow (B := 2) (by decide) hW.1; (first | lia | omega)
  obtain ⟨la, na, qa, rfl, hma, hra⟩ := rep_Sg.mp ha
  obtain ⟨lb, nb, qb, rfl, hmb, hrb⟩ := rep_Sg.mp hb
  refine T_def (binds := [(PySem.Str.ofString "x", .ref la), (PySem.Str.ofString "y", .ref lb), (PySem.Str.ofString "w", .int W tw)]) (by walk_at "kis") (by walk_at "kis") (fun s => BindsTo.of_eq rfl) (locs rfl) rfl rfl rfl (by decide) fun L' Qd hQd => ?_
  walk_at "ms"
  refine T_itemT (by walk_at "mem") (by decide) (by decide) rfl ?_
  walk_at "ms"
  refine T_itemT (by walk_at "mem") (by decide) (by decide) rfl ?_
  walk_at "ms"
  refine T_if (fun _ => ?_) (fun hb => absurd rfl hb)
  walk_at "ms"
  refine T_itemT (by walk_at "mem") (by decide) (by decide) rfl ?_
  walk_at "ms"
  refine T_itemT (by walk_at "mem") (by decide) (by decide) rfl ?_
  walk_at "ms"
  refine T_itemT (by walk_at "mem") (by decide) (by decide) rfl ?_
  walk_at "ms"
  refine T_fn (c_add hW hra hrb hx hy (by (first | lia | omega)) (by (first | lia | omega))) fun v d ν' hs3 hd' hr' => ?_
  obtain ⟨zs, rfl, hz⟩ := hd'
  walk_at "ms"
  refine T_fn (c_signed hr' (by have := hz.len hB zxy; (first | lia | omega))) fun v d ν' hs3 hd' hr' => ?_
  subst hd'
  walk_at "out"
  exact ⟨rfl, rfl, _, ⟨zs, rfl, hz⟩, hr'⟩

end
section
variable {w : World} {mean : ExcName → Option Value} {mg mb : Loc} {k : Nat} {ν : Led}
theorem carry_le {B c z p : Int} (hB : 2 ≤ B) (hc0 : 0 ≤ c) (hc : c < B) (hz0 : 0 ≤ z) (hz : z < B) (hp0 : 0 ≤ p) (hp : p ≤ (B - 1) * (B - 1)) : 0 ≤ (c + (z + p)) / B ∧ (c + (z + p)) / B < B := by
  walk_at "out"
  refine ⟨Int.ediv_nonneg (by (first | lia | omega)) (by (first | lia | omega)), Int.ediv_lt_of_lt_mul (by (first | lia | omega)) ?_⟩
  have := sq_eq B
  generalize B * B = q at *
  (first | lia | omega)
theorem c_mul_school {W : Nat} (hW : 6 ≤ W ∧ W ≤ 10) {va vb : Value} {tw : Tok} {xs ys : List Int} {x y : Int} (ha : Rep ν (L xs) va) (hb : Rep ν (L ys) vb) (hx : Nm (2 ^ W) xs x) (hy : Nm (2 ^ W) ys y) (zx : xs.length ≤ 4000) (zy : ys.length ≤ 4000) :
    Fn (cx w mean mg mb) (k + 2) 247 [va, vb, .int W tw] ν (fun d => ∃ zs, d = L zs ∧ Nm (2 ^ W) zs (x * y)) := by
  intro e fe m
  have hB : (2 : Int) ≤ 2 ^ W := by have := pow_le_pow (B := 2) (by decide) hW.1; (first | lia | omega)
  have hB2 : (2 : Int) ^ W ≤ 1024 := by have := pow_le_pow (B := 2) (by decide) hW.2; (first | lia | omega)
  obtain ⟨la, ua, na, rfl, hma, hia⟩ := rep_L.mp ha
  obtain ⟨lb, ub, nb, rfl, hmb, hib⟩ := rep_L.mp hb
  have ea := hia.length
  have eb := hib.length
  refine T_def (binds := [(PySem.Str.ofString "a", .ref la), (PySem.Str.ofString "b", .ref lb), (PySem.Str.ofString "w", .int W tw)]) (by walk_at "kis") (by walk_at "kis") (fun s => BindsTo.of_eq rfl) (locs rfl) rfl rfl rfl (by decide) fun L' Qd hQd => ?_
  walk_at "ms"
  refine T_newList (Nat.le_of_ble_eq_true rfl) fun l0 hl0 => ?_
  walk_at "ms"
  refine T_len (by walk_at "mem") (by (first | lia | omega)) ?_; intro _
  walk_at "ms"
  refine T_len (by walk_at "mem") (by (first | lia | omega)) ?_; intro _
  walk_at "ms"
  refine T_mulListM (by walk_at "mem") (by (first | lia | omega)) (by (first | lia | omega)) fun l hl => ?_
  walk_at "ms"
  refine T_shl (by (first | lia | omega)) (by (first | lia | omega)) (by decide) ?_; intro _
  walk_at "ms"
  rw [Int.toNat_natCast, Int.one_mul]
  refine T_forEnum (vs := ua) (fun i m1 μ1 ν1 => ∃ vs c zs, μ1 = [(l, lo vs c)] ∧ IntsAre vs zs ∧ m1 (PySem.Str.ofString "b") = some (.ref lb) ∧ (∃ t, m1 (PySem.Str.ofString "w") = some (.int W t)) ∧
    m1 (PySem.Str.ofString "found") = some (.ref l) ∧ (∃ t, m1 (PySem.Str.ofString "mask") = some (.int (2 ^ W - 1) t)) ∧ zs.length = xs.length + ys.length ∧ Dig (2 ^ W) zs ∧ (∀ j, i + ys.length ≤ j → j < xs.length + ys.length → zs[j]? = some 0) ∧ val (2 ^ W) zs = val (2 ^ W) (xs.take i) * y)
    rfl rfl ?_ ?_ ?_
  · refine T_hide fun _ _ => ?_
    walk_at "ms"
    refine T_enum (by walk_at "mem") fun ea' ia o oc od => ?_
    walk_at "out"
    refine mk6 ea' ia o la na _ ⟨rfl, rfl, oc, od, by walk_at "mem", mk3 _ _ (List.replicate (xs.length + ys.length) 0) ⟨rfl, ?_, by walk_at "lk", ⟨_, by walk_at "lk"⟩, by walk_at "lk", ⟨_, by walk_at "lk"⟩, by simp, .rep (by (first | lia | omega)), fun j hj hj2 => ?_, ?_⟩⟩
    · rw [show ((ua.length : Int) + (ub.length : Int)).toNat = xs.length + ys.length by (first | lia | omega)]; exact ints_rep _ _ _
    · rw [List.getElem?_replicate, if_pos (by (first | lia | omega))]
    · rw [val_rep]; simp [val]
  · intro i v ti m1 μ1 ν1 hi hv hs1 Qt0 hQt0 z0J
    refine ex3 z0J fun vs c zs z0r0 => ?_
    clear z0J
    refine an6 z0r0 fun z0e3 hvs gb z0p6 gl z0r1 => ?_
    clear z0r0
    refine an5 z0r1 fun z0p8 hzl hd hz0 hval => ?_
    clear z0r1
    subst z0e3
    obtain ⟨t1, gw⟩ := z0p6
    obtain ⟨t4, gm⟩ := z0p8
    have hix : i < xs.length := ea ▸ hi
    have hx1 := List.getElem?_eq_getElem (l := xs) (i := i) hix
    obtain ⟨tx, gx⟩ := hia.get _ _ hx1
    rw [gx] at hv
    obtain rfl := Option.some.inj hv
    have dx := hx.dig.get hx1
    walk_at "ms"
    refine T_forEnum (vs := ub) (fun j m1 μ1 ν1 => ∃ vs c zs cy, μ1 = [(l, lo vs c)] ∧ IntsAre vs zs ∧ m1 (PySem.Str.ofString "b") = some (.ref lb) ∧ (∃ t, m1 (PySem.Str.ofString "w") = some (.int W t)) ∧ (∃ t, m1 (PySem.Str.ofString "at") = some (.int i t)) ∧ (∃ t, m1 (PySem.Str.ofString "limb") = some (.int xs[i] t)) ∧ (∃ t, m1 (PySem.Str.ofString "carry") = some (.int cy t)) ∧
      m1 (PySem.Str.ofString "found") = some (.ref l) ∧ (∃ t, m1 (PySem.Str.ofString "mask") = some (.int (2 ^ W - 1) t)) ∧ zs.length = xs.length + ys.length ∧ Dig (2 ^ W) zs ∧ 0 ≤ cy ∧ cy < 2 ^ W ∧ (∀ j, i + ys.length ≤ j → j < xs.length + ys.length → zs[j]? = some 0) ∧
      val (2 ^ W) zs + (2 ^ W) ^ (i + j) * cy = val (2 ^ W) (xs.take i) * y + (2 ^ W) ^ i * (xs[i] * val (2 ^ W) (ys.take j)))
      rfl rfl ?_ ?_ ?_
    · refine T_hide fun _ _ => ?_
      walk_at "ms"
      refine T_enum (by walk_at "mem") fun ea' ia o oc od => ?_
      walk_at "out"
      exact mk6 ea' ia o lb nb _ ⟨rfl, rfl, oc, od, by walk_at "mem", mk4 _ _ zs 0 ⟨rfl, hvs, by walk_at "lk", ⟨_, by walk_at "lk"⟩, ⟨_, by walk_at "lk"⟩, ⟨_, by walk_at "lk"⟩, ⟨_, by walk_at "lk"⟩, by walk_at "lk", ⟨_, by walk_at "lk"⟩, hzl, hd, by decide, by (first | lia | omega), hz0, by simpa [val] using hval⟩⟩
    · clear hz0 hval hd hzl hvs
      intro j v tj m2 μ2 ν2 hj hv hs2 Qt1 hQt1 z1J
      refine ex4 z1J fun vs c zs cy z1r0 => ?_
      clear z1J
      refine an8 z1r0 fun z1e4 hvs gb z1p7 z1p8 z1p9 z1p10 z1r1 => ?_
      clear z1r0
      refine an8 z1r1 fun gl z1p12 hzl hd hc0 hc1 hz0 hval => ?_
      clear z1r1
      subst z1e4
      obtain ⟨t1, gw⟩ := z1p7
      obtain ⟨t2, ga⟩ := z1p8
      obtain ⟨t3, gli⟩ := z1p9
      obtain ⟨t5, gc⟩ := z1p10
      obtain ⟨t4, gm⟩ := z1p12
      have evs := hvs.length
      have hy1 := List.getElem?_eq_getElem (l := ys) (i := j) (by (first | lia | omega))
      obtain ⟨ty, gy⟩ := hib.get _ _ hy1
      rw [gy] at hv
      obtain rfl := Option.some.inj hv
      have dy := hy.dig.get hy1
      have hz1 := List.getElem?_eq_getElem (l := zs) (i := i + j) (by (first | lia | omega))
      obtain ⟨tz, gz⟩ := hvs.get _ _ hz1
      have dz := hd.get hz1
      have eij : ((i : Int) + (j : Int)).toNat = i + j := by (first | lia | omega)
      have hp0 := Int.mul_nonneg dx.1 dy.1
      have hp1 := mul_lt_of dx.1 dx.2 dy.1 dy.2
      have hcl := carry_le hB hc0 hc1 dz.1 dz.2 hp0 hp1
      walk_at "ms"
      refine T_item (by walk_at "mem") (by (first | lia | omega)) (by (first | lia | omega)) (by rw [eij]; exact gz) ?_
      walk_at "ms"
      refine T_mulS (p := 20) (q := 20) (natAbs_lt dx.1 (by (first | lia | omega))) (natAbs_lt dy.1 (by (first | lia | omega))) (by decide) ?_; intro _
      walk_at "ms"
      refine T_mask (n := W) rfl (by (first | lia | omega)) ?_; intro _
      walk_at "ms"
      refine T_set (by (first | lia | omega)) (by (first | lia | omega)) (by (first | lia | omega)) ?_
      rw [eij]
      walk_at "ms"
      refine T_ishr (by (first | lia | omega)) ?_; intro _
      walk_at "ms"
      rw [Int.toNat_natCast]
      walk_at "out"
      refine mk4 _ _ (zs.set (i + j) ((cy + (zs[i + j] + xs[i] * ys[j])) % 2 ^ W)) ((cy + (zs[i + j] + xs[i] * ys[j])) / 2 ^ W) ⟨rfl, ints_set hvs _, by walk_at "lk", ⟨_, by walk_at "lk"⟩, ⟨_, by walk_at "lk"⟩, ⟨_, by walk_at "lk"⟩, ⟨_, by walk_at "lk"⟩, by walk_at "lk", ⟨_, by walk_at "lk"⟩, by simp [hzl], hd.set (emod_dig (by (first | lia | omega)) _), hcl.1, hcl.2, fun j' h1 h2 => ?_, ?_⟩
      · rw [List.getElem?_set_ne (by (first | lia | omega))]; exact hz0 j' h1 h2
      · rw [val_set hz1, val_take_succ hy1, ← Nat.add_assoc, Int.pow_succ]
        rw [Int.pow_add] at hval ⊢
        have := Int.mul_ediv_add_emod (cy + (zs[i + j] + xs[i] * ys[j])) (2 ^ W)
        generalize (cy + (zs[i + j] + xs[i] * ys[j])) / 2 ^ W = q at *
        generalize (cy + (zs[i + j] + xs[i] * ys[j])) % 2 ^ W = r at *
        generalize ((2 : Int) ^ W) ^ i = p1 at *
        generalize ((2 : Int) ^ W) ^ j = p2 at *
        generalize zs[i + j] = z1 at *
        generalize xs[i] = x1 at *
        generalize ys[j] = y1 at *
        generalize (2 : Int) ^ W = b at *
        generalize val b zs = z at *
        generalize val b (xs.take i) = f at *
        generalize val b (ys.take j) = g at *
        have h2 : p1 * p2 * (b * q + r) = p1 * p2 * (cy + (z1 + x1 * y1)) := by rw [this]
        grind
    clear hz0 hval hd hzl hvs
    intro m2 μ2 ν2 hs2 z2J
    refine ex4 z2J fun vs c zs cy z2r0 => ?_
    clear z2J
    refine an8 z2r0 fun z2e4 hvs gb z2p7 z2p8 z2p9 z2p10 z2r1 => ?_
    clear z2r0
    refine an8 z2r1 fun gl z2p12 hzl hd hc0 hc1 hz0 hval => ?_
    clear z2r1
    subst z2e4
    obtain ⟨t1, gw⟩ := z2p7
    obtain ⟨t2, ga⟩ := z2p8
    obtain ⟨t3, gli⟩ := z2p9
    obtain ⟨t5, gc⟩ := z2p10
    obtain ⟨t4, gm⟩ := z2p12
    have evs := hvs.length
    rw [eb, take_all (Nat.le_refl ys.length), hy.eq] at hval
    have hz1 := hz0 (i + ys.length) (by (first | lia | omega)) (by (first | lia | omega))
    have eij : ((i : Int) + (ub.length : Int)).toNat = i + ys.length := by (first | lia | omega)
    walk_at "ms"
    refine T_len (by walk_at "mem") (by (first | lia | omega)) ?_; intro _
    walk_at "ms"
    refine T_set (by (first | lia | omega)) (by (first | lia | omega)) (by (first | lia | omega)) ?_
    rw [eij]
    walk_at "ms"
    walk_at "out"
    refine mk3 _ _ (zs.set (i + ys.length) cy) ⟨rfl, ints_set hvs _, by walk_at "lk", ⟨_, by walk_at "lk"⟩, by walk_at "lk", ⟨_, by walk_at "lk"⟩, by simp [hzl], hd.set ⟨hc0, hc1⟩, fun j' h1 h2 => ?_, ?_⟩
    · rw [List.getElem?_set_ne (by (first | lia | omega))]; exact hz0 j' (by (first | lia | omega)) h2
    · rw [val_set hz1, val_take_succ hx1]
      generalize ((2 : Int) ^ W) ^ (i + ys.length) = p1 at *
      grind
  intro m1 μ1 ν1 hs1 z3J
  refine ex3 z3J fun vs c zs z3r0 => ?_
  clear z3J
  refine an6 z3r0 fun z3e3 hvs gb z3p6 gl z3r1 => ?_
  clear z3r0
  refine an5 z3r1 fun z3p8 hzl hd hz0 hval => ?_
  clear z3r1
  subst z3e3
  obtain ⟨t1, gw⟩ := z3p6
  obtain ⟨t4, gm⟩ := z3p8
  rw [take_all (by (first | lia | omega)), hx.eq] at hval
  walk_at "m"
  refine T_freeze ?_
  walk_at "ms"
  refine T_fn (c_normal (xs := zs) (rep_L.mpr ⟨l, _, _, rfl, by walk_at "mem", hvs⟩) (by (first | lia | omega))) fun v d ν' hs3 hd' hr' => ?_
  obtain ⟨j, hj, rfl⟩ := hd'
  walk_at "out"
  exact ⟨rfl, rfl, _, ⟨zs.take j, rfl, hj.nm hd hval⟩, hr'⟩

end
section
variable {w : World} {mean : ExcName → Option Value} {mg mb : Loc} {k : Nat} {ν : Led}
theorem c_guessed_limb {W : Nat} (hW : 6 ≤ W ∧ W ≤ 10) {vt : Value} {t0 t1 t2 first second : Int} {tf ts tw : Tok} (ha : Rep ν (L [t0, t1, t2]) vt) (d0 : 0 ≤ t0 ∧ t0 < 2 ^ W) (d1 : 0 ≤ t1 ∧ t1 < 2 ^ W) (d2 : 0 ≤ t2 ∧ t2 < 2 ^ W) (df : 1 ≤ first ∧ first < 2 ^ W) (ds : 0 ≤ second ∧ second < 2 ^ W) :
    Fn (cx w mean mg mb) (k + 1) 261 [vt, .int first tf, .int second ts, .int W tw] ν (fun d => ∃ q, d = .int q ∧ 0 ≤ q ∧ q < 2 ^ W ∧ q * (first * 2 ^ W + second) ≤ (t2 * 2 ^ W + t1) * 2 ^ W + t0 ∧ ∀ j, j < 2 ^ W → j * (first * 2 ^ W + second) ≤ (t2 * 2 ^ W + t1) * 2 ^ W + t0 → j ≤ q) := by
  intro e fe m
  have hB : (2 : Int) ≤ 2 ^ W := by have := pow_le_pow (B := 2) (by decide) hW.1; (first | lia | omega)
  have hB2 : (2 : Int) ^ W ≤ 1024 := by have := pow_le_pow (B := 2) (by decide) hW.2; (first | lia | omega)
  obtain ⟨lt, ut, nt, rfl, hmt, hit⟩ := rep_L.mp ha
  obtain ⟨y0, g0⟩ := hit.get 0 t0 rfl
  obtain ⟨y1, g1⟩ := hit.get 1 t1 rfl
  obtain ⟨y2, g2⟩ := hit.get 2 t2 rfl
  refine T_def (binds := [(PySem.Str.ofString "top", .ref lt), (PySem.Str.ofString "first", .int first tf), (PySem.Str.ofString "second", .int second ts), (PySem.Str.ofString "w", .int W tw)]) (by walk_at "kis") (by walk_at "kis") (fun s => BindsTo.of_eq rfl) (locs rfl) rfl rfl rfl (by decide) fun L' Qd hQd => ?_
  have hq0 : 0 ≤ t2 * 2 ^ W := Int.mul_nonneg d2.1 (by (first | lia | omega))
  have hq1 : t2 * 2 ^ W ≤ 1048576 := by
    have := mul_lt_of d2.1 d2.2 (b := 2 ^ W - 1) (by (first | lia | omega)) (by (first | lia | omega))
    have h2 : t2 * 2 ^ W ≤ 1024 * 1024 := Int.le_trans (Int.mul_le_mul_of_nonneg_right (c := 2 ^ W) (show t2 ≤ 1024 by (first | lia | omega)) (by (first | lia | omega))) (Int.mul_le_mul_of_nonneg_left (by (first | lia | omega)) (by decide))
    (first | lia | omega)
  walk_at "ms"
  refine T_item (by walk_at "mem") (by decide) (by decide) g2 ?_
  walk_at "ms"
  refine T_shl (by (first | lia | omega)) (by (first | lia | omega)) (by (first | lia | omega)) ?_; intro _
  walk_at "ms"
  rw [Int.toNat_natCast]
  refine T_item (by walk_at "mem") (by decide) (by decide) g1 ?_
  refine T_or (n := W) (by (first | lia | omega)) d1.1 d1.2 ⟨_, rfl⟩ ?_; intro _
  walk_at "ms"
  refine T_shl (by (first | lia | omega)) (by (first | lia | omega)) (by decide) ?_; intro _
  walk_at "ms"
  rw [Int.toNat_natCast, Int.one_mul]
  have hh : t2 * 2 ^ W + t1 ≥ 0 := by (first | lia | omega)
  have hh2 : t2 * 2 ^ W + t1 ≤ 2000000 := by (first | lia | omega)
  generalize hH : t2 * 2 ^ W + t1 = H at *
  refine T_fdiv (by (first | lia | omega)) (by (first | lia | omega)) ?_; intro _
  walk_at "ms"
  have hdv0 : 0 ≤ H / first := Int.ediv_nonneg hh (by (first | lia | omega))
  have hdv : first * (H / first) ≤ H := by
    have := Int.mul_ediv_add_emod H first
    have := Int.emod_nonneg H (b := first) (by (first | lia | omega))
    (first | lia | omega)
  have hdv2 : H < first * (H / first + 1) := by
    have := Int.mul_ediv_add_emod H first
    have := Int.emod_lt_of_pos H (b := first) (by (first | lia | omega))
    rw [Int.mul_add]; (first | lia | omega)
  refine T_min ?_; intro _
  walk_at "ms"
  refine T_mulS (p := 20) (q := 20) (natAbs_lt (by (first | lia | omega)) (by (first | lia | omega))) (natAbs_lt (by (first | lia | omega)) (by (first | lia | omega))) (by decide) ?_; intro _
  walk_at "ms"
  have hs0 : first * (min (H / first) (2 ^ W - 1)) ≤ H := Int.le_trans (Int.mul_le_mul_of_nonneg_left (Int.min_le_left _ _) (by (first | lia | omega))) hdv
  refine T_while (fun n m1 μ1 ν1 => ∃ q, n = q.toNat ∧ μ1 = [] ∧ m1 (PySem.Str.ofString "top") = some (.ref lt) ∧ (∃ t, m1 (PySem.Str.ofString "first") = some (.int first t)) ∧ (∃ t, m1 (PySem.Str.ofString "second") = some (.int second t)) ∧ (∃ t, m1 (PySem.Str.ofString "w") = some (.int W t)) ∧ (∃ t, m1 (PySem.Str.ofString "base") = some (.int (2 ^ W) t)) ∧
    (∃ t, m1 (PySem.Str.ofString "limb") = some (.int q t)) ∧ (∃ t, m1 (PySem.Str.ofString "rest") = some (.int (H - q * first) t)) ∧ 0 ≤ q ∧ q < 2 ^ W ∧ q * first ≤ H ∧ ∀ j, j < 2 ^ W → j * (first * 2 ^ W + second) ≤ H * 2 ^ W + t0 → j ≤ q) (min (H / first) (2 ^ W - 1)).toNat ?_ ?_
  · walk_at "out"
    refine ⟨_, rfl, rfl, by walk_at "lk", ⟨_, by walk_at "lk"⟩, ⟨_, by walk_at "lk"⟩, ⟨_, by walk_at "lk"⟩, ⟨_, by walk_at "lk"⟩, ⟨_, by walk_at "lk"⟩, ⟨_, by walk_at "lk"⟩, by (first | lia | omega), by (first | lia | omega), by rw [Int.mul_comm]; exact hs0, fun j hj hle => ?_⟩
    refine Int.le_min.mpr ⟨?_, by (first | lia | omega)⟩
    rcases Int.lt_or_le j 0 with h | h
    · (first | lia | omega)
    · have h1 : j * first * 2 ^ W ≤ H * 2 ^ W + t0 := by
        have := Int.mul_nonneg h ds.1
        rw [Int.mul_add, ← Int.mul_assoc] at hle; (first | lia | omega)
      have h2 : j * first < H + 1 := by
        refine Int.lt_of_mul_lt_mul_right (a := 2 ^ W) ?_ (by (first | lia | omega))
        rw [Int.add_mul, Int.one_mul]; (first | lia | omega)
      have h3 : first * j < first * (H / first + 1) := by rw [Int.mul_comm first j]; (first | lia | omega)
      have := Int.lt_of_mul_lt_mul_left h3 (by (first | lia | omega))
      (first | lia | omega)
  · intro n m1 μ1 ν1 hs Qt0 hQt0 z0J
    refine ex1 z0J fun q z0r0 => ?_
    clear z0J
    refine an8 z0r0 fun z0e1 z0e2 gt z0p4 z0p5 z0p6 z0p7 z0r1 => ?_
    clear z0r0
    refine an6 z0r1 fun z0p8 z0p9 q0 q1 hqf hmax => ?_
    clear z0r1
    subst z0e1
    subst z0e2
    obtain ⟨t1', gf⟩ := z0p4
    obtain ⟨t2', gs⟩ := z0p5
    obtain ⟨t3', gw⟩ := z0p6
    obtain ⟨t4', gb⟩ := z0p7
    obtain ⟨t5', gl⟩ := z0p8
    obtain ⟨t6', gr⟩ := z0p9
    have hr1 : H - q * first ≤ 2000000 := by have := Int.mul_nonneg q0 (show 0 ≤ first by (first | lia | omega)); (first | lia | omega)
    have hqs := mul_lt_of q0 q1 ds.1 ds.2
    have hqs0 := Int.mul_nonneg q0 ds.1
    walk_at "ms"
    walk_at "out"
    refine ⟨fun hb => ?_, fun hb => ⟨(fun h => nomatch h), fun _ => ?_⟩⟩
    · have hrb := of_decide_eq_true hb
      walk_at "ms"
      refine T_mulS (p := 20) (q := 20) (natAbs_lt (by (first | lia | omega)) (by (first | lia | omega))) (natAbs_lt (by (first | lia | omega)) (by (first | lia | omega))) (by decide) ?_; intro _
      walk_at "ms"
      refine T_shl (by (first | lia | omega)) (by (first | lia | omega)) (by (first | lia | omega)) ?_; intro _
      walk_at "ms"
      rw [Int.toNat_natCast]
      have hrw : 0 ≤ (H - q * first) * 2 ^ W := Int.mul_nonneg (by (first | lia | omega)) (by (first | lia | omega))
      refine T_item (by walk_at "mem") (by decide) (by decide) g0 ?_
      refine T_or (n := W) hrw d0.1 d0.2 ⟨_, rfl⟩ ?_; intro _
      walk_at "ms"
      have hD : q * (first * 2 ^ W + second) = q * first * 2 ^ W + q * second := by rw [Int.mul_add, ← Int.mul_assoc]
      have hS : (H - q * first) * 2 ^ W = H * 2 ^ W - q * first * 2 ^ W := Int.sub_mul _ _ _
      walk_at "out"
      refine ⟨fun hb => ?_, fun hb => ⟨(fun h => nomatch h), fun _ => ?_⟩⟩
      · have hgt := of_decide_eq_true hb
        walk_at "ms"
        walk_at "out"
        refine ⟨fun _ => ?_, (fun h => nomatch h)⟩
        have hqp : 1 ≤ q := by
          rcases Int.lt_or_le 0 q with h | h
          · (first | lia | omega)
          · have : q = 0 := by (first | lia | omega)
            have h0 : q * second = 0 := by rw [this, Int.zero_mul]
            (first | lia | omega)
        have e1 : H - q * first + first = H - (q - 1) * first := by rw [Int.sub_mul]; (first | lia | omega)
        have e2 : (q - 1) * first = q * first - first := by rw [Int.sub_mul]; (first | lia | omega)
        walk_at "ms"
        rw [e1]
        walk_at "ms"
        walk_at "out"
        refine ⟨(q - 1).toNat, by (first | lia | omega), q - 1, rfl, rfl, by walk_at "lk", ⟨_, by walk_at "lk"⟩, ⟨_, by walk_at "lk"⟩, ⟨_, by walk_at "lk"⟩, ⟨_, by walk_at "lk"⟩, ⟨_, by walk_at "lk"⟩, ⟨_, by walk_at "lk"⟩, by (first | lia | omega), by (first | lia | omega), by (first | lia | omega), fun j hj hle => ?_⟩
        have hjq := hmax j hj hle
        rcases Int.lt_or_le j q with h | h
        · (first | lia | omega)
        · have : j = q := by (first | lia | omega)
          subst this; (first | lia | omega)
      · have hgt := of_decide_eq_false hb
        walk_at "ms"
        walk_at "out"
        exact ⟨rfl, rfl, _, ⟨q, rfl, q0, q1, by (first | lia | omega), hmax⟩, .i⟩
    · have hrb := of_decide_eq_false hb
      walk_at "ms"
      walk_at "out"
      refine ⟨rfl, rfl, _, ⟨q, rfl, q0, q1, ?_, hmax⟩, .i⟩
      have hD : q * (first * 2 ^ W + second) = q * first * 2 ^ W + q * second := by rw [Int.mul_add, ← Int.mul_assoc]
      have h1 : 2 ^ W * 2 ^ W ≤ (H - q * first) * 2 ^ W := Int.mul_le_mul_of_nonneg_right (by (first | lia | omega)) (by (first | lia | omega))
      rw [Int.sub_mul] at h1
      have := sq_eq (2 ^ W)
      (first | lia | omega)

end
section
variable {w : World} {mean : ExcName → Option Value} {mg mb : Loc} {k : Nat} {ν : Led}
theorem c_take_away {W : Nat} (hW : 6 ≤ W ∧ W ≤ 10) {lr : Addr} {vs : List Value} {c : Nat} {vb : Value} {q : Int} {p : Nat} {tq tp tw : Tok} {zs ys : List Int} {y : Int} (hvs : IntsAre vs zs) (hd : Dig (2 ^ W) zs) (hb : Rep ν (L ys) vb) (hy : Nm (2 ^ W) ys y) (hq : 0 ≤ q ∧ q < 2 ^ W) (hp : p + ys.length < zs.length) (zz : zs.length ≤ 10000) (e fe : Env) (m : Loc) :
    T (cx w mean mg mb) (k + 1) e fe (call (.ref 268) [.ref lr, vb, .int q tq, .int p tp, .int W tw]) m [(lr, lo vs c)] ν (fun v m' μ' ν' => m' = m ∧ ∃ r t vs' c' zs', v = .int r t ∧ μ' = [(lr, lo vs' c')] ∧ IntsAre vs' zs' ∧ zs'.length = zs.length ∧ Dig (2 ^ W) zs' ∧ (r = 0 ∨ r = 1) ∧ (∀ j, p + ys.length < j → zs'[j]? = zs[j]?) ∧
      val (2 ^ W) zs' = val (2 ^ W) zs - q * y * (2 ^ W) ^ p + r * (2 ^ W) ^ (p + ys.length + 1)) := by
  have hB : (2 : Int) ≤ 2 ^ W := by have := pow_le_pow (B := 2) (by decide) hW.1; (first | lia | omega)
  have hB2 : (2 : Int) ^ W ≤ 1024 := by have := pow_le_pow (B := 2) (by decide) hW.2; (first | lia | omega)
  obtain ⟨lb, ub, nb, rfl, hmb, hib⟩ := rep_L.mp hb
  have eb := hib.length
  refine T_def (binds := [(PySem.Str.ofString "rest", .ref lr), (PySem.Str.ofString "b", .ref lb), (PySem.Str.ofString "limb", .int q tq), (PySem.Str.ofString "at", .int p tp), (PySem.Str.ofString "w", .int W tw)]) (by walk_at "kis") (by walk_at "kis") (fun s => BindsTo.of_eq rfl) (locs rfl) rfl rfl rfl (by decide) fun L' Qd hQd => ?_
  walk_at "ms"
  refine T_shl (by (first | lia | omega)) (by (first | lia | omega)) (by decide) ?_; intro _
  walk_at "ms"
  rw [Int.toNat_natCast, Int.one_mul]
  refine T_forEnum (vs := ub) (fun j m1 μ1 ν1 => ∃ vs c zs' cy, μ1 = [(lr, lo vs c)] ∧ IntsAre vs zs' ∧ m1 (PySem.Str.ofString "b") = some (.ref lb) ∧ m1 (PySem.Str.ofString "rest") = some (.ref lr) ∧ (∃ t, m1 (PySem.Str.ofString "limb") = some (.int q t)) ∧ (∃ t, m1 (PySem.Str.ofString "at") = some (.int p t)) ∧ (∃ t, m1 (PySem.Str.ofString "base") = some (.int (2 ^ W) t)) ∧ (∃ t, m1 (PySem.Str.ofString "carry") = some (.int cy t)) ∧
      zs'.length = zs.length ∧ Dig (2 ^ W) zs' ∧ 0 ≤ cy ∧ cy < 2 ^ W ∧ (∀ j', p + j ≤ j' → zs'[j']? = zs[j']?) ∧
      val (2 ^ W) zs' - (2 ^ W) ^ (p + j) * cy = val (2 ^ W) zs - (2 ^ W) ^ p * (q * val (2 ^ W) (ys.take j)))
      rfl rfl ?_ ?_ ?_
  · refine T_hide fun _ _ => ?_
    walk_at "ms"
    refine T_enum (by walk_at "mem") fun ea' ia o oc od => ?_
    walk_at "out"
    exact mk6 ea' ia o lb nb _ ⟨rfl, rfl, oc, od, by walk_at "mem", mk4 _ _ zs 0 ⟨rfl, hvs, by walk_at "lk", by walk_at "lk", ⟨_, by walk_at "lk"⟩, ⟨_, by walk_at "lk"⟩, ⟨_, by walk_at "lk"⟩, ⟨_, by walk_at "lk"⟩, rfl, hd, by decide, by (first | lia | omega), fun _ _ => rfl, by simp [val]⟩⟩
  · intro j v tj m2 μ2 ν2 hj hv hs2 Qt0 hQt0 z0J
    refine ex4 z0J fun vs c us cy z0r0 => ?_
    clear z0J
    refine an8 z0r0 fun z0e4 hvs gb gr z0p8 z0p9 z0p10 z0r1 => ?_
    clear z0r0
    refine an7 z0r1 fun z0p11 hul hud hc0 hc1 hsame hval => ?_
    clear z0r1
    subst z0e4
    obtain ⟨t1, gl⟩ := z0p8
    obtain ⟨t2, ga⟩ := z0p9
    obtain ⟨t3, gba⟩ := z0p10
    obtain ⟨t5, gc⟩ := z0p11
    have evs := hvs.length
    have hjy : j < ys.length := eb ▸ hj
    have hy1 := List.getElem?_eq_getElem (l := ys) (i := j) hjy
    obtain ⟨ty, gy⟩ := hib.get _ _ hy1
    rw [gy] at hv
    obtain rfl := Option.some.inj hv
    have dy := hy.dig.get hy1
    have hz1 := List.getElem?_eq_getElem (l := us) (i := p + j) (by (first | lia | omega))
    obtain ⟨tz, gz⟩ := hvs.get _ _ hz1
    have dz := hud.get hz1
    have eij : ((p : Int) + (j : Int)).toNat = p + j := by (first | lia | omega)
    have hp0 := Int.mul_nonneg hq.1 dy.1
    have hp1 := mul_lt_of hq.1 hq.2 dy.1 dy.2
    have hsq := sq_eq (2 ^ W)
    have hme := Int.mul_ediv_add_emod (q * ys[j] + cy) (2 ^ W)
    have hr0 := Int.emod_nonneg (q * ys[j] + cy) (b := 2 ^ W) (by (first | lia | omega))
    have hr1 := Int.emod_lt_of_pos (q * ys[j] + cy) (b := 2 ^ W) (by (first | lia | omega))
    have hd0 : 0 ≤ (q * ys[j] + cy) / 2 ^ W := Int.ediv_nonneg (by (first | lia | omega)) (by (first | lia | omega))
    have hd1 : (q * ys[j] + cy) / 2 ^ W < 2 ^ W := Int.ediv_lt_of_lt_mul (by (first | lia | omega)) (by (first | lia | omega))
    have hd2 : (q * ys[j] + cy) % 2 ^ W ≠ 0 → (q * ys[j] + cy) / 2 ^ W + 1 < 2 ^ W := by
      intro hne
      rcases Int.lt_or_le ((q * ys[j] + cy) / 2 ^ W + 1) (2 ^ W) with h | h
      · exact h
      · exfalso
        have h2 : (q * ys[j] + cy) / 2 ^ W = 2 ^ W - 1 := by (first | lia | omega)
        rw [h2, Int.mul_sub, Int.mul_one] at hme
        (first | lia | omega)
    have next : ∀ (d b' : Int), d = us[p + j] - (q * ys[j] + cy) % 2 ^ W + b' * 2 ^ W → val (2 ^ W) (us.set (p + j) d) - (2 ^ W) ^ (p + (j + 1)) * ((q * ys[j] + cy) / 2 ^ W + b') = val (2 ^ W) zs - (2 ^ W) ^ p * (q * val (2 ^ W) (ys.take (j + 1))) := by
      intro d b' hdb
      rw [val_set hz1, val_take_succ hy1, ← Nat.add_assoc, Int.pow_succ, hdb]
      rw [Int.pow_add] at hval ⊢
      clear hd0 hd1 hd2 hr0 hr1 hp0 hp1 hsq hdb
      generalize (q * ys[j] + cy) / 2 ^ W = q' at *
      generalize (q * ys[j] + cy) % 2 ^ W = r at *
      generalize ((2 : Int) ^ W) ^ p = p1 at *
      generalize ((2 : Int) ^ W) ^ j = p2 at *
      generalize us[p + j] = z1 at *
      generalize ys[j] = y1 at *
      generalize (2 : Int) ^ W = b at *
      generalize val b us = z at *
      generalize val b zs = f at *
      generalize val b (ys.take j) = g at *
      have h2 : p1 * p2 * (b * q' + r) = p1 * p2 * (q * y1 + cy) := by rw [hme]
      grind
    walk_at "ms"
    refine T_item (by walk_at "mem") (by (first | lia | omega)) (by (first | lia | omega)) (by rw [eij]; exact gz) ?_
    walk_at "ms"
    refine T_mulS (p := 20) (q := 20) (natAbs_lt hq.1 (by (first | lia | omega))) (natAbs_lt dy.1 (by (first | lia | omega))) (by decide) ?_; intro _
    walk_at "ms"
    refine T_fmod (by (first | lia | omega)) ?_; intro _
    walk_at "ms"
    refine T_mulS (p := 20) (q := 20) (natAbs_lt hq.1 (by (first | lia | omega))) (natAbs_lt dy.1 (by (first | lia | omega))) (by decide) ?_; intro _
    walk_at "ms"
    refine T_fdiv (by (first | lia | omega)) (by (first | lia | omega)) ?_; intro _
    walk_at "ms"
    refine T_if (fun hb => ?_) (fun hb => ?_)
    · have hneg := of_decide_eq_true hb
      walk_at "ms"
      refine T_if (fun _ => ?_) (fun hb' => absurd hb hb')
      walk_at "ms"
      refine T_set (by (first | lia | omega)) (by (first | lia | omega)) (by (first | lia | omega)) ?_
      rw [eij]
      walk_at "ms"
      walk_at "out"
      refine mk4 _ _ (us.set (p + j) (us[p + j] - (q * ys[j] + cy) % 2 ^ W + 2 ^ W)) ((q * ys[j] + cy) / 2 ^ W + 1) ⟨rfl, ints_set hvs _, by walk_at "lk", by walk_at "lk", ⟨_, by walk_at "lk"⟩, ⟨_, by walk_at "lk"⟩, ⟨_, by walk_at "lk"⟩, ⟨_, by walk_at "lk"⟩, by simp [hul], hud.set ⟨by (first | lia | omega), by (first | lia | omega)⟩, by (first | lia | omega), hd2 (by (first | lia | omega)), fun j' h1 => ?_, next _ 1 (by (first | lia | omega))⟩
      rw [List.getElem?_set_ne (by (first | lia | omega))]; exact hsame j' (by (first | lia | omega))
    · have hneg := of_decide_eq_false (Bool.not_eq_true _ ▸ hb)
      walk_at "ms"
      refine T_if (fun hb' => absurd hb' hb) (fun _ => ?_)
      walk_at "ms"
      refine T_set (by (first | lia | omega)) (by (first | lia | omega)) (by (first | lia | omega)) ?_
      rw [eij]
      walk_at "ms"
      walk_at "out"
      refine mk4 _ _ (us.set (p + j) (us[p + j] - (q * ys[j] + cy) % 2 ^ W)) ((q * ys[j] + cy) / 2 ^ W + 0) ⟨rfl, ints_set hvs _, by walk_at "lk", by walk_at "lk", ⟨_, by walk_at "lk"⟩, ⟨_, by walk_at "lk"⟩, ⟨_, by walk_at "lk"⟩, ⟨_, by walk_at "lk"⟩, by simp [hul], hud.set ⟨by (first | lia | omega), by (first | lia | omega)⟩, by (first | lia | omega), by (first | lia | omega), fun j' h1 => ?_, next _ 0 (by (first | lia | omega))⟩
      rw [List.getElem?_set_ne (by (first | lia | omega))]; exact hsame j' (by (first | lia | omega))
  intro m2 μ2 ν2 hs2 z1J
  refine ex4 z1J fun vs c us cy z1r0 => ?_
  clear z1J
  refine an8 z1r0 fun z1e4 hvs gb gr z1p8 z1p9 z1p10 z1r1 => ?_
  clear z1r0
  refine an7 z1r1 fun z1p11 hul hud hc0 hc1 hsame hval => ?_
  clear z1r1
  subst z1e4
  obtain ⟨t1, gl⟩ := z1p8
  obtain ⟨t2, ga⟩ := z1p9
  obtain ⟨t3, gba⟩ := z1p10
  obtain ⟨t5, gc⟩ := z1p11
  have evs := hvs.length
  rw [eb, take_all (Nat.le_refl ys.length), hy.eq] at hval
  have hz1 := List.getElem?_eq_getElem (l := us) (i := p + ys.length) (by (first | lia | omega))
  obtain ⟨tz, gz⟩ := hvs.get _ _ hz1
  have dz := hud.get hz1
  have eij : ((p : Int) + (ub.length : Int)).toNat = p + ys.length := by (first | lia | omega)
  have next : ∀ (d b' : Int), d = us[p + ys.length] - cy + b' * 2 ^ W → val (2 ^ W) (us.set (p + ys.length) d) = val (2 ^ W) zs - q * y * (2 ^ W) ^ p + b' * (2 ^ W) ^ (p + ys.length + 1) := by
    intro d b' hdb
    rw [val_set hz1, hdb, Int.pow_succ]
    generalize ((2 : Int) ^ W) ^ (p + ys.length) = p2 at *
    generalize ((2 : Int) ^ W) ^ p = p1 at *
    generalize us[p + ys.length] = z1 at *
    generalize val _ us = z at *
    generalize val _ zs = f at *
    generalize (2 : Int) ^ W = b at *
    grind
  walk_at "ms"
  refine T_len (by walk_at "mem") (by (first | lia | omega)) ?_; intro _
  walk_at "ms"
  refine T_item (by walk_at "mem") (by (first | lia | omega)) (by (first | lia | omega)) (by rw [eij]; exact gz) ?_
  walk_at "ms"
  refine T_if (fun hb => ?_) (fun hb => ?_)
  · have hneg := of_decide_eq_true hb
    walk_at "ms"
    refine T_len (by walk_at "mem") (by (first | lia | omega)) ?_; intro _
    walk_at "ms"
    refine T_set (by (first | lia | omega)) (by (first | lia | omega)) (by (first | lia | omega)) ?_
    rw [eij]
    walk_at "ms"
    refine T_if (fun _ => ?_) (fun hb' => absurd hb hb')
    walk_at "ms"
    walk_at "out"
    refine ⟨rfl, mk5 1 _ _ _ (us.set (p + ys.length) (us[p + ys.length] - cy + 2 ^ W)) ⟨rfl, rfl, ints_set hvs _, by simp [hul], hud.set ⟨by (first | lia | omega), by (first | lia | omega)⟩, .inr rfl, fun j' h1 => ?_, next _ 1 (by (first | lia | omega))⟩⟩
    rw [List.getElem?_set_ne (by (first | lia | omega))]; exact hsame j' (by (first | lia | omega))
  · have hneg := of_decide_eq_false (Bool.not_eq_true _ ▸ hb)
    walk_at "ms"
    refine T_len (by walk_at "mem") (by (first | lia | omega)) ?_; intro _
    walk_at "ms"
    refine T_set (by (first | lia | omega)) (by (first | lia | omega)) (by (first | lia | omega)) ?_
    rw [eij]
    walk_at "ms"
    refine T_if (fun hb' => absurd hb' hb) (fun _ => ?_)
    walk_at "ms"
    walk_at "out"
    refine ⟨rfl, mk5 0 _ _ _ (us.set (p + ys.length) (us[p + ys.length] - cy)) ⟨rfl, rfl, ints_set hvs _, by simp [hul], hud.set ⟨by (first | lia | omega), by (first | lia | omega)⟩, .inl rfl, fun j' h1 => ?_, next _ 0 (by (first | lia | omega))⟩⟩
    rw [List.getElem?_set_ne (by (first | lia | omega))]; exact hsame j' (by (first | lia | omega))
theorem c_put_back {W : Nat} (hW : 6 ≤ W ∧ W ≤ 10) {lr : Addr} {vs : List Value} {c : Nat} {vb : Value} {p : Nat} {tp tw : Tok} {zs ys : List Int} {y : Int} (hvs : IntsAre vs zs) (hd : Dig (2 ^ W) zs) (hb : Rep ν (L ys) vb) (hy : Nm (2 ^ W) ys y) (hp : p + ys.length < zs.length) (zz : zs.length ≤ 10000) (e fe : Env) (m : Loc) :
    T (cx w mean mg mb) (k + 1) e fe (call (.ref 275) [.ref lr, vb, .int p tp, .int W tw]) m [(lr, lo vs c)] ν (fun v m' μ' ν' => m' = m ∧ v = .none ∧ ∃ r vs' c' zs', μ' = [(lr, lo vs' c')] ∧ IntsAre vs' zs' ∧ zs'.length = zs.length ∧ Dig (2 ^ W) zs' ∧ (r = 0 ∨ r = 1) ∧ (∀ j, p + ys.length < j → zs'[j]? = zs[j]?) ∧
      val (2 ^ W) zs' = val (2 ^ W) zs + y * (2 ^ W) ^ p - r * (2 ^ W) ^ (p + ys.length + 1)) := by
  have hB : (2 : Int) ≤ 2 ^ W := by have := pow_le_pow (B := 2) (by decide) hW.1; (first | lia | omega)
  have hB2 : (2 : Int) ^ W ≤ 1024 := by have := pow_le_pow (B := 2) (by decide) hW.2; (first | lia | omega)
  obtain ⟨lb, ub, nb, rfl, hmb, hib⟩ := rep_L.mp hb
  have eb := hib.length
  refine T_def (binds := [(PySem.Str.ofString "rest", .ref lr), (PySem.Str.ofString "b", .ref lb), (PySem.Str.ofString "at", .int p tp), (PySem.Str.ofString "w", .int W tw)]) (by walk_at "kis") (by walk_at "kis") (fun s => BindsTo.of_eq rfl) (locs rfl) rfl rfl rfl (by decide) fun L' Qd hQd => ?_
  walk_at "ms"
  refine T_shl (by (first | lia | omega)) (by (first | lia | omega)) (by decide) ?_; intro _
  walk_at "ms"
  rw [Int.toNat_natCast, Int.one_mul]
  refine T_forEnum (vs := ub) (fun j m1 μ1 ν1 => ∃ vs c zs' cy, μ1 = [(lr, lo vs c)] ∧ IntsAre vs zs' ∧ m1 (PySem.Str.ofString "b") = some (.ref lb) ∧ m1 (PySem.Str.ofString "rest") = some (.ref lr) ∧ (∃ t, m1 (PySem.Str.ofString "w") = some (.int W t)) ∧ (∃ t, m1 (PySem.Str.ofString "at") = some (.int p t)) ∧ (∃ t, m1 (PySem.Str.ofString "mask") = some (.int (2 ^ W - 1) t)) ∧ (∃ t, m1 (PySem.Str.ofString "carry") = some (.int cy t)) ∧
      zs'.length = zs.length ∧ Dig (2 ^ W) zs' ∧ 0 ≤ cy ∧ cy ≤ 1 ∧ (∀ j', p + j ≤ j' → zs'[j']? = zs[j']?) ∧
      val (2 ^ W) zs' + (2 ^ W) ^ (p + j) * cy = val (2 ^ W) zs + (2 ^ W) ^ p * val (2 ^ W) (ys.take j))
      rfl rfl ?_ ?_ ?_
  · refine T_hide fun _ _ => ?_
    walk_at "ms"
    refine T_enum (by walk_at "mem") fun ea' ia o oc od => ?_
    walk_at "out"
    exact mk6 ea' ia o lb nb _ ⟨rfl, rfl, oc, od, by walk_at "mem", mk4 _ _ zs 0 ⟨rfl, hvs, by walk_at "lk", by walk_at "lk", ⟨_, by walk_at "lk"⟩, ⟨_, by walk_at "lk"⟩, ⟨_, by walk_at "lk"⟩, ⟨_, by walk_at "lk"⟩, rfl, hd, by decide, by (first | lia | omega), fun _ _ => rfl, by simp [val]⟩⟩
  · intro j v tj m2 μ2 ν2 hj hv hs2 Qt2 hQt2 z2J
    refine ex4 z2J fun vs c us cy z2r0 => ?_
    clear z2J
    refine an8 z2r0 fun z2e4 hvs gb gr z2p8 z2p9 z2p10 z2r1 => ?_
    clear z2r0
    refine an7 z2r1 fun z2p11 hul hud hc0 hc1 hsame hval => ?_
    clear z2r1
    subst z2e4
    obtain ⟨t1, gw⟩ := z2p8
    obtain ⟨t2, ga⟩ := z2p9
    obtain ⟨t3, gm⟩ := z2p10
    obtain ⟨t5, gc⟩ := z2p11
    have evs := hvs.length
    have hjy : j < ys.length := eb ▸ hj
    have hy1 := List.getElem?_eq_getElem (l := ys) (i := j) hjy
    obtain ⟨ty, gy⟩ := hib.get _ _ hy1
    rw [gy] at hv
    obtain rfl := Option.some.inj hv
    have dy := hy.dig.get hy1
    have hz1 := List.getElem?_eq_getElem (l := us) (i := p + j) (by (first | lia | omega))
    obtain ⟨tz, gz⟩ := hvs.get _ _ hz1
    have dz := hud.get hz1
    have eij : ((p : Int) + (j : Int)).toNat = p + j := by (first | lia | omega)
    have hq : (cy + (us[p + j] + ys[j])) / 2 ^ W < 2 := Int.ediv_lt_of_lt_mul (by (first | lia | omega)) (by (first | lia | omega))
    walk_at "ms"
    refine T_item (by walk_at "mem") (by (first | lia | omega)) (by (first | lia | omega)) (by rw [eij]; exact gz) ?_
    walk_at "ms"
    refine T_mask (n := W) rfl (by (first | lia | omega)) ?_; intro _
    walk_at "ms"
    refine T_set (by (first | lia | omega)) (by (first | lia | omega)) (by (first | lia | omega)) ?_
    rw [eij]
    walk_at "ms"
    refine T_ishr (by (first | lia | omega)) ?_; intro _
    walk_at "ms"
    rw [Int.toNat_natCast]
    walk_at "out"
    refine mk4 _ _ (us.set (p + j) ((cy + (us[p + j] + ys[j])) % 2 ^ W)) ((cy + (us[p + j] + ys[j])) / 2 ^ W) ⟨rfl, ints_set hvs _, by walk_at "lk", by walk_at "lk", ⟨_, by walk_at "lk"⟩, ⟨_, by walk_at "lk"⟩, ⟨_, by walk_at "lk"⟩, ⟨_, by walk_at "lk"⟩, by simp [hul], hud.set (emod_dig (by (first | lia | omega)) _), Int.ediv_nonneg (by (first | lia | omega)) (by (first | lia | omega)), by (first | lia | omega), fun j' h1 => ?_, ?_⟩
    · rw [List.getElem?_set_ne (by (first | lia | omega))]; exact hsame j' (by (first | lia | omega))
    · rw [val_set hz1, val_take_succ hy1, ← Nat.add_assoc, Int.pow_succ]
      rw [Int.pow_add] at hval ⊢
      have := Int.mul_ediv_add_emod (cy + (us[p + j] + ys[j])) (2 ^ W)
      clear hq
      generalize (cy + (us[p + j] + ys[j])) / 2 ^ W = q at *
      generalize (cy + (us[p + j] + ys[j])) % 2 ^ W = r at *
      generalize ((2 : Int) ^ W) ^ p = p1 at *
      generalize ((2 : Int) ^ W) ^ j = p2 at *
      generalize us[p + j] = z1 at *
      generalize ys[j] = y1 at *
      generalize (2 : Int) ^ W = b at *
      generalize val b us = z at *
      generalize val b zs = f at *
      generalize val b (ys.take j) = g at *
      have h2 : p1 * p2 * (b * q + r) = p1 * p2 * (cy + (z1 + y1)) := by rw [this]
      grind
  intro m2 μ2 ν2 hs2 z3J
  refine ex4 z3J fun vs c us cy z3r0 => ?_
  clear z3J
  refine an8 z3r0 fun z3e4 hvs gb gr z3p8 z3p9 z3p10 z3r1 => ?_
  clear z3r0
  refine an7 z3r1 fun z3p11 hul hud hc0 hc1 hsame hval => ?_
  clear z3r1
  subst z3e4
  obtain ⟨t1, gw⟩ := z3p8
  obtain ⟨t2, ga⟩ := z3p9
  obtain ⟨t3, gm⟩ := z3p10
  obtain ⟨t5, gc⟩ := z3p11
  have evs := hvs.length
  rw [eb, take_all (Nat.le_refl ys.length), hy.eq] at hval
  have hz1 := List.getElem?_eq_getElem (l := us) (i := p + ys.length) (by (first | lia | omega))
  obtain ⟨tz, gz⟩ := hvs.get _ _ hz1
  have dz := hud.get hz1
  have eij : ((p : Int) + (ub.length : Int)).toNat = p + ys.length := by (first | lia | omega)
  have hq : (us[p + ys.length] + cy) / 2 ^ W < 2 := Int.ediv_lt_of_lt_mul (by (first | lia | omega)) (by (first | lia | omega))
  have hq0 : 0 ≤ (us[p + ys.length] + cy) / 2 ^ W := Int.ediv_nonneg (by (first | lia | omega)) (by (first | lia | omega))
  walk_at "ms"
  refine T_len (by walk_at "mem") (by (first | lia | omega)) ?_; intro _
  walk_at "ms"
  refine T_item (by walk_at "mem") (by (first | lia | omega)) (by (first | lia | omega)) (by rw [eij]; exact gz) ?_
  walk_at "ms"
  refine T_mask (n := W) rfl (by (first | lia | omega)) ?_; intro _
  walk_at "ms"
  refine T_len (by walk_at "mem") (by (first | lia | omega)) ?_; intro _
  walk_at "ms"
  refine T_set (by (first | lia | omega)) (by (first | lia | omega)) (by (first | lia | omega)) ?_
  rw [eij]
  walk_at "ms"
  walk_at "out"
  refine ⟨rfl, rfl, mk4 ((us[p + ys.length] + cy) / 2 ^ W) _ _ (us.set (p + ys.length) ((us[p + ys.length] + cy) % 2 ^ W)) ⟨rfl, ints_set hvs _, by simp [hul], hud.set (emod_dig (by (first | lia | omega)) _), by (first | lia | omega), fun j' h1 => ?_, ?_⟩⟩
  · rw [List.getElem?_set_ne (by (first | lia | omega))]; exact hsame j' (by (first | lia | omega))
  · rw [val_set hz1, Int.pow_succ]
    have := Int.mul_ediv_add_emod (us[p + ys.length] + cy) (2 ^ W)
    clear hq hq0
    generalize (us[p + ys.length] + cy) / 2 ^ W = q at *
    generalize (us[p + ys.length] + cy) % 2 ^ W = r at *
    generalize ((2 : Int) ^ W) ^ (p + ys.length) = p2 at *
    generalize ((2 : Int) ^ W) ^ p = p1 at *
    generalize us[p + ys.length] = z1 at *
    generalize val _ us = z at *
    generalize val _ zs = f at *
    generalize (2 : Int) ^ W = b at *
    have h2 : p2 * (b * q + r) = p2 * (z1 + cy) := by rw [this]
    grind

end
section
variable {w : World} {mean : ExcName → Option Value} {mg mb : Loc} {k : Nat} {ν : Led}
theorem c_divide_rows {W : Nat} (hW : 6 ≤ W ∧ W ≤ 10) {lr : Addr} {vs : List Value} {c : Nat} {vb : Value} {s : Nat} {tw : Tok} {zs ys : List Int} {y : Int} (hvs : IntsAre vs zs) (hd : Dig (2 ^ W) zs) (hb : Rep ν (L ys) vb) (hy : Nm (2 ^ W) ys y) (hs : ys.length = s + 2) (hl : s + 2 ≤ zs.length) (zz : zs.length ≤ 10000) (hV0 : val (2 ^ W) zs < y * (2 ^ W) ^ (zs.length - (s + 2))) (e fe : Env) (m : Loc) :
    T (cx w mean mg mb) (k + 2) e fe (call (.ref 282) [.ref lr, vb, .int W tw]) m [(lr, lo vs c)] ν (fun v m' μ' ν' => m' = m ∧ ∃ qs vs' c' zs', Rep ν' (L qs) v ∧ μ' = [(lr, lo vs' c')] ∧ IntsAre vs' zs' ∧ zs'.length = zs.length ∧ qs.length ≤ zs.length ∧ Dig (2 ^ W) zs' ∧ Dig (2 ^ W) qs ∧ val (2 ^ W) qs = val (2 ^ W) zs / y ∧ val (2 ^ W) zs' = val (2 ^ W) zs % y) := by
  have hB : (2 : Int) ≤ 2 ^ W := by have := pow_le_pow (B := 2) (by decide) hW.1; (first | lia | omega)
  have hB2 : (2 : Int) ^ W ≤ 1024 := by have := pow_le_pow (B := 2) (by decide) hW.2; (first | lia | omega)
  have hrb := hb
  obtain ⟨lb, ub, nb, rfl, hmb, hib⟩ := rep_L.mp hb
  have eb := hib.length
  have ez := hvs.length
  obtain ⟨n, hn⟩ : ∃ n, zs.length = n + (s + 2) := ⟨zs.length - (s + 2), by (first | lia | omega)⟩
  rw [show zs.length - (s + 2) = n by (first | lia | omega)] at hV0
  have ha1 := List.getElem?_eq_getElem (l := ys) (i := s + 1) (by (first | lia | omega))
  have hb1 := List.getElem?_eq_getElem (l := ys) (i := s) (by (first | lia | omega))
  obtain ⟨ta, ga1⟩ := hib.get _ _ ha1
  obtain ⟨tb, gb1⟩ := hib.get _ _ hb1
  have da := hy.dig.get ha1
  have db := hy.dig.get hb1
  have hyne : ys ≠ [] := by intro h; rw [h] at hs; simp at hs
  have hy0 := hy.pos (by (first | lia | omega)) hyne
  have hfirst : 1 ≤ ys[s + 1] := by
    have := hy.top hyne
    rw [List.getLast_eq_getElem] at this
    simp only [hs] at this
    have h2 : ys[s + 1] ≠ 0 := this
    (first | lia | omega)
  have htop := top2 (by (first | lia | omega)) hy hs ha1 hb1
  have hylt := hy.lt (by (first | lia | omega))
  rw [hs] at hylt
  refine T_def (binds := [(PySem.Str.ofString "rest", .ref lr), (PySem.Str.ofString "b", .ref lb), (PySem.Str.ofString "w", .int W tw)]) (by walk_at "kis") (by walk_at "kis") (fun s => BindsTo.of_eq rfl) (locs rfl) rfl rfl rfl (by decide) fun L' Qd hQd => ?_
  walk_at "ms"
  refine T_len (by walk_at "mem") (by (first | lia | omega)) ?_; intro _
  walk_at "ms"
  refine T_newList (Nat.le_of_ble_eq_true rfl) fun l0 hl0 => ?_
  walk_at "ms"
  refine T_len (by walk_at "mem") (by (first | lia | omega)) ?_; intro _
  walk_at "ms"
  refine T_mulListM (by walk_at "mem") (by (first | lia | omega)) (by (first | lia | omega)) fun lq hlq => ?_
  walk_at "ms"
  refine T_forRange (a := (vs.length : Int) - ub.length - 1) (b := -1) (c := -1) (n := n) (fun i m1 μ1 ν1 => ∃ qv c1 rv c2 qs us, μ1 = [(lq, lo qv c1), (lr, lo rv c2)] ∧ IntsAre qv qs ∧ IntsAre rv us ∧ m1 (PySem.Str.ofString "rest") = some (.ref lr) ∧ m1 (PySem.Str.ofString "b") = some (.ref lb) ∧ (∃ t, m1 (PySem.Str.ofString "w") = some (.int W t)) ∧ (∃ t, m1 (PySem.Str.ofString "size") = some (.int ub.length t)) ∧
    m1 (PySem.Str.ofString "quotient") = some (.ref lq) ∧ qs.length = n ∧ us.length = zs.length ∧ Dig (2 ^ W) qs ∧ Dig (2 ^ W) us ∧ (∀ j, j + i < n → qs[j]? = some 0) ∧ y * val (2 ^ W) qs + val (2 ^ W) us = val (2 ^ W) zs ∧ val (2 ^ W) us < y * (2 ^ W) ^ (n - i))
    rfl (small_down (by (first | lia | omega)) (by (first | lia | omega)) (by (first | lia | omega)) (by (first | lia | omega))) (by rw [size_down]; (first | lia | omega)) ?_ ?_ ?_
  · refine T_hide fun _ _ => ?_
    walk_at "ms"
    refine T_len (by walk_at "mem") (by (first | lia | omega)) ?_; intro _
    walk_at "ms"
    refine T_range3 fun r t u v => ?_
    walk_at "out"
    refine mk4 r t u v ⟨rfl, List.mem_cons_self, mk6 _ _ _ _ (List.replicate n 0) zs ⟨rfl, ?_, hvs, by walk_at "lk", by walk_at "lk", ⟨_, by walk_at "lk"⟩, ⟨_, by walk_at "lk"⟩, by walk_at "lk", by simp, rfl, .rep (by (first | lia | omega)), hd, fun j hj => ?_, by rw [val_rep]; simp, by simpa using hV0⟩⟩
    · rw [show ((vs.length : Int) - (ub.length : Int)).toNat = n by (first | lia | omega)]; exact ints_rep _ _ _
    · rw [List.getElem?_replicate, if_pos (by (first | lia | omega))]
  · intro i t m2 μ2 ν2 hi hs2 Qt0 hQt0 z0J
    refine ex6 z0J fun qv c1 rv c2 qs us z0r0 => ?_
    clear z0J
    refine an8 z0r0 fun z0e6 hqv hrv gr gb z0p11 z0p12 z0r1 => ?_
    clear z0r0
    refine an8 z0r1 fun gq hql hul hqd hud hq0 hval hlt => ?_
    clear z0r1
    subst z0e6
    obtain ⟨t1, gw⟩ := z0p11
    obtain ⟨t2, gs⟩ := z0p12
    have eqv := hqv.length
    have erv := hrv.length
    obtain ⟨p, hp⟩ : ∃ p, n - i = p + 1 := ⟨n - 1 - i, by (first | lia | omega)⟩
    rw [hp] at hlt
    have epi : (vs.length : Int) - ub.length - 1 + (i : Int) * -1 = (p : Int) := by (first | lia | omega)
    rw [epi]
    have hk : val (2 ^ W) us < (2 ^ W) ^ (p + (s + 2) + 1) := by
      have h1 : y * (2 ^ W) ^ (p + 1) < (2 ^ W) ^ (s + 2) * (2 ^ W) ^ (p + 1) := Int.mul_lt_mul_of_pos_right hylt (pow_pos' (by (first | lia | omega)) _)
      rw [← Int.pow_add, show s + 2 + (p + 1) = p + (s + 2) + 1 by (first | lia | omega)] at h1; (first | lia | omega)
    have hhi := hi_zero (by (first | lia | omega)) hud (k := p + (s + 2) + 1) (by (first | lia | omega)) hk
    have z0 := List.getElem?_eq_getElem (l := us) (i := p + s) (by (first | lia | omega))
    have z1 := List.getElem?_eq_getElem (l := us) (i := p + s + 1) (by (first | lia | omega))
    have z2 := List.getElem?_eq_getElem (l := us) (i := p + s + 2) (by (first | lia | omega))
    have htop3 := top3 (by (first | lia | omega)) hud z0 z1 z2 hhi
    have dz0 := hud.get z0
    have dz1 := hud.get z1
    have dz2 := hud.get z2
    have hpp := pow_pos' (B := 2 ^ W) (by (first | lia | omega)) p
    have hps := pow_pos' (B := 2 ^ W) (by (first | lia | omega)) s
    have next : ∀ (q V' : Int), V' = val (2 ^ W) us - q * (y * (2 ^ W) ^ p) → 0 ≤ q → q < 2 ^ W → V' < y * (2 ^ W) ^ p → ∀ (us' : List Int) (rv' : List Value) (c' c1' : Nat) (qv' : List Value) (m3 : Loc), IntsAre qv' (qs.set p q) → IntsAre rv' us' → us'.length = zs.length → Dig (2 ^ W) us' → val (2 ^ W) us' = V' →
        m3 (PySem.Str.ofString "rest") = some (.ref lr) → m3 (PySem.Str.ofString "b") = some (.ref lb) → (∃ t, m3 (PySem.Str.ofString "w") = some (.int W t)) → (∃ t, m3 (PySem.Str.ofString "size") = some (.int ub.length t)) → m3 (PySem.Str.ofString "quotient") = some (.ref lq) →
        ∃ qv c1 rv c2 qs us, [(lq, lo qv' c1'), (lr, lo rv' c')] = [(lq, lo qv c1), (lr, lo rv c2)] ∧ IntsAre qv qs ∧ IntsAre rv us ∧ m3 (PySem.Str.ofString "rest") = some (.ref lr) ∧ m3 (PySem.Str.ofString "b") = some (.ref lb) ∧ (∃ t, m3 (PySem.Str.ofString "w") = some (.int W t)) ∧ (∃ t, m3 (PySem.Str.ofString "size") = some (.int ub.length t)) ∧
          m3 (PySem.Str.ofString "quotient") = some (.ref lq) ∧ qs.length = n ∧ us.length = zs.length ∧ Dig (2 ^ W) qs ∧ Dig (2 ^ W) us ∧ (∀ j, j + (i + 1) < n → qs[j]? = some 0) ∧ y * val (2 ^ W) qs + val (2 ^ W) us = val (2 ^ W) zs ∧ val (2 ^ W) us < y * (2 ^ W) ^ (n - (i + 1)) := by
      intro q V' hV' q0 q1 hVlt us' rv' c' c1' qv' m3 hqv' hrv' hul' hud' hvu gr gb gw gs gq
      have hz1 := hq0 p (by (first | lia | omega))
      walk_at "out"
      refine mk6 qv' c1' rv' c' (qs.set p q) us' ⟨rfl, hqv', hrv', gr, gb, gw, gs, gq, by simp [hql], hul', hqd.set ⟨q0, q1⟩, hud', fun j hj => ?_, ?_, ?_⟩
      · rw [List.getElem?_set_ne (by (first | lia | omega))]; exact hq0 j (by (first | lia | omega))
      · rw [val_set hz1, hvu, hV', ← hval]; grind
      · rw [hvu, show n - (i + 1) = p by (first | lia | omega)]; exact hVlt
    walk_at "ms"
    walk_at "out"
    refine mk5 lr rv _ (some ((p : Int) + ub.length - 2)) (some ((p : Int) + ub.length + 1)) ⟨rfl, by walk_at "mem", .int _ _, .int _ _, by simp only [sizeLine]; (first | lia | omega), fun l' hl' => ?_⟩
    walk_at "ms"
    refine T_item (by walk_at "mem") (by (first | lia | omega)) (by (first | lia | omega)) (by rw [show ((ub.length : Int) - 1).toNat = s + 1 by (first | lia | omega)]; exact ga1) ?_
    walk_at "ms"
    refine T_item (by walk_at "mem") (by (first | lia | omega)) (by (first | lia | omega)) (by rw [show ((ub.length : Int) - 2).toNat = s by (first | lia | omega)]; exact gb1) ?_
    walk_at "ms"
    have hsl : IntsAre (slicePick rv.toArray (some ((p : Int) + ub.length - 2)) (some ((p : Int) + ub.length + 1)) none).toList [us[p + s], us[p + s + 1], us[p + s + 2]] := by
      have := kmk_run hrv (x := (p : Int) + ub.length - 2) (y := (p : Int) + ub.length + 1) (by (first | lia | omega)) (by (first | lia | omega))
      rw [show ((p : Int) + ub.length - 2).toNat = p + s by (first | lia | omega), show min ((p : Int) + ub.length + 1).toNat us.length - (p + s) = 3 by (first | lia | omega), drop3 z0 z1 z2] at this
      exact this
    refine T_fn (c_guessed_limb hW (rep_L.mpr ⟨_, _, _, rfl, by walk_at "mem", hsl⟩) dz0 dz1 dz2 ⟨hfirst, da.2⟩ db) fun v d ν' hs3 hd' hr' => ?_
    obtain ⟨q, rfl, q0, q1, hqD, hqM⟩ := hd'
    obtain ⟨tq, rfl⟩ := rep_int.mp hr'
    clear hr' hsl
    have hH2 := htop3.2
    rw [Int.pow_add] at hH2
    have hH1 := htop3.1
    rw [Int.pow_add] at hH1
    have hVhi : val (2 ^ W) us < (q + 1) * (y * (2 ^ W) ^ p) := row_hi hps hpp hy0 htop.1 q0 hH2 (by rw [Int.pow_succ] at hlt; exact hlt) hqM
    have hDq : q ≤ ys[s + 1] * 2 ^ W + ys[s] + 1 := by
      have := Int.mul_le_mul_of_nonneg_right (c := 2 ^ W) hfirst (by (first | lia | omega))
      (first | lia | omega)
    have hVlo : 1 ≤ q → (q - 1) * (y * (2 ^ W) ^ p) ≤ val (2 ^ W) us := fun h => row_lo hps hpp htop.2 h hDq hqD hH1
    walk_at "ms"
    have hun := val_nonneg (by (first | lia | omega)) hud
    have eyp : ∀ a : Int, a * y * (2 ^ W) ^ p = a * (y * (2 ^ W) ^ p) := fun a => Int.mul_assoc _ _ _
    refine T_swap (T_part (μc := [(lr, _)]) (μr := [(lq, _)]) (c_take_away (k := k) (zs := us) (ys := ys) (y := y) hW hrv hud (rep_L.mpr ⟨lb, ub, nb, rfl, by walk_at "mem", hib⟩) hy ⟨q0, q1⟩ (by (first | lia | omega)) (by (first | lia | omega)) _ _ _) ?_)
    intro v m3 μ3 ν3 hs4 z1J
    obtain ⟨z1e0, z1r0⟩ := z1J
    refine ex5 z1r0 fun r tr rv1 c3 us1 z1r1 => ?_
    clear z1r0
    refine an8 z1r1 fun z1e6 z1e7 hrv1 hul1 hud1 hr01 hsame1 hval1 => ?_
    clear z1r1
    subst z1e0
    subst z1e6
    subst z1e7
    have hlt1 := lo_lt (by (first | lia | omega)) hud1 (k := p + (s + 2) + 1) (by (first | lia | omega)) (fun j hj => hsame1 j (by (first | lia | omega))) hhi
    have hun1 := val_nonneg (by (first | lia | omega)) hud1
    rw [hs, eyp] at hval1
    simp only [List.cons_append, List.nil_append]
    walk_at "ms"
    refine T_if (fun hb => ?_) (fun hb => ?_)
    · have hr1 := of_decide_eq_true hb
      subst hr1
      rw [Int.one_mul] at hval1
      have hq1' : 1 ≤ q := by
        rcases Int.lt_or_le 0 q with h | h
        · exact h
        · have : q = 0 := by (first | lia | omega)
          subst this; rw [Int.zero_mul] at hval1; (first | lia | omega)
      have hlo := hVlo hq1'
      walk_at "ms"
      refine T_part (μc := [(lr, _)]) (μr := [(lq, _)]) (c_put_back (k := k) (zs := us1) (ys := ys) (y := y) hW hrv1 hud1 (rep_L.mpr ⟨lb, ub, nb, rfl, by walk_at "mem", hib⟩) hy (by (first | lia | omega)) (by (first | lia | omega)) _ _ _) ?_
      intro v m3 μ3 ν4 hs5 z2J
      refine an3 z2J fun z2e0 z2e1 z2r0 => ?_
      clear z2J
      refine ex4 z2r0 fun r rv2 c4 us2 z2r1 => ?_
      clear z2r0
      refine an7 z2r1 fun z2e6 hrv2 hul2 hud2 hr02 hsame2 hval2 => ?_
      clear z2r1
      subst z2e0
      subst z2e1
      subst z2e6
      have hlt2 := lo_lt (by (first | lia | omega)) hud2 (k := p + (s + 2) + 1) (by (first | lia | omega)) (fun j hj => (hsame2 j (by (first | lia | omega))).trans (hsame1 j (by (first | lia | omega)))) hhi
      rw [hs] at hval2
      have e1 : (q - 1) * (y * (2 ^ W) ^ p) = q * (y * (2 ^ W) ^ p) - y * (2 ^ W) ^ p := by rw [Int.sub_mul, Int.one_mul]
      have hr1 : r = 1 := by
        rcases hr02 with h | h
        · subst h; rw [Int.zero_mul] at hval2; (first | lia | omega)
        · exact h
      subst hr1
      rw [Int.one_mul] at hval2
      have e2 : (q + 1) * (y * (2 ^ W) ^ p) = q * (y * (2 ^ W) ^ p) + y * (2 ^ W) ^ p := by rw [Int.add_mul, Int.one_mul]
      simp only [List.cons_append, List.nil_append]
      walk_at "ms"
      refine T_swap (T_set (by (first | lia | omega)) (by (first | lia | omega)) (by (first | lia | omega)) ?_)
      rw [Int.toNat_natCast]
      walk_at "ms"
      refine next (q - 1) (val (2 ^ W) us2) (by (first | lia | omega)) (by (first | lia | omega)) (by (first | lia | omega)) (by (first | lia | omega)) us2 _ _ _ _ _ (ints_set hqv _) hrv2 (by (first | lia | omega)) hud2 rfl (by walk_at "lk") (by walk_at "lk") ⟨_, by walk_at "lk"⟩ ⟨_, by walk_at "lk"⟩ (by walk_at "lk")
    · have hr0 : r = 0 := by have := of_decide_eq_false (Bool.not_eq_true _ ▸ hb); (first | lia | omega)
      subst hr0
      rw [Int.zero_mul] at hval1
      have e2 : (q + 1) * (y * (2 ^ W) ^ p) = q * (y * (2 ^ W) ^ p) + y * (2 ^ W) ^ p := by rw [Int.add_mul, Int.one_mul]
      walk_at "ms"
      refine T_swap (T_set (by (first | lia | omega)) (by (first | lia | omega)) (by (first | lia | omega)) ?_)
      rw [Int.toNat_natCast]
      walk_at "ms"
      exact next q (val (2 ^ W) us1) (by (first | lia | omega)) q0 q1 (by (first | lia | omega)) us1 _ _ _ _ _ (ints_set hqv _) hrv1 (by (first | lia | omega)) hud1 rfl (by walk_at "lk") (by walk_at "lk") ⟨_, by walk_at "lk"⟩ ⟨_, by walk_at "lk"⟩ (by walk_at "lk")
  · intro m2 μ2 ν2 hs2 z3J
    refine ex6 z3J fun qv c1 rv c2 qs us z3r0 => ?_
    clear z3J
    refine an8 z3r0 fun z3e6 hqv hrv gr gb z3p11 z3p12 z3r1 => ?_
    clear z3r0
    refine an8 z3r1 fun gq hql hul hqd hud hq0 hval hlt => ?_
    clear z3r1
    subst z3e6
    obtain ⟨t1, gw⟩ := z3p11
    obtain ⟨t2, gs⟩ := z3p12
    walk_at "m"
    refine T_freeze ?_
    walk_at "ms"
    rw [show n - n = 0 by (first | lia | omega), Int.pow_zero, Int.mul_one] at hlt
    have hun := val_nonneg (by (first | lia | omega)) hud
    walk_at "out"
    refine ⟨rfl, mk4 qs _ _ us ⟨rep_L.mpr ⟨_, _, _, rfl, List.mem_cons_self, hqv⟩, rfl, hrv, hul, by (first | lia | omega), hud, hqd, ?_, ?_⟩⟩
    · rw [← hval, Int.mul_add_ediv_left _ _ (by (first | lia | omega)), Int.ediv_eq_zero_of_lt hun hlt, Int.add_zero]
    · rw [← hval, Int.mul_add_emod_self_left, Int.emod_eq_of_lt hun hlt]

end
section
variable {w : World} {mean : ExcName → Option Value} {mg mb : Loc} {k : Nat} {ν : Led}
theorem c_divrem_small {W : Nat} (hW : 6 ≤ W ∧ W ≤ 10) {va vb : Value} {tw : Tok} {xs ys : List Int} {x y : Int} (ha : Rep ν (L xs) va) (hb : Rep ν (L ys) vb) (hx : Nm (2 ^ W) xs x) (hy : Nm (2 ^ W) ys y) (zx : xs.length ≤ 10000) (ly : ys.length = 1) :
    Fn (cx w mean mg mb) (k + 3) 254 [va, vb, .int W tw] ν (fun d => ∃ qs rs, d = .tup [L qs, L rs] ∧ Nm (2 ^ W) qs (x / y) ∧ Nm (2 ^ W) rs (x % y)) := by
  intro e fe m
  have hB : (2 : Int) ≤ 2 ^ W := by have := pow_le_pow (B := 2) (by decide) hW.1; (first | lia | omega)
  obtain ⟨b0, rfl⟩ := List.length_eq_one_iff.mp ly
  have hyb : y = b0 := by have := hy.eq; simp [val] at this; (first | lia | omega)
  subst hyb
  have hy1 := hy.dig.get (i := 0) rfl
  have hy0 := hy.pos (by (first | lia | omega)) (by simp)
  have hra := ha
  obtain ⟨la, ua, na, rfl, hma, hia⟩ := rep_L.mp ha
  obtain ⟨lb, ub, nb, rfl, hmb, hib⟩ := rep_L.mp hb
  obtain ⟨tb, gb⟩ := hib.get 0 _ rfl
  refine T_def (binds := [(PySem.Str.ofString "a", .ref la), (PySem.Str.ofString "b", .ref lb), (PySem.Str.ofString "w", .int W tw)]) (by walk_at "kis") (by walk_at "kis") (fun s => BindsTo.of_eq rfl) (locs rfl) rfl rfl rfl (by decide) fun L' Qd hQd => ?_
  walk_at "ms"
  refine T_item (by walk_at "mem") (by decide) (by decide) gb ?_
  walk_at "ms"
  refine T_fn (c_divrem_limb hW hra hx zx hy0 hy1.2) fun v d ν' hs3 hd' hr' => ?_
  obtain ⟨qs, rfl, hq⟩ := hd'
  obtain ⟨lt, nt, vq, vr, rfl, hmt, hrq, hrr⟩ := rep_tup2.mp hr'
  obtain ⟨tr, rfl⟩ := rep_int.mp hrr
  have hr0 := Int.emod_nonneg x (b := y) (by (first | lia | omega))
  have hr1 := Int.emod_lt_of_pos x hy0
  walk_at "ms"
  refine T_if (fun hb => ?_) (fun hb => ?_)
  · have hpos := of_decide_eq_true hb
    walk_at "ms"
    refine T_newList (Nat.le_of_ble_eq_true rfl) fun l0 hl0 => ?_
    walk_at "ms"
    walk_at "out"
    exact ⟨rfl, rfl, _, ⟨qs, [x % y], rfl, hq, ⟨by simp [Dig]; (first | lia | omega), by simp; (first | lia | omega), by simp [val]⟩⟩, rep_tup2.mpr ⟨_, _, _, _, rfl, List.mem_cons_self, hrq.mono (.cons (.cons .refl)), rep_L.mpr ⟨_, _, _, rfl, by walk_at "mem", .cons _ _ .nil⟩⟩⟩
  · have hz : x % y = 0 := by have := of_decide_eq_false (Bool.not_eq_true _ ▸ hb); (first | lia | omega)
    walk_at "ms"
    refine T_newList (Nat.le_of_ble_eq_true rfl) fun l0 hl0 => ?_
    walk_at "ms"
    walk_at "out"
    exact ⟨rfl, rfl, _, ⟨qs, [], rfl, hq, by rw [hz]; exact .nil⟩, rep_tup2.mpr ⟨_, _, _, _, rfl, List.mem_cons_self, hrq.mono (.cons (.cons .refl)), rep_L.mpr ⟨_, _, _, rfl, by walk_at "mem", .nil⟩⟩⟩

end
section
variable {w : World} {mean : ExcName → Option Value} {mg mb : Loc} {k : Nat} {ν : Led}
theorem c_divrem_school {W : Nat} (hW : 6 ≤ W ∧ W ≤ 10) {va vb : Value} {tw : Tok} {xs ys : List Int} {x y : Int} (ha : Rep ν (L xs) va) (hb : Rep ν (L ys) vb) (hx : Nm (2 ^ W) xs x) (hy : Nm (2 ^ W) ys y) (zx : xs.length ≤ 4000) (zy : ys.length ≤ 4000) (hy0 : 0 < y) :
    Fn (cx w mean mg mb) (k + 4) 289 [va, vb, .int W tw] ν (fun d => ∃ qs rs, d = .tup [L qs, L rs] ∧ Nm (2 ^ W) qs (x / y) ∧ Nm (2 ^ W) rs (x % y)) := by
  intro e fe m
  have hB : (2 : Int) ≤ 2 ^ W := by have := pow_le_pow (B := 2) (by decide) hW.1; (first | lia | omega)
  have hB2 : (2 : Int) ^ W ≤ 1024 := by have := pow_le_pow (B := 2) (by decide) hW.2; (first | lia | omega)
  have hx0 := hx.nonneg (by (first | lia | omega))
  have hyne : ys ≠ [] := fun h => by have := (hy.nil_iff (by (first | lia | omega))).mp h; (first | lia | omega)
  obtain ⟨s, hs⟩ : ∃ s, ys.length = s + 1 := ⟨ys.length - 1, by have : ys.length ≠ 0 := fun h => hyne (List.eq_nil_of_length_eq_zero h); (first | lia | omega)⟩
  have hra := ha
  have hrb := hb
  obtain ⟨la, ua, na, rfl, hma, hia⟩ := rep_L.mp ha
  obtain ⟨lb, ub, nb, rfl, hmb, hib⟩ := rep_L.mp hb
  have ea := hia.length
  have eb := hib.length
  refine T_def (binds := [(PySem.Str.ofString "a", .ref la), (PySem.Str.ofString "b", .ref lb), (PySem.Str.ofString "w", .int W tw)]) (by walk_at "kis") (by walk_at "kis") (fun s => BindsTo.of_eq rfl) (locs rfl) rfl rfl rfl (by decide) fun L' Qd hQd => ?_
  walk_at "ms"
  refine T_len (by walk_at "mem") (by (first | lia | omega)) ?_; intro _
  walk_at "ms"
  refine T_if (fun hb => absurd (of_decide_eq_true hb) (by (first | lia | omega))) fun _ => ?_
  walk_at "ms"
  refine T_fn (c_compare (by (first | lia | omega)) hra hrb hx hy (by (first | lia | omega)) (by (first | lia | omega))) fun v d ν' hs3 hd' hr' => ?_
  obtain ⟨cc, rfl, hcc⟩ := hd'
  obtain ⟨tc, rfl⟩ := rep_int.mp hr'
  clear hr'
  walk_at "ms"
  refine T_if (fun hb => ?_) (fun hb => ?_)
  · have hneg := of_decide_eq_true hb
    have hlt : x < y := by (first | lia | omega)
    walk_at "ms"
    refine T_newList (Nat.le_of_ble_eq_true rfl) fun l0 hl0 => ?_
    walk_at "ms"
    walk_at "out"
    refine mk5 la ua na none none ⟨rfl, by walk_at "mem", .none, .none, by simp only [sizeLine]; (first | lia | omega), fun l' hl' => ?_⟩
    walk_at "ms"
    walk_at "out"
    exact ⟨rfl, rfl, _, ⟨[], xs, rfl, by rw [Int.ediv_eq_zero_of_lt hx0 hlt]; exact .nil, by rw [Int.emod_eq_of_lt hx0 hlt]; exact hx⟩, rep_tup2.mpr ⟨_, _, _, _, rfl, List.mem_cons_self, rep_L.mpr ⟨_, _, _, rfl, by walk_at "mem", .nil⟩, rep_L.mpr ⟨_, _, _, rfl, by walk_at "mem", kmk_all hia⟩⟩⟩
  have hle : y ≤ x := by have := of_decide_eq_false (Bool.not_eq_true _ ▸ hb); (first | lia | omega)
  have hlen : ys.length ≤ xs.length := by
    rcases Nat.lt_or_ge xs.length ys.length with h | h
    · have := nm_len_lt (by (first | lia | omega)) hx hy h; (first | lia | omega)
    · exact h
  walk_at "ms"
  refine T_len (by walk_at "mem") (by (first | lia | omega)) ?_; intro _
  walk_at "ms"
  refine T_if (fun hb => ?_) (fun hb => ?_)
  · have h1 := of_decide_eq_true hb
    walk_at "ms"
    refine T_fn (c_divrem_small hW (hra.mono (by assumption)) (hrb.mono (by assumption)) hx hy (by (first | lia | omega)) (by (first | lia | omega))) fun v d ν' hs3 hd' hr' => ?_
    walk_at "out"
    exact ⟨rfl, rfl, _, hd', hr'⟩
  have h1 := of_decide_eq_false (Bool.not_eq_true _ ▸ hb)
  obtain ⟨s', rfl⟩ : ∃ s', s = s' + 1 := ⟨s - 1, by (first | lia | omega)⟩
  have ht := List.getElem?_eq_getElem (l := ys) (i := s' + 1) (by (first | lia | omega))
  obtain ⟨tt, gt⟩ := hib.get _ _ ht
  have dt := hy.dig.get ht
  have htop : ys[s' + 1] ≠ 0 := by
    have := hy.top hyne
    rw [List.getLast_eq_getElem] at this
    simp only [hs] at this
    exact this
  have hyge := hy.ge (by (first | lia | omega)) hyne
  have hylt := top1 (by (first | lia | omega)) hy hs ht
  rw [show ys.length - 1 = s' + 1 by (first | lia | omega)] at hyge
  generalize ys[s' + 1] = top at *
  walk_at "ms"
  refine T_itemNeg (by walk_at "mem") (by decide) (by (first | lia | omega)) (by decide) (by rw [show ((-1 : Int) + ub.length).toNat = s' + 1 by (first | lia | omega)]; exact gt) ?_
  walk_at "ms"
  refine T_newList (Nat.le_of_ble_eq_true rfl) fun l0 hl0 => ?_
  walk_at "ms"
  refine T_fn (c_bits hW.2 (rep_L.mpr ⟨_, _, _, rfl, by walk_at "mem", .cons top _ .nil⟩)) fun v d ν'' hs4 hd' hr' => ?_
  subst hd'
  obtain ⟨ti, rfl⟩ := rep_int.mp hr'
  clear hr'
  have hiW : Builtin.Int.intBits top ≤ W := intBits_le_iff.mpr (natAbs_lt dt.1 dt.2)
  have hti : top < 2 ^ Builtin.Int.intBits top := by
    have : (top.natAbs : Int) < ((2 ^ Builtin.Int.intBits top : Nat) : Int) := by exact_mod_cast intBits_le_iff.mp (Nat.le_refl _)
    push_cast at this; (first | lia | omega)
  have hi1 : 1 ≤ Builtin.Int.intBits top := by
    rcases Nat.eq_zero_or_pos (Builtin.Int.intBits top) with h | h
    · rw [h] at hti; simp at hti; (first | lia | omega)
    · exact h
  generalize Builtin.Int.intBits top = ib at *
  walk_at "ms"
  obtain ⟨N, hN⟩ : ∃ N, W = N + ib := ⟨W - ib, by (first | lia | omega)⟩
  rw [show (W : Int) - (ib : Int) = (N : Int) by (first | lia | omega)]
  have h2N : (0 : Int) < 2 ^ N := Int.pow_pos (by decide)
  have hBN : (2 : Int) ^ W = 2 ^ N * 2 ^ ib := by rw [hN, Int.pow_add]
  walk_at "ms"
  refine T_fn (c_shift_left (N := N) (xs := ys) (x := y) hW (rep_L.mpr ⟨lb, ub, nb, rfl, by walk_at "mem", hib⟩) hy (by (first | lia | omega)) (by (first | lia | omega))) fun v d ν3 hs5 hd' hrd => ?_
  obtain ⟨ds, rfl, hds⟩ := hd'
  obtain ⟨ld, ud, nd, rfl, hmd, hid⟩ := rep_L.mp hrd
  walk_at "ms"
  refine T_fn (c_shift_left (N := N) (xs := xs) (x := x) hW (rep_L.mpr ⟨la, ua, na, rfl, by walk_at "mem", hia⟩) hx (by (first | lia | omega)) (by (first | lia | omega))) fun v d ν4 hs6 hd' hrr => ?_
  obtain ⟨rs, rfl, hrs⟩ := hd'
  have hpow : ∀ l : Nat, (0 : Int) < (2 ^ W) ^ l := fun l => pow_pos' (by (first | lia | omega)) l
  have hdlen : ds.length = s' + 2 := by
    refine hds.len_eq hB (Int.le_trans hyge ?_) ?_
    · exact mul_pos_ge hy0 h2N
    · have h2 : y * 2 ^ N < (top + 1) * (2 ^ W) ^ (s' + 1) * 2 ^ N := Int.mul_lt_mul_of_pos_right hylt h2N
      have h3 : (top + 1) * ((2 ^ W) ^ (s' + 1) * 2 ^ N) ≤ 2 ^ ib * ((2 ^ W) ^ (s' + 1) * 2 ^ N) := Int.mul_le_mul_of_nonneg_right (by (first | lia | omega)) (Int.le_of_lt (Int.mul_pos (hpow _) h2N))
      have h4 : (2 : Int) ^ ib * ((2 ^ W) ^ (s' + 1) * 2 ^ N) = (2 ^ W) ^ (s' + 1 + 1) := by
        rw [Int.pow_succ _ (s' + 1)]
        conv => rhs; rhs; rw [hBN]
        generalize ((2 : Int) ^ W) ^ (s' + 1) = p
        generalize (2 : Int) ^ N = p2
        generalize (2 : Int) ^ ib = p3
        grind
      rw [Int.mul_assoc] at h2
      (first | lia | omega)
  have hxl := hx.lt (by (first | lia | omega))
  have hrlen : rs.length ≤ xs.length + 1 := by
    refine hrs.len_le hB ?_
    have h2 : x * 2 ^ N < (2 ^ W) ^ xs.length * 2 ^ N := Int.mul_lt_mul_of_pos_right hxl h2N
    have h3 : ((2 : Int) ^ W) ^ xs.length * 2 ^ N ≤ (2 ^ W) ^ xs.length * 2 ^ W := Int.mul_le_mul_of_nonneg_left (show (2 : Int) ^ N ≤ 2 ^ W by rw [hBN]; exact mul_pos_ge h2N (Int.pow_pos (by decide))) (Int.le_of_lt (hpow _))
    rw [Int.pow_succ]; (first | lia | omega)
  obtain ⟨lr, ur, nr, rfl, hmr, hir⟩ := rep_L.mp hrr
  have er := hir.length
  walk_at "ms"
  refine T_newList (Nat.le_of_ble_eq_true rfl) fun l1 hl1 => ?_
  walk_at "ms"
  refine T_len (by walk_at "mem") (by (first | lia | omega)) ?_; intro _
  walk_at "ms"
  refine T_len (by walk_at "mem") (by (first | lia | omega)) ?_; intro _
  walk_at "ms"
  refine T_mulListM (by walk_at "mem") (by (first | lia | omega)) (by (first | lia | omega)) fun l2 hl2 => ?_
  walk_at "ms"
  refine T_freeze ?_
  refine T_addListsM (by walk_at "mem") (by walk_at "mem") (by simp only [sizeLine, List.length_replicate]; (first | lia | omega)) fun l3 hl3 => ?_
  walk_at "ms"
  have hpad : (2 ^ W : Int) ^ (xs.length + 1 - (s' + 2)) * (2 ^ W) ^ (s' + 1) = (2 ^ W) ^ xs.length := by rw [← Int.pow_add]; congr 1; (first | lia | omega)
  have hvr : val (2 ^ W) (rs ++ List.replicate (xs.length + 1 - rs.length) 0) = x * 2 ^ N := by rw [val_append, val_rep, hrs.eq]; simp
  have hplen : (rs ++ List.replicate (xs.length + 1 - rs.length) 0).length = xs.length + 1 := by simp; (first | lia | omega)
  refine T_part (μc := [(l3, _)]) (μr := []) (c_divide_rows (k := k + 1) (zs := rs ++ List.replicate (xs.length + 1 - rs.length) 0) (ys := ds) (y := y * 2 ^ N) (s := s') hW ?_ (Dig.append.mpr ⟨hrs.dig, .rep (by (first | lia | omega))⟩) (rep_L.mpr ⟨ld, ud, nd, rfl, by walk_at "mem", hid⟩) hds hdlen (by (first | lia | omega)) (by (first | lia | omega)) ?_ _ _ _) ?_
  · refine hir.append ?_
    rw [show ((ua.length : Int) + 1 - (ur.length : Int)).toNat = xs.length + 1 - rs.length by (first | lia | omega)]; exact ints_rep _ _ _
  · rw [hvr, hplen]
    have h1 : x * 2 ^ N < (2 ^ W) ^ xs.length * 2 ^ N := Int.mul_lt_mul_of_pos_right hxl h2N
    rw [← hpad] at h1
    have h2 : (2 ^ W) ^ (s' + 1) * ((2 ^ W) ^ (xs.length + 1 - (s' + 2)) * 2 ^ N) ≤ y * ((2 ^ W) ^ (xs.length + 1 - (s' + 2)) * 2 ^ N) := Int.mul_le_mul_of_nonneg_right hyge (Int.le_of_lt (Int.mul_pos (hpow _) h2N))
    generalize ((2 : Int) ^ W) ^ (xs.length + 1 - (s' + 2)) = p1 at *
    generalize ((2 : Int) ^ W) ^ (s' + 1) = p2 at *
    generalize (2 : Int) ^ N = p3 at *
    have e1 : p2 * (p1 * p3) = p1 * p2 * p3 := by grind
    have e2 : y * (p1 * p3) = y * p3 * p1 := by grind
    (first | lia | omega)
  intro v m3 μ3 ν5 hs7 z0J
  obtain ⟨z0e0, z0r0⟩ := z0J
  refine ex4 z0r0 fun qs vs' c' us z0r1 => ?_
  clear z0r0
  refine an6 z0r1 fun hrq z0e6 hvs' hul hql z0r2 => ?_
  clear z0r1
  refine an4 z0r2 fun hud hqd hvq hvu => ?_
  clear z0r2
  subst z0e0
  subst z0e6
  rw [hvr] at hvq hvu
  rw [hplen] at hul hql
  rw [Int.mul_ediv_mul_of_pos_left _ _ h2N] at hvq
  rw [Int.mul_comm x, Int.mul_comm y, Int.mul_emod_mul_of_pos _ _ h2N, Int.mul_comm] at hvu
  obtain ⟨lq, uq, nq, rfl, hmq, hiq⟩ := rep_L.mp hrq
  simp only [List.cons_append, List.nil_append]
  walk_at "m"
  walk_at "m"
  walk_at "m"
  refine T_freeze ?_
  walk_at "ms"
  refine T_fn (c_normal (xs := qs) (rep_L.mpr ⟨lq, uq, nq, rfl, by walk_at "mem", hiq⟩) (by (first | lia | omega))) fun v d ν6 hs8 hd' hr6 => ?_
  obtain ⟨j1, hj1, rfl⟩ := hd'
  walk_at "ms"
  refine T_fn (c_normal (xs := us) (rep_L.mpr ⟨l3, _, _, rfl, by walk_at "mem", hvs'⟩) (by (first | lia | omega))) fun v d ν7 hs9 hd' hr7 => ?_
  obtain ⟨j2, hj2, rfl⟩ := hd'
  walk_at "ms"
  refine T_fn (c_shift_right (N := N) (xs := us.take j2) (x := x % y * 2 ^ N) hW hr7 (hj2.nm hud hvu) (by have := hj2.le; simp; (first | lia | omega)) (by (first | lia | omega))) fun v d ν8 hs10 hd' hr8 => ?_
  obtain ⟨zs, rfl, hzs⟩ := hd'
  rw [Int.mul_ediv_cancel _ (by (first | lia | omega))] at hzs
  walk_at "ms"
  walk_at "out"
  exact ⟨by first | rfl | trivial, by first | rfl | trivial, _, ⟨qs.take j1, zs, rfl, hj1.nm hqd hvq, hzs⟩, rep_tup2.mpr ⟨_, _, _, _, rfl, List.mem_cons_self, hr6.mono (hs9.trans (hs10.trans (.cons .refl))), hr8.mono (.cons .refl)⟩⟩

end
section
variable {w : World} {mean : ExcName → Option Value} {mg mb : Loc} {k : Nat} {ν : Led}
theorem c_s_mul {W : Nat} (hW : 6 ≤ W ∧ W ≤ 10) {va vb : Value} {tw : Tok} {xs ys : List Int} {x y : Int} (ha : Rep ν (Sg xs) va) (hb : Rep ν (Sg ys) vb) (hx : Nm (2 ^ W) xs x) (hy : Nm (2 ^ W) ys y) (zx : xs.length ≤ 4000) (zy : ys.length ≤ 4000) (zxy : x * y < 2 ^ 9000) :
    Fn (cx w mean mg mb) (k + 3) 142 [va, vb, .int W tw, .ref 247] ν (fun d => ∃ zs, d = Sg zs ∧ Nm (2 ^ W) zs (x * y)) := by
  intro e fe m
  have hB : (2 : Int) ≤ 2 ^ W := by have := pow_le_pow (B := 2) (by decide) hW.1; (first | lia | omega)
  obtain ⟨la, na, qa, rfl, hma, hra⟩ := rep_Sg.mp ha
  obtain ⟨lb, nb, qb, rfl, hmb, hrb⟩ := rep_Sg.mp hb
  refine T_def (binds := [(PySem.Str.ofString "x", .ref la), (PySem.Str.ofString "y", .ref lb), (PySem.Str.ofString "w", .int W tw), (PySem.Str.ofString "mul", .ref 247)]) (by walk_at "kis") (by walk_at "kis") (fun s => BindsTo.of_eq rfl) (locs rfl) rfl rfl rfl (by decide) fun L' Qd hQd => ?_
  walk_at "ms"
  refine T_itemT (by walk_at "mem") (by decide) (by decide) rfl ?_
  walk_at "ms"
  refine T_itemT (by walk_at "mem") (by decide) (by decide) rfl ?_
  walk_at "ms"
  refine T_itemT (by walk_at "mem") (by decide) (by decide) rfl ?_
  walk_at "ms"
  refine T_itemT (by walk_at "mem") (by decide) (by decide) rfl ?_
  walk_at "ms"
  refine T_fn (c_mul_school hW hra hrb hx hy zx zy) fun v d ν' hs3 hd' hr' => ?_
  obtain ⟨zs, rfl, hz⟩ := hd'
  walk_at "ms"
  refine T_fn (c_signed hr' (by have := hz.len hB zxy; (first | lia | omega))) fun v d ν' hs3 hd' hr' => ?_
  subst hd'
  walk_at "out"
  exact ⟨rfl, rfl, _, ⟨zs, rfl, hz⟩, hr'⟩
theorem c_tdiv {W : Nat} (hW : 6 ≤ W ∧ W ≤ 10) {va vb : Value} {tw : Tok} {xs ys : List Int} {x y : Int} (ha : Rep ν (Sg xs) va) (hb : Rep ν (Sg ys) vb) (hx : Nm (2 ^ W) xs x) (hy : Nm (2 ^ W) ys y) (zx : xs.length ≤ 4000) (zy : ys.length ≤ 4000) (hy0 : 0 < y) (bx : x < 2 ^ 4000) (by' : y < 2 ^ 4000) :
    Fn (cx w mean mg mb) (k + 5) 149 [va, vb, .int W tw, .ref 289] ν (fun d => ∃ qs rs, d = .tup [Sg qs, Sg rs] ∧ Nm (2 ^ W) qs (x / y) ∧ Nm (2 ^ W) rs (x % y)) := by
  intro e fe m
  have hB : (2 : Int) ≤ 2 ^ W := by have := pow_le_pow (B := 2) (by decide) hW.1; (first | lia | omega)
  have hyne : ys.length ≠ 0 := fun h => by have := (hy.nil_iff (by (first | lia | omega))).mp (List.eq_nil_of_length_eq_zero h); (first | lia | omega)
  have hx0 := hx.nonneg (by (first | lia | omega))
  obtain ⟨la, na, qa, rfl, hma, hra⟩ := rep_Sg.mp ha
  obtain ⟨lb, nb, qb, rfl, hmb, hrb⟩ := rep_Sg.mp hb
  obtain ⟨l2, v2, n2, rfl, hm2, hi2⟩ := rep_L.mp hrb
  have e2 := hi2.length
  refine T_def (binds := [(PySem.Str.ofString "x", .ref la), (PySem.Str.ofString "y", .ref lb), (PySem.Str.ofString "w", .int W tw), (PySem.Str.ofString "divrem", .ref 289)]) (by walk_at "kis") (by walk_at "kis") (fun s => BindsTo.of_eq rfl) (locs rfl) rfl rfl rfl (by decide) fun L' Qd hQd => ?_
  walk_at "ms"
  refine T_itemT (by walk_at "mem") (by decide) (by decide) rfl ?_
  walk_at "ms"
  refine T_len (by walk_at "mem") (by (first | lia | omega)) ?_; intro _
  walk_at "ms"
  refine T_if (fun hb => absurd (of_decide_eq_true hb) (by (first | lia | omega))) fun _ => ?_
  walk_at "ms"
  refine T_itemT (by walk_at "mem") (by decide) (by decide) rfl ?_
  walk_at "ms"
  refine T_itemT (by walk_at "mem") (by decide) (by decide) rfl ?_
  walk_at "ms"
  refine T_fn (c_divrem_school hW hra hrb hx hy zx zy hy0) fun v d ν' hs3 hd' hr' => ?_
  obtain ⟨qs, rs, rfl, hq, hr⟩ := hd'
  obtain ⟨lt, nt, vq, vr, rfl, hmt, hrq, hrr⟩ := rep_tup2.mp hr'
  have hmod := Int.emod_lt_of_pos x hy0
  have hdiv : x / y ≤ x := Int.ediv_le_self _ hx0
  have lq := hq.len (k := 4000) hB (by (first | lia | omega))
  have lr := hr.len (k := 4000) hB (by (first | lia | omega))
  walk_at "ms"
  refine T_itemT (by walk_at "mem") (by decide) (by decide) rfl ?_
  walk_at "ms"
  refine T_itemT (by walk_at "mem") (by decide) (by decide) rfl ?_
  walk_at "ms"
  refine T_fn (c_signed hrq (by (first | lia | omega))) fun v d ν' hs3 hd' hr1 => ?_
  subst hd'
  walk_at "ms"
  refine T_itemT (by walk_at "mem") (by decide) (by decide) rfl ?_
  walk_at "ms"
  refine T_fn (c_signed (hrr.mono (by assumption)) (by (first | lia | omega))) fun v d ν' hs4 hd' hr2 => ?_
  subst hd'
  walk_at "ms"
  walk_at "out"
  exact ⟨rfl, rfl, _, ⟨qs, rs, rfl, hq, hr⟩, rep_tup2.mpr ⟨_, _, _, _, rfl, List.mem_cons_self, hr1.mono (hs4.trans (.cons .refl)), hr2.mono (.cons .refl)⟩⟩
theorem c_fdiv {W : Nat} (hW : 6 ≤ W ∧ W ≤ 10) {va vb : Value} {tw : Tok} {xs ys : List Int} {x y : Int} (ha : Rep ν (Sg xs) va) (hb : Rep ν (Sg ys) vb) (hx : Nm (2 ^ W) xs x) (hy : Nm (2 ^ W) ys y) (zx : xs.length ≤ 4000) (zy : ys.length ≤ 4000) (hy0 : 0 < y) (bx : x < 2 ^ 4000) (by' : y < 2 ^ 4000) :
    Fn (cx w mean mg mb) (k + 6) 156 [va, vb, .int W tw, .ref 289] ν (fun d => ∃ qs rs, d = .tup [Sg qs, Sg rs] ∧ Nm (2 ^ W) qs (x / y) ∧ Nm (2 ^ W) rs (x % y)) := by
  intro e fe m
  have hB : (2 : Int) ≤ 2 ^ W := by have := pow_le_pow (B := 2) (by decide) hW.1; (first | lia | omega)
  have hra := ha
  have hrb := hb
  have hmod := Int.emod_lt_of_pos x hy0
  obtain ⟨la, na, qa, rfl, hma, -⟩ := rep_Sg.mp ha
  obtain ⟨lb, nb, qb, rfl, hmb, -⟩ := rep_Sg.mp hb
  refine T_def (binds := [(PySem.Str.ofString "x", .ref la), (PySem.Str.ofString "y", .ref lb), (PySem.Str.ofString "w", .int W tw), (PySem.Str.ofString "divrem", .ref 289)]) (by walk_at "kis") (by walk_at "kis") (fun s => BindsTo.of_eq rfl) (locs rfl) rfl rfl rfl (by decide) fun L' Qd hQd => ?_
  walk_at "ms"
  refine T_fn (c_tdiv hW hra hrb hx hy zx zy hy0 bx by') fun v d ν' hs3 hd' hr' => ?_
  obtain ⟨qs, rs, rfl, hq, hr⟩ := hd'
  have lr := hr.len (k := 4000) hB (by (first | lia | omega))
  obtain ⟨lt, nt, vq, vr, rfl, hmt, hrq, hrr⟩ := rep_tup2.mp hr'
  obtain ⟨ls, ns, qs', rfl, hms, hrs⟩ := rep_Sg.mp hrr
  obtain ⟨l2, v2, n2, rfl, hm2, hi2⟩ := rep_L.mp hrs
  have e2 := hi2.length
  walk_at "ms"
  refine T_itemT (by walk_at "mem") (by decide) (by decide) rfl ?_
  walk_at "ms"
  refine T_len (by walk_at "mem") (by (first | lia | omega)) ?_; intro _
  walk_at "ms"
  walk_at "out"
  refine ⟨fun hb => ?_, fun hb => ?_⟩
  · walk_at "ms"
    refine T_itemT (by walk_at "mem") (by decide) (by decide) rfl ?_
    walk_at "ms"
    refine T_itemT (by walk_at "mem") (by decide) (by decide) rfl ?_
    walk_at "ms"
    walk_at "out"
    refine ⟨(fun h => nomatch h), fun _ => ?_⟩
    refine T_if (fun h => nomatch h) fun _ => ?_
    walk_at "ms"
    walk_at "out"
    exact ⟨rfl, rfl, _, ⟨qs, rs, rfl, hq, hr⟩, rep_tup2.mpr ⟨_, _, _, _, rfl, List.mem_cons_self, hrq.mono (.cons .refl), hrr.mono (.cons .refl)⟩⟩
  · refine T_if (fun h => nomatch h) fun _ => ?_
    walk_at "ms"
    walk_at "out"
    exact ⟨rfl, rfl, _, ⟨qs, rs, rfl, hq, hr⟩, rep_tup2.mpr ⟨_, _, _, _, rfl, List.mem_cons_self, hrq.mono (.cons .refl), hrr.mono (.cons .refl)⟩⟩
theorem c_signed_of {v : Value} {d : D} (hv : Rep ν d v) :
    Fn (cx w mean mg mb) (k + 1) 226 [v] ν (fun d' => d' = .tup [.bool false, d]) := by
  intro e fe m
  refine T_def (binds := [(PySem.Str.ofString "nat", v)]) (by walk_at "kis") (by walk_at "kis") (fun s => BindsTo.of_eq rfl) (locs rfl) rfl rfl rfl (by decide) fun L' Qd hQd => ?_
  walk_at "ms"
  walk_at "out"
  exact ⟨rfl, rfl, _, rfl, rep_Sg.mpr ⟨_, _, _, rfl, List.mem_cons_self, hv.mono (.cons .refl)⟩⟩
theorem c_need_bits {n : Int} {t : Tok} (h : 0 ≤ n) (e fe : Env) (m : Loc) :
    T (cx w mean mg mb) (k + 1) e fe (call (.ref 198) [.int n t]) m [] ν (fun v m' μ' ν' => v = .none ∧ m' = m ∧ μ' = []) := by
  refine T_def (binds := [(PySem.Str.ofString "n", .int n t)]) (by walk_at "kis") (by walk_at "kis") (fun s => BindsTo.of_eq rfl) (locs rfl) rfl rfl rfl (by decide) fun L' Qd hQd => ?_
  walk_at "ms"
  refine T_if (fun hb => absurd (of_decide_eq_true hb) (by (first | lia | omega))) fun _ => ?_
  walk_at "ms"
  walk_at "out"
  exact ⟨rfl, rfl, rfl⟩
theorem c_whole_bits {W : Nat} (hW : 6 ≤ W ∧ W ≤ 10) {va vb : Value} {N : Nat} {tn tw : Tok} {xs ys : List Int} {x y : Int} (ha : Rep ν (L xs) va) (hb : Rep ν (L ys) vb) (hx : Nm (2 ^ W) xs x) (hy : Nm (2 ^ W) ys y) (zx : xs.length ≤ 1000) (zy : ys.length ≤ 1000) (hy0 : 0 < y) (hN : N ≤ 30) (bx : x < 2 ^ 1000) :
    Fn (cx w mean mg mb) (k + 5) 205 [va, vb, .int N tn, .int W tw, .ref 289] ν (fun d => ∃ qs, d = L qs ∧ Nm (2 ^ W) qs (x * 2 ^ N / y)) := by
  intro e fe m
  have hB : (2 : Int) ≤ 2 ^ W := by have := pow_le_pow (B := 2) (by decide) hW.1; (first | lia | omega)
  have hra := ha
  obtain ⟨la, ua, na, rfl, hma, hia⟩ := rep_L.mp ha
  obtain ⟨lb, ub, nb, rfl, hmb, hib⟩ := rep_L.mp hb
  refine T_def (binds := [(PySem.Str.ofString "above", .ref la), (PySem.Str.ofString "below", .ref lb), (PySem.Str.ofString "n", .int N tn), (PySem.Str.ofString "w", .int W tw), (PySem.Str.ofString "divrem", .ref 289)]) (by walk_at "kis") (by walk_at "kis") (fun s => BindsTo.of_eq rfl) (locs rfl) rfl rfl rfl (by decide) fun L' Qd hQd => ?_
  walk_at "ms"
  refine T_part (μc := []) (μr := []) (c_need_bits (by (first | lia | omega)) _ _ _) ?_
  rintro v m3 μ3 ν5 hs7 ⟨rfl, rfl, rfl⟩
  simp only [List.nil_append]
  walk_at "ms"
  refine T_fn (c_shift_left (N := N) hW (hra.mono (by assumption)) hx (by (first | lia | omega)) (by (first | lia | omega))) fun v d ν3 hs5 hd' hrd => ?_
  obtain ⟨zs, rfl, hz⟩ := hd'
  have hz1000 : x * 2 ^ N < 2 ^ 2000 := by
    have h1 : (2 : Int) ^ N ≤ 2 ^ 1000 := pow_le_pow (by decide) (by (first | lia | omega))
    have h2 : x * 2 ^ N ≤ x * 2 ^ 1000 := Int.mul_le_mul_of_nonneg_left h1 (hx.nonneg (by (first | lia | omega)))
    have h3 : x * 2 ^ 1000 < 2 ^ 1000 * 2 ^ 1000 := Int.mul_lt_mul_of_pos_right bx (Int.pow_pos (by decide))
    rw [← Int.pow_add] at h3; (first | lia | omega)
  have lz := hz.len hB hz1000
  walk_at "ms"
  refine T_fn (c_divrem_school hW hrd (rep_L.mpr ⟨lb, ub, nb, rfl, by walk_at "mem", hib⟩) hz hy (by (first | lia | omega)) (by (first | lia | omega)) hy0) fun v d ν' hs3 hd' hr' => ?_
  obtain ⟨qs, rs, rfl, hq, hr⟩ := hd'
  obtain ⟨lt, nt, vq, vr, rfl, hmt, hrq, hrr⟩ := rep_tup2.mp hr'
  walk_at "ms"
  refine T_itemT (by walk_at "mem") (by decide) (by decide) rfl ?_
  walk_at "ms"
  walk_at "out"
  exact ⟨by first | rfl | trivial, by first | rfl | trivial, _, ⟨qs, rfl, hq⟩, hrq⟩

end
section
variable {w : World} {mean : ExcName → Option Value} {mg mb : Loc} {k : Nat} {ν : Led}
theorem g_init : findIn (cx w mean mg mb).K (.ref 173) "__init__" = some (some (.builtin "object.__init__")) := by walk_at "kis"
theorem g_makes : makesIn (cx w mean mg mb).K 173 = true := by walk_at "kis"
theorem g_plain : plainGet (cx w mean mg mb).K 173 (PySem.Str.ofString "at") = true := by walk_at "kis"
theorem g_at : findIn (cx w mean mg mb).K (.ref 173) (PySem.Str.ofString "at") = some (some (.ref 170)) := by walk_at "kis"
theorem g_isfn : isFn (cx w mean mg mb).K (.ref 170) = true := by walk_at "kis"
theorem kp_at : keepIn (cx w mean mg mb).K (.ref 170) = true := by walk_at "kis"
theorem nm_one {B : Int} (hB : 2 ≤ B) : Nm B [1] 1 := ⟨by simp [Dig]; (first | lia | omega), by simp, by simp [val]⟩
theorem c_at {W : Nat} (hW : 6 ≤ W ∧ W ≤ 10) {self : Value} {n : Nat} {tn tw : Tok} (hn : n ≤ 1000) :
    Fn (cx w mean mg mb) (k + 2) 170 [self, .int n tn, .int W tw, .ref 247] ν (fun d => ∃ qs, d = .tup [.bool false, L [1], L qs, L [1]] ∧ Nm (2 ^ W) qs n) := by
  intro e fe m
  refine T_def (binds := [(PySem.Str.ofString "self", self), (PySem.Str.ofString "k", .int n tn), (PySem.Str.ofString "w", .int W tw), (PySem.Str.ofString "mul", .ref 247)]) (by walk_at "kis") (by walk_at "kis") (fun s => BindsTo.of_eq rfl) (locs rfl) rfl rfl rfl (by decide) fun L' Qd hQd => ?_
  walk_at "ms"
  refine T_newList (Nat.le_of_ble_eq_true rfl) fun l0 hl0 => ?_
  walk_at "ms"
  refine T_fn (c_nat_of (by (first | lia | omega)) (by (first | lia | omega)) (by (first | lia | omega))) fun v d ν' hs3 hd' hr' => ?_
  obtain ⟨qs, rfl, hq⟩ := hd'
  walk_at "ms"
  refine T_newList (Nat.le_of_ble_eq_true rfl) fun l1 hl1 => ?_
  walk_at "ms"
  walk_at "out"
  exact ⟨rfl, rfl, _, ⟨qs, rfl, hq⟩, rep_tup.mpr ⟨_, _, _, rfl, List.mem_cons_self, .cons .b (.cons (rep_L.mpr ⟨_, _, _, rfl, by walk_at "mem", .cons _ _ .nil⟩) (.cons (hr'.mono (.cons (.cons .refl))) (.one (rep_L.mpr ⟨_, _, _, rfl, by walk_at "mem", .cons _ _ .nil⟩))))⟩⟩
theorem c_split_sum {W : Nat} (hW : 6 ≤ W ∧ W ≤ 10) {sa dx : Addr} : ∀ (n : Nat) {ν : Led} {b e' K : Nat} {tb te tw : Tok}, (sa, instObj 173 dx) ∈ ν → (dx, dictOf [] 0) ∈ ν → 1 ≤ b → e' = b + n → b + n ≤ 16 → 1 ≤ n → n + 7 ≤ K →
    Fn (cx w mean mg mb) K 184 [.ref sa, .int b tb, .int e' te, .int W tw, .ref 247] ν (fun d => ∃ ps qs ts, d = .tup [Sg ps, L qs, Sg ts] ∧ Nm (2 ^ W) ps 1 ∧ Nm (2 ^ W) qs (QQ b n) ∧ Nm (2 ^ W) ts (TT b n)) := by
  have hB : (2 : Int) ≤ 2 ^ W := by have := pow_le_pow (B := 2) (by decide) hW.1; (first | lia | omega)
  intro n
  induction n using Nat.strongRecOn with
  | ind n ih =>
  intro ν b e' K tb te tw hx hd hb hen hbn hn1 hK e fe m
  obtain ⟨k, rfl⟩ : ∃ k, K = k + 8 := ⟨K - 8, by (first | lia | omega)⟩
  refine T_def (binds := [(PySem.Str.ofString "series", .ref sa), (PySem.Str.ofString "begin", .int b tb), (PySem.Str.ofString "end", .int e' te), (PySem.Str.ofString "w", .int W tw), (PySem.Str.ofString "mul", .ref 247)]) (by walk_at "kis") (by walk_at "kis") (fun s => BindsTo.of_eq rfl) (locs rfl) rfl rfl rfl (by decide) fun L' Qd hQd => ?_
  walk_at "ms"
  refine T_if (fun hb => absurd (of_decide_eq_true hb) (by (first | lia | omega))) fun _ => ?_
  walk_at "ms"
  refine T_if (fun hb => absurd (of_decide_eq_true hb) (by (first | lia | omega))) fun _ => ?_
  walk_at "ms"
  refine T_if (fun hc => ?_) fun hc => ?_
  · have h1 : n = 1 := by have := of_decide_eq_true hc; (first | lia | omega)
    subst h1
    walk_at "ms"
    refine T_meth hx hd g_plain g_at g_isfn ?_
    refine T_callFM kp_at ?_ (by kernel_rfl!) (by kernel_rfl!)
    walk_at "ms"
    refine T_fn (c_at hW (by (first | lia | omega))) fun v d ν' hs3 hd' hr' => ?_
    obtain ⟨qs, rfl, hq⟩ := hd'
    obtain ⟨lt, vt, nt, rfl, hmt, hrt⟩ := rep_tup.mp hr'
    obtain ⟨v1, r, rfl, hr1, hrt⟩ := reps_cons.mp hrt
    obtain ⟨v2, r, rfl, hr2, hrt⟩ := reps_cons.mp hrt
    obtain ⟨v3, r, rfl, hr3, hrt⟩ := reps_cons.mp hrt
    obtain ⟨v4, r, rfl, hr4, hrt⟩ := reps_cons.mp hrt
    obtain rfl := reps_nil.mp hrt
    obtain rfl := rep_bool.mp hr1
    walk_at "ms"
    refine T_fn (c_signed hr2 (by simp)) fun v d ν'' hs4 hd' hr5 => ?_
    subst hd'
    walk_at "ms"
    refine T_fn (c_mul_school hW (hr4.mono hs4) (hr2.mono hs4) (nm_one hB) (nm_one hB) (by simp) (by simp)) fun v d ν3 hs5 hd' hr6 => ?_
    obtain ⟨zs, rfl, hz⟩ := hd'
    rw [Int.mul_one] at hz
    walk_at "ms"
    refine T_fn (c_signed hr6 (by have := hz.len (k := 64) hB (by decide); (first | lia | omega))) fun v d ν4 hs6 hd' hr7 => ?_
    subst hd'
    walk_at "ms"
    walk_at "out"
    refine ⟨rfl, rfl, _, ⟨[1], qs, zs, rfl, nm_one hB, ?_, ?_⟩, rep_tup3.mpr ⟨_, _, _, _, _, rfl, List.mem_cons_self, hr5.mono (hs5.trans (hs6.trans (.cons .refl))), hr3.mono (hs4.trans (hs5.trans (hs6.trans (.cons .refl)))), hr7.mono (.cons .refl)⟩⟩
    · simpa [QQ] using hq
    · simpa [TT] using hz
  · have h1 : n ≠ 1 := by have := of_decide_eq_false (Bool.not_eq_true _ ▸ hc); (first | lia | omega)
    walk_at "ms"
    refine T_fdiv (by decide) (by decide) ?_; intro _
    walk_at "ms"
    obtain ⟨n1, n2, hn12, h11, h12, h21⟩ : ∃ n1 n2, n = n1 + n2 ∧ n1 = n / 2 ∧ 1 ≤ n1 ∧ 1 ≤ n2 := ⟨n / 2, n - n / 2, by (first | lia | omega), rfl, by (first | lia | omega), by (first | lia | omega)⟩
    rw [show ((b : Int) + (e' : Int)) / 2 = ((b + n1 : Nat) : Int) by (first | lia | omega)]
    walk_at "ms"
    refine T_fn (ih n1 (by (first | lia | omega)) (K := k + 7) hx hd hb rfl (by (first | lia | omega)) h12 (by (first | lia | omega))) fun v d ν1 hs1 hd' hr1 => ?_
    obtain ⟨ps1, qs1, ts1, rfl, hp1, hq1, ht1⟩ := hd'
    walk_at "ms"
    refine T_fn (ih n2 (by (first | lia | omega)) (b := b + n1) (K := k + 7) (hs1 _ hx) (hs1 _ hd) (by (first | lia | omega)) (by (first | lia | omega)) (by (first | lia | omega)) h21 (by (first | lia | omega))) fun v d ν2 hs2 hd' hr2 => ?_
    obtain ⟨ps2, qs2, ts2, rfl, hp2, hq2, ht2⟩ := hd'
    obtain ⟨l1, c1, p1, q1, r1, rfl, hm1, hrp1, hrq1, hrt1⟩ := rep_tup3.mp hr1
    obtain ⟨l2, c2, p2, q2, r2, rfl, hm2, hrp2, hrq2, hrt2⟩ := rep_tup3.mp hr2
    have eT := TT_add b n1 n2
    have eQ := QQ_add b n1 n2
    rw [← hn12] at eT eQ
    have bT := TT_64 hb hbn
    have bQ := QQ_64 hb hbn
    have T1 := TT_nonneg (b := b) n1
    have T2 := TT_nonneg (b := b + n1) n2
    have Q1 := QQ_pos hb n1
    have Q2 := QQ_pos (show 1 ≤ b + n1 by (first | lia | omega)) n2
    have TQ := Int.mul_nonneg T1 (Int.le_of_lt Q2)
    have bq1 := QQ_64 hb (show b + n1 ≤ 16 by (first | lia | omega))
    have bq2 := QQ_64 (show 1 ≤ b + n1 by (first | lia | omega)) (show b + n1 + n2 ≤ 16 by (first | lia | omega))
    have bt1 := TT_64 hb (show b + n1 ≤ 16 by (first | lia | omega))
    have bt2 := TT_64 (show 1 ≤ b + n1 by (first | lia | omega)) (show b + n1 + n2 ≤ 16 by (first | lia | omega))
    have lp1 := hp1.len (k := 64) hB (by decide)
    have lp2 := hp2.len (k := 64) hB (by decide)
    have lq1 := hq1.len hB bq1
    have lq2 := hq2.len hB bq2
    have lt1 := ht1.len hB bt1
    have lt2 := ht2.len hB bt2
    walk_at "ms"
    refine T_itemT (by walk_at "mem") (by decide) (by decide) rfl ?_
    walk_at "ms"
    refine T_itemT (by walk_at "mem") (by decide) (by decide) rfl ?_
    walk_at "ms"
    refine T_fn (c_s_mul hW (hrt1.mono (hs2.trans (.cons (.cons .refl)))) (rep_Sg.mpr ⟨_, _, _, rfl, List.mem_cons_self, hrq2.mono (.cons (.cons .refl))⟩) ht1 hq2 (by (first | lia | omega)) (by (first | lia | omega)) (big64 (by (first | lia | omega)) (by decide))) fun v d ν3 hs3 hd' hr3 => ?_
    obtain ⟨z1, rfl, hz1⟩ := hd'
    have lz1 := hz1.len (k := 64) hB (by (first | lia | omega))
    walk_at "ms"
    refine T_itemT (by walk_at "mem") (by decide) (by decide) rfl ?_
    walk_at "ms"
    refine T_itemT (by walk_at "mem") (by decide) (by decide) rfl ?_
    walk_at "ms"
    have h23 : Sub ν2 ν3 := Sub.trans (.cons (.cons .refl)) hs3
    refine T_fn (c_s_mul hW (hrp1.mono (hs2.trans h23)) (hrt2.mono h23) hp1 ht2 (by (first | lia | omega)) (by (first | lia | omega)) (big64 (by (first | lia | omega)) (by decide))) fun v d ν4 hs4 hd' hr4 => ?_
    obtain ⟨z2, rfl, hz2⟩ := hd'
    have lz2 := hz2.len (k := 64) hB (by (first | lia | omega))
    walk_at "ms"
    refine T_fn (c_s_add hW (hr3.mono hs4) hr4 hz1 hz2 (by (first | lia | omega)) (by (first | lia | omega)) (big64 (by (first | lia | omega)) (by decide))) fun v d ν5 hs5 hd' hr5 => ?_
    obtain ⟨z3, rfl, hz3⟩ := hd'
    have h25 : Sub ν2 ν5 := h23.trans (hs4.trans hs5)
    walk_at "ms"
    refine T_itemT (by walk_at "mem") (by decide) (by decide) rfl ?_
    walk_at "ms"
    refine T_itemT (by walk_at "mem") (by decide) (by decide) rfl ?_
    walk_at "ms"
    refine T_fn (c_s_mul hW (hrp1.mono (hs2.trans h25)) (hrp2.mono h25) hp1 hp2 (by (first | lia | omega)) (by (first | lia | omega)) (big64 (by decide) (by decide))) fun v d ν6 hs6 hd' hr6 => ?_
    obtain ⟨z4, rfl, hz4⟩ := hd'
    walk_at "ms"
    refine T_itemT (by walk_at "mem") (by decide) (by decide) rfl ?_
    walk_at "ms"
    refine T_itemT (by walk_at "mem") (by decide) (by decide) rfl ?_
    walk_at "ms"
    refine T_fn (c_mul_school hW (hrq1.mono (hs2.trans (h25.trans hs6))) (hrq2.mono (h25.trans hs6)) hq1 hq2 (by (first | lia | omega)) (by (first | lia | omega))) fun v d ν7 hs7 hd' hr7 => ?_
    obtain ⟨z5, rfl, hz5⟩ := hd'
    walk_at "ms"
    walk_at "out"
    exact ⟨by first | rfl | trivial, by first | rfl | trivial, _, ⟨z4, z5, z3, rfl, by rwa [Int.one_mul] at hz4, by rw [eQ]; exact hz5, by rw [eT]; rwa [Int.one_mul] at hz3⟩, rep_tup3.mpr ⟨_, _, _, _, _, rfl, List.mem_cons_self, hr6.mono (hs7.trans (.cons .refl)), hr7.mono (.cons .refl), hr5.mono (hs6.trans (hs7.trans (.cons .refl)))⟩⟩

end
section
variable {w : World} {mean : ExcName → Option Value} {mg mb : Loc} {k : Nat} {ν : Led}
theorem c_series_fraction {W : Nat} (hW : 6 ≤ W ∧ W ≤ 10) {sa dx : Addr} {M : Nat} {tm tw : Tok} (hx : (sa, instObj 173 dx) ∈ ν) (hd : (dx, dictOf [] 0) ∈ ν) (hM : 1 ≤ M) (hM2 : M ≤ 13) :
    Fn (cx w mean mg mb) (k + 30) 191 [.ref sa, .int M tm, .int W tw, .ref 247] ν (fun d => ∃ as qs, d = .tup [L as, L qs] ∧ Nm (2 ^ W) as (QQ 1 M + TT 1 M) ∧ Nm (2 ^ W) qs (QQ 1 M)) := by
  have hB : (2 : Int) ≤ 2 ^ W := by have := pow_le_pow (B := 2) (by decide) hW.1; (first | lia | omega)
  intro e fe m
  refine T_def (binds := [(PySem.Str.ofString "series", .ref sa), (PySem.Str.ofString "many", .int M tm), (PySem.Str.ofString "w", .int W tw), (PySem.Str.ofString "mul", .ref 247)]) (by walk_at "kis") (by walk_at "kis") (fun s => BindsTo.of_eq rfl) (locs rfl) rfl rfl rfl (by decide) fun L' Qd hQd => ?_
  walk_at "ms"
  refine T_if (fun hb => absurd (of_decide_eq_true hb) (by (first | lia | omega))) fun _ => ?_
  walk_at "ms"
  rw [show (M : Int) + 1 = ((M + 1 : Nat) : Int) by (first | lia | omega), show (1 : Int) = ((1 : Nat) : Int) from rfl]
  refine T_fn (c_split_sum hW M hx hd (Nat.le_refl _) (by (first | lia | omega)) (by (first | lia | omega)) hM (by (first | lia | omega))) fun v d ν1 hs1 hd' hr1 => ?_
  obtain ⟨ps, qs, ts, rfl, hp, hq, ht⟩ := hd'
  obtain ⟨l1, c1, p1, q1, r1, rfl, hm1, hrp1, hrq1, hrt1⟩ := rep_tup3.mp hr1
  have bT := TT_64 (b := 1) (n := M) (by decide) (by (first | lia | omega))
  have bQ := QQ_64 (b := 1) (n := M) (by decide) (by (first | lia | omega))
  have lq := hq.len hB bQ
  have lt := ht.len hB bT
  walk_at "ms"
  refine T_fn (c_s_add hW (rep_Sg.mpr ⟨_, _, _, rfl, List.mem_cons_self, hrq1.mono (.cons .refl)⟩) (hrt1.mono (.cons .refl)) hq ht (by (first | lia | omega)) (by (first | lia | omega)) (Int.lt_of_lt_of_le (b := 2 ^ 65) (by (first | lia | omega)) (pow_le_pow (by decide) (by decide)))) fun v d ν2 hs2 hd' hr2 => ?_
  obtain ⟨as, rfl, ha⟩ := hd'
  obtain ⟨l2, c2, q2, rfl, hm2, hrq2⟩ := rep_Sg.mp hr2
  walk_at "ms"
  refine T_itemT (by walk_at "mem") (by decide) (by decide) rfl ?_
  walk_at "ms"
  walk_at "out"
  exact ⟨by first | rfl | trivial, by first | rfl | trivial, _, ⟨as, qs, rfl, ha, hq⟩, rep_tup2.mpr ⟨_, _, _, _, rfl, List.mem_cons_self, hrq2.mono (.cons .refl), hrq1.mono (Sub.trans (Sub.cons .refl) (hs2.trans (.cons .refl)))⟩⟩
theorem hv_step : ∀ m : Nat, 1 ≤ m → m ≤ 12 → hv m + ((Builtin.Int.intBits ((m : Int) + 1) : Nat) - 1) = hv (m + 1) := by
  intro m h1 h2
  have : m = 1 ∨ m = 2 ∨ m = 3 ∨ m = 4 ∨ m = 5 ∨ m = 6 ∨ m = 7 ∨ m = 8 ∨ m = 9 ∨ m = 10 ∨ m = 11 ∨ m = 12 := by (first | lia | omega)
  rcases this with rfl | rfl | rfl | rfl | rfl | rfl | rfl | rfl | rfl | rfl | rfl | rfl <;> decide +kernel
theorem c_terms_of_e {n : Int} {tn : Tok} (hn : 0 ≤ n) (hn2 : n ≤ 25) :
    Fn (cx w mean mg mb) (k + 1) 212 [.int n tn] ν (fun d => ∃ M, d = .int (M : Nat) ∧ Terms n M) := by
  intro e fe m
  refine T_def (binds := [(PySem.Str.ofString "n", .int n tn)]) (by walk_at "kis") (by walk_at "kis") (fun s => BindsTo.of_eq rfl) (locs rfl) rfl rfl rfl (by decide) fun L' Qd hQd => ?_
  walk_at "ms"
  refine T_while (fun i m1 μ1 ν1 => ∃ M : Nat, i = 14 - M ∧ μ1 = [] ∧ (∃ t, m1 (PySem.Str.ofString "n") = some (.int n t)) ∧ (∃ t, m1 (PySem.Str.ofString "many") = some (.int M t)) ∧ (∃ t, m1 (PySem.Str.ofString "have") = some (.int (hv M) t)) ∧ 1 ≤ M ∧ M ≤ 13 ∧ ∀ j, 1 ≤ j → j < M → hv j ≤ n) 13 ?_ ?_
  · walk_at "out"
    exact ⟨1, rfl, rfl, ⟨_, by walk_at "lk"⟩, ⟨_, by walk_at "lk"⟩, ⟨_, by walk_at "lk"⟩, by decide, by decide, fun j h1 h2 => by (first | lia | omega)⟩
  · intro i m1 μ1 ν1 hs Qt0 hQt0 z0J
    refine ex1 z0J fun M z0r0 => ?_
    clear z0J
    refine an8 z0r0 fun z0e1 z0e2 z0p3 z0p4 z0p5 h1 h13 hlo => ?_
    clear z0r0
    subst z0e1
    subst z0e2
    obtain ⟨t1, gn⟩ := z0p3
    obtain ⟨t2, gm⟩ := z0p4
    obtain ⟨t3, gh⟩ := z0p5
    walk_at "ms"
    walk_at "out"
    refine ⟨fun hb => ?_, fun hb => ?_⟩
    · have hle := of_decide_eq_true hb
      have hM : M ≤ 12 := by
        rcases Nat.lt_or_ge M 13 with h | h
        · (first | lia | omega)
        · have e : M = 13 := by (first | lia | omega)
          subst e
          have : hv 13 = 28 := rfl
          (first | lia | omega)
      have hst := hv_step M h1 hM
      walk_at "ms"
      refine T_getBitlen ?_
      walk_at "ms"
      refine T_bitlen ?_; intro _
      walk_at "ms"
      rw [hst]
      walk_at "out"
      refine ⟨14 - (M + 1), by (first | lia | omega), M + 1, rfl, rfl, ⟨_, by walk_at "lk"⟩, ⟨_, by walk_at "lk"⟩, ⟨_, by walk_at "lk"⟩, by (first | lia | omega), by (first | lia | omega), fun j h2 h3 => ?_⟩
      rcases Nat.lt_or_ge j M with h | h
      · exact hlo j h2 h
      · have e : j = M := by (first | lia | omega)
        rw [e]; exact hle
    · have hgt := of_decide_eq_false hb
      walk_at "ms"
      walk_at "out"
      exact ⟨rfl, rfl, _, ⟨M, rfl, h1, h13, by (first | lia | omega), hlo⟩, .i⟩

end
section
variable {w : World} {mean : ExcName → Option Value} {mg mb : Loc} {k : Nat} {ν : Led}
theorem c_e_bits {W : Nat} (hW : 6 ≤ W ∧ W ≤ 10) {n : Nat} {tn tw : Tok} (hn : n ≤ 25) :
    Fn (cx w mean mg mb) (k + 31) 219 [.int n tn, .int W tw, .ref 247, .ref 289] ν (fun d => ∃ M qs, Terms n M ∧ d = L qs ∧ Nm (2 ^ W) qs ((QQ 1 M + TT 1 M) * 2 ^ n / QQ 1 M)) := by
  have hB : (2 : Int) ≤ 2 ^ W := by have := pow_le_pow (B := 2) (by decide) hW.1; (first | lia | omega)
  intro e fe m
  refine T_def (binds := [(PySem.Str.ofString "n", .int n tn), (PySem.Str.ofString "w", .int W tw), (PySem.Str.ofString "mul", .ref 247), (PySem.Str.ofString "divrem", .ref 289)]) (by walk_at "kis") (by walk_at "kis") (fun s => BindsTo.of_eq rfl) (locs rfl) rfl rfl rfl (by decide) fun L' Qd hQd => ?_
  walk_at "ms"
  refine T_callF0 kp_EulerSeries (T_inst g_makes g_init fun x dx => ?_)
  walk_at "ms"
  refine T_fn (c_terms_of_e (by (first | lia | omega)) (by (first | lia | omega))) fun v d ν1 hs1 hd' hr1 => ?_
  obtain ⟨M, rfl, hM⟩ := hd'
  obtain ⟨tM, rfl⟩ := rep_int.mp hr1
  clear hr1
  walk_at "ms"
  refine T_fn (c_series_fraction (k := k) hW (hs1 _ (by walk_at "mem")) (hs1 _ (by walk_at "mem")) hM.one hM.le) fun v d ν2 hs2 hd' hr2 => ?_
  obtain ⟨as, qs, rfl, ha, hq⟩ := hd'
  obtain ⟨l2, c2, p2, q2, rfl, hm2, hra, hrq⟩ := rep_tup2.mp hr2
  have bT := TT_64 (b := 1) (n := M) (by decide) (by have := hM.le; (first | lia | omega))
  have bQ := QQ_64 (b := 1) (n := M) (by decide) (by have := hM.le; (first | lia | omega))
  have pQ := QQ_pos (b := 1) (by decide) M
  have la := ha.len (k := 65) hB (by (first | lia | omega))
  have lq := hq.len hB bQ
  walk_at "ms"
  refine T_fn (c_whole_bits hW hra hrq ha hq (by (first | lia | omega)) (by (first | lia | omega)) pQ (by (first | lia | omega)) (Int.lt_of_lt_of_le (b := 2 ^ 65) (by (first | lia | omega)) (pow_le_pow (by decide) (by decide)))) fun v d ν3 hs3 hd' hr3 => ?_
  obtain ⟨zs, rfl, hz⟩ := hd'
  walk_at "ms"
  walk_at "out"
  exact ⟨by first | rfl | trivial, by first | rfl | trivial, _, ⟨M, zs, hM, rfl, hz⟩, hr3⟩

end
section
variable {w : World} {mean : ExcName → Option Value} {mg mb : Loc} {k : Nat} {ν : Led}
theorem c_continued {W : Nat} (hW : 6 ≤ W ∧ W ≤ 10) {vx : Value} {tw : Tok} {xs ys : List Int} {x y : Int} (ha : Rep ν (.tup [Sg xs, L ys]) vx) (hx : Nm (2 ^ W) xs x) (hy : Nm (2 ^ W) ys y) (bx : x < 2 ^ 64) (by' : y < 2 ^ 64) :
    Fn (cx w mean mg mb) (k + 7) 233 [vx, .int W tw, .ref 289] ν (fun d => ∃ zss ns, d = .list (zss.map Sg) ∧ Nms (2 ^ W) zss ns ∧ CF x y ns ∧ zss.length ≤ 130 ∧ ∀ t ∈ ns, t < 2 ^ 64) := by
  have hB : (2 : Int) ≤ 2 ^ W := by have := pow_le_pow (B := 2) (by decide) hW.1; (first | lia | omega)
  intro e fe m
  obtain ⟨l0, c0, p0, q0, rfl, hm0, hrx, hry⟩ := rep_tup2.mp ha
  refine T_def (binds := [(PySem.Str.ofString "x", .ref l0), (PySem.Str.ofString "w", .int W tw), (PySem.Str.ofString "divrem", .ref 289)]) (by walk_at "kis") (by walk_at "kis") (fun s => BindsTo.of_eq rfl) (locs rfl) rfl rfl rfl (by decide) fun L' Qd hQd => ?_
  walk_at "ms"
  refine T_newListM (Nat.le_of_ble_eq_true rfl) fun l hl => ?_
  walk_at "ms"
  refine T_itemT (by walk_at "mem") (by decide) (by decide) rfl ?_
  walk_at "ms"
  refine T_itemT (by walk_at "mem") (by decide) (by decide) rfl ?_
  walk_at "ms"
  refine T_fn (c_signed_of hry) fun v d ν1 hs1 hd' hr1 => ?_
  subst hd'
  walk_at "ms"
  refine T_while (fun n m1 μ1 ν1 => ∃ vs c zss ns as bs a b va vb, n = b.toNat ∧ μ1 = [(l, lo vs c)] ∧ Reps ν1 (zss.map Sg) vs ∧ Nms (2 ^ W) zss ns ∧ m1 (PySem.Str.ofString "found") = some (.ref l) ∧ (∃ t, m1 (PySem.Str.ofString "w") = some (.int W t)) ∧ m1 (PySem.Str.ofString "divrem") = some (.ref 289) ∧
    m1 (PySem.Str.ofString "top") = some va ∧ m1 (PySem.Str.ofString "bottom") = some vb ∧ Rep ν1 (Sg as) va ∧ Rep ν1 (Sg bs) vb ∧ Nm (2 ^ W) as a ∧ Nm (2 ^ W) bs b ∧ a < 2 ^ 64 ∧ b < 2 ^ 64 ∧ zss.length ≤ 130 ∧ (∀ t ∈ ns, t < 2 ^ 64) ∧ (zss.length = 0 ∨ b < a) ∧ (zss.length ≠ 0 → 2 ^ zss.length * (a * b) ≤ 2 ^ 129) ∧ ∀ rs, CF a b rs → CF x y (ns ++ rs)) y.toNat ?_ ?_
  · walk_at "out"
    refine mk10 [] 0 [] [] xs ys x y _ _ ⟨rfl, rfl, .nil, .nil, by walk_at "lk", ⟨_, by walk_at "lk"⟩, by walk_at "lk", by walk_at "lk", by walk_at "lk", hrx.mono ?_, hr1.mono ?_, hx, hy, bx, by', by decide, by simp, .inl rfl, fun h => absurd rfl h, fun rs h => h⟩
    · exact hs1.trans (.cons .refl)
    · exact .cons .refl
  · intro n m1 μ1 ν2 hs Qt0 hQt0 z0J
    refine ex10 z0J fun vs c zss ns as bs a b va vb z0r0 => ?_
    clear z0J
    refine an8 z0r0 fun z0e10 z0e11 hvs hnm gf z0p15 gd z0r1 => ?_
    clear z0r0
    refine an8 z0r1 fun gt gb hra hrb ha' hb' ba z0r2 => ?_
    clear z0r1
    refine an6 z0r2 fun bb h130 hsm hor hlen hcf => ?_
    clear z0r2
    subst z0e10
    subst z0e11
    obtain ⟨t1, gw⟩ := z0p15
    have hra0 := hra
    have hrb0 := hrb
    obtain ⟨lb, nb, qb, rfl, hmb, hrb1⟩ := rep_Sg.mp hrb
    obtain ⟨l2, v2, n2, rfl, hm2, hi2⟩ := rep_L.mp hrb1
    have e2 := hi2.length
    have lb' := hb'.len hB bb
    have la' := ha'.len hB ba
    have hb0 := hb'.nonneg (by (first | lia | omega))
    have ha0 := ha'.nonneg (by (first | lia | omega))
    walk_at "ms"
    refine T_itemT (by walk_at "mem") (by decide) (by decide) rfl ?_
    walk_at "ms"
    refine T_len (by walk_at "mem") (by (first | lia | omega)) ?_; intro _
    walk_at "ms"
    walk_at "out"
    refine ⟨fun hb => ?_, fun hb => ?_⟩
    · have hpos := of_decide_eq_true hb
      have hbp : 0 < b := hb'.pos (by (first | lia | omega)) (by intro h; rw [h] at e2; simp at e2; rw [e2] at hpos; simp at hpos)
      have hmod := Int.emod_lt_of_pos a hbp
      have hmod0 := Int.emod_nonneg a (b := b) (by (first | lia | omega))
      walk_at "ms"
      refine T_fn (c_fdiv hW hra0 hrb0 ha' hb' (by (first | lia | omega)) (by (first | lia | omega)) hbp (big64 ba (by decide)) (big64 bb (by decide))) fun v d ν3 hs3 hd' hr3 => ?_
      obtain ⟨qs, rs, rfl, hq, hr⟩ := hd'
      obtain ⟨lt, nt, vq, vr, rfl, hmt, hrq, hrr⟩ := rep_tup2.mp hr3
      walk_at "ms"
      have evs := hvs.length
      rw [List.length_map] at evs
      have hl : zss.length ≤ 129 := by
        rcases hor with h | h
        · (first | lia | omega)
        · by_cases h0 : zss.length = 0
          · (first | lia | omega)
          have h1 := hlen h0
          have h2 : 1 ≤ a * b := Int.mul_pos (show 0 < a by (first | lia | omega)) hbp
          have h3 : (2 : Int) ^ zss.length * 1 ≤ 2 ^ zss.length * (a * b) := Int.mul_le_mul_of_nonneg_left h2 (Int.le_of_lt (Int.pow_pos (by decide)))
          have h4 : (2 : Int) ^ zss.length < 2 ^ 130 := by (first | lia | omega)
          have := pow_lt_pow_iff2 (B := 2) (by decide) h4
          (first | lia | omega)
      refine T_append (by simp only [sizeLine]; (first | lia | omega)) ?_
      walk_at "ms"
      walk_at "out"
      refine ⟨(a % b).toNat, by (first | lia | omega), mk10 (vs ++ [vq]) _ (zss ++ [qs]) (ns ++ [a / b]) bs rs b (a % b) _ _ ⟨rfl, rfl, ?_, hnm.append (.cons hq .nil), by walk_at "lk", ⟨_, by walk_at "lk"⟩, by walk_at "lk", by walk_at "lk", by walk_at "lk", ?_, ?_, hb', hr, bb, by (first | lia | omega), by simp; (first | lia | omega), fun t ht => ?_, .inr hmod, fun _ => ?_, fun rs h => ?_⟩⟩
      · rw [List.map_append]
        exact (hvs.mono (hs3.trans (.cons .refl))).append (.one (hrq.mono (.cons .refl)))
      · exact hrb0.mono (hs3.trans (.cons .refl))
      · exact hrr.mono (.cons .refl)
      · rcases List.mem_append.mp ht with h | h
        · exact hsm t h
        · rw [List.mem_singleton.mp h]
          have := Int.ediv_le_self b ha0
          (first | lia | omega)
      · rw [List.length_append, List.length_singleton, Int.pow_succ]
        rcases hor with h | h
        · rw [h]
          have h1 : b * (a % b) ≤ 2 ^ 64 * 2 ^ 64 := Int.le_trans (Int.mul_le_mul_of_nonneg_right (Int.le_of_lt bb) hmod0) (Int.mul_le_mul_of_nonneg_left (by (first | lia | omega)) (by decide))
          have h2 : (2 : Int) ^ 0 * 2 * (b * (a % b)) = 2 * (b * (a % b)) := by simp
          rw [h2]; (first | lia | omega)
        · have hd : b * (a / b) + a % b = a := Int.mul_ediv_add_emod a b
          have hd1 : 1 ≤ a / b := by
            have := Int.ediv_nonneg ha0 hb0
            rcases Int.lt_or_le 0 (a / b) with h | h
            · exact h
            · have h0 : a / b = 0 := by (first | lia | omega)
              rw [h0, Int.mul_zero] at hd; (first | lia | omega)
          have h2 : b * 1 ≤ b * (a / b) := Int.mul_le_mul_of_nonneg_left hd1 hb0
          have h3 : b * (2 * (a % b)) ≤ b * a := Int.mul_le_mul_of_nonneg_left (by (first | lia | omega)) hb0
          have hp : (0 : Int) < 2 ^ zss.length := Int.pow_pos (by decide)
          have h4 : 2 ^ zss.length * (b * (2 * (a % b))) ≤ 2 ^ zss.length * (b * a) := Int.mul_le_mul_of_nonneg_left h3 (Int.le_of_lt hp)
          have h5 : 2 ^ zss.length * 2 * (b * (a % b)) = 2 ^ zss.length * (b * (2 * (a % b))) := by grind
          have h6 : 2 ^ zss.length * (b * a) ≤ 2 ^ 129 := by
            by_cases h0 : zss.length = 0
            · rw [h0]
              have h1 : b * a ≤ 2 ^ 64 * 2 ^ 64 := Int.le_trans (Int.mul_le_mul_of_nonneg_right (Int.le_of_lt bb) ha0) (Int.mul_le_mul_of_nonneg_left (by (first | lia | omega)) (by decide))
              have h2 : (2 : Int) ^ 0 * (b * a) = b * a := by simp
              rw [h2]; (first | lia | omega)
            · have := hlen h0
              rw [Int.mul_comm b a]; exact this
          (first | lia | omega)
      · rw [List.append_assoc]; exact hcf _ (.cons hbp h)
    · have hz := of_decide_eq_false hb
      have hb0' : b = 0 := by
        refine (hb'.nil_iff (by (first | lia | omega))).mp (List.eq_nil_of_length_eq_zero (by (first | lia | omega)))
      subst hb0'
      walk_at "m"
      refine T_freeze ?_
      walk_at "ms"
      walk_at "out"
      exact ⟨rfl, rfl, _, ⟨zss, ns, rfl, hnm, by have := hcf [] (.nil a); rwa [List.append_nil] at this, h130, hsm⟩, rep_list.mpr ⟨_, _, _, rfl, List.mem_cons_self, hvs.mono (.cons .refl)⟩⟩

end
section
variable {w : World} {mean : ExcName → Option Value} {mg mb : Loc} {k : Nat} {ν : Led}
theorem c_convergents {W : Nat} (hW : 6 ≤ W ∧ W ≤ 10) {vt : Value} {tw : Tok} {zss : List (List Int)} {ts : List Int} (ha : Rep ν (.list (zss.map Sg)) vt) (hnm : Nms (2 ^ W) zss ts) (hts : ∀ t ∈ ts, t < 2 ^ 64) (hlen : ts.length ≤ 1000)
    (hb : ∀ i, i ≤ ts.length → (cv (ts.take i)).1.1 < 2 ^ 64 ∧ (cv (ts.take i)).1.2 < 2 ^ 64 ∧ (cv (ts.take i)).2.1 < 2 ^ 64 ∧ (cv (ts.take i)).2.2 < 2 ^ 64) :
    Fn (cx w mean mg mb) (k + 5) 240 [vt, .int W tw, .ref 247] ν (fun d => ∃ ds, d = .list ds ∧ ds.length = ts.length ∧ (0 < ts.length → ∃ ps qs, ds[ts.length - 1]? = some (.tup [Sg ps, L qs]) ∧ Nm (2 ^ W) ps (cv ts).2.1 ∧ Nm (2 ^ W) qs (cv ts).2.2)) := by
  have hB : (2 : Int) ≤ 2 ^ W := by have := pow_le_pow (B := 2) (by decide) hW.1; (first | lia | omega)
  intro e fe m
  have hzl := hnm.length
  obtain ⟨lt, ut, nt, rfl, hmt, hrt⟩ := rep_list.mp ha
  have eut := hrt.length
  rw [List.length_map] at eut
  refine T_def (binds := [(PySem.Str.ofString "terms", .ref lt), (PySem.Str.ofString "w", .int W tw), (PySem.Str.ofString "mul", .ref 247)]) (by walk_at "kis") (by walk_at "kis") (fun s => BindsTo.of_eq rfl) (locs rfl) rfl rfl rfl (by decide) fun L' Qd hQd => ?_
  walk_at "ms"
  refine T_newListM (Nat.le_of_ble_eq_true rfl) fun l hl => ?_
  walk_at "ms"
  refine T_newList (Nat.le_of_ble_eq_true rfl) fun l1 hl1 => ?_
  walk_at "ms"
  refine T_newList (Nat.le_of_ble_eq_true rfl) fun l2 hl2 => ?_
  walk_at "ms"
  refine T_newList (Nat.le_of_ble_eq_true rfl) fun l3 hl3 => ?_
  walk_at "ms"
  refine T_newList (Nat.le_of_ble_eq_true rfl) fun l4 hl4 => ?_
  walk_at "ms"
  refine T_forList (vs := ut) (fun i m1 μ1 ν1 => ∃ vs c ds p0 q0 p1 q1 vb vh, μ1 = [(l, lo vs c)] ∧ Reps ν1 ds vs ∧ (∃ t, m1 (PySem.Str.ofString "w") = some (.int W t)) ∧ m1 (PySem.Str.ofString "mul") = some (.ref 247) ∧ m1 (PySem.Str.ofString "found") = some (.ref l) ∧ m1 (PySem.Str.ofString "before") = some vb ∧ m1 (PySem.Str.ofString "here") = some vh ∧
    Rep ν1 (.tup [Sg p0, Sg q0]) vb ∧ Rep ν1 (.tup [Sg p1, Sg q1]) vh ∧ Nm (2 ^ W) p0 (cv (ts.take i)).1.1 ∧ Nm (2 ^ W) q0 (cv (ts.take i)).1.2 ∧ Nm (2 ^ W) p1 (cv (ts.take i)).2.1 ∧ Nm (2 ^ W) q1 (cv (ts.take i)).2.2 ∧ ds.length = i ∧ (0 < i → ds[i - 1]? = some (.tup [Sg p1, L q1])))
    rfl ?_ ?_ ?_
  · refine T_hide fun _ _ => ?_
    walk_at "ms"
    walk_at "out"
    refine ⟨lt, nt, rfl, by walk_at "mem", mk9 [] 0 [] [] ([1]) ([1]) [] _ _ ⟨rfl, .nil, ⟨_, by walk_at "lk"⟩, by walk_at "lk", by walk_at "lk", by walk_at "lk", by walk_at "lk", ?_, ?_, .nil, nm_one hB, nm_one hB, .nil, rfl, fun h => absurd h (by decide)⟩⟩
    · exact rep_tup2.mpr ⟨_, _, _, _, rfl, by walk_at "mem", rep_Sg.mpr ⟨_, _, _, rfl, by walk_at "mem", rep_L.mpr ⟨_, _, _, rfl, by walk_at "mem", .nil⟩⟩, rep_Sg.mpr ⟨_, _, _, rfl, by walk_at "mem", rep_L.mpr ⟨_, _, _, rfl, by walk_at "mem", .cons _ _ .nil⟩⟩⟩
    · exact rep_tup2.mpr ⟨_, _, _, _, rfl, by walk_at "mem", rep_Sg.mpr ⟨_, _, _, rfl, by walk_at "mem", rep_L.mpr ⟨_, _, _, rfl, by walk_at "mem", .cons _ _ .nil⟩⟩, rep_Sg.mpr ⟨_, _, _, rfl, by walk_at "mem", rep_L.mpr ⟨_, _, _, rfl, by walk_at "mem", .nil⟩⟩⟩
  · intro i v m1 μ1 ν1 hi hv hs1 Qt0 hQt0 z0J
    refine ex9 z0J fun vs c ds p0 q0 p1 q1 vb vh z0r0 => ?_
    clear z0J
    refine an8 z0r0 fun z0e9 hvs z0p11 gm gf gb gh z0r1 => ?_
    clear z0r0
    refine an8 z0r1 fun hrb hrh hp0 hq0 hp1 hq1 hdl hlast => ?_
    clear z0r1
    subst z0e9
    obtain ⟨t1, gw⟩ := z0p11
    have hit : i < ts.length := by (first | lia | omega)
    have ht := List.getElem?_eq_getElem (l := ts) (i := i) hit
    obtain ⟨z, hz, hzn⟩ := hnm.get ht
    obtain ⟨v', hv', hrv⟩ := hrt.get (i := i) (d := Sg z) (by rw [List.getElem?_map, hz]; rfl)
    rw [hv'] at hv
    obtain rfl := Option.some.inj hv
    have hrv1 := hrv.mono (show Sub ν ν1 from fun p hp => hs1 p (by walk_at "mem"))
    have hcv := cv_take ht
    have b0 := hb i (by (first | lia | omega))
    have b1 := hb (i + 1) (by (first | lia | omega))
    rw [hcv] at b1 hQt0
    have bt := hts ts[i] (List.getElem_mem hit)
    have nt0 := hzn.nonneg (by (first | lia | omega))
    simp only [cvS] at b1 hQt0
    generalize cv (ts.take i) = s at *
    obtain ⟨⟨a0, b00⟩, ⟨a1, b11⟩⟩ := s
    simp only at *
    generalize ts[i] = t at *
    have na0 := hp0.nonneg (by (first | lia | omega))
    have nb0 := hq0.nonneg (by (first | lia | omega))
    have na1 := hp1.nonneg (by (first | lia | omega))
    have nb1 := hq1.nonneg (by (first | lia | omega))
    have la0 := hp0.len hB b0.1
    have lb0 := hq0.len hB b0.2.1
    have la1 := hp1.len hB b0.2.2.1
    have lb1 := hq1.len hB b0.2.2.2
    have lz := hzn.len hB bt
    have hta := Int.mul_nonneg nt0 na1
    have htb := Int.mul_nonneg nt0 nb1
    obtain ⟨lb, nb, vp0, vq0, rfl, hmb, hrp0, hrq0⟩ := rep_tup2.mp hrb
    obtain ⟨lh, nh, vp1, vq1, rfl, hmh, hrp1, hrq1⟩ := rep_tup2.mp hrh
    walk_at "ms"
    refine T_itemT (by walk_at "mem") (by decide) (by decide) rfl ?_
    walk_at "ms"
    refine T_fn (c_s_mul hW hrv1 hrp1 hzn hp1 (by (first | lia | omega)) (by (first | lia | omega)) (big64 (by (first | lia | omega)) (by decide))) fun v d ν2 hs2 hd' hr2 => ?_
    obtain ⟨y1, rfl, hy1⟩ := hd'
    have ly1 := hy1.len (k := 64) hB (by (first | lia | omega))
    walk_at "ms"
    refine T_itemT (by walk_at "mem") (by decide) (by decide) rfl ?_
    walk_at "ms"
    refine T_fn (c_s_add hW hr2 (hrp0.mono hs2) hy1 hp0 (by (first | lia | omega)) (by (first | lia | omega)) (big64 (by (first | lia | omega)) (by decide))) fun v d ν3 hs3 hd' hr3 => ?_
    obtain ⟨y2, rfl, hy2⟩ := hd'
    walk_at "ms"
    refine T_itemT (by walk_at "mem") (by decide) (by decide) rfl ?_
    walk_at "ms"
    refine T_fn (c_s_mul hW (hrv1.mono (hs2.trans hs3)) (hrq1.mono (hs2.trans hs3)) hzn hq1 (by (first | lia | omega)) (by (first | lia | omega)) (big64 (by (first | lia | omega)) (by decide))) fun v d ν4 hs4 hd' hr4 => ?_
    obtain ⟨y3, rfl, hy3⟩ := hd'
    have ly3 := hy3.len (k := 64) hB (by (first | lia | omega))
    walk_at "ms"
    refine T_itemT (by walk_at "mem") (by decide) (by decide) rfl ?_
    walk_at "ms"
    refine T_fn (c_s_add hW hr4 (hrq0.mono (hs2.trans (hs3.trans hs4))) hy3 hq0 (by (first | lia | omega)) (by (first | lia | omega)) (big64 (by (first | lia | omega)) (by decide))) fun v d ν5 hs5 hd' hr5 => ?_
    obtain ⟨y4, rfl, hy4⟩ := hd'
    have hr3' := hr3.mono (hs4.trans hs5)
    obtain ⟨lb5, nb5, vq5, rfl, hmb5, hrq5⟩ := rep_Sg.mp hr5
    have h15 : Sub ν1 ν5 := hs2.trans (hs3.trans (hs4.trans hs5))
    walk_at "ms"
    refine T_itemT (by walk_at "mem") (by decide) (by decide) rfl ?_
    walk_at "ms"
    have evs := hvs.length
    refine T_append (by simp only [sizeLine]; (first | lia | omega)) ?_
    walk_at "ms"
    walk_at "out"
    refine mk9 _ _ (ds ++ [.tup [Sg y2, L y4]]) p1 q1 y2 y4 _ _ ⟨rfl, ?_, ⟨_, by walk_at "lk"⟩, by walk_at "lk", by walk_at "lk", by walk_at "lk", by walk_at "lk", ?_, ?_, hp1, hq1, hy2, hy4, by simp [hdl], fun _ => ?_⟩
    · exact (hvs.mono (h15.trans (.cons (.cons (.cons .refl))))).append (.one (rep_tup2.mpr ⟨_, _, _, _, rfl, by walk_at "mem", hr3'.mono (.cons (.cons (.cons .refl))), hrq5.mono (.cons (.cons (.cons .refl)))⟩))
    · exact hrh.mono (h15.trans (.cons (.cons (.cons .refl))))
    · exact rep_tup2.mpr ⟨_, _, _, _, rfl, by walk_at "mem", hr3'.mono (.cons (.cons (.cons .refl))), hr5.mono (.cons (.cons (.cons .refl)))⟩
    · rw [show i + 1 - 1 = ds.length by (first | lia | omega)]; simp
  intro m1 μ1 ν1 hs1 z1J
  refine ex9 z1J fun vs c ds p0 q0 p1 q1 vb vh z1r0 => ?_
  clear z1J
  refine an8 z1r0 fun z1e9 hvs z1p11 gm gf gb gh z1r1 => ?_
  clear z1r0
  refine an8 z1r1 fun hrb hrh hp0 hq0 hp1 hq1 hdl hlast => ?_
  clear z1r1
  subst z1e9
  obtain ⟨t1, gw⟩ := z1p11
  rw [take_all (by (first | lia | omega))] at hp1 hq1
  rw [eut, hzl] at hdl hlast
  walk_at "m"
  refine T_freeze ?_
  walk_at "ms"
  walk_at "out"
  exact ⟨rfl, rfl, _, ⟨ds, rfl, hdl, fun h => ⟨p1, q1, hlast h, hp1, hq1⟩⟩, rep_list.mpr ⟨_, _, _, rfl, List.mem_cons_self, hvs.mono (.cons .refl)⟩⟩

end
section
variable {w : World} {mean : ExcName → Option Value} {mg mb : Loc} {k : Nat} {ν : Led}
theorem c_law_number {W : Nat} (hW : 6 ≤ W ∧ W ≤ 10) {va : Value} {tw : Tok} {xs : List Int} (ha : Rep ν (L xs) va) (hd : Dig (2 ^ W) xs) (zx : xs.length ≤ 4000) :
    Fn (cx w mean mg mb) (k + 1) 308 [va, .int W tw] ν (fun d => d = .int (val (2 ^ W) xs)) := by
  have hB : (2 : Int) ≤ 2 ^ W := by have := pow_le_pow (B := 2) (by decide) hW.1; (first | lia | omega)
  have hB2 : (2 : Int) ^ W ≤ 1024 := by have := pow_le_pow (B := 2) (by decide) hW.2; (first | lia | omega)
  intro e fe m
  obtain ⟨la, ua, na, rfl, hma, hia⟩ := rep_L.mp ha
  have ea := hia.length
  refine T_defC (x := PySem.Str.ofString "w") (binds := [(PySem.Str.ofString "row", .ref la), (PySem.Str.ofString "w", .int W tw)]) (by walk_at "kis") (by walk_at "kis") (fun s => BindsTo.of_eq rfl) (by rfl) (fun _ => rfl) rfl rfl rfl fun L' o m0 ho hm0 Qd hQd => ?_
  have gr : m0 (PySem.Str.ofString "row") = some (.ref la) := by rw [hm0]; rfl
  replace ho : o.data = .cell (some (.int W tw)) := by rw [ho]; rfl
  clear hm0
  walk_at "ms"
  refine T_compEnum (vs := ua) (xi := PySem.Str.ofString "at") (xv := PySem.Str.ofString "limb") (cl := [(PySem.Str.ofString "w", L' + 1)]) (fun i ys ν => (L' + 1, o) ∈ ν ∧ ∃ ns, IntsAre ys ns ∧ ns.sum = val (2 ^ W) (xs.take i)) (fun i ys ν1 ν2 hs h => ⟨hs _ h.1, h.2⟩)
    (by with_unfolding_all rfl) (by decide) rfl (by decide) rfl rfl (by decide) ?_ ?_
  · walk_at "ms"
    refine T_enum (by walk_at "mem") fun ea' ia o' oc od => ?_
    walk_at "out"
    refine mk5 ea' ia o' la na ⟨rfl, rfl, oc, od, by walk_at "mem", by simp only [sizeLine]; (first | lia | omega), ⟨by walk_at "mem", [], .nil, by simp [val]⟩, fun D ν2 ys c hs hj hyl => ?_⟩
    walk_at "ms"
    obtain ⟨_, ns, hns, hsum⟩ := hj
    refine T_sum (by walk_at "mem") hns ?_; intro _
    rw [hsum, take_all (by (first | lia | omega))]
    walk_at "ms"
    walk_at "out"
    exact ⟨rfl, rfl, _, rfl, .i⟩
  · rintro Cc i v t mc ν1 ys hi hv hs1 ⟨hmo, ns, hns, hsum⟩ gi gv
    have hix : i < xs.length := ea ▸ hi
    have hx1 := List.getElem?_eq_getElem (l := xs) (i := i) hix
    obtain ⟨tx, gx⟩ := hia.get _ _ hx1
    rw [gx] at hv
    obtain rfl := Option.some.inj hv
    have dx := hd.get hx1
    refine turn_nil ?_
    walk_at "ms"
    refine T_nameCell (c := L' + 1) (by kernel_rfl!) (by kernel_rfl!) hmo ho ?_
    walk_at "ms"
    have hWi : (W : Int) * (i : Int) = ((W * i : Nat) : Int) := by push_cast; rfl
    have hWi2 : W * i ≤ 10 * 4000 := Nat.mul_le_mul hW.2 (by (first | lia | omega))
    refine T_mulS (p := 20) (q := 20) (natAbs_lt (by (first | lia | omega)) (by (first | lia | omega))) (natAbs_lt (by (first | lia | omega)) (by (first | lia | omega))) (by decide) ?_; intro _
    rw [hWi]
    refine T_pow (by (first | lia | omega)) (by (first | lia | omega)) (by decide) ?_; intro _
    rw [Int.toNat_natCast]
    have hp0 : (0 : Int) < 2 ^ (W * i) := Int.pow_pos (by decide)
    refine T_mulS (p := 20) (q := W * i + 1) (natAbs_lt dx.1 (by (first | lia | omega))) (natAbs_lt (by (first | lia | omega)) (by rw [Int.pow_succ]; (first | lia | omega))) (by (first | lia | omega)) ?_; intro _
    walk_at "out"
    refine ⟨rfl, hmo, ns ++ [xs[i] * 2 ^ (W * i)], hns.append (.cons _ _ .nil), ?_⟩
    rw [val_take_succ hx1, List.sum_append, hsum, Int.pow_mul]
    simp [Int.mul_comm]

end
section
variable {w : World} {mean : ExcName → Option Value} {mg mb : Loc} {k : Nat} {ν : Led}
theorem c_law_limbs {W : Nat} (hW : 6 ≤ W ∧ W ≤ 10) {x : Int} {t tw : Tok} (h0 : 0 ≤ x) (hx : x < 2 ^ 60) :
    Fn (cx w mean mg mb) (k + 1) 303 [.int x t, .int W tw] ν (fun d => ∃ xs, d = L xs ∧ Nm (2 ^ W) xs x) := by
  intro e fe m
  refine T_def (binds := [(PySem.Str.ofString "number", .int x t), (PySem.Str.ofString "w", .int W tw)]) (by walk_at "kis") (by walk_at "kis") (fun s => BindsTo.of_eq rfl) (locs rfl) rfl rfl rfl (by decide) fun L' Qd hQd => ?_
  have hB : (2 : Int) ≤ 2 ^ W := by have := pow_le_pow (B := 2) (by decide) hW.1; (first | lia | omega)
  have hB2 : (2 : Int) ^ W ≤ 1024 := by have := pow_le_pow (B := 2) (by decide) hW.2; (first | lia | omega)
  walk_at "ms"
  refine T_newListM (Nat.le_of_ble_eq_true rfl) fun l hl => ?_
  walk_at "ms"
  refine T_while (fun n m1 μ1 ν1 => ∃ vs c y xs, μ1 = [(l, lo vs c)] ∧ IntsAre vs xs ∧ m1 (PySem.Str.ofString "found") = some (.ref l) ∧ (∃ t, m1 (PySem.Str.ofString "number") = some (.int y t)) ∧ (∃ t, m1 (PySem.Str.ofString "w") = some (.int W t)) ∧
    n = y.toNat ∧ 0 ≤ y ∧ Dig (2 ^ W) xs ∧ val (2 ^ W) xs + (2 ^ W) ^ xs.length * y = x ∧ (xs ≠ [] → (2 ^ W) ^ (xs.length - 1) ≤ x)) x.toNat ?_ ?_
  · walk_at "out"
    exact mk4 [] 0 x [] ⟨rfl, .nil, by walk_at "lk", ⟨_, by walk_at "lk"⟩, ⟨_, by walk_at "lk"⟩, rfl, h0, .nil, by simp [val], fun h => absurd rfl h⟩
  · intro n m1 μ1 ν1 hs Qt0 hQt0 z0J
    refine ex4 z0J fun vs c y xs z0r0 => ?_
    clear z0J
    refine an6 z0r0 fun z0e4 hi hf z0p7 z0p8 z0r1 => ?_
    clear z0r0
    refine an5 z0r1 fun z0e9 hy hd hv hg => ?_
    clear z0r1
    subst z0e4
    obtain ⟨tn, hn⟩ := z0p7
    obtain ⟨tw', hw⟩ := z0p8
    subst z0e9
    have hlen := hi.length
    have hvn := val_nonneg (B := 2 ^ W) (by (first | lia | omega)) hd
    walk_at "ms"
    walk_at "out"
    refine ⟨fun hb => ?_, fun hb => ?_⟩
    · have hy0 := of_decide_eq_true hb
      have hp := pow_pos' (B := 2 ^ W) (by (first | lia | omega)) xs.length
      have hge : (2 ^ W) ^ xs.length ≤ x := by have := mul_pos_ge hp hy0; (first | lia | omega)
      have hl60 : xs.length < 60 := pow_lt_pow_iff2 (B := 2) (by decide) (by have := two_pow_le_pow hB xs.length; (first | lia | omega))
      walk_at "ms"
      refine T_pow (by (first | lia | omega)) (by (first | lia | omega)) (by decide) ?_; intro _
      rw [Int.toNat_natCast]
      refine T_fmod (by (first | lia | omega)) ?_; intro _
      walk_at "ms"
      refine T_append (by simp only [sizeLine]; (first | lia | omega)) ?_
      walk_at "ms"
      refine T_pow (by (first | lia | omega)) (by (first | lia | omega)) (by decide) ?_; intro _
      rw [Int.toNat_natCast]
      refine T_fdiv (by (first | lia | omega)) (by (first | lia | omega)) ?_; intro _
      walk_at "ms"
      walk_at "out"
      refine ⟨(y / 2 ^ W).toNat, ?_, mk4 _ _ (y / 2 ^ W) (xs ++ [y % 2 ^ W]) ⟨rfl, hi.append (.cons _ _ .nil), by walk_at "lk", ⟨_, by walk_at "lk"⟩, ⟨_, by walk_at "lk"⟩, rfl, Int.ediv_nonneg hy (by (first | lia | omega)), hd.snoc (emod_dig (by (first | lia | omega)) y), ?_, fun _ => ?_⟩⟩
      · have h1 : y / 2 ^ W < y := Int.ediv_lt_self_of_pos_of_ne_one hy0 (by (first | lia | omega)) |> fun h => h
        (first | lia | omega)
      · have := snoc_carry (B := 2 ^ W) xs y
        simp only [List.length_append, List.length_cons, List.length_nil, Nat.zero_add]; (first | lia | omega)
      · simpa using hge
    · have hy0 := of_decide_eq_false hb
      have hy' : y = 0 := by (first | lia | omega)
      subst hy'
      walk_at "m"
      refine T_freeze ?_
      walk_at "ms"
      walk_at "out"
      exact ⟨rfl, rfl, _, ⟨xs, rfl, .of_ge (by (first | lia | omega)) hd (by simpa using hv) hg⟩, rep_L.mpr ⟨l, _, _, rfl, List.mem_cons_self, hi⟩⟩
theorem c_law_picked {lh lp : Addr} {i : Int} {ti tm : Tok} {c cp : Nat} {up : List Value} {ps : List Int} {many : Int} (hp : (lp, lo up cp) ∈ ν) (hi : IntsAre up ps) (hz : up.length ≤ 1000) (hi0 : 0 ≤ i) (hi1 : i ≤ 1000) (hm : 0 < many) (e fe : Env) (m : Loc) :
    T (cx w mean mg mb) (k + 1) e fe (call (.ref 296) [.ref lh, .int many tm]) m [(lh, lo [.int i ti, .ref lp] c)] ν (fun v m' μ' ν' => m' = m ∧ ∃ r t t' c', v = .int r t ∧ μ' = [(lh, lo [.int (i + 1) t', .ref lp] c')] ∧ 0 ≤ r ∧ r < many) := by
  refine T_def (binds := [(PySem.Str.ofString "hat", .ref lh), (PySem.Str.ofString "many", .int many tm)]) (by walk_at "kis") (by walk_at "kis") (fun s => BindsTo.of_eq rfl) (locs rfl) rfl rfl rfl (by decide) fun L' Qd hQd => ?_
  walk_at "ms"
  refine T_item (by walk_at "mem") (by decide) (by decide) rfl ?_
  walk_at "ms"
  refine T_set (by decide) (by decide) (by simp) ?_
  walk_at "ms"
  refine T_item (by walk_at "mem") (by decide) (by decide) rfl ?_
  walk_at "ms"
  refine T_item (by walk_at "mem") (by decide) (by decide) rfl ?_
  walk_at "ms"
  refine T_len (by walk_at "mem") (by (first | lia | omega)) ?_; intro _
  walk_at "ms"
  refine T_if (fun hb => ?_) (fun hb => ?_)
  · have hle := of_decide_eq_true hb
    have hpl := hi.length
    have hx1 := List.getElem?_eq_getElem (l := ps) (i := i.toNat) (by (first | lia | omega))
    obtain ⟨tx, gx⟩ := hi.get _ _ hx1
    walk_at "ms"
    refine T_item (by walk_at "mem") (by decide) (by decide) rfl ?_
    walk_at "ms"
    refine T_item (by walk_at "mem") (by decide) (by decide) rfl ?_
    walk_at "ms"
    refine T_item (by walk_at "mem") (by (first | lia | omega)) (by (first | lia | omega)) (by rw [show (i + 1 - 1).toNat = i.toNat by (first | lia | omega)]; exact gx) ?_
    walk_at "ms"
    refine T_fmod hm ?_; intro _
    walk_at "ms"
    walk_at "out"
    exact ⟨rfl, mk4 _ _ _ _ ⟨rfl, rfl, Int.emod_nonneg _ (by (first | lia | omega)), Int.emod_lt_of_pos _ hm⟩⟩
  · walk_at "ms"
    refine T_item (by walk_at "mem") (by decide) (by decide) rfl ?_
    refine T_mulS (p := 20) (q := 20) (by decide) (natAbs_lt (by (first | lia | omega)) (by (first | lia | omega))) (by decide) ?_; intro _
    walk_at "ms"
    refine T_item (by walk_at "mem") (by decide) (by decide) rfl ?_
    walk_at "ms"
    refine T_fdiv (by decide) (by decide) ?_; intro _
    walk_at "ms"
    refine T_fmod hm ?_; intro _
    walk_at "ms"
    walk_at "out"
    exact ⟨rfl, mk4 _ _ _ _ ⟨rfl, rfl, Int.emod_nonneg _ (by (first | lia | omega)), Int.emod_lt_of_pos _ hm⟩⟩

end
section
variable {w : World} {mean : ExcName → Option Value} {mg mb : Loc} {k : Nat} {ν : Led}
theorem c_law_parts {W : Nat} (hW : 6 ≤ W ∧ W ≤ 10) {x y : Int} {tx ty tw : Tok} (hx0 : 0 ≤ x) (hx : x < 2 ^ 60) (hy0 : 0 ≤ y) (hy : y < 2 ^ 60) :
    Fn (cx w mean mg mb) (k + 9) 313 [.int x tx, .int y ty, .int W tw] ν (fun d => ∃ ns, d = L ns ∧ CF x y ns) := by
  have hB : (2 : Int) ≤ 2 ^ W := by have := pow_le_pow (B := 2) (by decide) hW.1; (first | lia | omega)
  intro e fe m
  refine T_defC (x := PySem.Str.ofString "w") (binds := [(PySem.Str.ofString "top", .int x tx), (PySem.Str.ofString "bottom", .int y ty), (PySem.Str.ofString "w", .int W tw)]) (by walk_at "kis") (by walk_at "kis") (fun s => BindsTo.of_eq rfl) (by rfl) (fun _ => rfl) rfl rfl rfl fun L' o m0 ho hm0 Qd hQd => ?_
  have gt : m0 (PySem.Str.ofString "top") = some (.int x tx) := by rw [hm0]; rfl
  have gb : m0 (PySem.Str.ofString "bottom") = some (.int y ty) := by rw [hm0]; rfl
  replace ho : o.data = .cell (some (.int W tw)) := by rw [ho]; rfl
  clear hm0
  walk_at "ms"
  refine T_nameCell (c := L' + 1) (by kernel_rfl!) (by kernel_rfl!) (by walk_at "mem") ho ?_
  walk_at "ms"
  refine T_fn (c_law_limbs hW hx0 hx) fun v d ν1 hs1 hd' hr1 => ?_
  obtain ⟨as, rfl, has⟩ := hd'
  walk_at "ms"
  refine T_nameCell (c := L' + 1) (by kernel_rfl!) (by kernel_rfl!) (by walk_at "mem") ho ?_
  walk_at "ms"
  refine T_fn (c_law_limbs hW hy0 hy) fun v d ν2 hs2 hd' hr2 => ?_
  obtain ⟨bs, rfl, hbs⟩ := hd'
  have h12 : Sub ν1 ν2 := Sub.trans (.cons .refl) hs2
  walk_at "ms"
  refine T_nameCell (c := L' + 1) (by kernel_rfl!) (by kernel_rfl!) (by walk_at "mem") ho ?_
  walk_at "ms"
  refine T_fn (c_continued hW (rep_tup2.mpr ⟨_, _, _, _, rfl, List.mem_cons_self, rep_Sg.mpr ⟨_, _, _, rfl, List.mem_cons_of_mem _ (hs2 _ List.mem_cons_self), hr1.mono (h12.trans (.cons .refl))⟩, hr2.mono (.cons .refl)⟩) has hbs (by (first | lia | omega)) (by (first | lia | omega))) fun v d ν3 hs3 hd' hr3 => ?_
  obtain ⟨zss, ns, rfl, hnm, hcf, h130, hsm⟩ := hd'
  obtain ⟨lf, uf, nf, rfl, hmf, hrf⟩ := rep_list.mp hr3
  have euf := hrf.length
  rw [List.length_map] at euf
  have hzl := hnm.length
  have hmo : (L' + 1, o) ∈ ν3 := hs3 _ (List.mem_cons_of_mem _ (h12 _ (hs1 _ List.mem_cons_self)))
  clear hs1 hs2 h12 hs3 hr1 hr2 hr3
  walk_at "m"
  walk_at "m"
  walk_at "m"
  walk_at "m"
  walk_at "m"
  refine T_isTrue_cmp ?_ (by with_unfolding_all rfl)
  refine T_compList (vs := uf) (x := PySem.Str.ofString "part") (cl := []) (fun i ys ν => ys = [] ∧ Reps ν (zss.map Sg) uf) (fun i ys ν1 ν2 hs h => ⟨h.1, h.2.mono hs⟩)
    (by with_unfolding_all rfl) (by decide) rfl (by decide) rfl ?_ ?_
  · walk_at "ms"
    walk_at "out"
    refine ⟨lf, nf, rfl, by walk_at "mem", rfl, by simp only [sizeLine]; (first | lia | omega), ⟨rfl, hrf⟩, fun D ν4 ys c hs4 hj hyl => ?_⟩
    obtain ⟨rfl, hrf4⟩ := hj
    walk_at "ms"
    refine T_newList (Nat.le_of_ble_eq_true rfl) fun l0 hl0 => ?_
    walk_at "ms"
    refine T_eqL (by (first | lia | omega)) (by walk_at "mem") (by walk_at "mem") .nil .nil ?_
    walk_at "ms"
    refine T_if (fun _ => ?_) (fun hb => absurd rfl hb)
    have hmo4 : (L' + 1, o) ∈ (l0, lo [] 0) :: (D, lo [] c) :: ν4 := List.mem_cons_of_mem _ (List.mem_cons_of_mem _ (hs4 _ hmo))
    refine T_compList (vs := uf) (x := PySem.Str.ofString "part") (cl := [(PySem.Str.ofString "w", L' + 1)]) (fun i ys ν => (L' + 1, o) ∈ ν ∧ Reps ν (zss.map Sg) uf ∧ IntsAre ys (ns.take i)) (fun i ys ν1 ν2 hs h => ⟨hs _ h.1, h.2.1.mono hs, h.2.2⟩)
      (by with_unfolding_all rfl) (by decide) rfl (by decide) rfl ?_ ?_
    · walk_at "ms"
      walk_at "out"
      refine ⟨lf, nf, rfl, by walk_at "mem", rfl, by simp only [sizeLine]; (first | lia | omega), ⟨hmo4, hrf4.mono (.cons (.cons .refl)), .nil⟩, fun D2 ν5 ys c hs5 hj hyl => ?_⟩
      obtain ⟨_, _, hys⟩ := hj
      rw [List.take_of_length_le (by (first | lia | omega))] at hys
      walk_at "ms"
      walk_at "out"
      exact ⟨rfl, rfl, _, ⟨ns, rfl, hcf⟩, rep_L.mpr ⟨_, _, _, rfl, List.mem_cons_self, hys⟩⟩
    · rintro Cc i v mc ν5 ys hi hv hs5 ⟨hmo5, hrf5, hys⟩ gp
      have hin : i < ns.length := by (first | lia | omega)
      have hn := List.getElem?_eq_getElem (l := ns) (i := i) hin
      obtain ⟨z, hz, hzn⟩ := hnm.get hn
      obtain ⟨v', hv', hrv⟩ := hrf5.get (i := i) (d := Sg z) (by rw [List.getElem?_map, hz]; rfl)
      rw [hv'] at hv
      obtain rfl := Option.some.inj hv
      obtain ⟨la, na, q, rfl, hma, hrq⟩ := rep_Sg.mp hrv
      refine turn_nil ?_
      walk_at "ms"
      refine T_itemT (by walk_at "mem") (by decide) (by decide) rfl ?_
      walk_at "ms"
      refine T_nameCell (c := L' + 1) (by kernel_rfl!) (by kernel_rfl!) hmo5 ho ?_
      walk_at "ms"
      refine T_fn (c_law_number hW hrq hzn.dig (by have := hzn.len hB (hsm _ (List.getElem_mem hin)); (first | lia | omega))) fun v d ν6 hs6 hd' hr6 => ?_
      subst hd'
      obtain ⟨tv, rfl⟩ := rep_int.mp hr6
      walk_at "out"
      refine ⟨rfl, hs6 _ hmo5, hrf5.mono hs6, ?_⟩
      rw [List.take_add_one, hn, hzn.eq]
      exact hys.append (.cons _ _ .nil)
  · rintro Cc i v mc ν4 ys hi hv hs4 ⟨rfl, hrf4⟩ gp
    have hiz : i < zss.length := by (first | lia | omega)
    obtain ⟨v', hv', hrv⟩ := hrf4.get (i := i) (d := Sg zss[i]) (by rw [List.getElem?_map, List.getElem?_eq_getElem hiz]; rfl)
    rw [hv'] at hv
    obtain rfl := Option.some.inj hv
    obtain ⟨la, na, q, rfl, hma, hrq⟩ := rep_Sg.mp hrv
    refine turn_one ?_
    refine T_isTrue_val ?_ (by with_unfolding_all rfl)
    walk_at "ms"
    refine T_itemT (by walk_at "mem") (by decide) (by decide) rfl ?_
    walk_at "ms"
    walk_at "out"
    exact ⟨rfl, (fun h => nomatch h), fun _ => ⟨rfl, hrf4⟩⟩

end
theorem law_holds : PySem.Challenge.rw_sa0342_01.Holds := Mine.hd (by
  k_go0
  all_goals try k_fold
  rename_i w s₀ s₁ mg mb _ _ fa _ _ _ _ hgen KX _ _ _ T0 _ _ _ _ _ _ _ cdv _ ps _ _ _ _ _ _ _ l us _ hL _ _ _ hI _ hlen _ B0 _ h₁ tk₁ F0 oc ho N0 _
  refine top_T (C := (cx w (ExcName.means s₀.heap) mg mb).with [(l, us)]) (k := 40) (by decide) (by decide) rfl rfl rfl rfl rfl B0 KX T0 F0 N0 (fun p hp => by rw [List.mem_singleton.mp hp]; exact hL) (P := fun fl _ _ _ => fl = .ret (.bool true)) ?_ ?_
  · generalize hm : bindL _ _ _ = m
    have gs : m (PySem.Str.ofString "script") = some (.ref l) := by rw [← hm]; rfl
    have hc : oc.data = .cell none := by rw [ho]; rfl
    clear hm ho N0 F0 KX T0 B0
    dsimp only
    walk_at "ms"
    refine T_part (μc := []) (μr := [(_, oc)]) (Q := fun v m' μ' ν' => m' = m ∧ μ' = [] ∧ ∃ D ys c as, v = .ref D ∧ (D, lo ys c) ∈ ν' ∧ IntsAre ys as ∧ ys.length ≤ 63)
      (T_compList (vs := (slicePick us.toArray none (some 3) none).toList) (x := PySem.Str.ofString "rabbit") (cl := []) (fun i ys ν => ∃ as, IntsAre ys as) (fun i ys ν1 ν2 hs h => h) (by with_unfolding_all rfl) (by decide) rfl (by decide) rfl ?_ ?_) ?_
    · refine T_sliceG ?_
      walk_at "ms"
      have hz : (slicePick us.toArray none (some 3) none).toList.length ≤ 63 := by
        have := (kmk_upto hI (y := 3) (by decide)).length
        rw [this, List.length_take]
        have := hI.length
        (first | lia | omega)
      walk_at "out"
      refine mk4 l us none (some 3) ⟨rfl, List.mem_cons_self, .none, .int _ _, by have := hI.length; simp only [sizeLine]; (first | lia | omega), fun l' hl' => ?_⟩
      walk_at "out"
      refine ⟨l', 0, rfl, List.mem_cons_self, rfl, by simp only [sizeLine]; (first | lia | omega), ⟨[], .nil⟩, fun D ν2 ys c hs hj hyl => ?_⟩
      walk_at "out"
      exact ⟨rfl, rfl, mk4 D ys c _ ⟨rfl, List.mem_cons_self, hj.choose_spec, by (first | lia | omega)⟩⟩
    · rintro Cc i v mc ν1 ys hi hv hs1 ⟨as, has⟩ gr
      obtain ⟨x, tx, hx⟩ : ∃ x t, v = .int x t := by
        have hq := kmk_upto hI (y := 3) (by decide)
        have hil : i < (ps.take (3 : Int).toNat).length := by rw [← hq.length]; exact hi
        obtain ⟨t, ht⟩ := hq.get _ _ (List.getElem?_eq_getElem hil)
        rw [ht] at hv
        walk_at "out"
        exact ⟨_, t, (Option.some.inj hv).symm⟩
      subst hx
      refine turn_nil ?_
      walk_at "ms"
      refine T_intInt ?_
      walk_at "ms"
      refine T_abs ?_; intro _
      walk_at "out"
      exact ⟨rfl, _, has.append (.cons _ _ .nil)⟩
    intro v m1 μ1 ν1 hs1 z1J
    refine an3 z1J fun z1e0 z1e1 z1r0 => ?_
    clear z1J
    refine ex4 z1r0 fun lp up cp as z1r1 => ?_
    clear z1r0
    refine an4 z1r1 fun z1e6 hmp has hup => ?_
    clear z1r1
    subst z1e0
    subst z1e1
    subst z1e6
    simp only [List.nil_append, List.append_nil]
    walk_at "ms"
    refine T_newListM (Nat.le_of_ble_eq_true rfl) fun lh hlh => ?_
    walk_at "ms"
    refine T_part (μc := [(lh, _)]) (μr := [(_, oc)]) (T_with rfl (c_law_picked (k := 39) hmp has (by (first | lia | omega)) (by decide) (by decide) (by decide) _ _ _)) ?_
    intro v m2 μ2 ν2 hs2 z2J
    obtain ⟨z2e0, z2r0⟩ := z2J
    refine ex4 z2r0 fun r1 t1 t1' c1 z2r1 => ?_
    clear z2r0
    refine an4 z2r1 fun z2e5 z2e6 hr10 hr11 => ?_
    clear z2r1
    subst z2e0
    subst z2e5
    subst z2e6
    simp only [List.cons_append, List.nil_append]
    walk_at "ms"
    refine T_part (μc := [(lh, _)]) (μr := [(_, oc)]) (T_with rfl (c_law_picked (k := 39) (hs2 _ hmp) has (by (first | lia | omega)) (by decide) (by decide) (by decide) _ _ _)) ?_
    intro v m3 μ3 ν3 hs3 z3J
    obtain ⟨z3e0, z3r0⟩ := z3J
    refine ex4 z3r0 fun r2 t2 t2' c2 z3r1 => ?_
    clear z3r0
    refine an4 z3r1 fun z3e5 z3e6 hr20 hr21 => ?_
    clear z3r1
    subst z3e0
    subst z3e5
    subst z3e6
    simp only [List.cons_append, List.nil_append]
    obtain ⟨r, rfl⟩ := Int.eq_ofNat_of_zero_le hr10
    obtain ⟨n, rfl⟩ := Int.eq_ofNat_of_zero_le hr20
    walk_at "ms"
    rw [show (6 : Int) + (r : Int) = ((6 + r : Nat) : Int) by (first | lia | omega)]
    obtain ⟨W, hWr⟩ : ∃ W, W = 6 + r := ⟨_, rfl⟩
    rw [← hWr]
    have hW : 6 ≤ W ∧ W ≤ 10 := by (first | lia | omega)
    have hn : n ≤ 25 := by (first | lia | omega)
    clear hr10 hr11 hr20 hr21 hWr
    refine T_freeze (T_storeCell (by kernel_rfl!) (by kernel_rfl!) hc fun ow how => ?_)
    refine T_freeze ?_
    walk_at "ms"
    refine T_nameCell (c := s₁.heap.objs.size + 1) (by kernel_rfl!) (by kernel_rfl!) List.mem_cons_self how ?_
    walk_at "ms"
    refine T_fn ((c_e_bits (k := 9) hW hn).with rfl) fun v d ν4 hs4 hd' hr4 => ?_
    obtain ⟨M, qs, hM, rfl, hq⟩ := hd'
    obtain ⟨lo', up', hlo, hup', fine⟩ := plain hn hM
    have hq : Nm (2 ^ W) qs (eV n M) := hq
    obtain ⟨V0, V1, len1, len2, k0, k1, hdue, hemp, hparts, hcvs, hlast⟩ := fine
    generalize eV n M = V at *
    have hB : (2 : Int) ≤ 2 ^ W := by have := pow_le_pow (B := 2) (by decide) hW.1; (first | lia | omega)
    have hmw : (s₁.heap.objs.size + 1, ow) ∈ ν4 := hs4 _ List.mem_cons_self
    walk_at "ms"
    refine T_nameCell (c := s₁.heap.objs.size + 1) (by kernel_rfl!) (by kernel_rfl!) hmw how ?_
    walk_at "ms"
    refine T_fn ((c_law_number (k := 39) hW hr4 hq.dig (by have := hq.len hB V1; (first | lia | omega))).with rfl) fun v d ν5 hs5 hd' hr5 => ?_
    subst hd'
    rw [hq.eq] at hr5
    obtain ⟨tV, rfl⟩ := rep_int.mp hr5
    have hmw5 := hs5 _ hmw
    clear hr4 hr5 hq hmw
    have hp2 : (0 : Int) < 2 ^ n := Int.pow_pos (by decide)
    have hp3 : (2 : Int) ^ n < 2 ^ 26 := Int.lt_of_le_of_lt (pow_le_pow (by decide) hn) (by decide)
    walk_at "ms"
    refine T_pow (by (first | lia | omega)) (by (first | lia | omega)) (by decide) ?_; intro _
    rw [Int.toNat_natCast]
    walk_at "ms"
    refine T_nameCell (c := s₁.heap.objs.size + 1) (by kernel_rfl!) (by kernel_rfl!) hmw5 how ?_
    walk_at "ms"
    refine T_fn ((c_law_parts (k := 31) hW V0 (by (first | lia | omega)) (by (first | lia | omega)) (by (first | lia | omega))).with rfl) fun v d ν6 hs6 hd' hr6 => ?_
    obtain ⟨ns, rfl, hcf⟩ := hd'
    obtain rfl := hcf.det hlo
    have hmw6 := hs6 _ hmw5
    clear hcf hmw5
    walk_at "ms"
    refine T_pow (by (first | lia | omega)) (by (first | lia | omega)) (by decide) ?_; intro _
    rw [Int.toNat_natCast]
    walk_at "ms"
    refine T_nameCell (c := s₁.heap.objs.size + 1) (by kernel_rfl!) (by kernel_rfl!) hmw6 how ?_
    walk_at "ms"
    refine T_fn ((c_law_parts (k := 31) hW (by (first | lia | omega)) (by (first | lia | omega)) (by (first | lia | omega)) (by (first | lia | omega))).with rfl) fun v d ν7 hs7 hd' hr7 => ?_
    obtain ⟨ns', rfl, hcf⟩ := hd'
    obtain rfl := hcf.det hup'
    have hmw7 := hs7 _ hmw6
    have hr6' := hr6.mono hs7
    obtain ⟨ll, ul, nl, rfl, hml, hil⟩ := rep_L.mp hr6'
    obtain ⟨lu, uu, nu, rfl, hmu, hiu⟩ := rep_L.mp hr7
    clear hcf hmw6 hr6 hr6' hr7
    walk_at "ms"
    have el := hil.length
    have eu := hiu.length
    refine T_compEnumZip (vs := ul) (ws := uu) (y := PySem.Str.ofString "unlike") (xi := PySem.Str.ofString "at") (xv := PySem.Str.ofString "pair") (cl := []) (fun i ys ν => IntsAre ys (unL ns ns' i)) (fun i ys ν1 ν2 hs h => h)
      (by with_unfolding_all rfl) (by with_unfolding_all rfl) (by decide) rfl (by decide) rfl rfl (by decide) (by kernel_rfl!) ?_ ?_
    · walk_at "ms"
      refine T_zip (by walk_at "mem") (by walk_at "mem") fun z TI TO i1 i2 o1 o2 D c1 d1 c2 d2 => ?_
      walk_at "ms"
      refine T_enumZ List.mem_cons_self fun ea hea => ?_
      walk_at "out"
      refine ⟨ea, z, TI, TO, i1, i2, o1, o2, ll, lu, nl, nu, rfl, D, rfl, c1, d1, c2, d2, by walk_at "mem", by walk_at "mem", by simp only [sizeLine]; (first | lia | omega), .nil, fun D' ν8 ys c hs8 hj hyl => ?_⟩
      rw [el, eu] at hj
      have hyz := hj.length
      walk_at "ms"
      refine T_len (by walk_at "mem") (by (first | lia | omega)) ?_; intro _
      walk_at "ms"
      refine T_len (by walk_at "mem") (by (first | lia | omega)) ?_; intro _
      walk_at "ms"
      refine T_min ?_; intro tm
      walk_at "ms"
      refine T_newList (Nat.le_of_ble_eq_true rfl) fun l0 hl0 => ?_
      walk_at "ms"
      refine T_addLists (by walk_at "mem") (by walk_at "mem") (by simp only [sizeLine, List.length_singleton]; (first | lia | omega)) fun l1 hl1 => ?_
      walk_at "ms"
      have hcut : ∃ t, (ys ++ [Value.int (min (ul.length : Int) (uu.length : Int)) tm])[0]? = some (.int (cutL ns ns') t) := by
        have h1 : IntsAre (ys ++ [Value.int (min (ul.length : Int) (uu.length : Int)) tm]) (unL ns ns' (min ns.length ns'.length) ++ [((min ns.length ns'.length : Nat) : Int)]) := by
          rw [show min (ul.length : Int) (uu.length : Int) = ((min ns.length ns'.length : Nat) : Int) by (first | lia | omega)]
          exact hj.append (.cons _ _ .nil)
        refine h1.get 0 _ ?_
        unfold cutL
        cases unL ns ns' (min ns.length ns'.length) with
        | nil => rfl
        | cons a r => rfl
      obtain ⟨tc, hcut⟩ := hcut
      refine T_item (by walk_at "mem") (by decide) (by decide) hcut ?_
      walk_at "out"
      refine mk5 ll ul nl none (some (cutL ns ns')) ⟨rfl, by walk_at "mem", .none, .int _ _, by simp only [sizeLine]; (first | lia | omega), fun ls hls => ?_⟩
      have hsh : IntsAre (slicePick ul.toArray none (some (cutL ns ns')) none).toList (shL ns ns') := kmk_upto hil k0
      have hsl : (shL ns ns').length ≤ 100 := by unfold shL; rw [List.length_take]; (first | lia | omega)
      generalize (slicePick ul.toArray none (some (cutL ns ns')) none).toList = us' at hsh
      generalize shL ns ns' = sh at *
      have esh := hsh.length
      walk_at "ms"
      refine T_newListM (Nat.le_of_ble_eq_true rfl) fun ld hld => ?_
      walk_at "ms"
      refine T_forRange (a := 0) (b := (us'.length : Int)) (c := 1) (n := sh.length) (fun i m1 μ1 ν1 => ∃ vs c, μ1 = [(ld, lo vs c)] ∧ IntsAre vs (dueL i) ∧ m1 (PySem.Str.ofString "due") = some (.ref ld) ∧ m1 (PySem.Str.ofString "shared") = some (.ref ls) ∧ (∃ t, m1 (PySem.Str.ofString "n") = some (.int n t)) ∧ (∃ t, m1 (PySem.Str.ofString "value") = some (.int V t)) ∧ vs.length ≤ 10 + 3 * i)
        rfl (small_up (by (first | lia | omega)) (by (first | lia | omega)) (by (first | lia | omega)) (by (first | lia | omega))).1 (by rw [(small_up (a := 0) (b := us'.length) (by (first | lia | omega)) (by (first | lia | omega)) (by (first | lia | omega)) (by (first | lia | omega))).2]; (first | lia | omega)) ?_ ?_ ?_
      · refine T_hide fun _ _ => ?_
        walk_at "ms"
        refine T_len (by walk_at "mem") (by (first | lia | omega)) ?_; intro _
        walk_at "ms"
        refine T_range1 fun r t u v => ?_
        walk_at "out"
        exact mk4 r t u v ⟨rfl, List.mem_cons_self, _, _, rfl, .cons _ _ .nil, by walk_at "lk", by walk_at "lk", ⟨_, by walk_at "lk"⟩, ⟨_, by walk_at "lk"⟩, by simp⟩
      · intro i t m9 μ9 ν9 hi hs9 Qt4 hQt4 z4J
        refine ex2 z4J fun vs c9 z4r0 => ?_
        clear z4J
        refine an7 z4r0 fun z4e2 hvs gd gsh z4p6 z4p7 hlen9 => ?_
        clear z4r0
        subst z4e2
        obtain ⟨t9, gn⟩ := z4p6
        obtain ⟨t9', gv⟩ := z4p7
        walk_at "ms"
        refine T_getExtend (by walk_at "mem") ?_
        walk_at "ms"
        refine T_mulS (p := 20) (q := 60) (by decide) (natAbs_lt (by (first | lia | omega)) (by (first | lia | omega))) (by decide) ?_; intro _
        walk_at "ms"
        refine T_newList (Nat.le_of_ble_eq_true rfl) fun lx hlx => ?_
        walk_at "ms"
        refine T_extend (by walk_at "mem") (by simp only [sizeLine, List.length_cons, List.length_nil]; (first | lia | omega)) fun n9 => ?_
        walk_at "ms"
        walk_at "out"
        refine ⟨_, _, rfl, hvs.append ?_, by walk_at "lk", by walk_at "lk", ⟨_, by walk_at "lk"⟩, ⟨_, by walk_at "lk"⟩, by simp; (first | lia | omega)⟩
        rw [show (2 : Int) * (0 + (i : Int) * 1) + 2 = 2 * (i : Int) + 2 by (first | lia | omega)]
        exact .cons _ _ (.cons _ _ (.cons _ _ .nil))
      intro m9 μ9 ν9 hs9 z5J
      refine ex2 z5J fun vs c9 z5r0 => ?_
      clear z5J
      refine an7 z5r0 fun z5e2 hvs gd gsh z5p6 z5p7 hlen9 => ?_
      clear z5r0
      subst z5e2
      obtain ⟨t9, gn⟩ := z5p6
      obtain ⟨t9', gv⟩ := z5p7
      have hmsh : (ls, lo us' 0) ∈ ν9 := hs9 _ List.mem_cons_self
      have hmw9 : (s₁.heap.objs.size + 1, ow) ∈ ν9 := hs9 _ (List.mem_cons_of_mem _ (List.mem_cons_of_mem _ (List.mem_cons_of_mem _ (List.mem_cons_of_mem _ (hs8 _ (List.mem_cons_of_mem _ hmw7))))))
      clear hs9 hs8
      walk_at "m"
      refine T_st (T_mono (P := fun f m1 μ1 ν1 => f = .next ∧ m1 = m9 ∧ μ1 = [(ld, lo vs c9)] ∧ Sub ν9 ν1) ?_ ?_)
      · walk_at "ms"
        refine T_len (List.mem_append_right _ hmsh) (by (first | lia | omega)) ?_; intro _
        walk_at "out"
        refine mk5 ld vs c9 none (some (us'.length : Int)) ⟨rfl, List.mem_cons_self, .none, .int _ _, by simp only [sizeLine]; (first | lia | omega), fun l9 hl9 => ?_⟩
        have hdu := kmk_upto hvs (y := (us'.length : Int)) (by (first | lia | omega))
        have hdu2 : (dueL sh.length).take (us'.length : Int).toNat = sh := by rw [Int.toNat_natCast, esh, ← hdue]
        rw [hdu2] at hdu
        refine T_neL (by decide) (by walk_at "mem") (by walk_at "mem") hsh hdu ?_
        rw [show (!decide (sh = sh)) = false by simp]
        walk_at "ms"
        walk_at "out"
        refine ⟨(fun h => nomatch h), fun _ => ?_⟩
        walk_at "ms"
        walk_at "out"
        refine ⟨fun hb => ?_, fun hb => ?_⟩
        · have hn2 := of_decide_eq_true hb
          walk_at "ms"
          refine T_newList (Nat.le_of_ble_eq_true rfl) fun l10 hl10 => ?_
          walk_at "ms"
          refine T_eqL (by decide) (by walk_at "mem") (by walk_at "mem") hsh .nil ?_
          walk_at "ms"
          walk_at "out"
          refine ⟨fun hb => ?_, fun _ => ?_⟩
          · have hnil := of_decide_eq_true hb
            exact absurd hnil (hemp.resolve_left (by (first | lia | omega)))
          · walk_at "out"
            refine ⟨(fun h => nomatch h), fun _ => ?_⟩
            walk_at "ms"
            refine T_if (fun h => nomatch h) fun _ => ?_
            walk_at "ms"
            walk_at "out"
            exact ⟨rfl, rfl, rfl, .cons (.cons .refl)⟩
        · walk_at "out"
          refine ⟨(fun h => nomatch h), fun _ => ?_⟩
          walk_at "ms"
          refine T_if (fun h => nomatch h) fun _ => ?_
          walk_at "ms"
          walk_at "out"
          exact ⟨rfl, rfl, rfl, .cons .refl⟩
      · rintro f m10 μ10 ν10 hs10 ⟨rfl, rfl, rfl, hsub⟩
        have hmsh' := hsub _ hmsh
        have hmw' := hsub _ hmw9
        clear hs10 hmsh hmw9 hsub
        walk_at "ms"
        refine T_newList (Nat.le_of_ble_eq_true rfl) fun l11 hl11 => ?_
        walk_at "ms"
        refine T_eqL (by decide) (by walk_at "mem") (by walk_at "mem") hsh .nil ?_
        walk_at "ms"
        refine T_if (fun hb => ?_) fun hb => ?_
        · walk_at "ms"
          rfl
        · have hne : sh ≠ [] := of_decide_eq_false (Bool.not_eq_true _ ▸ hb)
          obtain ⟨bt0, bt1, hfin⟩ := hlast.resolve_left hne
          have hc0 := hcvs sh.length (List.mem_range.mpr (by (first | lia | omega)))
          rw [List.take_length] at hc0
          have hshp : 0 < sh.length := by
            rcases Nat.eq_zero_or_pos sh.length with h | h
            · exact absurd (List.eq_nil_of_length_eq_zero h) hne
            · exact h
          refine T_freeze ?_
          walk_at "ms"
          refine T_compList (vs := us') (x := PySem.Str.ofString "part") (cl := [(PySem.Str.ofString "w", s₁.heap.objs.size + 1)]) (fun i ys ν => (s₁.heap.objs.size + 1, ow) ∈ ν ∧ ∃ zss, Reps ν (zss.map Sg) ys ∧ Nms (2 ^ W) zss (sh.take i))
            (fun i ys ν1 ν2 hs h => ⟨hs _ h.1, h.2.imp fun zss hz => ⟨hz.1.mono hs, hz.2⟩⟩) (by with_unfolding_all rfl) (by decide) rfl (by decide) rfl ?_ ?_
          · walk_at "ms"
            walk_at "out"
            refine ⟨ls, 0, rfl, by walk_at "mem", rfl, by simp only [sizeLine]; (first | lia | omega), ⟨by walk_at "mem", [], .nil, .nil⟩, fun D2 ν11 ys2 c11 hs11 hj hyl => ?_⟩
            obtain ⟨hmw11, zss, hzr, hzn⟩ := hj
            rw [take_all (by (first | lia | omega))] at hzn
            walk_at "ms"
            refine T_nameCell (c := s₁.heap.objs.size + 1) (by kernel_rfl!) (by kernel_rfl!) (by walk_at "mem") how ?_
            walk_at "ms"
            refine T_fn ((c_convergents (k := 35) hW (rep_list.mpr ⟨D2, ys2, c11, rfl, List.mem_cons_self, hzr.mono (.cons .refl)⟩) hzn (fun t ht => by have := (hparts t ht).2; (first | lia | omega)) (by (first | lia | omega)) (fun i hi => hcvs i (List.mem_range.mpr (by (first | lia | omega))))).with rfl) fun v d ν12 hs12 hd' hr12 => ?_
            obtain ⟨ds, rfl, hdl, hlst⟩ := hd'
            obtain ⟨pl, ql, hds, hpn, hqn⟩ := hlst hshp
            obtain ⟨lc, uc, nc, rfl, hmc, hrc⟩ := rep_list.mp hr12
            have ecl := hrc.length
            obtain ⟨vl, hvl, hrl⟩ := hrc.get hds
            obtain ⟨lt, nt, vp, vq, rfl, hmt, hrp, hrq⟩ := rep_tup2.mp hrl
            obtain ⟨lsg, nsg, vpq, rfl, hmsg, hrpq⟩ := rep_Sg.mp hrp
            have hmw12 := hs12 _ (List.mem_cons_of_mem _ hmw11)
            clear hs11 hs12
            walk_at "ms"
            refine T_itemNeg (by walk_at "mem") (by decide) (by (first | lia | omega)) (by decide) (by rw [show ((-1 : Int) + uc.length).toNat = sh.length - 1 by (first | lia | omega)]; exact hvl) ?_
            walk_at "ms"
            refine T_itemT (by walk_at "mem") (by decide) (by decide) rfl ?_
            walk_at "ms"
            refine T_itemT (by walk_at "mem") (by decide) (by decide) rfl ?_
            walk_at "ms"
            refine T_nameCell (c := s₁.heap.objs.size + 1) (by kernel_rfl!) (by kernel_rfl!) hmw12 how ?_
            walk_at "ms"
            refine T_fn ((c_law_number (k := 39) hW hrpq hpn.dig (by have := hpn.len hB hc0.2.2.1; (first | lia | omega))).with rfl) fun v d ν13 hs13 hd' hr13 => ?_
            subst hd'
            rw [hpn.eq] at hr13
            obtain ⟨tp, rfl⟩ := rep_int.mp hr13
            walk_at "ms"
            refine T_itemT (by walk_at "mem") (by decide) (by decide) rfl ?_
            walk_at "ms"
            refine T_nameCell (c := s₁.heap.objs.size + 1) (by kernel_rfl!) (by kernel_rfl!) (hs13 _ hmw12) how ?_
            walk_at "ms"
            refine T_fn ((c_law_number (k := 39) hW (hrq.mono hs13) hqn.dig (by have := hqn.len hB hc0.2.2.2; (first | lia | omega))).with rfl) fun v d ν14 hs14 hd' hr14 => ?_
            subst hd'
            rw [hqn.eq] at hr14
            obtain ⟨tq, rfl⟩ := rep_int.mp hr14
            have htop0 := hpn.nonneg (by (first | lia | omega))
            generalize (cv sh).2.1 = tp' at *
            generalize (cv sh).2.2 = bt at *
            walk_at "ms"
            refine T_pow (by (first | lia | omega)) (by (first | lia | omega)) (by decide) ?_; intro _
            rw [Int.toNat_natCast]
            refine T_mulS (p := 64) (q := 26) (natAbs_lt htop0 (by (first | lia | omega))) (natAbs_lt (by (first | lia | omega)) (by (first | lia | omega))) (by decide) ?_; intro _
            walk_at "ms"
            refine T_mulS (p := 30) (q := 50) (natAbs_lt (by (first | lia | omega)) (by (first | lia | omega))) (natAbs_lt (by (first | lia | omega)) (by (first | lia | omega))) (by decide) ?_; intro _
            walk_at "ms"
            refine T_abs ?_; intro _
            walk_at "ms"
            refine T_pow (by (first | lia | omega)) (by (first | lia | omega)) (by decide) ?_; intro _
            rw [Int.toNat_natCast]
            walk_at "ms"
            refine T_fdiv bt0 (by (first | lia | omega)) ?_; intro _
            walk_at "ms"
            rw [decide_eq_true hfin]
          · rintro Cc i v mc ν11 ys hi hv hs11 ⟨hmw11, zss, hzr, hzn⟩ gp
            have his : i < sh.length := by (first | lia | omega)
            have hx1 := List.getElem?_eq_getElem (l := sh) (i := i) his
            obtain ⟨tx, gx⟩ := hsh.get _ _ hx1
            rw [gx] at hv
            obtain rfl := Option.some.inj hv
            have hpt := hparts _ (List.getElem_mem his)
            refine turn_nil ?_
            walk_at "ms"
            refine T_nameCell (c := s₁.heap.objs.size + 1) (by kernel_rfl!) (by kernel_rfl!) hmw11 how ?_
            walk_at "ms"
            refine T_fn ((c_law_limbs (k := 39) hW hpt.1 (by (first | lia | omega))).with rfl) fun v d ν12 hs12 hd' hr12 => ?_
            obtain ⟨zs, rfl, hzs⟩ := hd'
            walk_at "ms"
            walk_at "out"
            refine ⟨rfl, List.mem_cons_of_mem _ (hs12 _ hmw11), zss ++ [zs], ?_, ?_⟩
            · rw [List.map_append]
              exact (hzr.mono (hs12.trans (.cons .refl))).append (.one (rep_Sg.mpr ⟨_, _, _, rfl, List.mem_cons_self, hr12.mono (.cons .refl)⟩))
            · rw [List.take_add_one, hx1]
              exact hzn.append (.cons hzs .nil)
    · rintro Cc i v u t T n' mc ν8 ys hi hv hu hs8 hj gi gp hmT
      have hil' : i < ns.length := by (first | lia | omega)
      have hiu' : i < ns'.length := by (first | lia | omega)
      obtain ⟨tv, hv'⟩ := hil.get _ _ (List.getElem?_eq_getElem hil')
      obtain ⟨tu', hu'⟩ := hiu.get _ _ (List.getElem?_eq_getElem hiu')
      rw [hv'] at hv
      rw [hu'] at hu
      obtain rfl := Option.some.inj hv
      obtain rfl := Option.some.inj hu
      refine turn_one ?_
      walk_at "ms"
      refine T_itemT hmT (by decide) (by decide) rfl ?_
      walk_at "ms"
      refine T_itemT hmT (by decide) (by decide) rfl ?_
      walk_at "ms"
      have g1 : ns.getD i 0 = ns[i] := by rw [List.getD_eq_getElem?_getD, List.getElem?_eq_getElem hil']; rfl
      have g2 : ns'.getD i 0 = ns'[i] := by rw [List.getD_eq_getElem?_getD, List.getElem?_eq_getElem hiu']; rfl
      walk_at "out"
      refine ⟨rfl, fun hb => ?_, fun hb => ?_⟩
      · have hne := of_decide_eq_true hb
        walk_at "ms"
        walk_at "out"
        refine ⟨rfl, ?_⟩
        rw [unL_succ, g1, g2, if_pos hne]
        exact hj.append (.cons _ _ .nil)
      · have hne := of_decide_eq_false hb
        rw [unL_succ, g1, g2, if_neg hne, List.append_nil]
        exact hj
  · rintro fl m' μ' ν' h' tk' rfl hkeep
    show GoodW _ _ _ _ _ _ _
    walk_at "out"
    refine ⟨.inl ⟨.bool true, ofPy (.bool true), [], rfl, fun _ => rfl, .bool true, (by first | with_unfolding_all rfl | kernel_rfl!), fun _ => ⟨List.nodup_nil, fun _ h => nomatch h⟩⟩, hkeep, rfl, hgen⟩)

end Mine
theorem PySem.Challenge.cw_sa0342_01_holds : PySem.Challenge.rw_sa0342_01.Holds := by
  exact Mine.law_holds
