import PyProof.Rows.All
import Wide.All
import Open.Line
import KE.BitLaws
import PySem.Challenge.RW_xm0409_01
set_option Elab.async false
set_option linter.unusedVariables false
set_option maxRecDepth 10000
set_option maxHeartbeats 4000000
namespace Mine
/-! ### limbs, in plain Lean -/
def val (b : Int) : List Int → Int
  | [] => 0
  | x :: r => x + b * val b r
def Dig (b : Int) (xs : List Int) : Prop := ∀ x ∈ xs, 0 ≤ x ∧ x < b
def trim : List Int → List Int
  | [] => []
  | x :: r => if trim r = [] then (if x = 0 then [] else [x]) else x :: trim r
def lbF : Nat → Nat → Nat → List Int
  | 0, _, _ => []
  | f + 1, b, n => if n = 0 then [] else ((n % b : Nat) : Int) :: lbF f b (n / b)
def lb (b n : Nat) : List Int := lbF n b n

theorem lbF_fuel {b : Nat} (hb : 2 ≤ b) : ∀ (f g n : Nat), n ≤ f → n ≤ g → lbF f b n = lbF g b n
  | 0, 0, n, _, _ => rfl
  | 0, g + 1, n, h, _ => by have : n = 0 := by omega
                            subst this; simp [lbF]
  | f + 1, 0, n, _, h => by have : n = 0 := by omega
                            subst this; simp [lbF]
  | f + 1, g + 1, n, h1, h2 => by
    simp only [lbF]
    split
    · rfl
    · next hn =>
      have : n / b < n := Nat.div_lt_self (by omega) (by omega)
      rw [lbF_fuel hb f g (n / b) (by omega) (by omega)]
theorem lb_zero (b : Nat) : lb b 0 = [] := rfl
theorem lb_pos {b n : Nat} (hb : 2 ≤ b) (hn : n ≠ 0) : lb b n = ((n % b : Nat) : Int) :: lb b (n / b) := by
  have hlt : n / b < n := Nat.div_lt_self (by omega) (by omega)
  obtain ⟨k, rfl⟩ : ∃ k, n = k + 1 := ⟨n - 1, by omega⟩
  show lbF (k + 1) b (k + 1) = _
  simp only [lbF, if_neg hn]
  unfold lb
  rw [lbF_fuel hb k ((k + 1) / b) ((k + 1) / b) (by omega) (Nat.le_refl _)]

theorem Dig.nil {b : Int} : Dig b [] := fun _ h => nomatch h
theorem Dig.cons {b x : Int} {r : List Int} (h0 : 0 ≤ x) (h1 : x < b) (h : Dig b r) : Dig b (x :: r) := fun y hy => by
  rcases List.mem_cons.mp hy with rfl | hy
  · exact ⟨h0, h1⟩
  · exact h y hy
theorem Dig.head {b x : Int} {r : List Int} (h : Dig b (x :: r)) : 0 ≤ x ∧ x < b := h x (.head _)
theorem Dig.tail {b x : Int} {r : List Int} (h : Dig b (x :: r)) : Dig b r := fun y hy => h y (.tail _ hy)
theorem Dig.append {b : Int} {xs ys : List Int} (h : Dig b xs) (h' : Dig b ys) : Dig b (xs ++ ys) := fun y hy => by
  rcases List.mem_append.mp hy with hy | hy
  · exact h y hy
  · exact h' y hy
theorem Dig.take {b : Int} {xs : List Int} (h : Dig b xs) (k : Nat) : Dig b (xs.take k) := fun y hy => h y (List.mem_of_mem_take hy)
theorem Dig.drop {b : Int} {xs : List Int} (h : Dig b xs) (k : Nat) : Dig b (xs.drop k) := fun y hy => h y (List.mem_of_mem_drop hy)
theorem Dig.get {b : Int} {xs : List Int} (h : Dig b xs) {k : Nat} {x : Int} (e : xs[k]? = some x) : 0 ≤ x ∧ x < b := h x (List.mem_of_getElem? e)
theorem Dig.set {b : Int} {xs : List Int} (h : Dig b xs) (k : Nat) {x : Int} (h0 : 0 ≤ x) (h1 : x < b) : Dig b (xs.set k x) := fun y hy => by
  rcases List.mem_or_eq_of_mem_set hy with hy | rfl
  · exact h y hy
  · exact ⟨h0, h1⟩
theorem Dig.replicate {b : Int} (hb : 0 < b) (k : Nat) : Dig b (List.replicate k 0) := fun y hy => by
  rw [List.eq_of_mem_replicate hy]; omega

theorem val_nonneg {b : Int} (hb : 0 ≤ b) : ∀ {xs : List Int}, Dig b xs → 0 ≤ val b xs
  | [], _ => Int.le_refl 0
  | x :: r, h => by
    have h1 := val_nonneg hb h.tail
    have h2 := h.head
    have := Int.mul_nonneg hb h1
    simp only [val]; omega
theorem val_append (b : Int) : ∀ (xs ys : List Int), val b (xs ++ ys) = val b xs + b ^ xs.length * val b ys
  | [], ys => by simp [val]
  | x :: r, ys => by
    simp only [List.cons_append, val, List.length_cons, val_append b r ys, Int.pow_succ]
    grind
theorem val_lt {b : Int} (hb : 1 ≤ b) : ∀ {xs : List Int}, Dig b xs → val b xs < b ^ xs.length
  | [], _ => by simp [val]
  | x :: r, h => by
    have h1 := val_lt hb h.tail
    have h2 := h.head
    simp only [val, List.length_cons, Int.pow_succ]
    have : b * (val b r + 1) ≤ b * b ^ r.length := Int.mul_le_mul_of_nonneg_left (by omega) (by omega)
    have e : b * (val b r + 1) = b * val b r + b := by grind
    have e2 : b ^ r.length * b = b * b ^ r.length := Int.mul_comm _ _
    omega
theorem val_replicate (b : Int) : ∀ k : Nat, val b (List.replicate k 0) = 0
  | 0 => rfl
  | k + 1 => by simp [List.replicate_succ, val, val_replicate b k]
theorem val_split (b : Int) (xs : List Int) (k : Nat) (h : k ≤ xs.length) : val b xs = val b (xs.take k) + b ^ k * val b (xs.drop k) := by
  have := val_append b (xs.take k) (xs.drop k)
  rw [List.take_append_drop, List.length_take, Nat.min_eq_left h] at this
  exact this
theorem val_snoc (b : Int) (xs : List Int) (x : Int) : val b (xs ++ [x]) = val b xs + b ^ xs.length * x := by
  rw [val_append]; simp [val]
theorem val_take_succ (b : Int) {xs : List Int} {k : Nat} {x : Int} (e : xs[k]? = some x) : val b (xs.take (k + 1)) = val b (xs.take k) + b ^ k * x := by
  obtain ⟨hk, rfl⟩ := List.getElem?_eq_some_iff.mp e
  rw [List.take_add_one, List.getElem?_eq_getElem hk, Option.toList_some, val_snoc, List.length_take, Nat.min_eq_left (by omega)]
theorem val_drop (b : Int) {xs : List Int} {k : Nat} {x : Int} (e : xs[k]? = some x) : val b (xs.drop k) = x + b * val b (xs.drop (k + 1)) := by
  obtain ⟨hk, rfl⟩ := List.getElem?_eq_some_iff.mp e
  rw [List.drop_eq_getElem_cons hk]; rfl
theorem val_set (b : Int) : ∀ {xs : List Int} {k : Nat} {x : Int} (y : Int), xs[k]? = some x → val b (xs.set k y) = val b xs + b ^ k * (y - x)
  | a :: r, 0, x, y, e => by
    simp at e; subst e; simp [val]; omega
  | a :: r, k + 1, x, y, e => by
    simp only [List.getElem?_cons_succ] at e
    simp only [List.set_cons_succ, val, val_set b y e, Int.pow_succ]
    grind
  | [], k, x, y, e => by simp at e

theorem trim_nil_iff : ∀ {xs : List Int}, trim xs = [] ↔ ∀ x ∈ xs, x = 0
  | [] => by simp [trim]
  | x :: r => by
    simp only [trim]
    split
    · next h =>
      have h' := trim_nil_iff.mp h
      split
      · next hx => simp [hx]; exact h'
      · next hx => simp [hx]
    · next h =>
      have : ¬ ∀ x ∈ r, x = 0 := fun q => h (trim_nil_iff.mpr q)
      simp only [reduceCtorEq, List.mem_cons, forall_eq_or_imp, false_iff, not_and]
      exact fun _ => this
theorem val_trim (b : Int) : ∀ xs : List Int, val b (trim xs) = val b xs
  | [] => rfl
  | x :: r => by
    have ih := val_trim b r
    simp only [trim]
    split
    · next h =>
      rw [h] at ih
      simp only [val] at ih
      split
      · next hx => simp [val, ← ih, hx]
      · simp [val, ← ih]
    · simp [val, ih]
theorem val_zero {b : Int} (hb : 1 ≤ b) : ∀ {xs : List Int}, Dig b xs → val b xs = 0 → ∀ x ∈ xs, x = 0
  | [], _, _, _, hx => nomatch hx
  | a :: r, h, e, x, hx => by
    have h1 := val_nonneg (by omega) h.tail
    have h2 := h.head
    have h3 := Int.mul_nonneg (show (0 : Int) ≤ b by omega) h1
    simp only [val] at e
    have ha : a = 0 := by omega
    have hr : val b r = 0 := by
      have : b * val b r = 0 := by omega
      rcases Int.mul_eq_zero.mp this with q | q
      · omega
      · exact q
    rcases List.mem_cons.mp hx with rfl | hx
    · exact ha
    · exact val_zero hb h.tail hr x hx

theorem trim_eq_lb {b : Nat} (hb : 2 ≤ b) : ∀ {xs : List Int} {n : Nat}, Dig b xs → val b xs = n → trim xs = lb b n
  | [], n, _, e => by
    simp only [val] at e
    have : n = 0 := by omega
    subst this; rfl
  | x :: r, n, h, e => by
    have hr := val_nonneg (b := b) (by omega) h.tail
    obtain ⟨m, hm⟩ := Int.eq_ofNat_of_zero_le hr
    have ih := trim_eq_lb hb h.tail hm
    obtain ⟨hx0, hx1⟩ := h.head
    obtain ⟨k, rfl⟩ := Int.eq_ofNat_of_zero_le hx0
    simp only [val, hm] at e
    have hn : n = k + b * m := by
      have : ((k + b * m : Nat) : Int) = n := by push_cast; exact e
      omega
    have hk : k < b := by omega
    have hmod : n % b = k := by rw [hn, Nat.add_mul_mod_self_left, Nat.mod_eq_of_lt hk]
    have hdiv : n / b = m := by rw [hn, Nat.add_mul_div_left _ _ (by omega), Nat.div_eq_of_lt hk, Nat.zero_add]
    simp only [trim, ih]
    by_cases hn0 : n = 0
    · have hk0 : k = 0 := by
        have := Nat.zero_le (b * m); omega
      have hm0 : m = 0 := by
        have h1 : b * m = 0 := by omega
        rcases Nat.mul_eq_zero.mp h1 with q | q <;> omega
      subst hm0 hk0
      simp [lb_zero, hn0]
    · rw [lb_pos hb hn0, hmod, hdiv]
      split
      · next h0 =>
        rw [h0]
        split
        · next hk0 =>
          exfalso
          have hm0 : m = 0 := by
            by_cases hm0 : m = 0
            · exact hm0
            · rw [lb_pos hb hm0] at h0; cases h0
          apply hn0
          have : k = 0 := by omega
          rw [hn, this, hm0]; rfl
        · rfl
      · rfl

theorem lb_dig {b : Nat} (hb : 2 ≤ b) (n : Nat) : Dig b (lb b n) := by
  induction n using Nat.strongRecOn with
  | ind n ih =>
    by_cases hn : n = 0
    · subst hn; exact Dig.nil
    · rw [lb_pos hb hn]
      have : n % b < b := Nat.mod_lt _ (by omega)
      exact Dig.cons (by omega) (by omega) (ih _ (Nat.div_lt_self (by omega) (by omega)))
theorem lb_val {b : Nat} (hb : 2 ≤ b) (n : Nat) : val b (lb b n) = n := by
  induction n using Nat.strongRecOn with
  | ind n ih =>
    by_cases hn : n = 0
    · subst hn; rfl
    · rw [lb_pos hb hn]
      simp only [val]
      rw [ih _ (Nat.div_lt_self (by omega) (by omega))]
      have := Nat.mod_add_div n b
      have e : ((n % b + b * (n / b) : Nat) : Int) = n := by rw [this]
      push_cast at e ⊢
      exact e
theorem lb_trim {b : Nat} (hb : 2 ≤ b) (n : Nat) : trim (lb b n) = lb b n := trim_eq_lb hb (lb_dig hb n) (lb_val hb n)
theorem lb_nil {b n : Nat} (hb : 2 ≤ b) : lb b n = [] ↔ n = 0 := by
  constructor
  · intro h
    by_cases hn : n = 0
    · exact hn
    · rw [lb_pos hb hn] at h; cases h
  · rintro rfl; rfl
theorem lb_length_le {b : Nat} (hb : 2 ≤ b) (n : Nat) : (lb b n).length ≤ n := by
  induction n using Nat.strongRecOn with
  | ind n ih =>
    by_cases hn : n = 0
    · subst hn; simp [lb_zero]
    · rw [lb_pos hb hn]
      have h1 : n / b < n := Nat.div_lt_self (by omega) (by omega)
      have := ih _ h1
      simp only [List.length_cons]; omega
theorem lb_length_pow {b : Nat} (hb : 2 ≤ b) : ∀ (k n : Nat), n < b ^ k → (lb b n).length ≤ k
  | 0, n, h => by
    have : n = 0 := by simpa using h
    subst this; simp [lb_zero]
  | k + 1, n, h => by
    by_cases hn : n = 0
    · subst hn; simp [lb_zero]
    · rw [lb_pos hb hn]
      simp only [List.length_cons]
      have := lb_length_pow hb k (n / b) (Nat.div_lt_of_lt_mul (by rw [Nat.pow_succ, Nat.mul_comm] at h; exact h))
      omega
theorem lb_pow_le {b : Nat} (hb : 2 ≤ b) : ∀ (k n : Nat), k < (lb b n).length → b ^ k ≤ n
  | 0, n, h => by
    by_cases hn : n = 0
    · subst hn; simp [lb_zero] at h
    · rw [Nat.pow_zero]; exact Nat.pos_of_ne_zero hn
  | k + 1, n, h => by
    by_cases hn : n = 0
    · subst hn; simp [lb_zero] at h
    · rw [lb_pos hb hn] at h
      simp only [List.length_cons] at h
      have := lb_pow_le hb k (n / b) (by omega)
      rw [Nat.pow_succ]
      exact (Nat.le_div_iff_mul_le (by omega)).mp this
/-- what is in its own shape is known by its worth -/
theorem eq_lb {b : Nat} (hb : 2 ≤ b) {xs : List Int} {n : Nat} (hd : Dig b xs) (hv : val b xs = n) (ht : ∀ x, xs.getLast? = some x → x ≠ 0) : xs = lb b n := by
  rw [← trim_eq_lb hb hd hv]
  clear hv hd
  induction xs with
  | nil => rfl
  | cons x r ih =>
    simp only [trim]
    cases r with
    | nil =>
      have := ht x (by simp)
      simp [trim, this]
    | cons y r =>
      have ih' := ih fun z hz => ht z (by rw [List.getLast?_cons_cons]; exact hz)
      rw [← ih']
      simp
theorem lb_last {b : Nat} (hb : 2 ≤ b) (n : Nat) : ∀ x, (lb b n).getLast? = some x → x ≠ 0 := by
  induction n using Nat.strongRecOn with
  | ind n ih =>
    intro x hx
    by_cases hn : n = 0
    · subst hn; simp [lb_zero] at hx
    · rw [lb_pos hb hn] at hx
      by_cases hq : n / b = 0
      · rw [hq, lb_zero] at hx
        simp at hx
        have h1 : n < b := by
          rcases Nat.lt_or_ge n b with h | h
          · exact h
          · have := Nat.div_pos h (by omega); omega
        rw [← hx]
        have : ((n : Nat) : Int) % b = n := Int.emod_eq_of_lt (by omega) (by omega)
        omega
      · rw [lb_pos hb hq, List.getLast?_cons_cons, ← lb_pos hb hq] at hx
        exact ih _ (Nat.div_lt_self (by omega) (by omega)) x hx
/-- take what lies below the noughts -/
theorem take_eq_trim : ∀ {xs : List Int} {k : Nat}, k ≤ xs.length → (∀ x ∈ xs.drop k, x = 0) → (∀ j x, k = j + 1 → xs[j]? = some x → x ≠ 0) → xs.take k = trim xs
  | [], k, _, _, _ => by simp [trim]
  | x :: r, 0, _, h, _ => by
    rw [List.take_zero]
    exact (trim_nil_iff.mpr h).symm
  | x :: r, k + 1, hk, h, hl => by
    simp only [List.length_cons] at hk
    have ih := take_eq_trim (xs := r) (k := k) (by omega) h fun j y e q => hl (j + 1) y (by omega) (by simpa using q)
    simp only [List.take_succ_cons, trim]
    rw [ih]
    split
    · next h0 =>
      rw [h0]
      cases k with
      | zero =>
        have := hl 0 x rfl rfl
        rw [if_neg this]
      | succ k =>
        exfalso
        have hlen : k < r.length := by omega
        have := hl (k + 1) r[k] rfl (by simp [hlen])
        exact this (trim_nil_iff.mp h0 _ (List.getElem_mem hlen))
    · rfl
/-! ### order -/
theorem val_lt_of {b : Int} (hb : 1 ≤ b) {xs ys : List Int} {k : Nat} {x y : Int} (hx : Dig b xs) (hy : Dig b ys) (ex : xs[k]? = some x) (ey : ys[k]? = some y)
    (hs : xs.drop (k + 1) = ys.drop (k + 1)) (hlt : x < y) : val b xs < val b ys := by
  have kx := (List.getElem?_eq_some_iff.mp ex).1
  have ky := (List.getElem?_eq_some_iff.mp ey).1
  rw [val_split b xs k (by omega), val_split b ys k (by omega), val_drop b ex, val_drop b ey, hs]
  have h1 := val_lt hb (hx.take k)
  have h2 := val_nonneg (by omega) (hy.take k)
  rw [List.length_take, Nat.min_eq_left (by omega)] at h1
  have hp : 0 ≤ b ^ k := Int.pow_nonneg (by omega)
  have h3 : b ^ k * (x + 1) ≤ b ^ k * y := Int.mul_le_mul_of_nonneg_left (by omega) hp
  have e1 : b ^ k * (x + b * val b (ys.drop (k + 1))) = b ^ k * x + b ^ k * (b * val b (ys.drop (k + 1))) := Int.mul_add ..
  have e2 : b ^ k * (y + b * val b (ys.drop (k + 1))) = b ^ k * y + b ^ k * (b * val b (ys.drop (k + 1))) := Int.mul_add ..
  have e3 : b ^ k * (x + 1) = b ^ k * x + b ^ k := by rw [Int.mul_add, Int.mul_one]
  omega
theorem lb_lt_of {b n m k : Nat} (hb : 2 ≤ b) {x y : Int} (ex : (lb b n)[k]? = some x) (ey : (lb b m)[k]? = some y)
    (hs : (lb b n).drop (k + 1) = (lb b m).drop (k + 1)) (hlt : x < y) : n < m := by
  have := val_lt_of (b := b) (by omega) (lb_dig hb n) (lb_dig hb m) ex ey hs hlt
  rw [lb_val hb, lb_val hb] at this
  omega
theorem lb_inj {b n m : Nat} (hb : 2 ≤ b) (h : lb b n = lb b m) : n = m := by
  have := congrArg (val b) h
  rw [lb_val hb, lb_val hb] at this
  omega
theorem lb_lt_length {b n m : Nat} (hb : 2 ≤ b) (h : (lb b n).length < (lb b m).length) : n < m := by
  have h1 := lb_pow_le hb _ _ h
  have h2 := val_lt (b := b) (by omega) (lb_dig hb n)
  rw [lb_val hb] at h2
  have : ((b ^ (lb b n).length : Nat) : Int) = (b : Int) ^ (lb b n).length := by push_cast; rfl
  omega
def cmpI (n m : Nat) : Int := if n < m then -1 else if n = m then 0 else 1
/-! ### carries -/
theorem carry_turn {B : Int} {zs : List Int} {i : Nat} (c : Int) (hz : zs.length = i) : val B (zs ++ [c % B]) + B ^ (i + 1) * (c / B) = val B zs + B ^ i * c := by
  rw [val_snoc, hz, Int.pow_succ]
  have e := Int.emod_add_mul_ediv c B
  have : B ^ i * (c % B) + B ^ i * B * (c / B) = B ^ i * (c % B + B * (c / B)) := by grind
  rw [Int.add_assoc, this, e]
/-- a string of limbs as long as its worth asks -/
theorem eq_lb_len {b : Nat} (hb : 2 ≤ b) {zs : List Int} {v : Nat} (hd : Dig b zs) (hv : val b zs = v) (h : zs = [] ∨ (b : Int) ^ (zs.length - 1) ≤ v) : zs = lb b v := by
  refine eq_lb hb hd hv fun x hx hx0 => ?_
  subst hx0
  rcases h with rfl | h
  · simp at hx
  · have hl := hx
    rw [List.getLast?_eq_getElem?] at hl
    have hlt := (List.getElem?_eq_some_iff.mp hl).1
    have h1 := val_take_succ (b := b) hl
    rw [Nat.sub_add_cancel (by omega), List.take_of_length_le (Nat.le_refl _)] at h1
    have h2 := val_lt (b := b) (by omega) (hd.take (zs.length - 1))
    rw [List.length_take, Nat.min_eq_left (by omega)] at h2
    rw [Int.mul_zero, Int.add_zero] at h1
    omega
theorem lb_low {b n : Nat} (hb : 2 ≤ b) : lb b n = [] ∨ (b : Int) ^ ((lb b n).length - 1) ≤ n := by
  by_cases h : lb b n = []
  · exact .inl h
  · right
    have hl : 0 < (lb b n).length := List.length_pos_iff.mpr h
    have := lb_pow_le hb ((lb b n).length - 1) n (by omega)
    have e : ((b ^ ((lb b n).length - 1) : Nat) : Int) = (b : Int) ^ ((lb b n).length - 1) := by push_cast; rfl
    omega
theorem pow_nonneg' {B : Int} (hB : 0 ≤ B) (i : Nat) : 0 ≤ B ^ i := Int.pow_nonneg hB
theorem add_end {b n m : Nat} (hb : 2 ≤ b) {zs : List Int} {c : Int} (hd : Dig b zs) (hz : zs.length = (lb b n).length) (h : val b zs + (b : Int) ^ zs.length * c = n + m) (hc : 0 ≤ c) (hc1 : c ≤ 1) :
    (if c > 0 then zs ++ [c] else zs) = lb b (n + m) := by
  split
  · next hp =>
    have : c = 1 := by omega
    subst this
    refine eq_lb hb (hd.append (Dig.cons (by omega) (by omega) Dig.nil)) ?_ ?_
    · rw [val_snoc, h]; push_cast; rfl
    · intro x hx
      simp at hx
      omega
  · next hp =>
    have : c = 0 := by omega
    subst this
    rw [Int.mul_zero, Int.add_zero] at h
    refine eq_lb_len hb hd (by rw [h]; push_cast; rfl) ?_
    rcases lb_low (n := n) hb with h1 | h1
    · left
      rw [h1] at hz
      exact List.length_eq_zero_iff.mp hz
    · right
      rw [hz]
      push_cast
      omega
/-- one turn of an addition -/
theorem add_turn {B : Int} {zs xs ys : List Int} {i : Nat} {c x y : Int} (hz : zs.length = i) (ex : xs[i]? = some x) (ey : ys[i]? = some y)
    (h : val B zs + B ^ i * c = val B (xs.take i) + val B (ys.take i)) : val B (zs ++ [(c + (x + y)) % B]) + B ^ (i + 1) * ((c + (x + y)) / B) = val B (xs.take (i + 1)) + val B (ys.take (i + 1)) := by
  rw [carry_turn _ hz, val_take_succ B ex, val_take_succ B ey]
  grind
theorem add_turn2 {B : Int} {zs xs : List Int} {i : Nat} {c x V : Int} (hz : zs.length = i) (ex : xs[i]? = some x)
    (h : val B zs + B ^ i * c = val B (xs.take i) + V) : val B (zs ++ [(c + x) % B]) + B ^ (i + 1) * ((c + x) / B) = val B (xs.take (i + 1)) + V := by
  rw [carry_turn _ hz, val_take_succ B ex]
  grind
theorem carry_le {B c k : Int} (hB : 0 < B) (h0 : 0 ≤ c) (h1 : c < B * (k + 1)) : 0 ≤ c / B ∧ c / B ≤ k := by
  refine ⟨Int.ediv_nonneg h0 (by omega), ?_⟩
  have := Int.ediv_lt_of_lt_mul hB (by rw [Int.mul_comm] at h1; exact h1)
  omega
theorem Dig.snoc {B : Int} {zs : List Int} (hB : 0 < B) (h : Dig B zs) (c : Int) : Dig B (zs ++ [c % B]) := h.append (Dig.cons (Int.emod_nonneg _ (by omega)) (Int.emod_lt_of_pos _ hB) Dig.nil)
/-! ### what is borrowed -/
theorem take_succ_none {xs : List Int} {i : Nat} (h : xs.length ≤ i) : xs.take (i + 1) = xs.take i := by
  rw [List.take_of_length_le (by omega), List.take_of_length_le h]
theorem getD_zero_val (B : Int) (ys : List Int) (i : Nat) : val B (ys.take (i + 1)) = val B (ys.take i) + B ^ i * ys.getD i 0 := by
  by_cases h : i < ys.length
  · rw [val_take_succ B (List.getElem?_eq_getElem h), List.getD_eq_getElem?_getD, List.getElem?_eq_getElem h]; rfl
  · rw [take_succ_none (by omega), List.getD_eq_getElem?_getD, List.getElem?_eq_none (by omega)]
    simp
theorem sub_turn {B : Int} {zs xs ys : List Int} {i : Nat} {c x : Int} (hz : zs.length = i) (ex : xs[i]? = some x)
    (h : val B zs - B ^ i * c = val B (xs.take i) - val B (ys.take i)) :
    val B (zs ++ [if x - c - ys.getD i 0 < 0 then x - c - ys.getD i 0 + B else x - c - ys.getD i 0]) - B ^ (i + 1) * (if x - c - ys.getD i 0 < 0 then 1 else 0) = val B (xs.take (i + 1)) - val B (ys.take (i + 1)) := by
  rw [val_snoc, hz, val_take_succ B ex, getD_zero_val, Int.pow_succ]
  split <;> grind
theorem getD_dig {b : Int} (hb : 0 < b) {ys : List Int} (h : Dig b ys) (i : Nat) : 0 ≤ ys.getD i 0 ∧ ys.getD i 0 < b := by
  rw [List.getD_eq_getElem?_getD]
  cases e : ys[i]? with
  | none => exact ⟨Int.le_refl 0, hb⟩
  | some y => exact h.get e
theorem sub_end {b n m : Nat} (hb : 2 ≤ b) {zs : List Int} {c : Int} (hd : Dig b zs) (h : val b zs - (b : Int) ^ zs.length * c = n - m) (hc : c = 0 ∨ c = 1) (hnm : m ≤ n) : trim zs = lb b (n - m) := by
  have h1 := val_lt (b := b) (by omega) hd
  rcases hc with rfl | rfl
  · exact trim_eq_lb hb hd (by rw [Int.mul_zero] at h; omega)
  · rw [Int.mul_one] at h; omega

/-! ### shifts -/
theorem shl_turn {B P : Int} {zs xs : List Int} {i : Nat} {c x : Int} (hz : zs.length = i) (ex : xs[i]? = some x)
    (h : val B zs + B ^ i * c = P * val B (xs.take i)) : val B (zs ++ [(c + x * P) % B]) + B ^ (i + 1) * ((c + x * P) / B) = P * val B (xs.take (i + 1)) := by
  rw [carry_turn _ hz, val_take_succ B ex]
  grind
theorem shl_end {b n : Nat} {P : Nat} (hb : 2 ≤ b) (hP : 1 ≤ P) {zs : List Int} {c : Int} (hd : Dig b zs) (hz : zs.length = (lb b n).length) (h : val b zs + (b : Int) ^ zs.length * c = P * n) (hc : 0 ≤ c) (hc1 : c < b) :
    (if c > 0 then zs ++ [c] else zs) = lb b (n * P) := by
  have e : ((n * P : Nat) : Int) = P * n := by push_cast; exact Int.mul_comm _ _
  split
  · next hp =>
    refine eq_lb hb (hd.append (Dig.cons (by omega) hc1 Dig.nil)) ?_ ?_
    · rw [val_snoc, h, e]
    · intro x hx
      simp at hx
      omega
  · next hp =>
    have : c = 0 := by omega
    subst this
    rw [Int.mul_zero, Int.add_zero] at h
    refine eq_lb_len hb hd (by rw [h, e]) ?_
    rcases lb_low (n := n) hb with h1 | h1
    · left
      rw [h1] at hz
      exact List.length_eq_zero_iff.mp hz
    · right
      rw [hz, e]
      have : (1 : Int) * n ≤ P * n := Int.mul_le_mul_of_nonneg_right (by omega) (by omega)
      omega
/-- the limb that a shift to the right makes -/
theorem shr_limb {w f : Nat} (hf : f ≤ w) {x W : Int} (hx : 0 ≤ x) (hx1 : x < 2 ^ w) (hW : 0 ≤ W) :
    ((x / 2 ^ f + W % 2 ^ w * 2 ^ (w - f)) % 2 ^ w) + 2 ^ w * (W / 2 ^ f) = (x + 2 ^ w * W) / 2 ^ f := by
  have hp : (0 : Int) < 2 ^ f := Int.pow_pos (by omega)
  have hq : (0 : Int) < 2 ^ (w - f) := Int.pow_pos (by omega)
  have hw : (2 : Int) ^ w = 2 ^ f * 2 ^ (w - f) := by rw [← Int.pow_add]; congr 1; omega
  generalize hP : (2 : Int) ^ f = P at *
  generalize hQ : (2 : Int) ^ (w - f) = K at *
  rw [hw] at hx1 ⊢
  have hwpos : 0 < P * K := Int.mul_pos hp hq
  -- the right-hand side
  have e1 : (x + P * K * W) / P = x / P + K * W := by
    rw [show x + P * K * W = x + P * (K * W) from by rw [Int.mul_assoc], Int.add_mul_ediv_left _ _ (by omega)]
  rw [e1]
  have hxP : 0 ≤ x / P := Int.ediv_nonneg hx (by omega)
  have hxP1 : x / P < K := Int.ediv_lt_of_lt_mul hp (by rw [Int.mul_comm]; exact hx1)
  -- W's low part
  have hWm := Int.emod_add_mul_ediv W P
  have hm0 := Int.emod_nonneg W (show P ≠ 0 by omega)
  have hm1 := Int.emod_lt_of_pos W hp
  have hWm2 := Int.emod_add_mul_ediv W (P * K)
  have e2 : x / P + W % (P * K) * K = (x / P + K * (W % P)) + P * K * ((W / P) - K * (W / (P * K))) := by
    have : W % (P * K) = W - P * K * (W / (P * K)) := by omega
    have h3 : W = W % P + P * (W / P) := hWm.symm
    rw [this]
    generalize W / (P * K) = T at *
    generalize W / P = U at *
    generalize W % P = V at *
    rw [h3]
    grind
  have hlow : 0 ≤ x / P + K * (W % P) := by
    have := Int.mul_nonneg (show 0 ≤ K by omega) hm0
    omega
  have hlow1 : x / P + K * (W % P) < P * K := by
    have : K * (W % P + 1) ≤ K * P := Int.mul_le_mul_of_nonneg_left (by omega) (by omega)
    rw [Int.mul_add, Int.mul_one] at this
    rw [Int.mul_comm P K]
    omega
  rw [e2, Int.add_mul_emod_self_left, Int.emod_eq_of_lt hlow hlow1]
  generalize W / P = U at *
  generalize W % P = V at *
  rw [← hWm]
  grind
theorem val_head_mod {B : Int} (hB : 0 < B) {xs : List Int} (h : Dig B xs) : val B xs % B = xs.getD 0 0 := by
  cases xs with
  | nil => simp [val]
  | cons x r =>
    simp only [val, List.getD_cons_zero]
    rw [Int.add_mul_emod_self_left, Int.emod_eq_of_lt h.head.1 h.head.2]
theorem drop_getD (xs : List Int) (k : Nat) : (xs.drop k).getD 0 0 = xs.getD k 0 := by
  simp [List.getD_eq_getElem?_getD]
theorem val_drop_div {b : Nat} (hb : 2 ≤ b) (n s : Nat) : val b ((lb b n).drop s) = ((n / b ^ s : Nat) : Int) := by
  induction s generalizing n with
  | zero => rw [List.drop_zero, lb_val hb]; simp
  | succ s ih =>
    by_cases hn : n = 0
    · subst hn; simp [lb_zero, val]
    · rw [lb_pos hb hn, List.drop_succ_cons, ih, Nat.div_div_eq_div_mul, Nat.pow_succ, Nat.mul_comm]
theorem shr_turn {w f : Nat} (hf : f ≤ w) {zs xs : List Int} {i k : Nat} {x : Int} (hz : zs.length = i) (hd : Dig (2 ^ w) xs) (ex : xs[k]? = some x) {V : Int}
    (h : val (2 ^ w) zs + (2 ^ w) ^ i * (val (2 ^ w) (xs.drop k) / 2 ^ f) = V) :
    val (2 ^ w) (zs ++ [(x / 2 ^ f + xs.getD (k + 1) 0 * 2 ^ (w - f)) % 2 ^ w]) + (2 ^ w) ^ (i + 1) * (val (2 ^ w) (xs.drop (k + 1)) / 2 ^ f) = V := by
  have hB : (0 : Int) < 2 ^ w := Int.pow_pos (by omega)
  have gx := hd.get ex
  have hW := val_nonneg (by omega) (hd.drop (k + 1))
  have hm := val_head_mod hB (hd.drop (k + 1))
  rw [drop_getD] at hm
  have key := shr_limb hf gx.1 gx.2 hW
  rw [hm] at key
  rw [val_drop _ ex, ← key] at h
  rw [val_snoc, hz, Int.pow_succ, ← h]
  generalize (x / 2 ^ f + xs.getD (k + 1) 0 * 2 ^ (w - f)) % 2 ^ w = d
  generalize val (2 ^ w) (xs.drop (k + 1)) / 2 ^ f = T
  generalize ((2 : Int) ^ w) ^ i = E
  generalize (2 : Int) ^ w = B
  grind
theorem shr_end {w b f s n : Nat} (hb : 2 ≤ b) (hbw : (b : Int) = 2 ^ w) {zs : List Int} (hd : Dig b zs) (h : val b zs = val b ((lb b n).drop s) / 2 ^ f) : trim zs = lb b (n / 2 ^ (w * s + f)) := by
  refine trim_eq_lb hb hd ?_
  rw [h, val_drop_div hb]
  have e : b = 2 ^ w := by
    have : ((b : Nat) : Int) = ((2 ^ w : Nat) : Int) := by rw [hbw]; push_cast; rfl
    omega
  rw [Nat.pow_add, Nat.pow_mul, ← e, ← Nat.div_div_eq_div_mul]
  push_cast
  rfl

/-! ### division by one limb -/
theorem drop_set_eq {zs : List Int} {k : Nat} (h : k < zs.length) (v : Int) : (zs.set k v).drop k = v :: zs.drop (k + 1) := by
  rw [List.drop_eq_getElem_cons (by simpa using h)]
  simp [List.drop_set_of_lt]
theorem div_turn {B d R x q V X : Int} (hd : 0 < d) (h : V = d * X + R) (hq : q = (R * B + x) / d) : x + B * V = d * (q + B * X) + (R * B + x) % d := by
  have e := Int.emod_add_mul_ediv (R * B + x) d
  rw [← hq] at e
  grind
theorem div_limb {B d R x : Int} (hd : 0 < d) (h0 : 0 ≤ R) (h1 : R < d) (hx : 0 ≤ x) (hx1 : x < B) : 0 ≤ (R * B + x) / d ∧ (R * B + x) / d < B := by
  have hB : 0 < B := by omega
  have h2 : 0 ≤ R * B := Int.mul_nonneg h0 (by omega)
  refine ⟨Int.ediv_nonneg (by omega) (by omega), Int.ediv_lt_of_lt_mul hd ?_⟩
  have : (R + 1) * B ≤ d * B := Int.mul_le_mul_of_nonneg_right (by omega) (by omega)
  rw [Int.add_mul, Int.one_mul] at this
  rw [Int.mul_comm B d]
  omega
theorem div_end {b n d : Nat} (hb : 2 ≤ b) (hd : 0 < d) {zs : List Int} {R : Int} (hz : Dig b zs) (h : (n : Int) = d * val b zs + R) (h0 : 0 ≤ R) (h1 : R < d) : trim zs = lb b (n / d) ∧ R = ((n % d : Nat) : Int) := by
  have hv := val_nonneg (b := b) (by omega) hz
  obtain ⟨q, hq⟩ := Int.eq_ofNat_of_zero_le hv
  obtain ⟨r, rfl⟩ := Int.eq_ofNat_of_zero_le h0
  rw [hq] at h
  have hn : n = r + d * q := by
    have : ((n : Nat) : Int) = ((r + d * q : Nat) : Int) := by push_cast; rw [h]; exact Int.add_comm _ _
    omega
  have hr : r < d := by omega
  have h2 : n / d = q := by rw [hn, Nat.add_mul_div_left _ _ hd, Nat.div_eq_of_lt hr, Nat.zero_add]
  have h3 : n % d = r := by rw [hn, Nat.add_mul_mod_self_left, Nat.mod_eq_of_lt hr]
  rw [h2, h3]
  exact ⟨trim_eq_lb hb hz hq, rfl⟩
theorem lb_length_mono {b n m : Nat} (hb : 2 ≤ b) (h : m ≤ n) : (lb b m).length ≤ (lb b n).length := by
  rcases Nat.lt_or_ge (lb b n).length (lb b m).length with q | q
  · have := lb_lt_length hb q; omega
  · exact q
theorem lb_get {b n i : Nat} {x : Int} (hb : 2 ≤ b) (h : (lb b n)[i]? = some x) : x = ((n / b ^ i % b : Nat) : Int) := by
  have h1 := val_drop_div hb n i
  have h2 := val_drop (b : Int) h
  have gx := (lb_dig hb n).get h
  have h3 := val_nonneg (b := b) (by omega) ((lb_dig hb n).drop (i + 1))
  rw [h1] at h2
  push_cast
  have e : ((n / b ^ i : Nat) : Int) = (n : Int) / (b : Int) ^ i := by push_cast; rfl
  rw [← e, h2, Int.add_mul_emod_self_left, Int.emod_eq_of_lt gx.1 gx.2]
theorem lb_high {b n i : Nat} (hb : 2 ≤ b) (h : (lb b n).length ≤ i) : n / b ^ i = 0 := by
  have h1 := val_drop_div hb n i
  rw [List.drop_of_length_le h] at h1
  simp only [val] at h1
  omega
theorem bit_of {w b v n : Nat} (hw : 0 < w) (hb : b = 2 ^ w) : v / b ^ (n / w) % b / 2 ^ (n % w) % 2 = v / 2 ^ n % 2 := by
  have h2 : (2 ^ w : Nat) = 2 ^ (n % w) * 2 ^ (w - n % w - 1) * 2 := by
    have := Nat.mod_lt n hw
    rw [Nat.mul_assoc, ← Nat.pow_succ, ← Nat.pow_add]
    congr 1; omega
  have h3 : (2 : Nat) ^ n = 2 ^ (w * (n / w)) * 2 ^ (n % w) := by
    rw [← Nat.pow_add, Nat.div_add_mod]
  rw [hb, h3, ← Nat.div_div_eq_div_mul, ← Nat.pow_mul]
  generalize v / 2 ^ (w * (n / w)) = u
  rw [h2, Nat.mul_assoc, Nat.mod_mul_right_div_self, Nat.mul_comm _ 2, Nat.mod_mul_right_mod]
theorem bit_off {w b v n : Nat} (hw : 0 < w) (hb : b = 2 ^ w) (h : v / b ^ (n / w) = 0) : v / 2 ^ n % 2 = 0 := by
  rw [← bit_of hw hb, h]; simp

/-- how many noughts a number ends with -/
def tz (v : Nat) : Nat := if v % 2 = 1 then 0 else if v % 4 = 2 then 1 else if v % 8 = 4 then 2 else if v % 16 = 8 then 3 else 4
theorem tz_of : ∀ v, v < 24 → ∀ t, t < 5 → v / 2 ^ t * 2 ^ t = v → v / 2 ^ t % 2 = 1 → t = tz v := by decide +kernel
theorem tz_spec {v t : Nat} (hv : v < 24) (h1 : v / 2 ^ t * 2 ^ t = v) (h2 : v / 2 ^ t % 2 = 1) : t = tz v := by
  refine tz_of v hv t ?_ h1 h2
  rcases Nat.lt_or_ge t 5 with q | q
  · exact q
  · have h3 : 2 ^ 5 ≤ 2 ^ t := Nat.pow_le_pow_right (by omega) q
    have : v / 2 ^ t = 0 := Nat.div_eq_of_lt (by omega)
    rw [this] at h2; omega
theorem tz_lt (v : Nat) : tz v < 5 := by unfold tz; split; omega; split; omega; split; omega; split <;> omega
theorem trail_join {b v i x t w : Nat} (hbw : b = 2 ^ w) (hlow : v % b ^ i = 0) (hx : x = v / b ^ i % b) (h1 : x / 2 ^ t * 2 ^ t = x) (h2 : x / 2 ^ t % 2 = 1) :
    v / 2 ^ (i * w + t) * 2 ^ (i * w + t) = v ∧ v / 2 ^ (i * w + t) % 2 = 1 := by
  have e : (2 : Nat) ^ (i * w + t) = b ^ i * 2 ^ t := by rw [Nat.pow_add, hbw, ← Nat.pow_mul, Nat.mul_comm i w]
  rw [e, ← Nat.div_div_eq_div_mul]
  have hv : v = b ^ i * (v / b ^ i) := by
    have := Nat.div_add_mod v (b ^ i); omega
  generalize hu : v / b ^ i = u at *
  have ht : t < w := by
    rcases Nat.lt_or_ge t w with q | q
    · exact q
    · have h3 : 2 ^ w ≤ 2 ^ t := Nat.pow_le_pow_right (by omega) q
      have h4 : x < b := by rw [hx]; exact Nat.mod_lt _ (by rw [hbw]; exact Nat.two_pow_pos w)
      have : x / 2 ^ t = 0 := Nat.div_eq_of_lt (by omega)
      rw [this] at h2; omega
  have eb : b = 2 ^ t * 2 ^ (w - t - 1) * 2 := by
    rw [hbw, Nat.mul_assoc, ← Nat.pow_succ, ← Nat.pow_add]
    congr 1; omega
  have hux : u = x + b * (u / b) := by rw [hx]; exact (Nat.mod_add_div u b).symm
  have hP : 0 < 2 ^ t := Nat.two_pow_pos t
  generalize 2 ^ t = P at *
  generalize 2 ^ (w - t - 1) = K at *
  generalize hq : x / P = q at *
  generalize u / b = y at *
  have hu2 : u / P = q + K * 2 * y := by
    rw [hux, ← h1, eb, show q * P + P * K * 2 * y = P * (q + K * 2 * y) by grind, Nat.mul_div_cancel_left _ hP]
  rw [hu2]
  refine ⟨?_, ?_⟩
  · rw [hv, hux, eb, ← h1]; grind
  · rw [show q + K * 2 * y = q + 2 * (K * y) by grind]; omega
theorem low_zero {b v i : Nat} (hb : 0 < b) (h : v % b ^ i = 0) (h1 : v / b ^ i % b = 0) : v % b ^ (i + 1) = 0 := by
  rw [Nat.pow_succ, Nat.mod_mul, h, h1, Nat.mul_zero]
/-! ### rows of a product -/
theorem mul_turn {B V0 x z y c : Int} {zs bs : List Int} {k i j : Nat} (hk : k = i + j) (hz : zs[k]? = some z) (ey : bs[j]? = some y)
    (h : val B zs + B ^ k * c = V0 + B ^ i * (x * val B (bs.take j))) :
    val B (zs.set k ((c + (z + x * y)) % B)) + B ^ (k + 1) * ((c + (z + x * y)) / B) = V0 + B ^ i * (x * val B (bs.take (j + 1))) := by
  rw [val_set B _ hz, val_take_succ B ey]
  have e := Int.emod_add_mul_ediv (c + (z + x * y)) B
  have e' : (c + (z + x * y)) % B = c + (z + x * y) - B * ((c + (z + x * y)) / B) := by omega
  rw [e']
  generalize (c + (z + x * y)) / B = Y
  rw [Int.pow_succ]
  have e2 : B ^ k = B ^ i * B ^ j := by rw [hk, Int.pow_add]
  generalize val B zs = V at *
  generalize val B (bs.take j) = U at *
  have h2 : V = V0 + B ^ i * (x * U) - B ^ k * c := by omega
  rw [h2, e2]
  generalize B ^ i = E
  generalize B ^ j = F
  grind
theorem mul_carry {B c z x y : Int} (hB : 0 < B) (c0 : 0 ≤ c) (c1 : c < B) (z0 : 0 ≤ z) (z1 : z < B) (x0 : 0 ≤ x) (x1 : x < B) (y0 : 0 ≤ y) (y1 : y < B) :
    0 ≤ c + (z + x * y) ∧ 0 ≤ (c + (z + x * y)) / B ∧ (c + (z + x * y)) / B < B := by
  have h1 : 0 ≤ x * y := Int.mul_nonneg x0 y0
  refine ⟨by omega, Int.ediv_nonneg (by omega) (by omega), Int.ediv_lt_of_lt_mul hB ?_⟩
  have h2 : x * y ≤ (B - 1) * (B - 1) := Int.mul_le_mul (by omega) (by omega) y0 (by omega)
  have h3 : (B - 1) * (B - 1) = B * B - 2 * B + 1 := by grind
  omega
theorem set_drop {zs : List Int} {k j : Nat} (h : k < j) (v : Int) : (zs.set k v).drop j = zs.drop j := by
  rw [List.drop_set_of_lt h]
theorem drop_zero_get {zs : List Int} {k n : Nat} (h : zs.drop k = List.replicate n 0) (hn : 0 < n) : zs[k]? = some 0 := by
  have h1 : (zs.drop k)[0]? = some 0 := by rw [h, List.getElem?_replicate, if_pos hn]
  rwa [List.getElem?_drop, Nat.add_zero] at h1
theorem drop_zero_next {zs : List Int} {k n : Nat} (h : zs.drop k = List.replicate n 0) : zs.drop (k + 1) = List.replicate (n - 1) 0 := by
  rw [← List.drop_drop, h, List.drop_replicate]

/-! ### a limb guessed -/
theorem guess_start {B D T H f s t0 : Int} (hB : 0 < B) (hD : D = f * B + s) (hT : T = H * B + t0) (hf : 0 < f) (hs : 0 ≤ s) (h0 : 0 ≤ T) (ht1 : t0 < B) (hlt : T < D * B) : T / D ≤ min (H / f) (B - 1) := by
  have hf1 : 0 < f * B := Int.mul_pos hf hB
  have hDpos : 0 < D := by omega
  have h1 : T / D < B := Int.ediv_lt_of_lt_mul hDpos (by rw [Int.mul_comm]; exact hlt)
  have hq0 : 0 ≤ T / D := Int.ediv_nonneg h0 (by omega)
  have h2 : T / D * D ≤ T := Int.ediv_mul_le T (by omega)
  generalize T / D = q at *
  have h3 : q * f * B ≤ H * B + t0 := by
    have e : q * D = q * f * B + q * s := by rw [hD]; grind
    have : 0 ≤ q * s := Int.mul_nonneg hq0 hs
    omega
  have h4 : q * f ≤ H := by
    by_cases c : H < q * f
    · have : (H + 1) * B ≤ q * f * B := Int.mul_le_mul_of_nonneg_right (by omega) (by omega)
      rw [Int.add_mul, Int.one_mul] at this
      omega
    · omega
  have h5 : q ≤ H / f := (Int.le_ediv_iff_mul_le hf).mpr h4
  omega
theorem guess_turn {B D T H f s t0 limb rest : Int} (hD : D = f * B + s) (hT : T = H * B + t0) (hDp : 0 < D) (hr : rest = H - limb * f) (h : rest * B + t0 < limb * s) : T / D ≤ limb - 1 := by
  have h1 : T < limb * D := by
    have e : limb * D = limb * f * B + limb * s := by rw [hD]; grind
    have e2 : rest * B = H * B - limb * f * B := by rw [hr, Int.sub_mul]
    omega
  have : T / D < limb := Int.ediv_lt_of_lt_mul hDp h1
  omega
theorem guess_end {B D T H f s t0 limb rest : Int} (hB : 0 < B) (hD : D = f * B + s) (hT : T = H * B + t0) (hDp : 0 < D) (hr : rest = H - limb * f) (h0 : 0 ≤ t0) (hl : limb ≤ B - 1) (hs0 : 0 ≤ s) (hs : s < B)
    (hq : T / D ≤ limb) (h : ¬ (rest < B ∧ rest * B + t0 < limb * s)) : limb = T / D := by
  have h1 : limb * s ≤ rest * B + t0 := by
    by_cases hb : rest < B
    · have := fun c => h ⟨hb, c⟩
      omega
    · have h2 : limb * s ≤ (B - 1) * B := Int.mul_le_mul (by omega) (by omega) hs0 (by omega)
      have h3 : B * B ≤ rest * B := Int.mul_le_mul_of_nonneg_right (by omega) (by omega)
      have : (B - 1) * B = B * B - B := by grind
      omega
  have h2 : limb * D ≤ T := by
    have e : limb * D = limb * f * B + limb * s := by rw [hD]; grind
    have e2 : rest * B = H * B - limb * f * B := by rw [hr, Int.sub_mul]
    omega
  have h3 : limb ≤ T / D := (Int.le_ediv_iff_mul_le hDp).mpr h2
  omega

/-! ### a multiple taken away -/
theorem take_step {B t p : Int} (hB : 0 < B) (t0 : 0 ≤ t) (t1 : t < B) (hp : 0 ≤ p) :
    (0 ≤ (if t - p % B < 0 then t - p % B + B else t - p % B) ∧ (if t - p % B < 0 then t - p % B + B else t - p % B) < B) ∧
    (if t - p % B < 0 then t - p % B + B else t - p % B) = t - p + B * (p / B + (if t - p % B < 0 then 1 else 0)) ∧ 0 ≤ p / B + (if t - p % B < 0 then 1 else 0) := by
  have h1 := Int.emod_nonneg p (show B ≠ 0 by omega)
  have h2 := Int.emod_lt_of_pos p hB
  have h3 := Int.emod_add_mul_ediv p B
  have h4 : 0 ≤ p / B := Int.ediv_nonneg hp (by omega)
  rw [Int.mul_add]
  split <;> refine ⟨⟨by omega, by omega⟩, by omega, by omega⟩
theorem take_turn {B T q y c t z c' : Int} {ms bs : List Int} {i : Nat} (ht : ms[i]? = some t) (ey : bs[i]? = some y) (hz : z = t - (q * y + c) + B * c')
    (h : val B ms = T - q * val B (bs.take i) + B ^ i * c) : val B (ms.set i z) = T - q * val B (bs.take (i + 1)) + B ^ (i + 1) * c' := by
  rw [val_set B _ ht, val_take_succ B ey, h, hz, Int.pow_succ]
  generalize B ^ i = E
  grind
theorem take_end {B T D z0 z1 t2 c : Int} (hB : 0 < B) (a0 : 0 ≤ z0) (a1 : z0 < B) (b0 : 0 ≤ z1) (b1 : z1 < B) (hD : 0 < D) (hD2 : D < B * B)
    (h : z0 + B * (z1 + B * (t2 + B * 0)) = T - T / D * D + B ^ 2 * c) : t2 - c = 0 ∧ z0 + B * z1 = T % D := by
  have h1 := Int.emod_nonneg T (show D ≠ 0 by omega)
  have h2 := Int.emod_lt_of_pos T hD
  have h3 := Int.emod_add_mul_ediv T D
  have e : T - T / D * D = T % D := by rw [Int.mul_comm]; omega
  rw [e] at h
  have e2 : z0 + B * (z1 + B * (t2 + B * 0)) = z0 + B * z1 + B * B * t2 := by grind
  have e3 : B ^ 2 * c = B * B * c := by grind
  rw [e2, e3] at h
  have h4 : z0 + B * z1 < B * B := by
    have : B * z1 ≤ B * (B - 1) := Int.mul_le_mul_of_nonneg_left (by omega) (by omega)
    rw [Int.mul_sub] at this
    omega
  have h5 : 0 ≤ B * z1 := Int.mul_nonneg (by omega) b0
  have hBB : 0 < B * B := Int.mul_pos hB hB
  have h6 : B * B * (t2 - c) = T % D - (z0 + B * z1) := by rw [Int.mul_sub]; omega
  have h7 : t2 - c = 0 := by
    rcases Int.lt_trichotomy (t2 - c) 0 with q | q | q
    · have : B * B * (t2 - c) ≤ B * B * (-1) := Int.mul_le_mul_of_nonneg_left (by omega) (by omega)
      omega
    · exact q
    · have : B * B * 1 ≤ B * B * (t2 - c) := Int.mul_le_mul_of_nonneg_left (by omega) (by omega)
      omega
  rw [h7] at h6
  exact ⟨h7, by omega⟩
theorem mid_get {pre ms suf : List Int} {i : Nat} (h : i < ms.length) : (pre ++ (ms ++ suf))[pre.length + i]? = ms[i]? := by
  rw [List.getElem?_append_right (by omega), Nat.add_sub_cancel_left, List.getElem?_append_left h]
theorem mid_set {pre ms suf : List Int} {i : Nat} (h : i < ms.length) (v : Int) : (pre ++ (ms ++ suf)).set (pre.length + i) v = pre ++ (ms.set i v ++ suf) := by
  rw [List.set_append_right _ _ (by omega), Nat.add_sub_cancel_left, List.set_append_left _ _ h]
theorem three {ms : List Int} (h : ms.length = 3) : ∃ x y z, ms = [x, y, z] := by
  match ms, h with
  | [x, y, z], _ => exact ⟨x, y, z, rfl⟩
theorem two_of {ms : List Int} (h : ms.length = 2) : ∃ x y, ms = [x, y] := by
  match ms, h with
  | [x, y], _ => exact ⟨x, y, rfl⟩
theorem lb_short {b n : Nat} (hb : 8 ≤ b) (hn : n ≤ 1000) : (lb b n).length ≤ 4 :=
  lb_length_pow (by omega) 4 n (by have : 8 ^ 4 ≤ b ^ 4 := Nat.pow_le_pow_left hb 4; omega)
theorem bits_small : ∀ u : Fin 8, 0 < u.val → u.val < 2 ^ (if u.val < 2 then 1 else if u.val < 4 then 2 else 3) := by decide
/-- the lengths of a division's numbers -/
theorem rows_len {b w n s : Nat} (hb : 2 ≤ b) (hbn : b = 2 ^ w) (hs : s < w) : (lb b (n * 2 ^ s)).length ≤ (lb b n).length + 1 := by
  refine lb_length_pow hb _ _ ?_
  have h1 := val_lt (b := b) (by omega) (lb_dig hb n)
  rw [lb_val hb] at h1
  have h2 : n < b ^ (lb b n).length := by
    have : ((b ^ (lb b n).length : Nat) : Int) = (b : Int) ^ (lb b n).length := by push_cast; rfl
    omega
  have h3 : 2 ^ s < b := by rw [hbn]; exact Nat.pow_lt_pow_right (by omega) hs
  rw [Nat.pow_succ]
  exact Nat.mul_lt_mul_of_lt_of_le h2 (by omega) (by omega)
theorem val_pad {b : Int} (xs : List Int) (k : Nat) : val b (xs ++ List.replicate k 0) = val b xs := by
  rw [val_append, val_replicate, Int.mul_zero, Int.add_zero]
/-- what stands above is less than the divisor -/
theorem rows_top {b w n m s N : Nat} {R0 : List Int} (hb : 2 ≤ b) (hbn : b = 2 ^ w) (hR : val b R0 = ((n * 2 ^ s : Nat) : Int)) (hdR : Dig b R0) (hlen : R0.length = N + 2) (hN : (lb b n).length = N + 1) (hm : b ≤ m) :
    val b (R0.drop N) < ((m * 2 ^ s : Nat) : Int) := by
  have hsp := val_split b R0 N (by omega)
  have h0 := val_nonneg (b := b) (by omega) (hdR.take N)
  have h1 := val_lt (b := b) (by omega) (lb_dig hb n)
  rw [lb_val hb, hN] at h1
  have hP : (0 : Int) < (b : Int) ^ N := Int.pow_pos (by omega)
  have h2 : (n : Int) * 2 ^ s < (b : Int) ^ N * (m * 2 ^ s) := by
    have hs : (0 : Int) < 2 ^ s := Int.pow_pos (by omega)
    have h3 : (n : Int) * 2 ^ s < (b : Int) ^ (N + 1) * 2 ^ s := Int.mul_lt_mul_of_pos_right h1 hs
    have h4 : (b : Int) ^ (N + 1) * 2 ^ s = (b : Int) ^ N * (b * 2 ^ s) := by rw [Int.pow_succ, Int.mul_assoc]
    have h5 : (b : Int) * 2 ^ s ≤ m * 2 ^ s := Int.mul_le_mul_of_nonneg_right (by omega) (by omega)
    have h6 : (b : Int) ^ N * (b * 2 ^ s) ≤ (b : Int) ^ N * (m * 2 ^ s) := Int.mul_le_mul_of_nonneg_left h5 (by omega)
    omega
  rw [hR] at hsp
  push_cast at hsp ⊢
  have h7 : (b : Int) ^ N * val b (R0.drop N) < (b : Int) ^ N * (m * 2 ^ s) := by omega
  exact Int.lt_of_mul_lt_mul_left h7 (by omega)
theorem rows_end {b n m s : Nat} {zs rs : List Int} (hb : 2 ≤ b) (hm : 0 < m) (hz : Dig b zs) (hr : Dig b rs) (h : ((n * 2 ^ s : Nat) : Int) = ((m * 2 ^ s : Nat) : Int) * val b zs + val b rs) (h1 : val b rs < ((m * 2 ^ s : Nat) : Int)) :
    trim zs = lb b (n / m) ∧ trim rs = lb b ((n % m) * 2 ^ s) := by
  have hs : 0 < 2 ^ s := Nat.two_pow_pos s
  have hv := val_nonneg (b := b) (by omega) hr
  obtain ⟨e1, e2⟩ := div_end hb (Nat.mul_pos hm hs) hz h hv h1
  rw [Nat.mul_div_mul_right _ _ hs] at e1
  rw [Nat.mul_mod_mul_right] at e2
  exact ⟨e1, trim_eq_lb hb hr e2⟩
theorem two_limbs {b m : Nat} (hb : 2 ≤ b) (h1 : b ≤ m) (h2 : m < b * b) : lb b m = [((m % b : Nat) : Int), ((m / b : Nat) : Int)] := by
  have h3 : 0 < m / b := Nat.div_pos h1 (by omega)
  have h4 : m / b < b := Nat.div_lt_of_lt_mul h2
  rw [lb_pos hb (by omega), lb_pos hb (by omega), Nat.mod_eq_of_lt h4, Nat.div_eq_of_lt h4, lb_zero]
theorem one_limb {b m : Nat} (hb : 2 ≤ b) (h1 : 0 < m) (h2 : m < b) : lb b m = [(m : Int)] := by
  rw [lb_pos hb (by omega), Nat.mod_eq_of_lt h2, Nat.div_eq_of_lt h2, lb_zero]
theorem scaled_lt {b w m k : Nat} (hbn : b = 2 ^ w) (hk : k ≤ w) (hu : m / b < 2 ^ k) : m * 2 ^ (w - k) < b * b := by
  have hb : 0 < b := by rw [hbn]; exact Nat.two_pow_pos w
  have h1 : m < 2 ^ k * b := by rw [Nat.mul_comm]; exact Nat.lt_mul_of_div_lt hu hb |> (by rw [Nat.mul_comm]; exact ·)
  have h2 : 2 ^ k * b * 2 ^ (w - k) = b * b := by
    rw [Nat.mul_assoc, Nat.mul_comm b, ← Nat.mul_assoc, ← Nat.pow_add, show k + (w - k) = w by omega, ← hbn]
  rw [← h2]
  exact Nat.mul_lt_mul_of_pos_right h1 (Nat.two_pow_pos _)
/-- the count under a line -/
def cnt (n m a b : Nat) : Nat := ((List.range n).map fun i => (a * i + b) / m).sum
theorem cnt_cast (n m a b : Nat) : ((List.range n).map fun i => ((((a * i + b) / m : Nat) : Nat) : Int)).sum = (cnt n m a b : Int) := by
  unfold cnt
  induction n with
  | zero => rfl
  | succ n ih => simp only [List.range_succ, List.map_append, List.sum_append, List.map_cons, List.map_nil, List.sum_cons, List.sum_nil, ih]; push_cast; omega
theorem cnt_zero (m a b : Nat) : cnt 0 m a b = 0 := rfl
theorem cnt_succ (n m a b : Nat) : cnt (n + 1) m a b = cnt n m a b + (a * n + b) / m := by
  unfold cnt
  rw [List.range_succ, List.map_append, List.sum_append]
  simp
theorem half_succ (n : Nat) : (n + 1) * n / 2 = n * (n - 1) / 2 + n := by
  cases n with
  | zero => rfl
  | succ k =>
    rw [Nat.add_sub_cancel, show (k + 1 + 1) * (k + 1) = (k + 1) * k + (k + 1) * 2 by grind, Nat.add_mul_div_right _ _ (by omega)]
theorem cnt_reduce {m : Nat} (hm : 0 < m) (n a b : Nat) : cnt n m a b = a / m * (n * (n - 1) / 2) + b / m * n + cnt n m (a % m) (b % m) := by
  induction n with
  | zero => simp [cnt_zero]
  | succ n ih =>
    rw [cnt_succ, cnt_succ, ih, Nat.add_sub_cancel, half_succ]
    have h1 : a * n + b = m * (a / m * n + b / m) + (a % m * n + b % m) := by
      have ea := Nat.div_add_mod a m
      have eb := Nat.div_add_mod b m
      generalize a / m = qa at *
      generalize a % m = ra at *
      generalize b / m = qb at *
      generalize b % m = rb at *
      subst ea eb
      grind
    have h2 : (a * n + b) / m = a / m * n + b / m + (a % m * n + b % m) / m := by
      rw [h1, Nat.mul_add_div hm]
    rw [h2, Nat.mul_add, Nat.mul_add, Nat.mul_one]
    omega
theorem cnt_more {a : Nat} (ha : 0 < a) (k m r : Nat) : cnt k a m (r + a) = cnt k a m r + k := by
  induction k with
  | zero => rfl
  | succ k ih =>
    rw [cnt_succ, cnt_succ, ih, ← Nat.add_assoc, Nat.add_div_right _ ha]
    omega
theorem cnt_first {a : Nat} (k m r : Nat) : cnt (k + 1) a m r = r / a + cnt k a m (r + m) := by
  induction k with
  | zero => simp [cnt_succ, cnt_zero]
  | succ k ih =>
    rw [cnt_succ, ih, cnt_succ k, show m * (k + 1) + r = m * k + (r + m) by grind]
    omega
theorem cnt_flip {m a b : Nat} (hm : a < m) (hb : b < m) (n : Nat) : cnt n m a b = cnt ((a * n + b) / m) a m ((a * n + b) % m) := by
  have hm0 : 0 < m := by omega
  rcases Nat.eq_zero_or_pos a with rfl | ha
  · rw [Nat.zero_mul, Nat.zero_add, Nat.div_eq_of_lt hb, cnt_zero]
    induction n with
    | zero => rfl
    | succ n ih => rw [cnt_succ, ih, Nat.zero_mul, Nat.zero_add, Nat.zero_add, Nat.div_eq_of_lt hb]
  induction n with
  | zero => rw [Nat.mul_zero, Nat.zero_add, Nat.div_eq_of_lt hb, cnt_zero, cnt_zero]
  | succ n ih =>
    rw [cnt_succ, ih]
    have e := Nat.div_add_mod (a * n + b) m
    have hr := Nat.mod_lt (a * n + b) hm0
    generalize (a * n + b) / m = K at *
    generalize (a * n + b) % m = r at *
    have e2 : a * (n + 1) + b = m * K + (r + a) := by rw [Nat.mul_add, Nat.mul_one]; omega
    rw [e2, Nat.mul_add_div hm0, Nat.mul_add_mod]
    by_cases h : r + a < m
    · rw [Nat.div_eq_of_lt h, Nat.mod_eq_of_lt h, Nat.add_zero, cnt_more ha]
    · have h2 : (r + a) / m = 1 := by
        rw [Nat.div_eq_iff hm0]; omega
      have h3 : (r + a) % m = r + a - m := by
        rw [Nat.mod_eq_sub_mod (by omega), Nat.mod_eq_of_lt (by omega)]
      rw [h2, h3, cnt_first, Nat.div_eq_of_lt (show r + a - m < a by omega), Nat.zero_add, Nat.sub_add_cancel (by omega), cnt_more ha]
/-- the turns end -/
def ends : Nat → Nat → Nat → Bool
  | 0, m, _ => m == 0
  | k + 1, m, a => m == 0 || ends k (a % m) m
theorem ends_all : ∀ m : Fin 24, 0 < m.val → ∀ r : Fin 24, ends 11 r.val m.val = true := by decide +kernel
theorem ends_start {m a : Nat} (h0 : 0 < m) (hm : m < 24) : ends 12 m a = true := by
  have h1 : a % m < m := Nat.mod_lt _ h0
  have := ends_all ⟨m, hm⟩ h0 ⟨a % m, by omega⟩
  unfold ends
  simp only at this
  rw [this, Bool.or_true]
theorem ends_turn {k m a : Nat} (h : ends (k + 1) m a = true) (h0 : 0 < m) : ends k (a % m) m = true := by
  unfold ends at h
  rw [Bool.or_eq_true] at h
  rcases h with h | h
  · simp at h; omega
  · exact h
theorem cnt_le (n m a b : Nat) : cnt n m a b ≤ a * (n * (n - 1) / 2) + b * n := by
  induction n with
  | zero => exact Nat.zero_le _
  | succ n ih =>
    rw [cnt_succ, Nat.add_sub_cancel, half_succ, Nat.mul_add, Nat.mul_add, Nat.mul_one]
    have := Nat.div_le_self (a * n + b) m
    omega
theorem cnt_bound {n m a b : Nat} (hn : n ≤ 9) (ha : a ≤ 23) (hb : b ≤ 19) : cnt n m a b ≤ 1000 := by
  have h1 := cnt_le n m a b
  have h2 : n * (n - 1) ≤ 9 * 8 := Nat.mul_le_mul hn (by omega)
  have h3 : a * (n * (n - 1) / 2) ≤ 23 * 36 := Nat.mul_le_mul ha (by omega)
  have h4 : b * n ≤ 19 * 9 := Nat.mul_le_mul hb hn
  omega
end Mine
open PySem PySem.W PyProof.Rows PySem.Calls
namespace Mine
/-! ### small facts -/
theorem range_down (a b : Int) : Builtin.Range.rangeSize a b (-1) = ((a - b).toNat : Int) := by
  unfold Builtin.Range.rangeSize
  rw [if_neg (by decide)]
  split
  · rw [show (-(-1) : Int) = 1 from rfl, Int.ediv_one]; omega
  · omega
theorem pick_rev : ∀ {vs : List Value}, vs.length ≤ 4 → slicePick vs.toArray none none (some (-1)) = vs.reverse.toArray
  | [], _ => by with_unfolding_all rfl
  | [_], _ => by with_unfolding_all rfl
  | [_, _], _ => by with_unfolding_all rfl
  | [_, _, _], _ => by with_unfolding_all rfl
  | [_, _, _, _], _ => by with_unfolding_all rfl
  | _ :: _ :: _ :: _ :: _ :: _, h => by simp at h
theorem cells_some {x : Str} : ∀ (l : List (Str × NameKind)) (n : Nat) (acc : List (Str × Addr)), (acc.lookup x).isSome = true → ((cellsFrom n l acc).lookup x).isSome = true
  | [], _, _, h => h
  | (y, k) :: r, n, acc, h => by
    unfold cellsFrom
    split
    · refine cells_some r _ _ ?_
      rw [List.lookup_cons]
      split
      · rfl
      · exact h
    · exact cells_some r _ _ h
theorem cells_of {x : Str} : ∀ (l : List (Str × NameKind)) (n : Nat) (acc : List (Str × Addr)), l.lookup x = some .cell → ((cellsFrom n l acc).lookup x).isSome = true
  | [], _, _, h => by cases h
  | (y, k) :: r, n, acc, h => by
    rw [List.lookup_cons] at h
    unfold cellsFrom
    split at h
    · next e =>
      cases h
      refine cells_some r _ _ ?_
      rw [List.lookup_cons, e]
      rfl
    · split
      · exact cells_of r _ _ h
      · exact cells_of r _ _ h
section
variable {prog : Program} {w : World} {A : Around} {s : Shared} {E : Value → Shared → Prop}
theorem list_store {l : Addr} {o : Obj} {items : Array Value} {n : Nat} {k : Int} {t : Tok} {v : Value} {Q : Unit → Shared → Prop} (ho : s.heap.get? l = some o) (hc : o.cls = .type "list") (hd : o.data = .seq items n) (h0 : 0 ≤ k) (hf : k < 2 ^ 63) (hk : k < items.size)
    (hQ : Q () { s with heap := s.heap.update l (Obj.mapSeq (·.setIfInBounds k.toNat v)) }) : wpAny (model prog w) A (setItem (.ref l) (.int k t) v) Q E s := by
  have hl : s.heap.IsList l items := ⟨o, ho, hc, n, hd⟩
  have hfit := fitsIndex_of h0 hf
  clear hf
  unfold setItem
  try with_reducible refine wpAny_holding ?_
  refine wpAny_bind (wpAny_sequenceKey hl.typeIs (by decide) ?_)
  refine wpAny_bind (wpAny_callSpecial?_slot (name := Str.ofString "__setitem__") hl.typeIs slot_list_setitem (wpAny_call_entry slot_list_setitem hl.typeIs entry_list_setitem ?_ (args_list_setitem _ _ _)))
  show wpAny _ _ (Builtin.List.listSubscript? (.int k t) >>= _) _ _ s
  refine wpAny_bind (wpAny_listSubscript_int hfit ?_)
  clear hfit
  obtain ⟨j, rfl⟩ := Int.eq_ofNat_of_zero_le h0
  have hj : j < items.size := by omega
  show wpAny _ _ ((seqItemAt l j >>= fun r => pure (r.map (j, ·))) >>= _) _ _ s
  refine wpAny_bind (wpAny_bind (wpAny_seqItemAt ho hd (wpAny_pure ?_)))
  rw [show items[j]? = some items[j] from Array.getElem?_eq_getElem hj]
  show wpAny _ _ (setSeqItemAt l j v >>= _) _ _ s
  refine wpAny_bind (wpAny_setSeqItemAt ho hd ?_)
  first
    | exact wpAny_bind (wpAny_pure (wpAny_pure ⟨.none, rfl, wpAny_pure hQ⟩))
    | exact wpAny_pure ⟨.none, rfl, wpAny_pure hQ⟩
end

/-! ### abstract values, abstract heap -/
inductive AV where
  | none
  | bool (b : Bool)
  | int (i : Int)
  | ref (a : Addr)

def AV.isNone : AV → Bool
  | .none => true
  | _ => false

def AV.is : AV → Value → Prop
  | .none, v => v = .none
  | .bool b, v => v = .bool b
  | .int i, v => ∃ t, v = .int i t
  | .ref a, v => v = .ref a

theorem is_int (i : Int) (t : Tok) : AV.is (.int i) (.int i t) := ⟨t, rfl⟩
theorem is_bool (b : Bool) : AV.is (.bool b) (.bool b) := rfl
theorem is_none' : AV.is .none .none := rfl
theorem is_ref (a : Addr) : AV.is (.ref a) (.ref a) := rfl

def Are : List AV → List Value → Prop
  | [], [] => True
  | u :: us, v :: vs => u.is v ∧ Are us vs
  | _, _ => False

theorem Are.length : ∀ {us : List AV} {vs : List Value}, Are us vs → us.length = vs.length
  | [], [], _ => rfl
  | _ :: _, _ :: _, h => by simp only [List.length_cons]; rw [Are.length h.2]
theorem Are.get : ∀ {us : List AV} {vs : List Value} {i : Nat} {u : AV}, Are us vs → us[i]? = some u → ∃ v, vs[i]? = some v ∧ u.is v
  | _ :: _, v :: _, 0, _, h, e => by
    simp only [List.getElem?_cons_zero, Option.some.injEq] at e; subst e; exact ⟨v, rfl, h.1⟩
  | _ :: _, _ :: _, i + 1, _, h, e => by
    simp only [List.getElem?_cons_succ] at e ⊢; exact Are.get h.2 e
  | [], _, _, _, _, e => by simp at e
theorem Are.append : ∀ {us us' : List AV} {vs vs' : List Value}, Are us vs → Are us' vs' → Are (us ++ us') (vs ++ vs')
  | [], _, [], _, _, h => h
  | _ :: _, _, _ :: _, _, h, h' => ⟨h.1, Are.append h.2 h'⟩
theorem Are.take : ∀ {us : List AV} {vs : List Value} (n : Nat), Are us vs → Are (us.take n) (vs.take n)
  | [], [], _, _ => by simp [Are]
  | _ :: _, _ :: _, 0, _ => by simp [Are]
  | _ :: _, _ :: _, n + 1, h => ⟨h.1, Are.take n h.2⟩
theorem Are.drop : ∀ {us : List AV} {vs : List Value} (n : Nat), Are us vs → Are (us.drop n) (vs.drop n)
  | [], [], _, _ => by simp [Are]
  | _ :: _, _ :: _, 0, h => h
  | _ :: _, _ :: _, n + 1, h => Are.drop n h.2
theorem Are.reverse : ∀ {us : List AV} {vs : List Value}, Are us vs → Are us.reverse vs.reverse
  | [], [], _ => trivial
  | _ :: _, _ :: _, h => by
    simp only [List.reverse_cons]
    exact Are.append (Are.reverse h.2) ⟨h.1, trivial⟩
theorem Are.set {u : AV} {v : Value} (h' : u.is v) : ∀ (us : List AV) (vs : List Value) (n : Nat), Are us vs → Are (us.set n u) (vs.set n v) := by
  intro us
  induction us with
  | nil =>
    intro vs n h
    cases vs with
    | nil => trivial
    | cons y vs => exact h.elim
  | cons x us ih =>
    intro vs n h
    cases vs with
    | nil => exact h.elim
    | cons y vs =>
      cases n with
      | zero => exact ⟨h', h.2⟩
      | succ n => exact ⟨h.1, ih vs n h.2⟩
theorem Are.replicate {u : AV} {v : Value} (h : u.is v) : ∀ n, Are (List.replicate n u) (List.replicate n v)
  | 0 => trivial
  | n + 1 => ⟨h, Are.replicate h n⟩

inductive AO where
  | lst (m : Bool) (xs : List AV)
  | tup (xs : List AV)

abbrev AH := Addr → Option AO

def AO.at (B h : Heap) (a : Addr) : AO → Prop
  | .lst m xs => ∃ vs n d sl, Are xs vs ∧ h.get? a = some ⟨.type "list", d, .seq vs.toArray n, sl⟩ ∧ (m = true → d = none ∧ sl = #[] ∧ B.get? a = none)
  | .tup xs => ∃ vs n d sl, Are xs vs ∧ h.get? a = some ⟨.type "tuple", d, .seq vs.toArray n, sl⟩

def upd (σ : AH) (a : Addr) (o : AO) : AH := fun b => if b = a then some o else σ b

theorem upd_self (σ : AH) (a : Addr) (o : AO) : upd σ a o a = some o := by simp [upd]
theorem upd_ne {σ : AH} {a b : Addr} {o : AO} (h : b ≠ a) : upd σ a o b = σ b := by simp [upd, h]

abbrev Mu := List (Str × AV)
def lk : Mu → Str → Option AV
  | [], _ => none
  | (y, v) :: r, x => if x = y then some v else lk r x

theorem ofString_inj (a b : String) : Str.ofString a = Str.ofString b ↔ a = b := by
  constructor
  · intro h
    unfold Str.ofString at h
    injection h with h
    have h := congrArg Array.toList h
    simp only [cpsOfBytes_string] at h
    have := List.map_inj_right (f := Char.toNat) (fun a b hab => Char.toNat_inj.mp hab) |>.mp h
    exact String.toList_inj.mp this
  · rintro rfl; rfl

/-! ### the standing context -/
def defRecOf : Stmt → Option DefRec
  | .FunctionDef name a b _ _ _ sc _ _ pos => some ⟨name, a, b, sc, pos⟩
  | _ => none
def theDefs : List DefRec := PySem.Challenge.pw_xm0409_01.main.body.filterMap defRecOf

structure GC where
  prog : Program
  w : World
  B : Heap
  mg : Str → Option Value
  mb : Str → Option Value
  g : B.Ns mainGlobals mg
  b : B.Ns builtinsNs mb
  nolimit : B.NoLimit
  builtins : ∀ x : Str, x ≠ "__name__" → mb x = bootBuiltins x
  fn : ∀ d ∈ theDefs, ∃ a o pm code doc, mg d.name = some (.ref a) ∧ B.get? a = some o ∧ o.data = .func (docDef d.name d.params d.body d.scope pm code doc) ∧ B.CodeRec code d.name
  free : ∀ x ∈ (["len", "range", "sum", "abs", "int", "min", "enumerate"] : List Str), mg x = none

def GC.fa (G : GC) (x : Str) : Addr := match G.mg x with | some (.ref a) => a | _ => 0

theorem GC.fnAt (G : GC) {d : DefRec} (hd : d ∈ theDefs) : ∃ o pm code doc, G.mg d.name = some (.ref (G.fa d.name)) ∧ G.B.get? (G.fa d.name) = some o ∧ o.data = .func (docDef d.name d.params d.body d.scope pm code doc) ∧ G.B.CodeRec code d.name := by
  obtain ⟨a, o, pm, code, doc, h1, h2, h3, h4⟩ := G.fn d hd
  have : G.fa d.name = a := by unfold GC.fa; rw [h1]
  rw [this]
  exact ⟨o, pm, code, doc, h1, h2, h3, h4⟩

structure FC (G : GC) where
  A : Around
  env : Env
  lv : Nat
  hh : A.handled = none
  hk : env.scope.kind = .function
  hg : env.globals = mainGlobals
  hb : env.builtins = builtinsNs
  room : A.depth + lv < recursionLimit
  units : A.units + 20 * lv + 40 < cLine
  hL : G.B.get? env.locals = none

def HoldsVar (env : Env) (h : Heap) (x : Str) (v : Value) : Prop :=
  (env.kindOf x = some .local ∧ ∃ m, h.Ns env.locals m ∧ m x = some v) ∨
  ((env.kindOf x = some .cell ∨ (env.kindOf x = some .free ∧ (x == ("__classdict__" : Str)) = false)) ∧ ∃ c, env.cells.lookup x = some c ∧ h.IsCell c (some v))

structure StG (G : GC) (σ : AH) (h : Heap) : Prop where
  stay : ∀ b o, G.B.get? b = some o → h.get? b = some o
  rep : ∀ a o, σ a = some o → o.at G.B h a

structure St (G : GC) (C : FC G) (μ : Mu) (σ : AH) (h : Heap) : Prop extends StG G σ h where
  ns : ∃ m, h.Ns C.env.locals m
  vars : ∀ x u, lk μ x = some u → (x == ("__debug__" : Str)) = false ∧ ∃ v, u.is v ∧ HoldsVar C.env h x v

def Step (L : Option Addr) (σ : AH) (h : Heap) (σ' : AH) (h' : Heap) : Prop :=
  ∀ b o, some b ≠ L → σ b = none → h.get? b = some o → h'.get? b = some o ∧ σ' b = none

def Same (s s' : Shared) : Prop := ∃ h tk, s' = { s with heap := h, toks := tk }

theorem Same.refl (s : Shared) : Same s s := ⟨s.heap, s.toks, rfl⟩
theorem Same.trans {a b c : Shared} (x : Same a b) (y : Same b c) : Same a c := by
  obtain ⟨h, t, rfl⟩ := x
  obtain ⟨h', t', rfl⟩ := y
  exact ⟨h', t', rfl⟩
theorem Same.toks {s : Shared} {t : Nat} : Same s { s with toks := t } := ⟨s.heap, t, rfl⟩
theorem Same.heap {s : Shared} {h : Heap} : Same s { s with heap := h } := ⟨h, s.toks, rfl⟩
theorem Same.both {s : Shared} {h : Heap} {t : Nat} : Same s { s with heap := h, toks := t } := ⟨h, t, rfl⟩

theorem Step.refl {L : Option Addr} {σ : AH} {h : Heap} : Step L σ h σ h := fun _ _ _ n e => ⟨e, n⟩
theorem Step.trans {L : Option Addr} {σ₁ σ₂ σ₃ : AH} {h₁ h₂ h₃ : Heap} (x : Step L σ₁ h₁ σ₂ h₂) (y : Step L σ₂ h₂ σ₃ h₃) : Step L σ₁ h₁ σ₃ h₃ :=
  fun b o hb n e => let ⟨e', n'⟩ := x b o hb n e; y b o hb n' e'
theorem Step.weak {L : Option Addr} {σ₁ σ₂ : AH} {h₁ h₂ : Heap} (x : Step none σ₁ h₁ σ₂ h₂) : Step L σ₁ h₁ σ₂ h₂ :=
  fun b o _ n e => x b o (by intro h; cases h) n e

theorem StG.none_of {G : GC} {σ : AH} {h : Heap} (S : StG G σ h) {a : Addr} {o : Obj} (e : h.get? a = some o) (hd : ∀ vs n, o.data ≠ .seq vs n) : σ a = none := by
  cases q : σ a with
  | none => rfl
  | some ao =>
    have := S.rep a ao q
    cases ao with
    | lst m xs => obtain ⟨vs, n, d, sl, _, e', _⟩ := this; rw [e] at e'; cases e'; exact absurd rfl (hd _ _)
    | tup xs => obtain ⟨vs, n, d, sl, _, e'⟩ := this; rw [e] at e'; cases e'; exact absurd rfl (hd _ _)

theorem StG.ns_none {G : GC} {σ : AH} {h : Heap} (S : StG G σ h) {L : Addr} {m : Str → Option Value} (hn : h.Ns L m) : σ L = none := by
  obtain ⟨o, es, ep, ho, hd, _⟩ := hn
  exact S.none_of ho fun vs n q => by rw [hd] at q; cases q

theorem StG.fresh {G : GC} {σ : AH} {h : Heap} (S : StG G σ h) : σ h.objs.size = none := by
  cases q : σ h.objs.size with
  | none => rfl
  | some ao =>
    have := S.rep _ ao q
    cases ao with
    | lst m xs => obtain ⟨vs, n, d, sl, _, e', _⟩ := this; exact absurd (Heap.lt_size e') (Nat.lt_irrefl _)
    | tup xs => obtain ⟨vs, n, d, sl, _, e'⟩ := this; exact absurd (Heap.lt_size e') (Nat.lt_irrefl _)
theorem StG.lt {G : GC} {σ : AH} {h : Heap} (S : StG G σ h) {a : Addr} {ao : AO} (q : σ a = some ao) : a < h.objs.size := by
  have := S.rep _ ao q
  cases ao with
  | lst m xs => obtain ⟨vs, n, d, sl, _, e', _⟩ := this; exact Heap.lt_size e'
  | tup xs => obtain ⟨vs, n, d, sl, _, e'⟩ := this; exact Heap.lt_size e'
theorem StG.Bfresh {G : GC} {σ : AH} {h : Heap} (S : StG G σ h) : G.B.get? h.objs.size = none := by
  cases q : G.B.get? h.objs.size with
  | none => rfl
  | some o => exact absurd (Heap.lt_size (S.stay _ _ q)) (Nat.lt_irrefl _)

theorem AO.at.keep {B h h' : Heap} {a : Addr} {ao : AO} (x : ao.at B h a) (k : ∀ o, h.get? a = some o → h'.get? a = some o) : ao.at B h' a := by
  cases ao with
  | lst m xs => obtain ⟨vs, n, d, sl, r, e, q⟩ := x; exact ⟨vs, n, d, sl, r, k _ e, q⟩
  | tup xs => obtain ⟨vs, n, d, sl, r, e⟩ := x; exact ⟨vs, n, d, sl, r, k _ e⟩

theorem StG.ext {G : GC} {σ : AH} {h h' : Heap} (S : StG G σ h) (k : ∀ b o, h.get? b = some o → h'.get? b = some o) : StG G σ h' :=
  ⟨fun b o e => k b o (S.stay b o e), fun a o q => (S.rep a o q).keep fun _ e => k _ _ e⟩

/-- everything is kept but L, and L's map is the same -/
theorem StG.extBut {G : GC} {σ : AH} {h h' : Heap} {L : Addr} (S : StG G σ h) (hB : G.B.get? L = none) (hσ : σ L = none) (k : ∀ b o, b ≠ L → h.get? b = some o → h'.get? b = some o) : StG G σ h' :=
  ⟨fun b o e => k b o (by rintro rfl; rw [hB] at e; cases e) (S.stay b o e), fun a o q => (S.rep a o q).keep fun _ e => k _ _ (by rintro rfl; rw [hσ] at q; cases q) e⟩

theorem HoldsVar.ext {env : Env} {h h' : Heap} {x : Str} {v : Value} (H : HoldsVar env h x v) (k : ∀ b o, h.get? b = some o → h'.get? b = some o) : HoldsVar env h' x v := by
  rcases H with ⟨hk, m, hn, e⟩ | ⟨hk, c, hc, o, ho, hd⟩
  · exact .inl ⟨hk, m, hn.keeps k, e⟩
  · exact .inr ⟨hk, c, hc, o, k _ _ ho, hd⟩

theorem St.ext {G : GC} {C : FC G} {μ : Mu} {σ : AH} {h h' : Heap} (S : St G C μ σ h) (k : ∀ b o, h.get? b = some o → h'.get? b = some o) : St G C μ σ h' :=
  ⟨S.toStG.ext k, let ⟨m, hn⟩ := S.ns; ⟨m, hn.keeps k⟩, fun x u q => let ⟨hd, v, hv, H⟩ := S.vars x u q; ⟨hd, v, hv, H.ext k⟩⟩

theorem ns_unique {h : Heap} {L : Addr} {m m' : Str → Option Value} (x : h.Ns L m) (y : h.Ns L m') : m = m' := by
  obtain ⟨o, es, ep, ho, hd, _, hm⟩ := x
  obtain ⟨o', es', ep', ho', hd', _, hm'⟩ := y
  rw [ho] at ho'; cases ho'
  rw [hd] at hd'; cases hd'
  funext z; rw [← hm z, ← hm' z]

/-- all is kept but the frame's own names' object, whose map is the same -/
theorem St.extBut {G : GC} {C : FC G} {μ : Mu} {σ : AH} {h h' : Heap} {m : Str → Option Value} (S : St G C μ σ h) (hn : h.Ns C.env.locals m) (hn' : h'.Ns C.env.locals m)
    (k : ∀ b o, b ≠ C.env.locals → h.get? b = some o → h'.get? b = some o) : St G C μ σ h' := by
  refine ⟨S.toStG.extBut C.hL (S.toStG.ns_none hn) k, ⟨m, hn'⟩, fun x u q => ?_⟩
  obtain ⟨hd, v, hv, H⟩ := S.vars x u q
  refine ⟨hd, v, hv, ?_⟩
  rcases H with ⟨hk, m₁, hn₁, e⟩ | ⟨hk, c, hc, o, ho, hd⟩
  · exact .inl ⟨hk, m, hn', by rw [ns_unique hn hn₁]; exact e⟩
  · refine .inr ⟨hk, c, hc, o, k _ _ ?_ ho, hd⟩
    rintro rfl
    obtain ⟨oL, _, _, hoL, hdL, _⟩ := hn
    rw [ho] at hoL; cases hoL; rw [hd] at hdL; cases hdL

/-- the abstract heap gains an object at a new address -/
theorem St.push {G : GC} {C : FC G} {μ : Mu} {σ : AH} {h : Heap} {ob : Obj} {ao : AO} (S : St G C μ σ h) (ha : ao.at G.B (h.push ob) h.objs.size) :
    St G C μ (upd σ h.objs.size ao) (h.push ob) := by
  have S' := S.ext (h' := h.push ob) fun _ _ e => Heap.get?_push_of_some _ e
  refine ⟨⟨S'.stay, fun a o q => ?_⟩, S'.ns, S'.vars⟩
  unfold upd at q
  split at q
  · next e => cases q; rw [e]; exact ha
  · exact S'.rep a o q
theorem step_push {L : Option Addr} {σ : AH} {h : Heap} {ob : Obj} {ao : AO} : Step L σ h (upd σ h.objs.size ao) (h.push ob) := by
  intro b o _ n e
  refine ⟨Heap.get?_push_of_some _ e, ?_⟩
  unfold upd
  rw [if_neg (Nat.ne_of_lt (Heap.lt_size e)), n]

/-! ### the judgements -/
section
variable (G : GC) (C : FC G)

def VP {α β : Type} (is : β → α → Prop) (μ : Mu) (σ : AH) (s : Shared) (Q : β → AH → Prop) : α → Shared → Prop := fun v s' =>
  ∃ u σ', is u v ∧ Q u σ' ∧ St G C μ σ' s'.heap ∧ Step (some C.env.locals) σ s.heap σ' s'.heap ∧ Same s s'

def EV (e : Expr) (μ : Mu) (σ : AH) (Q : AV → AH → Prop) : Prop :=
  ∀ s, St G C μ σ s.heap → wpAny (model G.prog G.w) C.A (eval e C.env) (VP G C AV.is μ σ s Q) (fun _ _ => False) s

def EVs (es : List Expr) (μ : Mu) (σ : AH) (Q : List AV → AH → Prop) : Prop :=
  ∀ pos s, St G C μ σ s.heap → wpAny (model G.prog G.w) C.A (spliced (backTo pos (starEach es C.env))) (VP G C Are μ σ s Q) (fun _ _ => False) s

def ET (e : Expr) (μ : Mu) (σ : AH) (Q : Bool → AH → Prop) : Prop :=
  ∀ s, St G C μ σ s.heap → wpAny (model G.prog G.w) C.A (isTrue e C.env (eval e C.env)) (VP G C Eq μ σ s Q) (fun _ _ => False) s

/-- a plain step of the machine that gives a value -/
def OP (t : Sem Value) (μ : Mu) (σ : AH) (Q : AV → AH → Prop) : Prop :=
  ∀ s, St G C μ σ s.heap → wpAny (model G.prog G.w) C.A t (VP G C AV.is μ σ s Q) (fun _ _ => False) s
end

section
variable {G : GC} {C : FC G} {μ : Mu} {σ : AH}

theorem VP.bind {α β : Type} {is : β → α → Prop} {s : Shared} {Q : β → AH → Prop} {t : Sem α} {k : α → Shared → Prop}
    (h : wpAny (model G.prog G.w) C.A t (VP G C is μ σ s Q) (fun _ _ => False) s)
    (hk : ∀ u v σ' s', is u v → Q u σ' → St G C μ σ' s'.heap → Step (some C.env.locals) σ s.heap σ' s'.heap → Same s s' → k v s') :
    wpAny (model G.prog G.w) C.A t k (fun _ _ => False) s :=
  wpAny_mono h (fun v s' ⟨u, σ', h1, h2, h3, h4, h5⟩ => hk u v σ' s' h1 h2 h3 h4 h5) fun _ _ e => e

theorem VP.after {α β : Type} {is : β → α → Prop} {s s' : Shared} {σ' : AH} {Q : β → AH → Prop} {v : α} (hs : Step (some C.env.locals) σ s.heap σ' s'.heap) (hm : Same s s')
    (h : VP G C is μ σ' s' Q v s'') : VP G C is μ σ s Q v s'' :=
  let ⟨u, σ'', h1, h2, h3, h4, h5⟩ := h; ⟨u, σ'', h1, h2, h3, hs.trans h4, hm.trans h5⟩

theorem wp_after {α β : Type} {is : β → α → Prop} {s s' : Shared} {σ' : AH} {Q : β → AH → Prop} {t : Sem α} (hs : Step (some C.env.locals) σ s.heap σ' s'.heap) (hm : Same s s')
    (h : wpAny (model G.prog G.w) C.A t (VP G C is μ σ' s' Q) (fun _ _ => False) s') : wpAny (model G.prog G.w) C.A t (VP G C is μ σ s Q) (fun _ _ => False) s' :=
  wpAny_mono h (fun _ _ q => VP.after hs hm q) fun _ _ e => e

theorem EV.mono {e : Expr} {Q Q' : AV → AH → Prop} (h : EV G C e μ σ Q) (hQ : ∀ u σ', Q u σ' → Q' u σ') : EV G C e μ σ Q' := fun s S =>
  wpAny_mono (h s S) (fun _ _ ⟨u, σ', h1, h2, r⟩ => ⟨u, σ', h1, hQ _ _ h2, r⟩) fun _ _ e => e
theorem ET.mono {e : Expr} {Q Q' : Bool → AH → Prop} (h : ET G C e μ σ Q) (hQ : ∀ u σ', Q u σ' → Q' u σ') : ET G C e μ σ Q' := fun s S =>
  wpAny_mono (h s S) (fun _ _ ⟨u, σ', h1, h2, r⟩ => ⟨u, σ', h1, hQ _ _ h2, r⟩) fun _ _ e => e

/-- from a state with more tokens alone -/
theorem vp_toks {α β : Type} {is : β → α → Prop} {s : Shared} {Q : β → AH → Prop} {v : α} (u : β) {t : Nat} (S : St G C μ σ s.heap) (hi : is u v) (hq : Q u σ) :
    VP G C is μ σ s Q v { s with toks := t } := ⟨u, σ, hi, hq, S, Step.refl, Same.toks⟩
theorem vp_same {α β : Type} {is : β → α → Prop} {s : Shared} {Q : β → AH → Prop} {v : α} (u : β) (S : St G C μ σ s.heap) (hi : is u v) (hq : Q u σ) :
    VP G C is μ σ s Q v s := ⟨u, σ, hi, hq, S, Step.refl, Same.refl s⟩

/-! ### names and constants -/
theorem EV_name {x : Str} {pos : Pos} {u : AV} {Q : AV → AH → Prop} (hx : lk μ x = some u) (hq : Q u σ) : EV G C (.Name x pos) μ σ Q := by
  intro s S
  obtain ⟨hd, v, hv, H⟩ := S.vars x u hx
  refine wpAny_Name ?_ hd
  rcases H with ⟨hk, m, hn, e⟩ | ⟨hk | ⟨hk, hcd⟩, c, hc, o, ho, hd⟩
  · exact wpAny_loadName_local C.hk hk hn e (vp_same u S hv hq)
  · exact wpAny_loadName_cell C.hk hk hc ⟨o, ho, hd⟩ (vp_same u S hv hq)
  · exact wpAny_loadName_free C.hk hk hc ⟨o, ho, hd⟩ (vp_same u S hv hq) hcd

theorem loadName_var {x : Str} {u : AV} {Q : AV → AH → Prop} (hx : lk μ x = some u) (hq : Q u σ) : OP G C (loadName C.env x) μ σ Q := by
  intro s S
  obtain ⟨hd, v, hv, H⟩ := S.vars x u hx
  rcases H with ⟨hk, m, hn, e⟩ | ⟨hk | ⟨hk, hcd⟩, c, hc, o, ho, hd⟩
  · exact wpAny_loadName_local C.hk hk hn e (vp_same u S hv hq)
  · exact wpAny_loadName_cell C.hk hk hc ⟨o, ho, hd⟩ (vp_same u S hv hq)
  · exact wpAny_loadName_free C.hk hk hc ⟨o, ho, hd⟩ (vp_same u S hv hq) hcd

theorem EV_def {d : DefRec} {pos : Pos} {Q : AV → AH → Prop} (hd : d ∈ theDefs) (hk : C.env.kindOf d.name = some .globalImplicit) (hdb : (d.name == ("__debug__" : Str)) = false)
    (hq : Q (.ref (G.fa d.name)) σ) : EV G C (.Name d.name pos) μ σ Q := by
  intro s S
  obtain ⟨o, pm, code, doc, h1, h2, h3, h4⟩ := G.fnAt hd
  exact Name_function_global C.hk hk (loadGlobal_global (by rw [C.hg]; exact G.g.keeps S.stay) h1 (vp_same _ S (is_ref _) hq)) hdb

theorem EV_int {i : Int} {k : Nat} {pos : Pos} {Q : AV → AH → Prop} (hq : Q (.int i) σ) : EV G C (.Constant (.int i) k pos) μ σ Q :=
  fun s S => wpAny_Constant_int (vp_toks _ S (is_int _ _) hq)
theorem EV_bool {b : Bool} {k : Nat} {pos : Pos} {Q : AV → AH → Prop} (hq : Q (.bool b) σ) : EV G C (.Constant (.bool b) k pos) μ σ Q :=
  fun s S => wpAny_Constant_bool (vp_same _ S (is_bool _) hq)
theorem EV_none {k : Nat} {pos : Pos} {Q : AV → AH → Prop} (hq : Q .none σ) : EV G C (.Constant .none k pos) μ σ Q :=
  fun s S => wpAny_Constant_none (vp_same _ S is_none' hq)

/-! ### operators -/
def BOP (G : GC) (C : FC G) (op : Operator) (a b : AV) (μ : Mu) (σ : AH) (Q : AV → AH → Prop) : Prop :=
  ∀ va vb, a.is va → b.is vb → OP G C (binaryOp op va vb) μ σ Q
def AOP (G : GC) (C : FC G) (op : Operator) (a b : AV) (μ : Mu) (σ : AH) (Q : AV → AH → Prop) : Prop :=
  ∀ va vb, a.is va → b.is vb → OP G C (inplaceOp op va vb) μ σ Q
def COP (G : GC) (C : FC G) (op : CmpOp) (a b : AV) (μ : Mu) (σ : AH) (Q : AV → AH → Prop) : Prop :=
  ∀ va vb, a.is va → b.is vb → OP G C (compareOp op va vb) μ σ Q

theorem EV_bin {l r : Expr} {op : Operator} {pos : Pos} {Q : AV → AH → Prop}
    (h : EV G C l μ σ fun a σ₁ => EV G C r μ σ₁ fun b σ₂ => BOP G C op a b μ σ₂ Q) : EV G C (.BinOp l op r pos) μ σ Q := fun s S =>
  wpAny_BinOp (VP.bind (h s S) fun a va σ₁ s₁ ha h₁ S₁ k₁ m₁ => VP.bind (h₁ s₁ S₁) fun b vb σ₂ s₂ hb h₂ S₂ k₂ m₂ =>
    wp_after (k₁.trans k₂) (m₁.trans m₂) (h₂ va vb ha hb s₂ S₂))

theorem EV_cmp {l r : Expr} {op : CmpOp} {pos : Pos} {Q : AV → AH → Prop}
    (h : EV G C l μ σ fun a σ₁ => EV G C r μ σ₁ fun b σ₂ => COP G C op a b μ σ₂ Q) (hm : behindInMarks op r = false := by with_unfolding_all rfl) : EV G C (.Compare l [op] [r] pos) μ σ Q := fun s S =>
  wpAny_Compare1 (VP.bind (h s S) fun a va σ₁ s₁ ha h₁ S₁ k₁ m₁ => VP.bind (h₁ s₁ S₁) fun b vb σ₂ s₂ hb h₂ S₂ k₂ m₂ =>
    wp_after (k₁.trans k₂) (m₁.trans m₂) (h₂ va vb ha hb s₂ S₂)) hm

theorem BOP_add {i j : Int} {Q : AV → AH → Prop} (hq : Q (.int (i + j)) σ) : BOP G C .Add (.int i) (.int j) μ σ Q := by
  rintro _ _ ⟨t, rfl⟩ ⟨u, rfl⟩ s S; exact add_int (vp_toks _ S (is_int _ _) hq)
theorem BOP_sub {i j : Int} {Q : AV → AH → Prop} (hq : Q (.int (i - j)) σ) : BOP G C .Sub (.int i) (.int j) μ σ Q := by
  rintro _ _ ⟨t, rfl⟩ ⟨u, rfl⟩ s S; exact sub_int (vp_toks _ S (is_int _ _) hq)
theorem BOP_mul {i j : Int} {Q : AV → AH → Prop} (hb : IntMulOk i j) (hq : Q (.int (i * j)) σ) : BOP G C .Mult (.int i) (.int j) μ σ Q := by
  rintro _ _ ⟨t, rfl⟩ ⟨u, rfl⟩ s S; exact mul_int (vp_toks _ S (is_int _ _) hq) hb
theorem BOP_fdiv {i j : Int} {Q : AV → AH → Prop} (hj : j ≠ 0) (hp : Builtin.divisionGoesByPylong i j = false) (hq : Q (.int (i.fdiv j)) σ) : BOP G C .FloorDiv (.int i) (.int j) μ σ Q := by
  rintro _ _ ⟨t, rfl⟩ ⟨u, rfl⟩ s S; exact floordiv_int hj (vp_toks _ S (is_int _ _) hq) (.inl hp)
theorem BOP_fmod {i j : Int} {Q : AV → AH → Prop} (hj : j ≠ 0) (hq : Q (.int (i.fmod j)) σ) : BOP G C .Mod (.int i) (.int j) μ σ Q := by
  rintro _ _ ⟨t, rfl⟩ ⟨u, rfl⟩ s S; exact mod_int' hj (vp_toks _ S (is_int _ _) hq)
theorem BOP_shl {i j : Int} {Q : AV → AH → Prop} (h0 : 0 ≤ j) (h1 : j ≤ 1000000) (h2 : i.natAbs < 2 ^ 64) (hq : Q (.int (i * 2 ^ j.toNat)) σ) : BOP G C .LShift (.int i) (.int j) μ σ Q := by
  rintro _ _ ⟨t, rfl⟩ ⟨u, rfl⟩ s S; exact lshift_int_small h0 h1 h2 (vp_toks _ S (is_int _ _) hq)
theorem BOP_shr {i j : Int} {Q : AV → AH → Prop} (h0 : 0 ≤ j) (hq : Q (.int (i.fdiv (2 ^ j.toNat))) σ) : BOP G C .RShift (.int i) (.int j) μ σ Q := by
  rintro _ _ ⟨t, rfl⟩ ⟨u, rfl⟩ s S; exact rshift_int h0 (vp_toks _ S (is_int _ _) hq)
theorem BOP_and {i j : Int} {Q : AV → AH → Prop} (hq : Q (.int (Builtin.bitAnd i j)) σ) : BOP G C .BitAnd (.int i) (.int j) μ σ Q := by
  rintro _ _ ⟨t, rfl⟩ ⟨u, rfl⟩ s S; exact and_int (vp_toks _ S (is_int _ _) hq)
theorem BOP_or {i j : Int} {Q : AV → AH → Prop} (hq : Q (.int (Builtin.bitOr i j)) σ) : BOP G C .BitOr (.int i) (.int j) μ σ Q := by
  rintro _ _ ⟨t, rfl⟩ ⟨u, rfl⟩ s S; exact or_int (vp_toks _ S (is_int _ _) hq)
theorem BOP_pow {i j : Int} {Q : AV → AH → Prop} (h0 : 0 ≤ j) (h1 : (Builtin.Int.intBits i : Int) * j ≤ 2 ^ 27) (hq : Q (.int (i ^ j.toNat)) σ) : BOP G C .Pow (.int i) (.int j) μ σ Q := by
  rintro _ _ ⟨t, rfl⟩ ⟨u, rfl⟩ s S; exact pow_int h0 h1 (vp_toks _ S (is_int _ _) hq)

theorem COP_eq {i j : Int} {Q : AV → AH → Prop} (hq : Q (.bool (i == j)) σ) : COP G C .Eq (.int i) (.int j) μ σ Q := by
  rintro _ _ ⟨t, rfl⟩ ⟨u, rfl⟩ s S; exact eq_int (vp_same _ S (is_bool _) hq)
theorem COP_ne {i j : Int} {Q : AV → AH → Prop} (hq : Q (.bool (i != j)) σ) : COP G C .NotEq (.int i) (.int j) μ σ Q := by
  rintro _ _ ⟨t, rfl⟩ ⟨u, rfl⟩ s S; exact ne_int (vp_same _ S (is_bool _) hq)
theorem COP_lt {i j : Int} {Q : AV → AH → Prop} (hq : Q (.bool (decide (i < j))) σ) : COP G C .Lt (.int i) (.int j) μ σ Q := by
  rintro _ _ ⟨t, rfl⟩ ⟨u, rfl⟩ s S; exact lt_int (vp_same _ S (is_bool _) hq)
theorem COP_le {i j : Int} {Q : AV → AH → Prop} (hq : Q (.bool (decide (i ≤ j))) σ) : COP G C .LtE (.int i) (.int j) μ σ Q := by
  rintro _ _ ⟨t, rfl⟩ ⟨u, rfl⟩ s S; exact le_int (vp_same _ S (is_bool _) hq)
theorem COP_gt {i j : Int} {Q : AV → AH → Prop} (hq : Q (.bool (decide (j < i))) σ) : COP G C .Gt (.int i) (.int j) μ σ Q := by
  rintro _ _ ⟨t, rfl⟩ ⟨u, rfl⟩ s S; exact gt_int (vp_same _ S (is_bool _) hq)
theorem COP_ge {i j : Int} {Q : AV → AH → Prop} (hq : Q (.bool (decide (j ≤ i))) σ) : COP G C .GtE (.int i) (.int j) μ σ Q := by
  rintro _ _ ⟨t, rfl⟩ ⟨u, rfl⟩ s S; exact ge_int (vp_same _ S (is_bool _) hq)
theorem COP_eqb {i j : Bool} {Q : AV → AH → Prop} (hq : Q (.bool (i == j)) σ) : COP G C .Eq (.bool i) (.bool j) μ σ Q := by
  rintro _ _ rfl rfl s S; exact eq_bool (vp_same _ S (is_bool _) hq)
theorem COP_neb {i j : Bool} {Q : AV → AH → Prop} (hq : Q (.bool (i != j)) σ) : COP G C .NotEq (.bool i) (.bool j) μ σ Q := by
  rintro _ _ rfl rfl s S; exact ne_bool (vp_same _ S (is_bool _) hq)
theorem COP_is_none {a : AV} {Q : AV → AH → Prop} (hq : Q (.bool a.isNone) σ) : COP G C .Is a .none μ σ Q := by
  rintro va _ ha rfl s S
  refine is_none (vp_same (.bool a.isNone) S ?_ hq)
  cases a with
  | none => cases ha; rfl
  | bool b => cases ha; rfl
  | int i => obtain ⟨t, rfl⟩ := ha; rfl
  | ref a => cases ha; rfl
theorem COP_isnot_none {a : AV} {Q : AV → AH → Prop} (hq : Q (.bool (!a.isNone)) σ) : COP G C .IsNot a .none μ σ Q := by
  rintro va _ ha rfl s S
  refine isNot_none (vp_same (.bool (!a.isNone)) S ?_ hq)
  cases a with
  | none => cases ha; rfl
  | bool b => cases ha; rfl
  | int i => obtain ⟨t, rfl⟩ := ha; rfl
  | ref a => cases ha; rfl
end
section
variable {G : GC} {C : FC G} {μ : Mu} {σ : AH}

/-! ### truth -/
theorem truthy_is_bool {b : Bool} {v : Value} {s : Shared} {K : Bool → Shared → Prop} {M : Model} {A : Around} {E : Value → Shared → Prop} (hv : AV.is (.bool b) v) (h : K b s) : wpAny M A (truthy v) K E s := by
  cases hv; exact wpAny_truthy_bool h

/-- what the truth of a bool is -/
def asBool (u : AV) (K : Bool → Prop) : Prop := ∃ b, u = .bool b ∧ K b

theorem ET_val {e : Expr} {Q : Bool → AH → Prop} (h : EV G C e μ σ fun u σ₁ => asBool u fun b => Q b σ₁)
    (hs : isTrue e C.env (eval e C.env) = (do let v ← eval e C.env; standAt e.pos; holding [v] (truthy v)) := by with_unfolding_all rfl) : ET G C e μ σ Q := fun s S =>
  wpAny_isTrue_value (VP.bind (h s S) fun u v σ₁ s₁ hu ⟨b, e, hq⟩ S₁ k₁ m₁ => by
    subst e; exact truthy_is_bool hu ⟨b, σ₁, rfl, hq, S₁, k₁, m₁⟩) hs

theorem ET_cmp {l r : Expr} {op : CmpOp} {pos : Pos} {Q : Bool → AH → Prop}
    (h : EV G C l μ σ fun a σ₁ => EV G C r μ σ₁ fun b σ₂ => COP G C op a b μ σ₂ fun u σ₃ => asBool u fun b => Q b σ₃) (hm : behindInMarks op r = false := by with_unfolding_all rfl) :
    ET G C (.Compare l [op] [r] pos) μ σ Q := fun s S =>
  wpAny_isTrue_Compare1 (VP.bind (h s S) fun a va σ₁ s₁ ha h₁ S₁ k₁ m₁ => VP.bind (h₁ s₁ S₁) fun b vb σ₂ s₂ hb h₂ S₂ k₂ m₂ =>
    VP.bind (h₂ va vb ha hb s₂ S₂) fun u v σ₃ s₃ hu ⟨c, e, hq⟩ S₃ k₃ m₃ => by
      subst e; exact truthy_is_bool hu ⟨c, σ₃, rfl, hq, S₃, (k₁.trans k₂).trans k₃, (m₁.trans m₂).trans m₃⟩) hm

theorem ET_not {x : Expr} {pos : Pos} {Q : Bool → AH → Prop} (h : ET G C x μ σ fun b σ₁ => Q (!b) σ₁) : ET G C (.UnaryOp .Not x pos) μ σ Q := fun s S =>
  wpAny_isTrue_Not (VP.bind (h s S) fun u v σ₁ s₁ hu hq S₁ k₁ m₁ => by subst hu; exact ⟨_, σ₁, rfl, hq, S₁, k₁, m₁⟩)

theorem ET_and2 {x y : Expr} {pos : Pos} {Q : Bool → AH → Prop} (h : ET G C x μ σ fun b σ₁ => if b = true then ET G C y μ σ₁ Q else Q false σ₁) : ET G C (.BoolOp .And [x, y] pos) μ σ Q := fun s S =>
  wpAny_isTrue_BoolOp (wpAny_allTrue_And_cons (VP.bind (h s S) fun u v σ₁ s₁ hu hq S₁ k₁ m₁ => by
    subst hu
    cases u with
    | true =>
      simp only [if_true] at hq ⊢
      refine wpAny_allTrue_And_cons (VP.bind (hq s₁ S₁) fun u v σ₂ s₂ hu hq S₂ k₂ m₂ => ?_)
      subst hu
      cases u with
      | true => exact wpAny_allTrue_And_nil ⟨_, σ₂, rfl, hq, S₂, k₁.trans k₂, m₁.trans m₂⟩
      | false => exact ⟨_, σ₂, rfl, hq, S₂, k₁.trans k₂, m₁.trans m₂⟩
    | false => simp only [Bool.false_eq_true, if_false] at hq ⊢; exact ⟨_, σ₁, rfl, hq, S₁, k₁, m₁⟩))

theorem ET_or2 {x y : Expr} {pos : Pos} {Q : Bool → AH → Prop} (h : ET G C x μ σ fun b σ₁ => if b = true then Q true σ₁ else ET G C y μ σ₁ Q) : ET G C (.BoolOp .Or [x, y] pos) μ σ Q := fun s S =>
  wpAny_isTrue_BoolOp (wpAny_allTrue_Or_cons (VP.bind (h s S) fun u v σ₁ s₁ hu hq S₁ k₁ m₁ => by
    subst hu
    cases u with
    | false =>
      simp only [Bool.false_eq_true, if_false] at hq ⊢
      refine wpAny_allTrue_Or_cons (VP.bind (hq s₁ S₁) fun u v σ₂ s₂ hu hq S₂ k₂ m₂ => ?_)
      subst hu
      cases u with
      | false => exact wpAny_allTrue_Or_nil ⟨_, σ₂, rfl, hq, S₂, k₁.trans k₂, m₁.trans m₂⟩
      | true => exact ⟨_, σ₂, rfl, hq, S₂, k₁.trans k₂, m₁.trans m₂⟩
    | true => simp only [if_true] at hq ⊢; exact ⟨_, σ₁, rfl, hq, S₁, k₁, m₁⟩))

theorem EV_and2 {x y : Expr} {pos : Pos} {Q : AV → AH → Prop} (h : EV G C x μ σ fun u σ₁ => asBool u fun b => if b = true then EV G C y μ σ₁ Q else Q (.bool false) σ₁) : EV G C (.BoolOp .And [x, y] pos) μ σ Q := fun s S =>
  wpAny_And2 (VP.bind (h s S) fun u v σ₁ s₁ hu ⟨b, e, hq⟩ S₁ k₁ m₁ => by
    subst e
    refine truthy_is_bool hu ?_
    cases b with
    | true => simp only [if_true] at hq ⊢; exact wp_after k₁ m₁ (hq s₁ S₁)
    | false => simp only [Bool.false_eq_true, if_false] at hq ⊢; exact ⟨_, σ₁, hu, hq, S₁, k₁, m₁⟩)
theorem EV_or2 {x y : Expr} {pos : Pos} {Q : AV → AH → Prop} (h : EV G C x μ σ fun u σ₁ => asBool u fun b => if b = true then Q (.bool true) σ₁ else EV G C y μ σ₁ Q) : EV G C (.BoolOp .Or [x, y] pos) μ σ Q := fun s S =>
  wpAny_Or2 (VP.bind (h s S) fun u v σ₁ s₁ hu ⟨b, e, hq⟩ S₁ k₁ m₁ => by
    subst e
    refine truthy_is_bool hu ?_
    cases b with
    | false => simp only [Bool.false_eq_true, if_false] at hq ⊢; exact wp_after k₁ m₁ (hq s₁ S₁)
    | true => simp only [if_true] at hq ⊢; exact ⟨_, σ₁, hu, hq, S₁, k₁, m₁⟩)

theorem EV_ife {t b o : Expr} {pos : Pos} {Q : AV → AH → Prop} (h : ET G C t μ σ fun c σ₁ => if c = true then EV G C b μ σ₁ Q else EV G C o μ σ₁ Q) : EV G C (.IfExp t b o pos) μ σ Q := fun s S =>
  wpAny_IfExp (VP.bind (h s S) fun u v σ₁ s₁ hu hq S₁ k₁ m₁ => by
    subst hu
    cases u with
    | false => simp only [Bool.false_eq_true, if_false] at hq ⊢; exact wp_after k₁ m₁ (hq s₁ S₁)
    | true => simp only [if_true] at hq ⊢; exact wp_after k₁ m₁ (hq s₁ S₁))

theorem EV_not {x : Expr} {pos : Pos} {Q : AV → AH → Prop} (h : EV G C x μ σ fun u σ₁ => asBool u fun b => Q (.bool (!b)) σ₁) : EV G C (.UnaryOp .Not x pos) μ σ Q := fun s S =>
  wpAny_UnaryOp (VP.bind (h s S) fun u v σ₁ s₁ hu ⟨b, e, hq⟩ S₁ k₁ m₁ => by
    subst e
    exact not_value (truthy_is_bool hu ⟨_, σ₁, is_bool _, hq, S₁, k₁, m₁⟩))
theorem EV_neg {x : Expr} {pos : Pos} {Q : AV → AH → Prop} (h : EV G C x μ σ fun u σ₁ => ∃ i, u = .int i ∧ Q (.int (-i)) σ₁) : EV G C (.UnaryOp .USub x pos) μ σ Q := fun s S =>
  wpAny_UnaryOp (VP.bind (h s S) fun u v σ₁ s₁ hu ⟨b, e, hq⟩ S₁ k₁ m₁ => by
    subst e
    obtain ⟨t, rfl⟩ := hu
    exact neg_int ⟨_, σ₁, is_int _ _, hq, S₁, k₁, m₁.trans Same.toks⟩)

/-! ### many -/
theorem EVs_nil {Q : List AV → AH → Prop} (h : Q [] σ) : EVs G C [] μ σ Q := fun pos s S => wpAny_items_nil ⟨[], σ, trivial, h, S, Step.refl, Same.refl s⟩
theorem EVs_cons {e : Expr} {es : List Expr} {Q : List AV → AH → Prop} (h : EV G C e μ σ fun u σ₁ => EVs G C es μ σ₁ fun us σ₂ => Q (u :: us) σ₂)
    (he : starEach (e :: es) C.env = (false, eval e C.env) :: starEach es C.env := by with_unfolding_all rfl) : EVs G C (e :: es) μ σ Q := fun pos s S =>
  args_cons (VP.bind (h s S) fun u v σ₁ s₁ hu h₁ S₁ k₁ m₁ => VP.bind (h₁ pos s₁ S₁) fun us vs σ₂ s₂ hus hq S₂ k₂ m₂ =>
    ⟨u :: us, σ₂, ⟨hu, hus⟩, hq, S₂, k₁.trans k₂, m₁.trans m₂⟩) he

theorem at_new_list {B : Heap} {us : List AV} {vs : List Value} {n : Nat} {h : Heap} (hv : Are us vs) (hB : B.get? h.objs.size = none) :
    (AO.lst true us).at B (h.push { cls := .type "list", data := .seq vs.toArray n }) h.objs.size :=
  ⟨vs, n, none, #[], hv, Heap.get?_push_size _ rfl, fun _ => ⟨rfl, rfl, hB⟩⟩
theorem at_new_tup {B : Heap} {us : List AV} {vs : List Value} {n : Nat} {h : Heap} (hv : Are us vs) :
    (AO.tup us).at B (h.push { cls := .type "tuple", data := .seq vs.toArray n }) h.objs.size :=
  ⟨vs, n, none, #[], hv, Heap.get?_push_size _ rfl⟩

/-- a new object at the heap's end -/
theorem vp_push {s : Shared} {Q : AV → AH → Prop} {ob : Obj} {ao : AO} {t : Nat} (S : St G C μ σ s.heap) (ha : ao.at G.B (s.heap.push ob) s.heap.objs.size)
    (hq : ∀ r, σ r = none → Q (.ref r) (upd σ r ao)) : VP G C AV.is μ σ s Q (.ref s.heap.objs.size) { s with heap := s.heap.push ob, toks := t } :=
  ⟨.ref s.heap.objs.size, _, is_ref _, hq _ S.toStG.fresh, S.push ha, step_push, Same.both⟩

theorem EV_tup {es : List Expr} {k : Nat} {pos : Pos} {Q : AV → AH → Prop}
    (h : EVs G C es μ σ fun us σ₁ => us.length ≤ 1000000 ∧ ∀ r, σ₁ r = none → Q (.ref r) (upd σ₁ r (.tup us))) : EV G C (.Tuple es k pos) μ σ Q := fun s S =>
  wpAny_Tuple (VP.bind (h pos s S) fun us vs σ₁ s₁ hus ⟨hn, hq⟩ S₁ k₁ m₁ => by
    refine ⟨?_, VP.after k₁ m₁ (vp_push S₁ (at_new_tup hus) hq)⟩
    rw [← hus.length, sizeLine_eq]; omega)
theorem EV_list {es : List Expr} {pos : Pos} {Q : AV → AH → Prop}
    (h : EVs G C es μ σ fun us σ₁ => us.length ≤ 1000000 ∧ ∀ r, σ₁ r = none → Q (.ref r) (upd σ₁ r (.lst true us))) : EV G C (.List es pos) μ σ Q := fun s S =>
  wpAny_List (VP.bind (h pos s S) fun us vs σ₁ s₁ hus ⟨hn, hq⟩ S₁ k₁ m₁ => by
    refine ⟨?_, VP.after k₁ m₁ (vp_push S₁ (at_new_list hus S₁.toStG.Bfresh) hq)⟩
    rw [← hus.length, sizeLine_eq]; omega)

/-! ### items -/
def AO.item : AO → Int → Option AV
  | .lst _ xs, k => if k < 0 then (if k + xs.length < 0 then none else xs[(k + xs.length).toNat]?) else xs[k.toNat]?
  | .tup xs, k => if k < 0 then none else xs[k.toNat]?

theorem at_isList {B h : Heap} {a : Addr} {m : Bool} {xs : List AV} (x : (AO.lst m xs).at B h a) : ∃ vs, Are xs vs ∧ h.IsList a vs.toArray :=
  let ⟨vs, n, d, sl, r, e, _⟩ := x; ⟨vs, r, _, e, rfl, n, rfl⟩
theorem at_isTup {B h : Heap} {a : Addr} {xs : List AV} (x : (AO.tup xs).at B h a) : ∃ vs, Are xs vs ∧ IsTup h a vs.toArray :=
  let ⟨vs, n, d, sl, r, e⟩ := x; ⟨vs, r, _, e, rfl, n, rfl⟩

theorem EV_idx {value slice : Expr} {pos : Pos} {Q : AV → AH → Prop}
    (h : EV G C value μ σ fun o σ₁ => EV G C slice μ σ₁ fun i σ₂ => ∃ a k ao u, o = .ref a ∧ i = .int k ∧ -(2 ^ 62) ≤ k ∧ k < 2 ^ 62 ∧ σ₂ a = some ao ∧ ao.item k = some u ∧ Q u σ₂)
    (hs : ∀ l k u, subscripted slice false (.ref l) (.int k u) = operate [.ref l, .int k u] (getItem (.ref l) (.int k u)) := by intro _ _ _; with_unfolding_all rfl) :
    EV G C (.Subscript value slice pos) μ σ Q := fun s S =>
  Subscript_ (VP.bind (h s S) fun o vo σ₁ s₁ ho h₁ S₁ k₁ m₁ => VP.bind (h₁ s₁ S₁) fun i vi σ₂ s₂ hi ⟨a, k, ao, u, eo, ei, kl, kh, hao, hit, hq⟩ S₂ k₂ m₂ => by
    subst eo ei
    cases ho
    obtain ⟨t, rfl⟩ := hi
    have hat := S₂.rep a ao hao
    cases ao with
    | lst m xs =>
      obtain ⟨vs, hr, hl⟩ := at_isList hat
      simp only [AO.item] at hit
      split at hit
      · next hneg =>
        split at hit
        · cases hit
        · next hge =>
          obtain ⟨v, hv, hu⟩ := hr.get hit
          rw [hr.length] at hv hge
          refine subscriptTail_builtinR (x := v) hl.typeIs slot_list_getitem.lookup (wpAny_getItem_list_neg (x := v) hl hneg ?_ (by omega) ?_ ⟨rfl, u, σ₂, hu, hq, S₂, k₁.trans k₂, m₁.trans m₂⟩) (hs _ _ _)
          · simp only [List.size_toArray]; omega
          · simpa using hv
      · next hpos =>
        obtain ⟨v, hv, hu⟩ := hr.get hit
        exact item_listR (x := v) hl (by omega) (by omega) (by simpa using hv) ⟨u, σ₂, hu, hq, S₂, k₁.trans k₂, m₁.trans m₂⟩ (hs _ _ _)
    | tup xs =>
      obtain ⟨vs, hr, hl⟩ := at_isTup hat
      simp only [AO.item] at hit
      split at hit
      · cases hit
      · next hpos =>
        obtain ⟨v, hv, hu⟩ := hr.get hit
        have hlt : k.toNat < vs.length := (List.getElem?_eq_some_iff.mp hv).1
        refine subscriptTail_builtinR (x := v) hl.typeIs slot_tuple_getitem.lookup (getItem_tuple (x := v) (j := k.toNat) hl (by omega) (by omega) ?_ (by simpa using hv) ⟨rfl, u, σ₂, hu, hq, S₂, k₁.trans k₂, m₁.trans m₂⟩) (hs _ _ _)
        have h0 : ¬ k < 0 := hpos
        have h1 : k < (vs.length : Int) := by omega
        simp [seqIndex?, h0, h1])

/-! ### slices -/
def EVo (G : GC) (C : FC G) (e : Option Expr) (μ : Mu) (σ : AH) (Q : Option Int → AH → Prop) : Prop :=
  ∀ s, St G C μ σ s.heap → wpAny (model G.prog G.w) C.A (evalPart e C.env) (VP G C (fun o v => IsPart v o) μ σ s Q) (fun _ _ => False) s
theorem EVo_none {Q : Option Int → AH → Prop} (h : Q none σ) : EVo G C none μ σ Q := fun s S => wpAny_pure ⟨none, σ, .none, h, S, Step.refl, Same.refl s⟩
theorem EVo_some {e : Expr} {Q : Option Int → AH → Prop} (h : EV G C e μ σ fun u σ₁ => ∃ i, u = .int i ∧ Q (some i) σ₁) : EVo G C (some e) μ σ Q := fun s S =>
  VP.bind (h s S) fun u v σ₁ s₁ hu ⟨i, e, hq⟩ S₁ k₁ m₁ => by
    subst e; obtain ⟨t, rfl⟩ := hu; exact ⟨some i, σ₁, .int i t, hq, S₁, k₁, m₁⟩

/-- the part of a list that a plain slice takes -/
def picked (xs : List AV) (lo hi : Option Int) : List AV :=
  let a := lo.elim 0 (clipAt xs.length)
  let b := hi.elim xs.length (clipAt xs.length)
  (xs.drop a).take (b - a)

theorem are_picked {xs : List AV} {vs : List Value} (h : Are xs vs) (lo hi : Option Int) : Are (picked xs lo hi) (slicePick vs.toArray lo hi none).toList := by
  rw [slicePick_plain]
  simp only [picked, List.size_toArray, h.length]
  exact (h.drop _).take _

theorem EV_slice {value : Expr} {lower upper : Option Expr} {p pos : Pos} {Q : AV → AH → Prop}
    (h : EV G C value μ σ fun o σ₁ => EVo G C lower μ σ₁ fun lo σ₂ => EVo G C upper μ σ₂ fun hi σ₃ => ∃ a m xs, o = .ref a ∧ σ₃ a = some (.lst m xs) ∧ xs.length ≤ 1000000 ∧
      ∀ r, σ₃ r = none → Q (.ref r) (upd σ₃ r (.lst true (picked xs lo hi))))
    (ht : ∀ o r, letTemporaryGo value o r = pure () := by intro _ _; with_unfolding_all rfl) :
    EV G C (.Subscript value (.Slice lower upper none p) pos) μ σ Q := fun s S => by
  refine wpAny_Subscript_list_slice (VP.bind (h s S) fun o vo σ₁ s₁ ho h₁ S₁ k₁ m₁ => VP.bind (h₁ s₁ S₁) fun lo vl σ₂ s₂ hlo h₂ S₂ k₂ m₂ => VP.bind (h₂ s₂ S₂) fun hi vh σ₃ s₃ hhi ⟨a, m, xs, eo, hao, hn, hq⟩ S₃ k₃ m₃ => ?_) ht
  subst eo
  cases ho
  obtain ⟨vs, hr, hl⟩ := at_isList (S₃.rep a _ hao)
  refine ⟨a, vs.toArray, lo, hi, rfl, hl, ?_, hlo, hhi, ?_⟩
  · rw [List.size_toArray, ← hr.length, sizeLine_eq]; omega
  · have S₄ : St G C μ σ₃ (s₃.heap.push { cls := .type "slice", data := .fields #[vl, vh, .none] }) := S₃.ext fun _ _ e => Heap.get?_push_of_some _ e
    have k₄ : Step (some C.env.locals) σ₃ s₃.heap σ₃ (s₃.heap.push { cls := .type "slice", data := .fields #[vl, vh, .none] }) := fun b o _ n e => ⟨Heap.get?_push_of_some _ e, n⟩
    have e1 : (s₃.heap.push { cls := .type "slice", data := .fields #[vl, vh, .none] }).objs.size = s₃.heap.objs.size + 1 := Heap.size_push ..
    have := vp_push (t := s₃.toks) (s := { s₃ with heap := s₃.heap.push { cls := .type "slice", data := .fields #[vl, vh, .none] } }) (ob := { cls := .type "list", data := .seq (slicePick vs.toArray lo hi none) })
      S₄ (ao := .lst true (picked xs lo hi)) ⟨_, 0, none, #[], are_picked hr lo hi, Heap.get?_push_size _ rfl, fun _ => ⟨rfl, rfl, S₄.toStG.Bfresh⟩⟩ hq
    rw [show ({ s₃ with heap := s₃.heap.push { cls := .type "slice", data := .fields #[vl, vh, .none] } } : Shared).heap.objs.size = s₃.heap.objs.size + 1 from e1] at this
    exact VP.after (((k₁.trans k₂).trans k₃).trans k₄) (((m₁.trans m₂).trans m₃).trans Same.heap) this

theorem EV_rev {value st : Expr} {p pos : Pos} {Q : AV → AH → Prop}
    (h : EV G C value μ σ fun o σ₁ => EV G C st μ σ₁ fun i σ₂ => ∃ a m xs, o = .ref a ∧ i = .int (-1) ∧ σ₂ a = some (.lst m xs) ∧ xs.length ≤ 4 ∧
      ∀ r, σ₂ r = none → Q (.ref r) (upd σ₂ r (.lst true xs.reverse)))
    (hs : ∀ o i, subscripted (.Slice none none (some st) p) false o i = operate [o, i] (getItem o i) := by intro _ _; with_unfolding_all rfl)
    (ht : ∀ o r, letTemporaryGo value o r = pure () := by intro _ _; with_unfolding_all rfl) :
    EV G C (.Subscript value (.Slice none none (some st) p) pos) μ σ Q := fun s S => by
  refine Subscript_ (VP.bind (h s S) fun o vo σ₁ s₁ ho h₁ S₁ k₁ m₁ => wpAny_Slice (wpAny_pure (wpAny_pure ?_)))
  show wpAny _ _ (eval st C.env) _ _ _
  refine VP.bind (h₁ s₁ S₁) fun i vi σ₂ s₂ hi ⟨a, m, xs, eo, ei, hao, hn, hq⟩ S₂ k₂ m₂ => ?_
  subst eo ei
  cases ho
  obtain ⟨t, rfl⟩ := hi
  obtain ⟨vs, hr, hl⟩ := at_isList (S₂.rep a _ hao)
  have S₄ : St G C μ σ₂ (s₂.heap.push { cls := .type "slice", data := .fields #[.none, .none, .int (-1) t] }) := S₂.ext fun _ _ e => Heap.get?_push_of_some _ e
  have k₄ : Step (some C.env.locals) σ₂ s₂.heap σ₂ (s₂.heap.push { cls := .type "slice", data := .fields #[.none, .none, .int (-1) t] }) := fun b o _ n e => ⟨Heap.get?_push_of_some _ e, n⟩
  refine subscriptTail_ops (Heap.IsList.typeIs (s := { s₂ with heap := s₂.heap.push { cls := .type "slice", data := .fields #[.none, .none, .int (-1) t] } }) (hl.push _)) list_getitem_lookup
    (wpAny_getItem_list_slice (hl.push _) (Heap.IsSliceOf.new ..) .none .none (.int (-1) t) (by decide) ?_ ?_) (hs _ _) (ht _)
  · rw [pick_rev (by rw [← hr.length]; exact hn)]
    refine VP.after ((k₁.trans k₂).trans k₄) ((m₁.trans m₂).trans Same.heap) (vp_push (t := s₂.toks) (s := { s₂ with heap := s₂.heap.push { cls := .type "slice", data := .fields #[.none, .none, .int (-1) t] } }) S₄ (ao := .lst true xs.reverse) ?_ hq)
    exact at_new_list hr.reverse S₄.toStG.Bfresh
  · rw [List.size_toArray, ← hr.length, sizeLine_eq]; omega
end

/-! ### calls of the text's own defs -/
def FN (G : GC) (l : Nat) (f : Addr) (us : List AV) (σ : AH) (Q : AV → AH → Prop) : Prop :=
  ∀ (A : Around) (s : Shared) (vs : List Value), A.handled = none → A.depth + l < recursionLimit → A.units + 20 * l + 40 < cLine → StG G σ s.heap → Are us vs →
    wpAny (model G.prog G.w) A (call (.ref f) vs) (fun v s' => ∃ u σ', AV.is u v ∧ Q u σ' ∧ StG G σ' s'.heap ∧ Step none σ s.heap σ' s'.heap ∧ Same s s') (fun _ _ => False) s

theorem FN.mono {G : GC} {l : Nat} {f : Addr} {us : List AV} {σ : AH} {Q Q' : AV → AH → Prop} (h : FN G l f us σ Q) (hQ : ∀ u σ', Q u σ' → Q' u σ') : FN G l f us σ Q' :=
  fun A s vs a b c d e => wpAny_mono (h A s vs a b c d e) (fun _ _ ⟨u, σ', h1, h2, r⟩ => ⟨u, σ', h1, hQ _ _ h2, r⟩) fun _ _ e => e
theorem FN.lift {G : GC} {l l' : Nat} {f : Addr} {us : List AV} {σ : AH} {Q : AV → AH → Prop} (h : FN G l f us σ Q) (hl : l ≤ l') : FN G l' f us σ Q :=
  fun A s vs a b c d e => h A s vs a (by omega) (by omega) d e

/-- the frame's own state, out of what the call left -/
theorem St.ofG {G : GC} {C : FC G} {μ : Mu} {σ σ' : AH} {h h' : Heap} (S : St G C μ σ h) (S' : StG G σ' h') (k : Step none σ h σ' h') : St G C μ σ' h' := by
  have kk : ∀ b o, h.get? b = some o → (∀ vs n, o.data ≠ .seq vs n) → h'.get? b = some o := fun b o e hd => (k b o (by intro q; cases q) (S.toStG.none_of e hd) e).1
  have kns : ∀ {m}, h.Ns C.env.locals m → h'.Ns C.env.locals m := fun hn => by
    obtain ⟨o, es, ep, ho, hd, r⟩ := hn
    exact ⟨o, es, ep, kk _ _ ho (fun vs n q => by rw [hd] at q; cases q), hd, r⟩
  refine ⟨S', let ⟨m, hn⟩ := S.ns; ⟨m, kns hn⟩, fun x u q => ?_⟩
  obtain ⟨hd, v, hv, H⟩ := S.vars x u q
  refine ⟨hd, v, hv, ?_⟩
  rcases H with ⟨hk, m₁, hn₁, e⟩ | ⟨hk, c, hc, o, ho, hd⟩
  · exact .inl ⟨hk, m₁, kns hn₁, e⟩
  · exact .inr ⟨hk, c, hc, o, kk _ _ ho (fun vs n q => by rw [hd] at q; cases q), hd⟩

section
variable {G : GC} {C : FC G} {μ : Mu} {σ : AH}

def GC.isFn (G : GC) (f : Addr) : Prop := ∃ o fd, G.B.get? f = some o ∧ o.data = .func fd
theorem isFn_def (G : GC) {d : DefRec} (hd : d ∈ theDefs) : G.isFn (G.fa d.name) := let ⟨o, pm, code, doc, _, h2, h3, _⟩ := G.fnAt hd; ⟨o, _, h2, h3⟩

theorem EV_call {func : Expr} {e : Expr} {es : List Expr} {pos : Pos} {Q : AV → AH → Prop}
    (h : EV G C func μ σ fun fv σ₁ => ∃ f, fv = .ref f ∧ G.isFn f ∧ EVs G C (e :: es) μ σ₁ fun us σ₂ => FN G C.lv f us σ₂ Q)
    (he : eval (.Call func (e :: es) [] pos) C.env = (do callWith pos (← eval func C.env) [] (backTo pos (starEach (e :: es) C.env)) (backToKw pos (keywordEach [] C.env))) := by with_unfolding_all rfl)
    (he' : starEach (e :: es) C.env = (false, eval e C.env) :: starEach es C.env := by with_unfolding_all rfl) :
    EV G C (.Call func (e :: es) [] pos) μ σ Q := fun s S =>
  Call_ (VP.bind (h s S) fun fv v σ₁ s₁ hf ⟨f, ef, ⟨o, fd, ho, hd⟩, h₁⟩ S₁ k₁ m₁ => by
    subst ef
    cases hf
    refine callWith_def (o := o) (fd := fd) hd (VP.bind (h₁ pos s₁ S₁) fun us vs σ₂ s₂ hus h₂ S₂ k₂ m₂ => ⟨S₂.stay _ _ ho, ?_⟩) he'
    refine wpAny_mono (h₂ C.A s₂ vs C.hh C.room C.units S₂.toStG hus) (fun r s₃ ⟨u, σ₃, hu, hq, S₃, k₃, m₃⟩ => ?_) fun _ _ e => e
    exact ⟨u, σ₃, hu, hq, S₂.ofG S₃ k₃, (k₁.trans k₂).trans k₃.weak, (m₁.trans m₂).trans m₃⟩) he

/-! ### built-in calls -/
theorem EV_builtin1 {x : Str} {id : String} {e : Expr} {es : List Expr} {p pos : Pos} {Q : AV → AH → Prop}
    (hk : C.env.kindOf x = some .globalImplicit) (hb : bootBuiltins x = some (.builtin id)) (hf : G.mg x = none)
    (h : EVs G C (e :: es) μ σ fun us σ₁ => ∀ s vs, Are us vs → St G C μ σ₁ s.heap → wpAny (model G.prog G.w) C.A (call (.builtin id) vs) (VP G C AV.is μ σ₁ s Q) (fun _ _ => False) s)
    (hn : x ≠ "__name__" := by decide) (hd : (x == ("__debug__" : Str)) = false := by decide)
    (he : eval (.Call (.Name x p) (e :: es) [] pos) C.env = (do callWith pos (← eval (.Name x p) C.env) [] (backTo pos (starEach (e :: es) C.env)) (backToKw pos (keywordEach [] C.env))) := by with_unfolding_all rfl)
    (he' : starEach (e :: es) C.env = (false, eval e C.env) :: starEach es C.env := by with_unfolding_all rfl)
    (hplain : (backTo pos (starEach es C.env)).any (·.1) = false := by with_unfolding_all rfl) :
    EV G C (.Call (.Name x p) (e :: es) [] pos) μ σ Q := fun s S =>
  Call_ (Name_function_global C.hk hk (loadGlobal_builtin (by rw [C.hg]; exact G.g.keeps S.stay) hf (by rw [C.hb]; exact G.b.keeps S.stay) ((G.builtins x hn).trans hb)
    (PyProof.Rows.callWith_builtin1 (VP.bind (h pos s S) fun us vs σ₁ s₁ hus h₁ S₁ k₁ m₁ => wp_after k₁ m₁ (h₁ s₁ vs hus S₁)) he' hplain)) hd) he

theorem EV_type1 {x : Str} {T : String} {e : Expr} {es : List Expr} {p pos : Pos} {Q : AV → AH → Prop}
    (hk : C.env.kindOf x = some .globalImplicit) (hb : bootBuiltins x = some (.type T)) (hf : G.mg x = none)
    (h : EVs G C (e :: es) μ σ fun us σ₁ => ∀ s vs, Are us vs → St G C μ σ₁ s.heap → wpAny (model G.prog G.w) C.A (call (.type T) vs) (VP G C AV.is μ σ₁ s Q) (fun _ _ => False) s)
    (hn : x ≠ "__name__" := by decide) (hd : (x == ("__debug__" : Str)) = false := by decide)
    (he : eval (.Call (.Name x p) (e :: es) [] pos) C.env = (do callWith pos (← eval (.Name x p) C.env) [] (backTo pos (starEach (e :: es) C.env)) (backToKw pos (keywordEach [] C.env))) := by with_unfolding_all rfl)
    (he' : starEach (e :: es) C.env = (false, eval e C.env) :: starEach es C.env := by with_unfolding_all rfl)
    (hplain : (backTo pos (starEach es C.env)).any (·.1) = false := by with_unfolding_all rfl) :
    EV G C (.Call (.Name x p) (e :: es) [] pos) μ σ Q := fun s S =>
  Call_ (Name_function_global C.hk hk (loadGlobal_builtin (by rw [C.hg]; exact G.g.keeps S.stay) hf (by rw [C.hb]; exact G.b.keeps S.stay) ((G.builtins x hn).trans hb)
    (PyProof.Rows.callWith_type1 (VP.bind (h pos s S) fun us vs σ₁ s₁ hus h₁ S₁ k₁ m₁ => wp_after k₁ m₁ (h₁ s₁ vs hus S₁)) he' hplain)) hd) he

theorem boot_len : bootBuiltins "len" = some (.builtin "len") := by decide +kernel
theorem boot_abs : bootBuiltins "abs" = some (.builtin "abs") := by decide +kernel
theorem boot_min : bootBuiltins "min" = some (.builtin "min") := by decide +kernel
theorem boot_sum : bootBuiltins "sum" = some (.builtin "sum") := by decide +kernel
theorem boot_int : bootBuiltins "int" = some (.type "int") := by decide +kernel
theorem boot_range : bootBuiltins "range" = some (.type "range") := by decide +kernel
theorem boot_enumerate : bootBuiltins "enumerate" = some (.type "enumerate") := by decide +kernel
theorem GC.no (G : GC) {x : Str} (h : x ∈ (["len", "range", "sum", "abs", "int", "min", "enumerate"] : List Str)) : G.mg x = none := G.free x h

theorem are1 {u : AV} {vs : List Value} (h : Are [u] vs) : ∃ v, vs = [v] ∧ AV.is u v := by
  match vs, h with
  | [v], h => exact ⟨v, rfl, h.1⟩
theorem are2 {u₁ u₂ : AV} {vs : List Value} (h : Are [u₁, u₂] vs) : ∃ v₁ v₂, vs = [v₁, v₂] ∧ AV.is u₁ v₁ ∧ AV.is u₂ v₂ := by
  match vs, h with
  | [v₁, v₂], h => exact ⟨v₁, v₂, rfl, h.1, h.2.1⟩
theorem are3 {u₁ u₂ u₃ : AV} {vs : List Value} (h : Are [u₁, u₂, u₃] vs) : ∃ v₁ v₂ v₃, vs = [v₁, v₂, v₃] ∧ AV.is u₁ v₁ ∧ AV.is u₂ v₂ ∧ AV.is u₃ v₃ := by
  match vs, h with
  | [v₁, v₂, v₃], h => exact ⟨v₁, v₂, v₃, rfl, h.1, h.2.1, h.2.2.1⟩

theorem EV_len {e : Expr} {p pos : Pos} {Q : AV → AH → Prop} (hk : C.env.kindOf "len" = some .globalImplicit)
    (h : EV G C e μ σ fun u σ₁ => ∃ a m xs, u = .ref a ∧ σ₁ a = some (.lst m xs) ∧ xs.length ≤ 1000000 ∧ Q (.int xs.length) σ₁)
    (he : eval (.Call (.Name "len" p) [e] [] pos) C.env = (do callWith pos (← eval (.Name "len" p) C.env) [] (backTo pos (starEach [e] C.env)) (backToKw pos (keywordEach [] C.env))) := by with_unfolding_all rfl)
    (he' : starEach [e] C.env = (false, eval e C.env) :: starEach [] C.env := by with_unfolding_all rfl) :
    EV G C (.Call (.Name "len" p) [e] [] pos) μ σ Q :=
  EV_builtin1 hk boot_len (G.no (by decide)) (EVs_cons (h.mono fun u σ₁ ⟨a, m, xs, eu, ha, hl, hq⟩ => EVs_nil fun s vs hvs S => by
    subst eu
    obtain ⟨v, rfl, hv⟩ := are1 hvs
    cases hv
    obtain ⟨ws, hr, hw⟩ := at_isList (S.rep a _ ha)
    refine call_len_list hw (by rw [List.size_toArray, ← hr.length]; omega) ?_
    rw [List.size_toArray, ← hr.length]
    exact vp_toks _ S (is_int _ _) hq) he') (by decide) (by decide) he he'

theorem EV_abs {e : Expr} {p pos : Pos} {Q : AV → AH → Prop} (hk : C.env.kindOf "abs" = some .globalImplicit)
    (h : EV G C e μ σ fun u σ₁ => ∃ i, u = .int i ∧ Q (.int (if i < 0 then -i else i)) σ₁)
    (he : eval (.Call (.Name "abs" p) [e] [] pos) C.env = (do callWith pos (← eval (.Name "abs" p) C.env) [] (backTo pos (starEach [e] C.env)) (backToKw pos (keywordEach [] C.env))) := by with_unfolding_all rfl)
    (he' : starEach [e] C.env = (false, eval e C.env) :: starEach [] C.env := by with_unfolding_all rfl) :
    EV G C (.Call (.Name "abs" p) [e] [] pos) μ σ Q :=
  EV_builtin1 hk boot_abs (G.no (by decide)) (EVs_cons (h.mono fun u σ₁ ⟨i, eu, hq⟩ => EVs_nil fun s vs hvs S => by
    subst eu
    obtain ⟨v, rfl, t, rfl⟩ := are1 hvs
    exact call_abs_int fun u tk => vp_toks _ S (is_int _ _) hq) he') (by decide) (by decide) he he'

theorem EV_toInt {e : Expr} {p pos : Pos} {Q : AV → AH → Prop} (hk : C.env.kindOf "int" = some .globalImplicit)
    (h : EV G C e μ σ fun u σ₁ => ∃ i, u = .int i ∧ Q (.int i) σ₁)
    (he : eval (.Call (.Name "int" p) [e] [] pos) C.env = (do callWith pos (← eval (.Name "int" p) C.env) [] (backTo pos (starEach [e] C.env)) (backToKw pos (keywordEach [] C.env))) := by with_unfolding_all rfl)
    (he' : starEach [e] C.env = (false, eval e C.env) :: starEach [] C.env := by with_unfolding_all rfl) :
    EV G C (.Call (.Name "int" p) [e] [] pos) μ σ Q :=
  EV_type1 hk boot_int (G.no (by decide)) (EVs_cons (h.mono fun u σ₁ ⟨i, eu, hq⟩ => EVs_nil fun s vs hvs S => by
    subst eu
    obtain ⟨v, rfl, t, rfl⟩ := are1 hvs
    exact call_int_int (vp_same _ S (is_int _ _) hq)) he') (by decide) (by decide) he he'

/-- what is kept whole -/
theorem vp_ext {s : Shared} {Q : AV → AH → Prop} {v : Value} {u : AV} {h' : Heap} {t : Nat} (S : St G C μ σ s.heap) (k : ∀ b o, s.heap.get? b = some o → h'.get? b = some o) (hu : AV.is u v) (hq : Q u σ) :
    VP G C AV.is μ σ s Q v { s with heap := h', toks := t } := ⟨u, σ, hu, hq, S.ext k, fun b o _ n e => ⟨k _ _ e, n⟩, Same.both⟩

theorem EV_min {e e' : Expr} {p pos : Pos} {Q : AV → AH → Prop} (hk : C.env.kindOf "min" = some .globalImplicit)
    (h : EV G C e μ σ fun u σ₁ => EV G C e' μ σ₁ fun u' σ₂ => ∃ i j, u = .int i ∧ u' = .int j ∧ Q (.int (min i j)) σ₂)
    (he : eval (.Call (.Name "min" p) [e, e'] [] pos) C.env = (do callWith pos (← eval (.Name "min" p) C.env) [] (backTo pos (starEach [e, e'] C.env)) (backToKw pos (keywordEach [] C.env))) := by with_unfolding_all rfl)
    (he₁ : starEach [e, e'] C.env = (false, eval e C.env) :: starEach [e'] C.env := by with_unfolding_all rfl) (he₂ : starEach [e'] C.env = (false, eval e' C.env) :: starEach [] C.env := by with_unfolding_all rfl) :
    EV G C (.Call (.Name "min" p) [e, e'] [] pos) μ σ Q :=
  EV_builtin1 hk boot_min (G.no (by decide)) (EVs_cons (h.mono fun u σ₁ h₁ => EVs_cons (h₁.mono fun u' σ₂ ⟨i, j, eu, eu', hq⟩ => EVs_nil fun s vs hvs S => by
    subst eu eu'
    obtain ⟨v, v', rfl, ⟨t, rfl⟩, ⟨t', rfl⟩⟩ := are2 hvs
    refine min_two_ints C.hh fun h' tk k => ?_
    rw [show (if j < i then Value.int j t' else Value.int i t) = Value.int (min i j) (if j < i then t' else t) from by
      split
      · rw [Int.min_eq_right (by omega)]
      · rw [Int.min_eq_left (by omega)]]
    exact vp_ext S k (is_int _ _) hq) he₂) he₁) (by decide) (by decide) he he₁ (by rw [he₂]; rfl)

def nums (ns : List Int) : List AV := ns.map .int

theorem are_ints : ∀ {ns : List Int} {vs : List Value}, Are (nums ns) vs → ∃ xs : Array (Int × Tok), vs.toArray = intItems xs ∧ xs.toList.map (·.1) = ns
  | [], [], _ => ⟨#[], by simp [intItems], rfl⟩
  | n :: ns, v :: vs, h => by
    obtain ⟨xs, e1, e2⟩ := are_ints (ns := ns) (vs := vs) h.2
    obtain ⟨t, rfl⟩ := h.1
    refine ⟨((n, t) :: xs.toList).toArray, ?_, by simp [e2]⟩
    unfold intItems at e1 ⊢
    have := congrArg Array.toList e1
    simp at this
    apply Array.toList_inj.mp
    simp [this]

theorem EV_sum {e : Expr} {p pos : Pos} {Q : AV → AH → Prop} (hk : C.env.kindOf "sum" = some .globalImplicit)
    (h : EV G C e μ σ fun u σ₁ => ∃ a m ns, u = .ref a ∧ σ₁ a = some (.lst m (nums ns)) ∧ Q (.int ns.sum) σ₁)
    (he : eval (.Call (.Name "sum" p) [e] [] pos) C.env = (do callWith pos (← eval (.Name "sum" p) C.env) [] (backTo pos (starEach [e] C.env)) (backToKw pos (keywordEach [] C.env))) := by with_unfolding_all rfl)
    (he' : starEach [e] C.env = (false, eval e C.env) :: starEach [] C.env := by with_unfolding_all rfl) :
    EV G C (.Call (.Name "sum" p) [e] [] pos) μ σ Q :=
  EV_builtin1 hk boot_sum (G.no (by decide)) (EVs_cons (h.mono fun u σ₁ ⟨a, m, ns, eu, ha, hq⟩ => EVs_nil fun s vs hvs S => by
    subst eu
    obtain ⟨v, rfl, hv⟩ := are1 hvs
    cases hv
    obtain ⟨ws, hr, hw⟩ := at_isList (S.rep a _ ha)
    obtain ⟨xs, e1, e2⟩ := are_ints hr
    rw [e1] at hw
    refine sum_intListG C.hh hw fun h' tk t' k => ?_
    rw [preSum_eq, List.take_of_length_le (by simp), e2]
    exact vp_ext S k (is_int _ _) hq) he') (by decide) (by decide) he he'

theorem EV_bitlen {o : Expr} {apos pos : Pos} {pl : Sem Bool} {Q : AV → AH → Prop}
    (h : EV G C o μ σ fun u σ₁ => ∃ i, u = .int i ∧ Q (.int (Builtin.Int.intBits i)) σ₁)
    (he : eval (.Call (.Attribute o "bit_length" apos) [] [] pos) C.env = (do
      let ov ← eval o C.env
      standAt apos.atName
      let (f, first) ← holding [ov] (getMethod ov "bit_length" pl)
      callWith pos f first (backTo pos (starEach [] C.env)) []) := by with_unfolding_all rfl) : EV G C (.Call (.Attribute o "bit_length" apos) [] [] pos) μ σ Q := fun s S =>
  MethodCall_ (VP.bind (h s S) fun u v σ₁ s₁ hu ⟨i, eu, hq⟩ S₁ k₁ m₁ => by
    subst eu
    obtain ⟨t, rfl⟩ := hu
    refine getMethod_int_bit_length ?_
    dsimp only
    exact (callWith_method0 (call_int_bit_length (VP.after k₁ m₁ (vp_toks _ S₁ (is_int _ _) hq))))) he
end

section
variable (G : GC) (C : FC G)

/-- a statement: N what goes on, R what comes back -/
def XP (μ : Mu) (σ : AH) (s : Shared) (N : Mu → AH → Prop) (R : AV → AH → Prop) : Flow → Shared → Prop := fun f s' =>
  (f = .next ∧ ∃ μ' σ', N μ' σ' ∧ St G C μ' σ' s'.heap ∧ Step (some C.env.locals) σ s.heap σ' s'.heap ∧ Same s s') ∨
  (∃ v u σ', f = .ret v ∧ AV.is u v ∧ R u σ' ∧ StG G σ' s'.heap ∧ Step (some C.env.locals) σ s.heap σ' s'.heap ∧ Same s s')

def X1 (st : Stmt) (μ : Mu) (σ : AH) (N : Mu → AH → Prop) (R : AV → AH → Prop) : Prop :=
  ∀ s, St G C μ σ s.heap → wpAny (model G.prog G.w) C.A (exec st C.env) (XP G C μ σ s N R) (fun _ _ => False) s
def XS (st : List Stmt) (μ : Mu) (σ : AH) (N : Mu → AH → Prop) (R : AV → AH → Prop) : Prop :=
  ∀ s, St G C μ σ s.heap → wpAny (model G.prog G.w) C.A (execs st C.env) (XP G C μ σ s N R) (fun _ _ => False) s
end

section
variable {G : GC} {C : FC G} {μ : Mu} {σ : AH} {N : Mu → AH → Prop} {R : AV → AH → Prop}

theorem XP.after {s s' s'' : Shared} {μ' : Mu} {σ' : AH} {f : Flow} (hs : Step (some C.env.locals) σ s.heap σ' s'.heap) (hm : Same s s') (h : XP G C μ' σ' s' N R f s'') : XP G C μ σ s N R f s'' := by
  rcases h with ⟨e, μ'', σ'', h1, h2, h3, h4⟩ | ⟨v, u, σ'', h1, h2, h3, h4, h5, h6⟩
  · exact .inl ⟨e, μ'', σ'', h1, h2, hs.trans h3, hm.trans h4⟩
  · exact .inr ⟨v, u, σ'', h1, h2, h3, h4, hs.trans h5, hm.trans h6⟩
theorem XP.next {s s' : Shared} {μ' : Mu} {σ' : AH} (h : N μ' σ') (S : St G C μ' σ' s'.heap) (hs : Step (some C.env.locals) σ s.heap σ' s'.heap) (hm : Same s s') : XP G C μ σ s N R .next s' :=
  .inl ⟨rfl, μ', σ', h, S, hs, hm⟩

theorem xwp_after {s s' : Shared} {μ' : Mu} {σ' : AH} {t : Sem Flow} (hs : Step (some C.env.locals) σ s.heap σ' s'.heap) (hm : Same s s')
    (h : wpAny (model G.prog G.w) C.A t (XP G C μ' σ' s' N R) (fun _ _ => False) s') : wpAny (model G.prog G.w) C.A t (XP G C μ σ s N R) (fun _ _ => False) s' :=
  wpAny_mono h (fun _ _ q => XP.after hs hm q) fun _ _ e => e

theorem XS.mono {st : List Stmt} {N' : Mu → AH → Prop} {R' : AV → AH → Prop} (h : XS G C st μ σ N R) (hN : ∀ μ' σ', N μ' σ' → N' μ' σ') (hR : ∀ u σ', R u σ' → R' u σ') : XS G C st μ σ N' R' := fun s S =>
  wpAny_mono (h s S) (fun f s' q => by
    rcases q with ⟨e, μ'', σ'', h1, h2⟩ | ⟨v, u, σ'', h1, h2, h3, h4⟩
    · exact .inl ⟨e, μ'', σ'', hN _ _ h1, h2⟩
    · exact .inr ⟨v, u, σ'', h1, h2, hR _ _ h3, h4⟩) fun _ _ e => e

theorem XS_nil (h : N μ σ) : XS G C [] μ σ N R := fun s S => wpAny_execs_nil (XP.next h S Step.refl (Same.refl s))
theorem XS_cons {st : Stmt} {rest : List Stmt} (h : X1 G C st μ σ (fun μ' σ' => XS G C rest μ' σ' N R) R) : XS G C (st :: rest) μ σ N R := fun s S =>
  wpAny_execs_cons (wpAny_mono (h s S) (fun f s' q => by
    rcases q with ⟨e, μ'', σ'', h1, h2, h3, h4⟩ | ⟨v, u, σ'', h1, h2, h3, h4⟩
    · subst e
      exact xwp_after h3 h4 (h1 s' h2)
    · subst h1
      exact .inr ⟨v, u, σ'', rfl, h2, h3, h4⟩) fun _ _ e => e)

theorem X_ret {e : Expr} {pos : Pos} (h : EV G C e μ σ R) : X1 G C (.Return (some e) pos) μ σ N R := fun s S =>
  wpAny_Return_some (VP.bind (h s S) fun u v σ₁ s₁ hu hq S₁ k₁ m₁ => .inr ⟨v, u, σ₁, rfl, hu, hq, S₁.toStG, k₁, m₁⟩)

theorem X_if {test : Expr} {body orelse : List Stmt} {pos : Pos} (h : ET G C test μ σ fun b σ₁ => if b = true then XS G C body μ σ₁ N R else XS G C orelse μ σ₁ N R) : X1 G C (.If test body orelse pos) μ σ N R := fun s S =>
  wpAny_If (VP.bind (h s S) fun u v σ₁ s₁ hu hq S₁ k₁ m₁ => by
    subst hu
    cases u with
    | true => simp only [if_true] at hq ⊢; exact xwp_after k₁ m₁ (hq s₁ S₁)
    | false => simp only [Bool.false_eq_true, if_false] at hq ⊢; exact xwp_after k₁ m₁ (hq s₁ S₁))

/-! ### stores -/
theorem cls_ok (C : FC G) : (C.env.scope.kind == .class || (C.env.scope.kind == .module && C.env.locals != C.env.globals)) = false := by rw [C.hk]; rfl

theorem store_local {x : Str} {v : Value} {u : AV} {s : Shared} {K : Unit → Shared → Prop} (S : St G C μ σ s.heap) (hk : C.env.kindOf x = some .local) (hd : (x == ("__debug__" : Str)) = false) (hu : AV.is u v)
    (h : ∀ s', St G C ((x, u) :: μ) σ s'.heap → Step (some C.env.locals) σ s.heap σ s'.heap → Same s s' → K () s') : wpAny (model G.prog G.w) C.A (storeName C.env x v) K (fun _ _ => False) s := by
  obtain ⟨m, hn⟩ := S.ns
  refine wpAny_storeName_local hk hn (fun h' hn' hs => h _ ?_ ?_ Same.both) (cls_ok C)
  · have hL := S.toStG.ns_none hn
    have S' := S.toStG.extBut C.hL hL (fun b o hb e => hs.extBut b o hb e)
    refine ⟨S', ⟨_, hn'⟩, fun y w q => ?_⟩
    unfold lk at q
    split at q
    · next e =>
      cases q
      exact ⟨e ▸ hd, v, hu, .inl ⟨e ▸ hk, _, hn', by simp [e]⟩⟩
    · next e =>
      obtain ⟨hd', v', hv', H⟩ := S.vars y w q
      refine ⟨hd', v', hv', ?_⟩
      rcases H with ⟨hk', m₁, hn₁, e₁⟩ | ⟨hk', c, hc, o, ho, hdc⟩
      · exact .inl ⟨hk', _, hn', by simp only [e, if_false]; rw [ns_unique hn hn₁]; exact e₁⟩
      · refine .inr ⟨hk', c, hc, o, hs.extBut _ _ ?_ ho, hdc⟩
        rintro rfl
        obtain ⟨oL, _, _, hoL, hdL, _⟩ := hn
        rw [ho] at hoL; cases hoL; rw [hdc] at hdL; cases hdL
  · exact fun b o hb n e => ⟨hs.extBut b o (fun q => hb (by rw [q])) e, n⟩

theorem X_assign {x : Str} {pos' pos : Pos} {value : Expr} (hk : C.env.kindOf x = some .local) (h : EV G C value μ σ fun u σ₁ => N ((x, u) :: μ) σ₁)
    (hs : swapsWith value (some (.Name x pos')) pos.line C.env = pure false := by with_unfolding_all rfl) (hd : (x == ("__debug__" : Str)) = false := by decide) : X1 G C (.Assign [.Name x pos'] value pos) μ σ N R := fun s S =>
  wpAny_Assign_Name (VP.bind (h s S) fun u v σ₁ s₁ hu hq S₁ k₁ m₁ => store_local S₁ hk hd hu fun s₂ S₂ k₂ m₂ => XP.next hq S₂ (k₁.trans k₂) (m₁.trans m₂)) hs

theorem X_aug {x : Str} {pos' pos : Pos} {op : Operator} {value : Expr} {a : AV} (hk : C.env.kindOf x = some .local) (hx : lk μ x = some a)
    (h : EV G C value μ σ fun b σ₁ => AOP G C op a b μ σ₁ fun u σ₂ => N ((x, u) :: μ) σ₂) (hd : (x == ("__debug__" : Str)) = false := by decide) : X1 G C (.AugAssign (.Name x pos') op value pos) μ σ N R := fun s S =>
  wpAny_AugAssign_Name (VP.bind (loadName_var (Q := fun u σ' => u = a ∧ σ' = σ) hx ⟨rfl, rfl⟩ s S) fun a' va σ₀ s₀ ha hq₀ S₀ k₀ m₀ => by
    obtain ⟨rfl, rfl⟩ := hq₀
    exact VP.bind (h s₀ S₀) fun b vb σ₁ s₁ hb h₁ S₁ k₁ m₁ => VP.bind (h₁ va vb ha hb s₁ S₁) fun u v σ₂ s₂ hu hq S₂ k₂ m₂ =>
      store_local S₂ hk hd hu fun s₃ S₃ k₃ m₃ => XP.next hq S₃ (((k₀.trans k₁).trans k₂).trans k₃) (((m₀.trans m₁).trans m₂).trans m₃))

theorem AOP_add {i j : Int} {Q : AV → AH → Prop} (hq : Q (.int (i + j)) σ) : AOP G C .Add (.int i) (.int j) μ σ Q := by
  rintro _ _ ⟨t, rfl⟩ ⟨u, rfl⟩ s S; exact iadd_int (vp_toks _ S (is_int _ _) hq)
theorem AOP_sub {i j : Int} {Q : AV → AH → Prop} (hq : Q (.int (i - j)) σ) : AOP G C .Sub (.int i) (.int j) μ σ Q := by
  rintro _ _ ⟨t, rfl⟩ ⟨u, rfl⟩ s S; exact isub_int (vp_toks _ S (is_int _ _) hq)
theorem AOP_fmod {i j : Int} {Q : AV → AH → Prop} (hj : j ≠ 0) (hq : Q (.int (i.fmod j)) σ) : AOP G C .Mod (.int i) (.int j) μ σ Q := by
  rintro _ _ ⟨t, rfl⟩ ⟨u, rfl⟩ s S; exact imod_int hj (vp_toks _ S (is_int _ _) hq)
theorem AOP_shr {i j : Int} {Q : AV → AH → Prop} (h0 : 0 ≤ j) (hq : Q (.int (i.fdiv (2 ^ j.toNat))) σ) : AOP G C .RShift (.int i) (.int j) μ σ Q := by
  rintro _ _ ⟨t, rfl⟩ ⟨u, rfl⟩ s S; exact irshift_int h0 (vp_toks _ S (is_int _ _) hq)
theorem AOP_or {i j : Int} {Q : AV → AH → Prop} (hq : Q (.int (Builtin.bitOr i j)) σ) : AOP G C .BitOr (.int i) (.int j) μ σ Q := by
  rintro _ _ ⟨t, rfl⟩ ⟨u, rfl⟩ s S; exact ior_int (vp_toks _ S (is_int _ _) hq)

/-- a list of the call's own is changed in its place -/
theorem St.change {h h' : Heap} {a : Addr} {xs xs' : List AV} {vs' : List Value} {n : Nat} (S : St G C μ σ h) (ha : σ a = some (.lst true xs)) (hs : Heap.SameBut a h h')
    (hn : h'.get? a = some { cls := .type "list", data := .seq vs'.toArray n }) (hr : Are xs' vs') :
    St G C μ (upd σ a (.lst true xs')) h' ∧ Step (some C.env.locals) σ h (upd σ a (.lst true xs')) h' := by
  obtain ⟨vs, k, d, sl, _, e, hm⟩ := S.rep a _ ha
  have hB := (hm rfl).2.2
  have stay : ∀ b o, G.B.get? b = some o → h'.get? b = some o := fun b o q => hs.extBut b o (by rintro rfl; rw [hB] at q; cases q) (S.stay b o q)
  have other : ∀ b o, h.get? b = some o → (∀ vs n, o.data ≠ .seq vs n) → h'.get? b = some o := fun b o q hd => hs.extBut b o (by rintro rfl; rw [e] at q; cases q; exact hd _ _ rfl) q
  have kns : ∀ {m}, h.Ns C.env.locals m → h'.Ns C.env.locals m := fun hn => by
    obtain ⟨o, es, ep, ho, hd, r⟩ := hn
    exact ⟨o, es, ep, other _ _ ho (fun vs n q => by rw [hd] at q; cases q), hd, r⟩
  refine ⟨⟨⟨stay, fun b o q => ?_⟩, let ⟨m, hn⟩ := S.ns; ⟨m, kns hn⟩, fun x u q => ?_⟩, fun b o hb q e' => ?_⟩
  · unfold upd at q
    split at q
    · next eb => cases q; subst eb; exact ⟨vs', n, none, #[], hr, hn, fun _ => ⟨rfl, rfl, hB⟩⟩
    · next eb => exact (S.rep b o q).keep fun o' e' => hs.extBut b o' eb e'
  · obtain ⟨hd, v, hv, H⟩ := S.vars x u q
    refine ⟨hd, v, hv, ?_⟩
    rcases H with ⟨hk, m₁, hn₁, e⟩ | ⟨hk, c, hc, o, ho, hd⟩
    · exact .inl ⟨hk, m₁, kns hn₁, e⟩
    · exact .inr ⟨hk, c, hc, o, other _ _ ho (fun vs n q => by rw [hd] at q; cases q), hd⟩
  · have hba : b ≠ a := by rintro rfl; rw [ha] at q; cases q
    exact ⟨hs.extBut b o hba e', by rw [upd_ne hba]; exact q⟩

theorem at_mut {B h : Heap} {a : Addr} {xs : List AV} (x : (AO.lst true xs).at B h a) : ∃ vs n, Are xs vs ∧ h.get? a = some { cls := .type "list", data := .seq vs.toArray n } :=
  let ⟨vs, n, d, sl, r, e, q⟩ := x; ⟨vs, n, r, by rw [(q rfl).1, (q rfl).2.1] at e; exact e⟩

theorem X_setitem {o i value : Expr} {pos' pos : Pos}
    (h : EV G C value μ σ fun u σ₁ => EV G C o μ σ₁ fun w σ₂ => EV G C i μ σ₂ fun k σ₃ => ∃ a xs j, w = .ref a ∧ k = .int j ∧ σ₃ a = some (.lst true xs) ∧ 0 ≤ j ∧ j < (xs.length : Int) ∧ xs.length ≤ 1000000 ∧
      N μ (upd σ₃ a (.lst true (xs.set j.toNat u))))
    (hs : swapsWith value (some (.Subscript o i pos')) pos.line C.env = pure false := by with_unfolding_all rfl) : X1 G C (.Assign [.Subscript o i pos'] value pos) μ σ N R := fun s S =>
  wpAny_Assign_Subscript (VP.bind (h s S) fun u v σ₁ s₁ hu h₁ S₁ k₁ m₁ => VP.bind (h₁ s₁ S₁) fun w vw σ₂ s₂ hw h₂ S₂ k₂ m₂ => VP.bind (h₂ s₂ S₂) fun k vk σ₃ s₃ hk ⟨a, xs, j, ew, ek, ha, j0, j1, hl, hq⟩ S₃ k₃ m₃ => by
    subst ew ek
    cases hw
    obtain ⟨t, rfl⟩ := hk
    obtain ⟨vs, n, hr, e⟩ := at_mut (S₃.rep a _ ha)
    have hlen := hr.length
    refine list_store e rfl rfl j0 (by omega) (by simp only [List.size_toArray]; omega) ?_
    have hnew : (s₃.heap.update a (Obj.mapSeq fun x => x.setIfInBounds j.toNat v)).get? a = some { cls := .type "list", data := .seq (vs.set j.toNat v).toArray n } := by
      rw [Heap.get?_update_self _ e (by rfl)]
      simp [Obj.mapSeq]
    obtain ⟨S₄, k₄⟩ := S₃.change ha (Heap.SameBut.update ..) hnew (Are.set hu _ _ j.toNat hr)
    exact XP.next hq S₄ (((k₁.trans k₂).trans k₃).trans k₄) (((m₁.trans m₂).trans m₃).trans Same.heap)) hs

theorem X_append {o e : Expr} {apos cpos pos : Pos} {pl : Sem Bool}
    (h : EV G C o μ σ fun w σ₁ => ∃ a xs, w = .ref a ∧ σ₁ a = some (.lst true xs) ∧ EV G C e μ σ₁ fun u σ₂ => ∃ xs, σ₂ a = some (.lst true xs) ∧ xs.length ≤ 1000000 ∧ N μ (upd σ₂ a (.lst true (xs ++ [u]))))
    (hi : interactive C.env = false := by with_unfolding_all rfl) (hs : swapsWith (.Call (.Attribute o "append" apos) [e] [] cpos) none pos.line C.env = pure false := by with_unfolding_all rfl)
    (he : eval (.Call (.Attribute o "append" apos) [e] [] cpos) C.env = (do
      let ov ← eval o C.env
      standAt apos.atName
      let (f, first) ← holding [ov] (getMethod ov "append" pl)
      callWith cpos f first (backTo cpos (starEach [e] C.env)) []) := by with_unfolding_all rfl)
    (he' : starEach [e] C.env = (false, eval e C.env) :: starEach [] C.env := by with_unfolding_all rfl) : X1 G C (.Expr (.Call (.Attribute o "append" apos) [e] [] cpos) pos) μ σ N R := fun s S =>
  wpAny_Expr (MethodCall_ (VP.bind (h s S) fun w vw σ₁ s₁ hw ⟨a, xs, ew, ha, h₁⟩ S₁ k₁ m₁ => by
    subst ew
    cases hw
    obtain ⟨vs, n, hr, e₁⟩ := at_mut (S₁.rep a _ ha)
    refine getMethod_list_append e₁ rfl rfl ?_
    refine callWith_method1 (args_cons (VP.bind (h₁ s₁ S₁) fun u v σ₂ s₂ hu ⟨xs', ha', hl, hq⟩ S₂ k₂ m₂ => args_nil ?_) he') he'
    obtain ⟨vs', n', hr', e₂⟩ := at_mut (S₂.rep a _ ha')
    have hlen := hr'.length
    refine append_at e₂ (fun h' hs' hn' => ?_) (by rw [List.size_toArray, ← hlen, sizeLine_eq]; omega)
    obtain ⟨S₃, k₃⟩ := S₂.change (vs' := vs' ++ [v]) (n := n' + 1) ha' hs' (by rw [hn']; simp) (hr'.append (us' := [u]) ⟨hu, trivial⟩)
    exact XP.next hq S₃ ((k₁.trans k₂).trans k₃) ((m₁.trans m₂).trans Same.heap)) he) hi hs

/-- a call whose value is let go: it gives none -/
theorem X_expr {e : Expr} {pos : Pos} (h : EV G C e μ σ fun u σ₁ => u = .none ∧ N μ σ₁)
    (hi : interactive C.env = false := by with_unfolding_all rfl) (hs : swapsWith e none pos.line C.env = pure false := by with_unfolding_all rfl) : X1 G C (.Expr e pos) μ σ N R := fun s S =>
  wpAny_Expr (VP.bind (h s S) fun u v σ₁ s₁ hu ⟨eu, hq⟩ S₁ k₁ m₁ => by
    subst eu; cases hu; exact XP.next hq S₁ k₁ m₁) hi hs

/-! ### while -/
theorem X_while {test : Expr} {body : List Stmt} {pos : Pos} (I : Nat → Mu → AH → Prop) (n : Nat) (h0 : I n μ σ)
    (step : ∀ n μ σ, I n μ σ → ET G C test μ σ fun b σ₁ => if b = true then XS G C body μ σ₁ (fun μ₂ σ₂ => ∃ m, m < n ∧ I m μ₂ σ₂) R else N μ σ₁) : X1 G C (.While test body [] pos) μ σ N R := fun s S => by
  have hmark : C.A.mark none = C.A := by
    obtain ⟨A, _, _, _⟩ := C
    cases A; rfl
  refine wpAny_While ?_
  refine codeAny_whileLoop (fun n s' => ∃ μ' σ', I n μ' σ' ∧ St G C μ' σ' s'.heap ∧ Step (some C.env.locals) σ s.heap σ' s'.heap ∧ Same s s') ?_ n ⟨μ, σ, h0, S, Step.refl, Same.refl s⟩
  rintro n s' ⟨μ', σ', hI, S', k', m'⟩
  refine wpAny_mono (VP.bind (k := fun b s₂ => if b = true then wpAny (model G.prog G.w) C.A (execs body C.env) (fun f s₃ => (match f with
      | .next | .cont => ∃ m, m < n ∧ ∃ μ' σ', I m μ' σ' ∧ St G C μ' σ' s₃.heap ∧ Step (some C.env.locals) σ s.heap σ' s₃.heap ∧ Same s s₃
      | .brk => XP G C μ σ s N R .next s₃
      | .ret v => XP G C μ σ s N R (.ret v) s₃)) (fun _ _ => False) s₂ else XP G C μ σ s N R .next s₂) (step n μ' σ' hI s' S') fun u v σ₁ s₁ hu hq S₁ k₁ m₁ => ?_) (fun b s₂ h => ?_) fun _ _ e => e.elim
  · subst hu
    cases u with
    | false => simp only [Bool.false_eq_true, if_false] at hq ⊢; exact XP.next hq S₁ (k'.trans k₁) (m'.trans m₁)
    | true =>
      simp only [if_true] at hq ⊢
      refine wpAny_mono (hq s₁ S₁) (fun f s₃ q => ?_) fun _ _ e => e
      rcases q with ⟨e, μ'', σ'', ⟨m, hm, hI'⟩, h2, h3, h4⟩ | ⟨v, u, σ'', h1, h2, h3, h4, h5, h6⟩
      · subst e; exact ⟨m, hm, μ'', σ'', hI', h2, (k'.trans k₁).trans h3, (m'.trans m₁).trans h4⟩
      · subst h1; exact .inr ⟨v, u, σ'', rfl, h2, h3, h4, (k'.trans k₁).trans h5, (m'.trans m₁).trans h6⟩
  · cases b with
    | false => simp only [Bool.false_eq_true, if_false] at h ⊢; exact wpAny_execs_nil h
    | true =>
      simp only [if_true] at h ⊢
      refine wpAny_mono h (fun f s₃ q => ?_) fun _ _ e => e.elim
      cases f <;> exact q

/-! ### entering a def -/
theorem lk_zip {names : List Str} : ∀ {us : List AV} {vs : List Value} {acc : Mu} {bs : List (Str × Value)}, Are us vs → (∀ x u, lk acc x = some u → ∃ v, AV.is u v ∧ bs.lookup x = some v) →
    ∀ x u, lk ((names.zip us).reverse ++ acc) x = some u → ∃ v, AV.is u v ∧ ((names.zip vs).reverse ++ bs).lookup x = some v := by
  induction names with
  | nil => intro us vs acc bs _ h x u q; simp at q ⊢; exact h x u q
  | cons n names ih =>
    intro us vs acc bs ha h x u q
    match us, vs, ha with
    | [], [], _ => simp at q ⊢; exact h x u q
    | a :: us, v :: vs, ha =>
      simp only [List.zip_cons_cons, List.reverse_cons, List.append_assoc, List.singleton_append] at q ⊢
      refine ih (us := us) (vs := vs) (acc := (n, a) :: acc) (bs := (n, v) :: bs) ha.2 (fun y w q => ?_) x u q
      unfold lk at q
      split at q
      · next e => cases q; exact ⟨v, ha.1, by simp [e]⟩
      · next e =>
        obtain ⟨v', h1, h2⟩ := h y w q
        refine ⟨v', h1, ?_⟩
        have : (y == n) = false := by simpa using e
        simp [List.lookup_cons, this, h2]

theorem lk_mem : ∀ {μ : Mu} {x : Str} {u : AV}, lk μ x = some u → (x, u) ∈ μ
  | (y, v) :: r, x, u, h => by
    unfold lk at h
    split at h
    · next e => cases h; subst e; exact .head _
    · exact .tail _ (lk_mem h)

/-- the context of a def's body -/
def mkC (G : GC) (name : Str) (scope : Scope) (A : Around) (L f : Addr) (cd : Value) (l : Nat) (hh : A.handled = none) (hk : scope.kind = .function) (room : A.depth + l < recursionLimit) (units : A.units + 20 * l + 40 < cLine) (hL : G.B.get? L = none) : FC G :=
  { A := A, env := envOf name scope L f cd, lv := l, hh := hh, hk := hk, hg := rfl, hb := rfl, room := room, units := units, hL := hL }

theorem FN_intro {d : DefRec} {us : List AV} {Q : AV → AH → Prop} {l : Nat} {names : List Str} (hd : d ∈ theDefs)
    (hbind : ∀ vs, Are us vs → ∀ pm cd doc, bindArgs (docDef d.name d.params d.body d.scope pm cd doc) ⟨vs, []⟩ = pure (names.zip vs))
    (hloc : ∀ x ∈ names, d.scope.names.lookup x = some .local ∧ (x == ("__debug__" : Str)) = false)
    (hk : d.scope.kind = .function)
    (body : ∀ A L f cd hh room units hL, XS G (mkC G d.name d.scope A L f cd l hh hk room units hL) d.body (names.zip us).reverse σ (fun _ σ' => Q .none σ') Q)
    (hco : d.scope.isCoroutine = false) (hgen : d.scope.isGenerator = false) (hcell : ∀ x ∈ d.scope.names, x.2 ≠ .cell) : FN G (l + 1) (G.fa d.name) us σ Q := by
  intro A s vs hh hroom hunits S hvs
  obtain ⟨o, pm, code, doc, h1, h2, h3, h4⟩ := G.fnAt hd
  refine wpAny_call (call_plain_ret (binds := names.zip vs) (by omega) (S.stay _ _ h2) h3 (G.nolimit.keeps S.stay) (h4.keeps S.stay) (hbind vs hvs pm code doc) (fun x hx => (hloc x.1 (List.of_mem_zip hx).1).1) (fun h₁ F => ?_) hco hgen hk hcell)
  have hk1 : ∀ b o, s.heap.get? b = some o → h₁.get? b = some o := F.keep
  have S1 : StG G σ h₁ := S.ext hk1
  have hL : G.B.get? s.heap.objs.size = none := S.Bfresh
  have hr : (A.deeper (envOf d.name d.scope s.heap.objs.size (G.fa d.name) code)).depth + l < recursionLimit := by show A.depth + 1 + l < _; omega
  have hu : (A.deeper (envOf d.name d.scope s.heap.objs.size (G.fa d.name) code)).units + 20 * l + 40 < cLine := by show A.units + 3 + 20 * l + 40 < _; omega
  have B := body (A.deeper (envOf d.name d.scope s.heap.objs.size (G.fa d.name) code)) s.heap.objs.size (G.fa d.name) code hh hr hu hL
  refine wpAny_mono (B { s with heap := h₁, toks := s.toks + (names.zip vs).length } ⟨S1, ⟨_, F.ns⟩, fun x u q => ?_⟩) (fun f s' q => ?_) fun _ _ e => e
  · have q' : lk ((names.zip us).reverse ++ []) x = some u := by rw [List.append_nil]; exact q
    obtain ⟨v, hv, e⟩ := lk_zip (bs := []) hvs (fun _ _ q => by cases q) x u q'
    rw [List.append_nil] at e
    have hx : x ∈ names := by
      have := lk_mem q
      exact (List.of_mem_zip (List.mem_reverse.mp this)).1
    exact ⟨(hloc x hx).2, v, hv, .inl ⟨(hloc x hx).1, _, F.ns, e⟩⟩
  · have kk : ∀ {σ'} {h' : Heap}, Step (some s.heap.objs.size) σ h₁ σ' h' → Step none σ s.heap σ' h' := fun k b o _ n e =>
      k b o (fun q => by have := Heap.lt_size e; rw [Option.some.inj q] at this; exact Nat.lt_irrefl _ this) n (hk1 b o e)
    rcases q with ⟨e, μ'', σ'', hN, h2, h3, h4⟩ | ⟨v, u, σ'', e, h2, h3, h4, h5, h6⟩
    · subst e; exact ⟨.none, σ'', rfl, hN, h2.toStG, kk h3, Same.both.trans h4⟩
    · subst e; exact ⟨u, σ'', h2, h3, h4, kk h5, Same.both.trans h6⟩
end

/-! ### to forget -/
def Le (σ' σ : AH) : Prop := ∀ a o, σ' a = some o → σ a = some o
theorem Le.refl (σ : AH) : Le σ σ := fun _ _ h => h
theorem Le.no {σ' σ : AH} (h : Le σ' σ) {a : Addr} (n : σ a = none) : σ' a = none := by
  cases q : σ' a with
  | none => rfl
  | some o => rw [h a o q] at n; cases n
theorem Le.trans {σ₁ σ₂ σ₃ : AH} (x : Le σ₁ σ₂) (y : Le σ₂ σ₃) : Le σ₁ σ₃ := fun a o h => y a o (x a o h)
theorem Le.upd {σ' σ : AH} (h : Le σ' σ) (r : Addr) (o : AO) : Le (upd σ' r o) (upd σ r o) := fun a x q => by
  unfold Mine.upd at q ⊢
  split at q
  · next e => rw [if_pos e]; exact q
  · next e => rw [if_neg e]; exact h a x q
theorem Le.fresh {σ' σ : AH} (h : Le σ' σ) {r : Addr} (o : AO) (n : σ' r = none) : Le σ' (Mine.upd σ r o) := fun a x q => by
  unfold Mine.upd
  split
  · next e => rw [e, n] at q; cases q
  · exact h a x q
/-- an entry that the smaller one holds too, and that stands behind others -/
theorem Le.of {σ' σ : AH} {r : Addr} {o : AO} (h : Le σ' σ) (e : σ r = some o) : Le (Mine.upd σ' r o) σ := fun a x q => by
  unfold Mine.upd at q
  split at q
  · next e' => cases q; rw [e']; exact e
  · exact h a x q
theorem upd_upd (σ : AH) (r : Addr) (o o' : AO) : upd (upd σ r o) r o' = upd σ r o' := by
  funext a; unfold upd; split <;> rfl
theorem upd_comm (σ : AH) {r r' : Addr} (o o' : AO) (h : r ≠ r') : upd (upd σ r o) r' o' = upd (upd σ r' o') r o := by
  funext a
  unfold upd
  by_cases h1 : a = r
  · by_cases h2 : a = r'
    · exact absurd (h1.symm.trans h2) h
    · rw [if_neg h2, if_pos h1, if_pos h1]
  · rw [if_neg h1, if_neg h1]
theorem ne_of_none {σ : AH} {a r : Addr} {o : AO} (h : σ a = some o) (n : σ r = none) : a ≠ r := by rintro rfl; rw [n] at h; cases h
theorem upd_self_eq {σ : AH} {a : Addr} {o : AO} (h : σ a = some o) : upd σ a o = σ := by
  funext b; unfold upd; split
  · next e => rw [e, h]
  · rfl

def SubL : Mu → Mu → Prop
  | [], _ => True
  | (x, u) :: r, μ => lk μ x = some u ∧ SubL r μ
theorem SubL.lk : ∀ {μ' μ : Mu}, SubL μ' μ → ∀ {x : Str} {u : AV}, Mine.lk μ' x = some u → Mine.lk μ x = some u
  | (y, w) :: r, μ, h, x, u, q => by
    unfold Mine.lk at q
    split at q
    · next e => cases q; rw [e]; exact h.1
    · exact SubL.lk h.2 q

section
variable {G : GC} {C : FC G} {μ : Mu} {σ : AH} {N : Mu → AH → Prop} {R : AV → AH → Prop}

theorem StG.le {σ' : AH} {h : Heap} (S : StG G σ h) (k : Le σ' σ) : StG G σ' h := ⟨S.stay, fun a o q => S.rep a o (k a o q)⟩
theorem St.le {σ' : AH} {μ' : Mu} {h : Heap} (S : St G C μ σ h) (k : Le σ' σ) (m : SubL μ' μ) : St G C μ' σ' h := ⟨S.toStG.le k, S.ns, fun x u q => S.vars x u (m.lk q)⟩
theorem Step.le {L : Option Addr} {σ₁ σ₂ σ' : AH} {h h' : Heap} (x : Step L σ₁ h σ₂ h') (k : Le σ' σ₂) : Step L σ₁ h σ' h' := fun b o hb n e => let ⟨p, q⟩ := x b o hb n e; ⟨p, k.no q⟩
theorem Step.down {L : Option Addr} {σ' σ : AH} {h : Heap} (k : Le σ' σ) : Step L σ h σ' h := fun b o _ n e => ⟨e, k.no n⟩

theorem XS_forget {st : List Stmt} {μ' : Mu} {σ' : AH} (k : Le σ' σ) (m : SubL μ' μ) (h : XS G C st μ' σ' N R) : XS G C st μ σ N R := fun s S =>
  xwp_after (Step.down k) (Same.refl s) (h s (S.le k m))

/-- the end of a way: what comes back, over less -/
theorem X_retL {e : Expr} {pos : Pos} (h : EV G C e μ σ fun u σ₁ => ∃ σ₂, Le σ₂ σ₁ ∧ R u σ₂) : X1 G C (.Return (some e) pos) μ σ N R := fun s S =>
  wpAny_Return_some (VP.bind (h s S) fun u v σ₁ s₁ hu ⟨σ₂, k, hq⟩ S₁ k₁ m₁ => .inr ⟨v, u, σ₂, rfl, hu, hq, S₁.toStG.le k, k₁.le k, m₁⟩)

/-- what the loop's turn hands on -/
def Hand (I : Mu → AH → Prop) (μ : Mu) (σ : AH) : Prop := ∃ μ' σ', SubL μ' μ ∧ Le σ' σ ∧ I μ' σ'

theorem XP.hand {s s' : Shared} {f : Flow} {I : Mu → AH → Prop} {R : AV → AH → Prop} (h : XP G C μ σ s (Hand I) R f s') : XP G C μ σ s I R f s' := by
  rcases h with ⟨e, μ'', σ'', ⟨μ₃, σ₃, hs, hl, hI⟩, h2, h3, h4⟩ | q
  · exact .inl ⟨e, μ₃, σ₃, hI, h2.le hl hs, h3.le hl, h4⟩
  · exact .inr q

theorem XS_hand {st : List Stmt} {I : Mu → AH → Prop} (h : XS G C st μ σ (Hand I) R) : XS G C st μ σ I R := fun s S =>
  wpAny_mono (h s S) (fun f s' q => XP.hand q) fun _ _ e => e

theorem X_whileL {test : Expr} {body : List Stmt} {pos : Pos} (I : Nat → Mu → AH → Prop) (n : Nat) (h0 : I n μ σ)
    (step : ∀ n μ σ, I n μ σ → ET G C test μ σ fun b σ₁ => if b = true then XS G C body μ σ₁ (Hand fun μ₂ σ₂ => ∃ m, m < n ∧ I m μ₂ σ₂) R else N μ σ₁) : X1 G C (.While test body [] pos) μ σ N R :=
  X_while I n h0 fun n μ σ hI => (step n μ σ hI).mono fun b σ₁ q => by
    cases b with
    | false => simpa using q
    | true => simp only [if_true] at q ⊢; exact XS_hand q

/-! ### for over an iterator of the machine's own -/
/-- things of the machine's own (no list, no names, no cell) turn -/
theorem St.turn {h h' : Heap} (Ms : Addr → Prop) (S : St G C μ σ h) (hB : ∀ b, Ms b → G.B.get? b = none) (hd : ∀ b, Ms b → ∃ o vs, h.get? b = some o ∧ o.data = .fields vs) (k : ∀ b o, ¬ Ms b → h.get? b = some o → h'.get? b = some o) : St G C μ σ h' := by
  have other : ∀ b o', h.get? b = some o' → (∀ vs, o'.data ≠ .fields vs) → h'.get? b = some o' := fun b o' q hdo => k b o' (fun hm => by
    obtain ⟨o, vs, ho, hdd⟩ := hd b hm
    rw [ho] at q; cases q; exact hdo _ hdd) q
  have kns : ∀ {m}, h.Ns C.env.locals m → h'.Ns C.env.locals m := fun hn => by
    obtain ⟨oL, es, ep, hoL, hdL, r⟩ := hn
    exact ⟨oL, es, ep, other _ _ hoL (fun vs q => by rw [hdL] at q; cases q), hdL, r⟩
  refine ⟨⟨fun b o' q => k b o' (fun hm => by rw [hB b hm] at q; cases q) (S.stay b o' q), fun a ao q => ?_⟩, let ⟨m, hn⟩ := S.ns; ⟨m, kns hn⟩, fun x u q => ?_⟩
  · refine (S.rep a ao q).keep fun o' e => k a o' (fun hm => ?_) e
    obtain ⟨o, vs, ho, hdd⟩ := hd a hm
    have := S.toStG.none_of ho (fun vs n q => by rw [hdd] at q; cases q)
    rw [this] at q; cases q
  · obtain ⟨hdb, v, hv, H⟩ := S.vars x u q
    refine ⟨hdb, v, hv, ?_⟩
    rcases H with ⟨hk, m₁, hn₁, e⟩ | ⟨hk, c, hc, o', ho', hd'⟩
    · exact .inl ⟨hk, m₁, kns hn₁, e⟩
    · exact .inr ⟨hk, c, hc, o', other _ _ ho' (fun vs q => by rw [hd'] at q; cases q), hd'⟩

theorem notMark (C : FC G) : C.A.mark none = C.A := by
  obtain ⟨A, _, _, _⟩ := C
  cases A; rfl

/-- the loop itself: It i h says how the machine's own things Ms stand ahead of the turn i -/
theorem for_core {target : Expr} {body : List Stmt} {s : Shared} {I : Addr} (Ms : Addr → Prop) (M : Nat) (It : Nat → Heap → Prop) (inv : Nat → Mu → AH → Prop)
    (hMs : ∀ b, Ms b → b ≠ C.env.locals ∧ G.B.get? b = none) (hσ : ∀ h i, It i h → ∀ b, Ms b → ∃ o vs, h.get? b = some o ∧ o.data = .fields vs)
    (keepIt : ∀ i h h', It i h → (∀ b o, Ms b → h.get? b = some o → h'.get? b = some o) → It i h')
    (S : St G C μ σ s.heap) (h0 : It 0 s.heap) (i0 : inv 0 μ σ)
    (last : ∀ s' μ' σ', It M s'.heap → inv M μ' σ' → St G C μ' σ' s'.heap → ∀ (Q : Option Value → Shared → Prop), (∀ h', (∀ b o, ¬ Ms b → s'.heap.get? b = some o → h'.get? b = some o) → Q none { s' with heap := h' }) → wpAny (model G.prog G.w) C.A (pyNext (.ref I)) Q (fun _ _ => False) s')
    (turn : ∀ i s' μ' σ', i < M → It i s'.heap → inv i μ' σ' → St G C μ' σ' s'.heap → wpAny (model G.prog G.w) C.A (pyNext (.ref I)) (fun r s₁ => ∃ v, r = some v ∧
      wpAny (model G.prog G.w) C.A (letOwnedTupleGo target (.ref I) v) (fun _ s₂ => wpAny (model G.prog G.w) C.A (assign target C.env v) (fun _ s₃ => ∃ μ₃, St G C μ₃ σ' s₃.heap ∧ It (i + 1) s₃.heap ∧
        (∀ b o, b ≠ C.env.locals → ¬ Ms b → σ' b = none → s'.heap.get? b = some o → s₃.heap.get? b = some o) ∧ Same s' s₃ ∧ XS G C body μ₃ σ' (inv (i + 1)) R) (fun _ _ => False) s₂) (fun _ _ => False) s₁) (fun _ _ => False) s')
    (fin : ∀ μ' σ', inv M μ' σ' → N μ' σ') {Rr : Result → Shared → Prop}
    (hR : ∀ f s', (∃ μ' σ', f = .next ∧ N μ' σ' ∧ St G C μ' σ' s'.heap ∧ (∀ b o, b ≠ C.env.locals → ¬ Ms b → σ b = none → s.heap.get? b = some o → s'.heap.get? b = some o ∧ σ' b = none) ∧ Same s s') ∨
      (∃ v u σ', f = .ret v ∧ AV.is u v ∧ R u σ' ∧ StG G σ' s'.heap ∧ (∀ b o, b ≠ C.env.locals → ¬ Ms b → σ b = none → s.heap.get? b = some o → s'.heap.get? b = some o ∧ σ' b = none) ∧ Same s s') → Rr (.ok f) s') :
    codeAny (model G.prog G.w) C.A (.forLoop target (.ref I) body [] C.env) Rr s := by
  refine codeAny_forLoop_any (fun n s' => ∃ i μ' σ', i ≤ M ∧ n = M + 1 - i ∧ It i s'.heap ∧ inv i μ' σ' ∧ St G C μ' σ' s'.heap ∧ (∀ b o, b ≠ C.env.locals → ¬ Ms b → σ b = none → s.heap.get? b = some o → s'.heap.get? b = some o ∧ σ' b = none) ∧ Same s s')
    ?_ (M + 1) ⟨0, μ, σ, Nat.zero_le _, rfl, h0, i0, S, fun b o _ _ n e => ⟨e, n⟩, Same.refl s⟩
  rintro n s' ⟨i, μ', σ', hi, rfl, hIt, hinv, S', k', m'⟩
  by_cases hlt : i < M
  · refine wpAny_mono (turn i s' μ' σ' hlt hIt hinv S') (fun r s₁ q => ?_) fun _ _ e => e.elim
    obtain ⟨v, rfl, q⟩ := q
    refine wpAny_mono q (fun _ s₂ q => wpAny_mono q (fun _ s₃ q => ?_) fun _ _ e => e.elim) fun _ _ e => e.elim
    obtain ⟨μ₃, S₃, It₃, k₃, m₃, hX⟩ := q
    refine wpAny_mono (hX s₃ S₃) (fun f s₄ q => ?_) fun _ _ e => e.elim
    have keepI : ∀ σ'' h₄, Step (some C.env.locals) σ' s₃.heap σ'' h₄ → It (i + 1) h₄ := fun σ'' h₄ k => by
      refine keepIt (i + 1) _ _ It₃ fun b o hb e => (k b o (fun q => (hMs b hb).1 (Option.some.inj q)) ?_ e).1
      obtain ⟨o', vs, ho', hd'⟩ := hσ _ _ It₃ b hb
      exact S₃.toStG.none_of ho' fun _ _ q => by rw [hd'] at q; cases q
    have chain : ∀ σ'' h₄, Step (some C.env.locals) σ' s₃.heap σ'' h₄ → ∀ b o, b ≠ C.env.locals → ¬ Ms b → σ b = none → s.heap.get? b = some o → h₄.get? b = some o ∧ σ'' b = none := fun σ'' h₄ k b o hbL hbI n e => by
      obtain ⟨e1, n1⟩ := k' b o hbL hbI n e
      exact k b o (fun q => hbL (Option.some.inj q)) n1 (k₃ b o hbL hbI n1 e1)
    rcases q with ⟨e, μ'', σ'', hN, h2, h3, h4⟩ | ⟨v, u, σ'', e, h2, h3, h4, h5, h6⟩
    · subst e
      exact ⟨M + 1 - (i + 1), by omega, i + 1, μ'', σ'', hlt, rfl, keepI σ'' _ h3, hN, h2, chain σ'' _ h3, (m'.trans m₃).trans h4⟩
    · subst e
      exact hR _ _ (.inr ⟨v, u, σ'', rfl, h2, h3, h4, chain σ'' _ h5, (m'.trans m₃).trans h6⟩)
  · have hiM : i = M := by omega
    subst hiM
    refine wpAny_mono (last s' μ' σ' hIt hinv S' (fun r s₁ => r = none ∧ Rr (.ok .next) s₁) ?_) (fun r s₁ q => ?_) fun _ _ e => e.elim
    · intro h' he
      have S1 : St G C μ' σ' h' := S'.turn Ms (fun b hb => (hMs b hb).2) (hσ _ _ hIt) he
      refine ⟨rfl, hR _ _ (.inl ⟨μ', σ', rfl, fin _ _ hinv, S1, fun b o hbL hbI n e => ?_, m'.trans Same.heap⟩)⟩
      obtain ⟨e1, n1⟩ := k' b o hbL hbI n e
      exact ⟨he b o hbI e1, n1⟩
    · obtain ⟨rfl, hq⟩ := q
      exact wpAny_execs_nil hq
end
section
variable {G : GC} {C : FC G} {μ : Mu} {σ : AH} {N : Mu → AH → Prop} {R : AV → AH → Prop}

theorem asB {b : Bool} {K : Bool → Prop} (h : K b) : asBool (.bool b) K := ⟨b, rfl, h⟩

/-- a call of a built-in type with any end -/
theorem call_type_K {x : Str} {T : String} {e : Expr} {es : List Expr} {p pos : Pos} {s : Shared} {K : Value → Shared → Prop} {P : List AV → AH → Prop} (S : St G C μ σ s.heap)
    (hk : C.env.kindOf x = some .globalImplicit) (hb : bootBuiltins x = some (.type T)) (hf : G.mg x = none)
    (h : EVs G C (e :: es) μ σ P)
    (hK : ∀ us vs σ₁ s₁, Are us vs → P us σ₁ → St G C μ σ₁ s₁.heap → Step (some C.env.locals) σ s.heap σ₁ s₁.heap → Same s s₁ → wpAny (model G.prog G.w) C.A (call (.type T) vs) K (fun _ _ => False) s₁)
    (hn : x ≠ "__name__") (hd : (x == ("__debug__" : Str)) = false)
    (he : eval (.Call (.Name x p) (e :: es) [] pos) C.env = (do callWith pos (← eval (.Name x p) C.env) [] (backTo pos (starEach (e :: es) C.env)) (backToKw pos (keywordEach [] C.env))))
    (he' : starEach (e :: es) C.env = (false, eval e C.env) :: starEach es C.env)
    (hplain : (backTo pos (starEach es C.env)).any (·.1) = false) :
    wpAny (model G.prog G.w) C.A (eval (.Call (.Name x p) (e :: es) [] pos) C.env) K (fun _ _ => False) s :=
  Call_ (Name_function_global C.hk hk (loadGlobal_builtin (by rw [C.hg]; exact G.g.keeps S.stay) hf (by rw [C.hb]; exact G.b.keeps S.stay) ((G.builtins x hn).trans hb)
    (PyProof.Rows.callWith_type1 (VP.bind (h pos s S) fun us vs σ₁ s₁ hus h₁ S₁ k₁ m₁ => hK us vs σ₁ s₁ hus h₁ S₁ k₁ m₁) he' hplain)) hd) he

/-- how a range is asked for -/
inductive RangeArgs : List AV → Int → Int → Int → Prop
  | one (b : Int) : RangeArgs [.int b] 0 b 1
  | two (a b : Int) : RangeArgs [.int a, .int b] a b 1
  | down (a b : Int) : RangeArgs [.int a, .int b, .int (-1)] a b (-1)

theorem call_range {us : List AV} {vs : List Value} {a b c : Int} {s : Shared} {K : Value → Shared → Prop} (hr : RangeArgs us a b c) (hv : Are us vs) (hs : -(2 ^ 62) ≤ a ∧ a ≤ 2 ^ 62 ∧ -(2 ^ 62) ≤ b ∧ b ≤ 2 ^ 62)
    (h : ∀ t u v tk, K (.ref s.heap.objs.size) { s with heap := s.heap.push { cls := .type "range", data := .fields #[.int a t, .int b u, .int c v] }, toks := tk }) :
    wpAny (model G.prog G.w) C.A (call (.type "range") vs) K (fun _ _ => False) s := by
  cases hr with
  | one b => obtain ⟨v, rfl, t, rfl⟩ := are1 hv; exact call_range_1 (h _ _ _ _)
  | two a b => obtain ⟨v, v', rfl, ⟨t, rfl⟩, ⟨t', rfl⟩⟩ := are2 hv; exact call_range_2 (h _ _ _ _)
  | down a b =>
    obtain ⟨v, v', v'', rfl, ⟨t, rfl⟩, ⟨t', rfl⟩, ⟨t'', rfl⟩⟩ := are3 hv
    exact call_range_3 (by decide) (h _ _ _ _) (.inl (PyProof.noPylong_small (by omega)))

theorem ns_ne {h : Heap} {L : Addr} {m : Str → Option Value} (hn : h.Ns L m) {a : Addr} (ha : h.objs.size ≤ a) : a ≠ L := fun e => by
  have := hn.lt; rw [e] at ha; exact Nat.lt_irrefl _ (Nat.lt_of_lt_of_le this ha)

theorem letOwned_name {x : Str} {p : Pos} (it v : Value) : letOwnedTupleGo (.Name x p) it v = pure () := rfl

theorem X_forRange {x : Str} {px p rpos pos : Pos} {e : Expr} {es : List Expr} {body : List Stmt} (hk : C.env.kindOf x = some .local) (hr : C.env.kindOf "range" = some .globalImplicit)
    (h : EVs G C (e :: es) μ σ fun us σ₁ => ∃ (a b c : Int) (M : Nat) (I : Nat → Mu → AH → Prop), RangeArgs us a b c ∧ (-1000000000 ≤ a ∧ a ≤ 1000000000 ∧ -1000000000 ≤ b ∧ b ≤ 1000000000) ∧ Builtin.Range.rangeSize a b c = (M : Int) ∧
      Hand (I 0) μ σ₁ ∧ (∀ i μ' σ', i < M → I i μ' σ' → XS G C body ((x, .int (a + i * c)) :: μ') σ' (Hand (I (i + 1))) R) ∧ (∀ μ' σ', I M μ' σ' → N μ' σ'))
    (hs : ∀ y, foldedSetIterable (.Call (.Name "range" p) (e :: es) [] rpos) C.env y = pure y := by intro _; with_unfolding_all rfl)
    (he : eval (.Call (.Name "range" p) (e :: es) [] rpos) C.env = (do callWith rpos (← eval (.Name "range" p) C.env) [] (backTo rpos (starEach (e :: es) C.env)) (backToKw rpos (keywordEach [] C.env))) := by with_unfolding_all rfl)
    (he' : starEach (e :: es) C.env = (false, eval e C.env) :: starEach es C.env := by with_unfolding_all rfl)
    (hplain : (backTo rpos (starEach es C.env)).any (·.1) = false := by with_unfolding_all rfl) (hd : (x == ("__debug__" : Str)) = false := by decide) :
    X1 G C (.For (.Name x px) (.Call (.Name "range" p) (e :: es) [] rpos) body [] pos) μ σ N R := fun s S => by
  refine wpAny_For (call_type_K S hr boot_range (G.no (by decide)) h (fun us vs σ₁ s₁ hus hP S₁ k₁ m₁ => ?_) (by decide) (by decide) he he' hplain) hs
  obtain ⟨a, b, c, M, I, hargs, ⟨a1, a2, b1, b2⟩, hM, ⟨μ₀, σ₀, hsub, hle, hI⟩, hstep, hfin⟩ := hP
  have hcs : c = 1 ∨ c = -1 := by cases hargs <;> simp
  refine call_range hargs hus (by omega) fun t u v tk => ?_
  have hsmall : Builtin.Range.small a b c = true := by
    unfold Builtin.Range.small
    rw [hM]
    have : (M : Int) ≤ 2000000000 := by
      rw [← hM]
      unfold Builtin.Range.rangeSize
      rcases hcs with rfl | rfl
      · simp only [show (1 : Int) > 0 by decide, if_true, Int.ediv_one]; split <;> omega
      · simp only [show ¬ (-1 : Int) > 0 by decide, if_false, show (-(-1) : Int) = 1 by decide, Int.ediv_one]; split <;> omega
    simp only [Builtin.Range.rangeFitsLong, Bool.and_eq_true, Bool.or_eq_true, decide_eq_true_eq, beq_iff_eq]
    rcases hcs with rfl | rfl
    · simp only [show (1 : Int) > 0 by decide, if_true]
      simp only [Bool.and_eq_true, decide_eq_true_eq]
      omega
    · simp only [show ¬ (-1 : Int) > 0 by decide, if_false]
      simp only [Bool.and_eq_true, decide_eq_true_eq]
      omega
  have hrg : IsRange (s₁.heap.push { cls := .type "range", data := .fields #[.int a t, .int b u, .int c v] }) s₁.heap.objs.size a b c t u v := Heap.get?_push_size _ rfl
  have S₂ : St G C μ σ₁ (s₁.heap.push { cls := .type "range", data := .fields #[.int a t, .int b u, .int c v] }) := S₁.ext fun _ _ e => Heap.get?_push_of_some _ e
  have hz : (s₁.heap.push { cls := .type "range", data := .fields #[.int a t, .int b u, .int c v] }).objs.size = s₁.heap.objs.size + 1 := Heap.size_push ..
  have p1 : ∀ b' o, s₁.heap.get? b' = some o → (s₁.heap.push { cls := .type "range", data := .fields #[.int a t, .int b u, .int c v] }).get? b' = some o := fun _ _ e => Heap.get?_push_of_some _ e
  generalize s₁.heap.push { cls := .type "range", data := .fields #[.int a t, .int b u, .int c v] } = H at hrg S₂ hz p1 ⊢
  refine wpAny_pyIter_range hrg hsmall ?_
  have S₃ : St G C μ σ₁ (H.push { cls := .type "range_iterator", data := .fields #[rawInt a, rawInt (Builtin.Range.rangeSize a b c), rawInt c] }) := S₂.ext fun _ _ e => Heap.get?_push_of_some _ e
  obtain ⟨mL, hnL⟩ := S₁.ns
  refine for_core (s := { s₁ with heap := H.push { cls := .type "range_iterator", data := .fields #[rawInt a, rawInt (Builtin.Range.rangeSize a b c), rawInt c] }, toks := tk })
    (fun b => b = H.objs.size) M
    (fun i h => IsRangeIter h H.objs.size (a + i * c) ((M : Int) - i) c) I ?_ ?_ ?_ (S₃.le hle hsub) ?_ hI ?_ ?_ hfin (R := R) ?_
  · rintro b rfl
    exact ⟨ns_ne hnL (by rw [hz]; exact Nat.le_succ _), S₂.toStG.Bfresh⟩
  · rintro h i hIt b rfl
    exact ⟨_, _, hIt, rfl⟩
  · intro i h h' hIt k
    exact k _ _ rfl hIt
  · show IsRangeIter _ _ _ _ _
    rw [hM] at *
    have := Heap.get?_push_size H (o := { cls := .type "range_iterator", data := .fields #[rawInt a, rawInt (M : Int), rawInt c] }) rfl
    simpa [IsRangeIter] using this
  · intro s' μ' σ' hIt _ _ Q hQ
    exact wpAny_pyNext_range_end C.hh hIt (by simp) fun h' he => hQ h' fun b o hb e => he b o hb e
  · intro i s' μ' σ' hi hIt hinv S'
    refine wpAny_pyNext_range_item hIt (by omega) fun h' hit' hs' => ⟨_, rfl, wpAny_of_eq (letOwned_name _ _) ?_⟩
    have S'' : St G C μ' σ' h' := S'.turn (fun b => b = H.objs.size) (fun b e => by subst e; exact S₂.toStG.Bfresh) (fun b e => by subst e; exact ⟨_, _, hIt, rfl⟩) fun b o hb e => hs'.extBut b o hb e
    refine wpAny_assign_Name (store_local (s := { s' with heap := h', toks := s'.toks + 1 }) S'' hk hd (is_int _ _) fun s₂ S₂' k₂ m₂ => ⟨_, S₂', ?_, ?_, Same.both.trans m₂, XS_hand (hstep i μ' σ' hi hinv)⟩)
    · have e1 : a + ((i + 1 : Nat) : Int) * c = a + i * c + c := by push_cast; rw [Int.add_mul, Int.one_mul, Int.add_assoc]
      have e2 : (M : Int) - ((i + 1 : Nat) : Int) = (M : Int) - i - 1 := by push_cast; omega
      show IsRangeIter _ _ _ _ _
      rw [e1, e2]
      refine (k₂ _ _ (fun q => ns_ne hnL (a := H.objs.size) (by rw [hz]; exact Nat.le_succ _) (Option.some.inj q)) ?_ hit').1
      exact S''.toStG.none_of hit' fun _ _ q => by cases q
    · intro b o hbL hbM n e
      exact (k₂ b o (fun q => hbL (Option.some.inj q)) n (hs'.extBut b o hbM e)).1
  · intro f s' hq
    have fr : ∀ b' o, s₁.heap.get? b' = some o → b' ≠ H.objs.size := fun b' o e => by
      rw [hz]; exact Nat.ne_of_lt (Nat.lt_succ_of_lt (Heap.lt_size e))
    have kk : ∀ {σ''} {h''}, (∀ b' o, b' ≠ C.env.locals → ¬ b' = H.objs.size → σ₀ b' = none → (H.push { cls := .type "range_iterator", data := .fields #[rawInt a, rawInt (Builtin.Range.rangeSize a b c), rawInt c] }).get? b' = some o → h''.get? b' = some o ∧ σ'' b' = none) →
        Step (some C.env.locals) σ s.heap σ'' h'' := fun k => k₁.trans fun b' o hb n e => k b' o (fun q => hb (by rw [q])) (fr b' o e) (hle.no n) (Heap.get?_push_of_some _ (p1 _ _ e))
    rcases hq with ⟨μ', σ', rfl, hN, S', k, m⟩ | ⟨v, u, σ', rfl, hu, hR, S', k, m⟩
    · exact .inl ⟨rfl, μ', σ', hN, S', kk k, m₁.trans (Same.both.trans m)⟩
    · exact .inr ⟨v, u, σ', rfl, hu, hR, S', kk k, m₁.trans (Same.both.trans m)⟩

theorem X_forList {x : Str} {px pos : Pos} {iter : Expr} {body : List Stmt} (hk : C.env.kindOf x = some .local)
    (h : EV G C iter μ σ fun u σ₁ => ∃ l m xs, ∃ (I : Nat → Mu → AH → Prop), u = .ref l ∧ σ₁ l = some (.lst m xs) ∧ Hand (I 0) μ σ₁ ∧ (∀ i μ' σ', I i μ' σ' → ∃ m', σ' l = some (.lst m' xs)) ∧
      (∀ i μ' σ' w, xs[i]? = some w → I i μ' σ' → XS G C body ((x, w) :: μ') σ' (Hand (I (i + 1))) R) ∧ (∀ μ' σ', I xs.length μ' σ' → N μ' σ'))
    (hs : ∀ y, foldedSetIterable iter C.env y = pure y := by intro _; with_unfolding_all rfl) (hd : (x == ("__debug__" : Str)) = false := by decide) :
    X1 G C (.For (.Name x px) iter body [] pos) μ σ N R := fun s S => by
  refine wpAny_For (VP.bind (h s S) fun u vu σ₁ s₁ hu hP S₁ k₁ m₁ => ?_) hs
  obtain ⟨l, m, xs, I, eu, hl, ⟨μ₀, σ₀, hsub, hle, hI⟩, hlist, hstep, hfin⟩ := hP
  subst eu
  cases hu
  obtain ⟨vs, hr, hw⟩ := at_isList (S₁.rep l _ hl)
  refine wpAny_pyIter_list hw ?_
  have S₃ : St G C μ σ₁ (s₁.heap.push { cls := .type "list_iterator", data := .fields #[.ref l, .int 0 0] }) := S₁.ext fun _ _ e => Heap.get?_push_of_some _ e
  obtain ⟨mL, hnL⟩ := S₁.ns
  refine for_core (s := { s₁ with heap := s₁.heap.push { cls := .type "list_iterator", data := .fields #[.ref l, .int 0 0] } })
    (fun b => b = s₁.heap.objs.size) xs.length (fun i h => h.IsListIter s₁.heap.objs.size l i) I ?_ ?_ ?_ (S₃.le hle hsub) ?_ hI ?_ ?_ hfin (R := R) ?_
  · rintro b rfl
    exact ⟨ns_ne hnL (Nat.le_refl _), S₁.toStG.Bfresh⟩
  · rintro h i ⟨o, ho, hc, hd⟩ b rfl
    exact ⟨o, _, ho, hd⟩
  · intro i h h' hIt k
    exact hIt.at fun o e => k _ _ rfl e
  · exact ⟨_, Heap.get?_push_size _ rfl, rfl, rfl⟩
  · intro s' μ' σ' hIt hinv S' Q hQ
    obtain ⟨m', hl'⟩ := hlist _ _ _ hinv
    obtain ⟨vs', hr', hw'⟩ := at_isList (S'.rep l _ hl')
    exact wpAny_pyNext_list_end C.hh hIt hw' (by simp [hr'.length]) fun h' he => hQ h' fun b o hb e => he b o hb e
  · intro i s' μ' σ' hi hIt hinv S'
    obtain ⟨m', hl'⟩ := hlist _ _ _ hinv
    obtain ⟨vs', hr', hw'⟩ := at_isList (S'.rep l _ hl')
    obtain ⟨v, hv, hu⟩ := hr'.get (List.getElem?_eq_getElem hi)
    refine wpAny_pyNext_list_item hIt hw' (x := v) (by simpa using hv) fun h' hit' hs' => ⟨_, rfl, wpAny_of_eq (letOwned_name _ _) ?_⟩
    obtain ⟨oi, hoi, hci, hdi⟩ := id hIt
    have S'' : St G C μ' σ' h' := S'.turn (fun b => b = s₁.heap.objs.size) (fun b e => by subst e; exact S₁.toStG.Bfresh) (fun b e => by subst e; exact ⟨_, _, hoi, hdi⟩) fun b o hb e => hs'.extBut b o hb e
    refine wpAny_assign_Name (store_local (s := { s' with heap := h' }) S'' hk hd hu fun s₂ S₂' k₂ m₂ => ⟨_, S₂', ?_, ?_, Same.heap.trans m₂, XS_hand (hstep i μ' σ' _ (List.getElem?_eq_getElem hi) hinv)⟩)
    · obtain ⟨o2, ho2, hc2, hd2⟩ := hit'
      refine ⟨o2, (k₂ _ _ (fun q => ns_ne hnL (Nat.le_refl _) (Option.some.inj q)) ?_ ho2).1, hc2, hd2⟩
      exact S''.toStG.none_of ho2 fun _ _ q => by rw [hd2] at q; cases q
    · intro b o hbL hbM n e
      exact (k₂ b o (fun q => hbL (Option.some.inj q)) n (hs'.extBut b o hbM e)).1
  · intro f s' hq
    have kk : ∀ {σ''} {h''}, (∀ b o, b ≠ C.env.locals → ¬ b = s₁.heap.objs.size → σ₀ b = none → (s₁.heap.push { cls := .type "list_iterator", data := .fields #[.ref l, .int 0 0] }).get? b = some o → h''.get? b = some o ∧ σ'' b = none) →
        Step (some C.env.locals) σ s.heap σ'' h'' := fun k => k₁.trans fun b o hb n e => k b o (fun q => hb (by rw [q])) (Nat.ne_of_lt (Heap.lt_size e)) (hle.no n) (Heap.get?_push_of_some _ e)
    rcases hq with ⟨μ', σ', rfl, hN, S', k, m⟩ | ⟨v, u, σ', rfl, hu, hR, S', k, m⟩
    · exact .inl ⟨rfl, μ', σ', hN, S', kk k, m₁.trans (Same.heap.trans m)⟩
    · exact .inr ⟨v, u, σ', rfl, hu, hR, S', kk k, m₁.trans (Same.heap.trans m)⟩
end
section
variable {G : GC} {C : FC G} {μ : Mu} {σ : AH} {N : Mu → AH → Prop} {R : AV → AH → Prop}

/-! ### calls by name -/
abbrev IsDef (x : Str) : Prop := (theDefs.any fun d => d.name == x) = true
theorem IsDef.at {x : Str} (h : IsDef x) : ∃ d ∈ theDefs, d.name = x := by
  obtain ⟨d, hd, e⟩ := List.any_eq_true.mp h
  exact ⟨d, hd, by simpa using e⟩

theorem EV_defn {x : Str} {pos : Pos} {Q : AV → AH → Prop} (hx : IsDef x) (hk : C.env.kindOf x = some .globalImplicit) (hq : Q (.ref (G.fa x)) σ) (hdb : (x == ("__debug__" : Str)) = false := by decide) : EV G C (.Name x pos) μ σ Q := by
  obtain ⟨d, hd, rfl⟩ := hx.at
  exact EV_def hd hk hdb hq
theorem isFn_of {x : Str} (hx : IsDef x) : G.isFn (G.fa x) := by
  obtain ⟨d, hd, rfl⟩ := hx.at
  exact isFn_def G hd
theorem EV_calln {x : Str} {p pos : Pos} {e : Expr} {es : List Expr} {Q : AV → AH → Prop} (hx : IsDef x) (hk : C.env.kindOf x = some .globalImplicit)
    (h : EVs G C (e :: es) μ σ fun us σ₂ => FN G C.lv (G.fa x) us σ₂ Q)
    (he : eval (.Call (.Name x p) (e :: es) [] pos) C.env = (do callWith pos (← eval (.Name x p) C.env) [] (backTo pos (starEach (e :: es) C.env)) (backToKw pos (keywordEach [] C.env))) := by with_unfolding_all rfl)
    (he' : starEach (e :: es) C.env = (false, eval e C.env) :: starEach es C.env := by with_unfolding_all rfl) (hdb : (x == ("__debug__" : Str)) = false := by decide) : EV G C (.Call (.Name x p) (e :: es) [] pos) μ σ Q :=
  EV_call (EV_defn hx hk ⟨_, rfl, isFn_of hx, h⟩ hdb) he he'
theorem EV_callv {x : Str} {p pos : Pos} {f : Addr} {e : Expr} {es : List Expr} {Q : AV → AH → Prop} (hx : lk μ x = some (.ref f)) (hf : G.isFn f)
    (h : EVs G C (e :: es) μ σ fun us σ₂ => FN G C.lv f us σ₂ Q)
    (he : eval (.Call (.Name x p) (e :: es) [] pos) C.env = (do callWith pos (← eval (.Name x p) C.env) [] (backTo pos (starEach (e :: es) C.env)) (backToKw pos (keywordEach [] C.env))) := by with_unfolding_all rfl)
    (he' : starEach (e :: es) C.env = (false, eval e C.env) :: starEach es C.env := by with_unfolding_all rfl) : EV G C (.Call (.Name x p) (e :: es) [] pos) μ σ Q :=
  EV_call (EV_name hx ⟨_, rfl, hf, h⟩) he he'

/-! ### targets that are tuples -/
theorem assign_names2 {x y : Str} {px py tp : Pos} {k : Nat} {t : Addr} {u v : AV} {s : Shared} {K : Unit → Shared → Prop} (S : St G C μ σ s.heap) (hx : C.env.kindOf x = some .local) (hy : C.env.kindOf y = some .local)
    (dx : (x == ("__debug__" : Str)) = false) (dy : (y == ("__debug__" : Str)) = false) (ht : σ t = some (.tup [u, v]))
    (h : ∀ s', St G C ((y, v) :: (x, u) :: μ) σ s'.heap → Step (some C.env.locals) σ s.heap σ s'.heap → Same s s' → K () s') :
    wpAny (model G.prog G.w) C.A (assign (.Tuple [.Name x px, .Name y py] k tp) C.env (.ref t)) K (fun _ _ => False) s := by
  obtain ⟨vs, hr, hl⟩ := at_isTup (S.rep t _ ht)
  obtain ⟨v₁, v₂, rfl, h1, h2⟩ := are2 hr
  refine wpAny_assign_Tuple C.hh hl rfl rfl fun h' he => ?_
  have kk : ∀ b o, s.heap.get? b = some o → h'.get? b = some o := fun b o e => he b o (Nat.ne_of_lt (Heap.lt_size e)) e
  have S' := S.ext kk
  show wpAny _ _ (do holding [v₂] (assign (.Name x px) C.env v₁); do holding [] (assign (.Name y py) C.env v₂); pure ()) _ _ _
  refine wpAny_bind (wpAny_holding (wpAny_assign_Name (store_local (s := { s with heap := h' }) S' hx dx h1 fun s₁ S₁ k₁ m₁ => ?_)))
  refine wpAny_bind (wpAny_holding (wpAny_assign_Name (store_local S₁ hy dy h2 fun s₂ S₂ k₂ m₂ => wpAny_pure ?_)))
  exact h s₂ S₂ (Step.trans (fun b o _ n e => ⟨kk b o e, n⟩) (k₁.trans k₂)) ((Same.heap.trans m₁).trans m₂)

theorem X_unpack2 {x y : Str} {px py tp pos : Pos} {k : Nat} {value : Expr} (hx : C.env.kindOf x = some .local) (hy : C.env.kindOf y = some .local)
    (h : EV G C value μ σ fun w σ₁ => ∃ t u v, w = .ref t ∧ σ₁ t = some (.tup [u, v]) ∧ N ((y, v) :: (x, u) :: μ) σ₁)
    (hs : swapsWithSole [.Tuple [.Name x px, .Name y py] k tp] value pos.line C.env = pure false := by with_unfolding_all rfl) (hw : swappedStores [.Tuple [.Name x px, .Name y py] k tp] value C.env = pure none := by with_unfolding_all rfl)
    (dx : (x == ("__debug__" : Str)) = false := by decide) (dy : (y == ("__debug__" : Str)) = false := by decide) : X1 G C (.Assign [.Tuple [.Name x px, .Name y py] k tp] value pos) μ σ N R := fun s S =>
  Assign_Tuple (VP.bind (h s S) fun w vw σ₁ s₁ hw ⟨t, u, v, ew, ht, hq⟩ S₁ k₁ m₁ => by
    subst ew; cases hw
    exact assign_names2 S₁ hx hy dx dy ht fun s₂ S₂ k₂ m₂ => XP.next hq S₂ (k₁.trans k₂) (m₁.trans m₂)) hs hw

theorem unpack_K {t : Addr} {us : List AV} {s : Shared} {n : Nat} {K : List Value → Shared → Prop} (S : St G C μ σ s.heap) (ht : σ t = some (.tup us)) (hn : n = us.length)
    (h : ∀ vs s', Are us vs → St G C μ σ s'.heap → Step (some C.env.locals) σ s.heap σ s'.heap → Same s s' → K vs s') : wpAny (model G.prog G.w) C.A (unpackItems (.ref t) n none) K (fun _ _ => False) s := by
  obtain ⟨vs, hr, hl⟩ := at_isTup (S.rep t _ ht)
  have hn' : n = vs.toArray.size := by rw [hn, List.size_toArray, hr.length]
  subst hn'
  refine unpackItems_tuple C.hh hl fun h' he => ?_
  have kk : ∀ b o, s.heap.get? b = some o → h'.get? b = some o := fun b o e => he b o (Nat.ne_of_lt (Heap.lt_size e)) e
  exact h vs _ hr (S.ext kk) (fun b o _ n e => ⟨kk b o e, n⟩) Same.heap

theorem X_swap2 {x y : Str} {px py tp pos : Pos} {k : Nat} {value : Expr} (hx : C.env.kindOf x = some .local) (hy : C.env.kindOf y = some .local)
    (h : EV G C value μ σ fun w σ₁ => ∃ t u v, w = .ref t ∧ σ₁ t = some (.tup [u, v]) ∧ N ((x, u) :: (y, v) :: μ) σ₁)
    (hs : swapsWithSole [.Tuple [.Name x px, .Name y py] k tp] value pos.line C.env = pure false := by with_unfolding_all rfl) (hw : swappedStores [.Tuple [.Name x px, .Name y py] k tp] value C.env = pure (some [x, y]) := by with_unfolding_all rfl)
    (dx : (x == ("__debug__" : Str)) = false := by decide) (dy : (y == ("__debug__" : Str)) = false := by decide) : X1 G C (.Assign [.Tuple [.Name x px, .Name y py] k tp] value pos) μ σ N R := fun s S =>
  Assign_Tuple_swapped (VP.bind (h s S) fun w vw σ₁ s₁ hw ⟨t, u, v, ew, ht, hq⟩ S₁ k₁ m₁ => by
    subst ew; cases hw
    refine unpack_K S₁ ht rfl fun vs s₂ hr S₂ k₂ m₂ => ?_
    obtain ⟨v₁, v₂, rfl, h1, h2⟩ := are2 hr
    show wpAny _ _ (do holding [v₁] (bindName C.env y v₂); do holding [] (bindName C.env x v₁); pure ()) _ _ _
    refine wpAny_bind (wpAny_holding (wpAny_bindName (store_local S₂ hy dy h2 fun s₃ S₃ k₃ m₃ => ?_)))
    refine wpAny_bind (wpAny_holding (wpAny_bindName (store_local S₃ hx dx h1 fun s₄ S₄ k₄ m₄ => wpAny_pure ?_)))
    exact XP.next hq S₄ (((k₁.trans k₂).trans k₃).trans k₄) (((m₁.trans m₂).trans m₃).trans m₄)) hs hw

theorem X_swap3 {x y z : Str} {px py pz tp pos : Pos} {k : Nat} {value : Expr} (hx : C.env.kindOf x = some .local) (hy : C.env.kindOf y = some .local) (hz : C.env.kindOf z = some .local)
    (h : EV G C value μ σ fun w σ₁ => ∃ t u v r, w = .ref t ∧ σ₁ t = some (.tup [u, v, r]) ∧ N ((x, u) :: (y, v) :: (z, r) :: μ) σ₁)
    (hs : swapsWithSole [.Tuple [.Name x px, .Name y py, .Name z pz] k tp] value pos.line C.env = pure false := by with_unfolding_all rfl) (hw : swappedStores [.Tuple [.Name x px, .Name y py, .Name z pz] k tp] value C.env = pure (some [x, y, z]) := by with_unfolding_all rfl)
    (dx : (x == ("__debug__" : Str)) = false := by decide) (dy : (y == ("__debug__" : Str)) = false := by decide) (dz : (z == ("__debug__" : Str)) = false := by decide) : X1 G C (.Assign [.Tuple [.Name x px, .Name y py, .Name z pz] k tp] value pos) μ σ N R := fun s S =>
  Assign_Tuple_swapped (VP.bind (h s S) fun w vw σ₁ s₁ hw ⟨t, u, v, r, ew, ht, hq⟩ S₁ k₁ m₁ => by
    subst ew; cases hw
    refine unpack_K S₁ ht rfl fun vs s₂ hr S₂ k₂ m₂ => ?_
    obtain ⟨v₁, v₂, v₃, rfl, h1, h2, h3⟩ := are3 hr
    show wpAny _ _ (do holding [v₂, v₁] (bindName C.env z v₃); do holding [v₁] (bindName C.env y v₂); do holding [] (bindName C.env x v₁); pure ()) _ _ _
    refine wpAny_bind (wpAny_holding (wpAny_bindName (store_local S₂ hz dz h3 fun s₃ S₃ k₃ m₃ => ?_)))
    refine wpAny_bind (wpAny_holding (wpAny_bindName (store_local S₃ hy dy h2 fun s₄ S₄ k₄ m₄ => ?_)))
    refine wpAny_bind (wpAny_holding (wpAny_bindName (store_local S₄ hx dx h1 fun s₅ S₅ k₅ m₅ => wpAny_pure ?_)))
    exact XP.next hq S₅ ((((k₁.trans k₂).trans k₃).trans k₄).trans k₅) ((((m₁.trans m₂).trans m₃).trans m₄).trans m₅)) hs hw

theorem are4 {u₁ u₂ u₃ u₄ : AV} {vs : List Value} (h : Are [u₁, u₂, u₃, u₄] vs) : ∃ v₁ v₂ v₃ v₄, vs = [v₁, v₂, v₃, v₄] ∧ AV.is u₁ v₁ ∧ AV.is u₂ v₂ ∧ AV.is u₃ v₃ ∧ AV.is u₄ v₄ := by
  match vs, h with
  | [v₁, v₂, v₃, v₄], h => exact ⟨v₁, v₂, v₃, v₄, rfl, h.1, h.2.1, h.2.2.1, h.2.2.2.1⟩
theorem are5 {u₁ u₂ u₃ u₄ u₅ : AV} {vs : List Value} (h : Are [u₁, u₂, u₃, u₄, u₅] vs) : ∃ v₁ v₂ v₃ v₄ v₅, vs = [v₁, v₂, v₃, v₄, v₅] ∧ AV.is u₁ v₁ ∧ AV.is u₂ v₂ ∧ AV.is u₃ v₃ ∧ AV.is u₄ v₄ ∧ AV.is u₅ v₅ := by
  match vs, h with
  | [v₁, v₂, v₃, v₄, v₅], h => exact ⟨v₁, v₂, v₃, v₄, v₅, rfl, h.1, h.2.1, h.2.2.1, h.2.2.2.1, h.2.2.2.2.1⟩

theorem X_unpack4 {x y z q : Str} {px py pz pq tp pos : Pos} {k : Nat} {value : Expr} (hx : C.env.kindOf x = some .local) (hy : C.env.kindOf y = some .local) (hz : C.env.kindOf z = some .local) (hq : C.env.kindOf q = some .local)
    (h : EV G C value μ σ fun w σ₁ => ∃ t u₁ u₂ u₃ u₄, w = .ref t ∧ σ₁ t = some (.tup [u₁, u₂, u₃, u₄]) ∧ N ((q, u₄) :: (z, u₃) :: (y, u₂) :: (x, u₁) :: μ) σ₁)
    (hs : swapsWithSole [.Tuple [.Name x px, .Name y py, .Name z pz, .Name q pq] k tp] value pos.line C.env = pure false := by with_unfolding_all rfl) (hw : swappedStores [.Tuple [.Name x px, .Name y py, .Name z pz, .Name q pq] k tp] value C.env = pure none := by with_unfolding_all rfl)
    (dx : (x == ("__debug__" : Str)) = false := by decide) (dy : (y == ("__debug__" : Str)) = false := by decide) (dz : (z == ("__debug__" : Str)) = false := by decide) (dq : (q == ("__debug__" : Str)) = false := by decide) :
    X1 G C (.Assign [.Tuple [.Name x px, .Name y py, .Name z pz, .Name q pq] k tp] value pos) μ σ N R := fun s S =>
  Assign_Tuple (VP.bind (h s S) fun w vw σ₁ s₁ hw ⟨t, u₁, u₂, u₃, u₄, ew, ht, hN⟩ S₁ k₁ m₁ => by
    subst ew; cases hw
    obtain ⟨vs, hr, hl⟩ := at_isTup (S₁.rep t _ ht)
    obtain ⟨v₁, v₂, v₃, v₄, rfl, h1, h2, h3, h4⟩ := are4 hr
    refine wpAny_assign_Tuple C.hh hl rfl rfl fun h' he => ?_
    have kk : ∀ b o, s₁.heap.get? b = some o → h'.get? b = some o := fun b o e => he b o (Nat.ne_of_lt (Heap.lt_size e)) e
    have S' := S₁.ext kk
    show wpAny _ _ (do holding [v₂, v₃, v₄] (assign (.Name x px) C.env v₁); do holding [v₃, v₄] (assign (.Name y py) C.env v₂); do holding [v₄] (assign (.Name z pz) C.env v₃); do holding [] (assign (.Name q pq) C.env v₄); pure ()) _ _ _
    refine wpAny_bind (wpAny_holding (wpAny_assign_Name (store_local (s := { s₁ with heap := h' }) S' hx dx h1 fun s₂ S₂ k₂ m₂ => ?_)))
    refine wpAny_bind (wpAny_holding (wpAny_assign_Name (store_local S₂ hy dy h2 fun s₃ S₃ k₃ m₃ => ?_)))
    refine wpAny_bind (wpAny_holding (wpAny_assign_Name (store_local S₃ hz dz h3 fun s₄ S₄ k₄ m₄ => ?_)))
    refine wpAny_bind (wpAny_holding (wpAny_assign_Name (store_local S₄ hq dq h4 fun s₅ S₅ k₅ m₅ => wpAny_pure ?_)))
    exact XP.next hN S₅ (k₁.trans (Step.trans (fun b o _ n e => ⟨kk b o e, n⟩) (((k₂.trans k₃).trans k₄).trans k₅))) (m₁.trans ((((Same.heap.trans m₂).trans m₃).trans m₄).trans m₅))) hs hw

/-! ### lists added, repeated -/
theorem BOP_cat {a b : Addr} {xs ys : List AV} {Q : AV → AH → Prop} (ha : σ a = some (.lst true xs)) (hb : σ b = some (.lst true ys)) (hl : xs.length + ys.length ≤ 1000000)
    (hq : ∀ r, σ r = none → Q (.ref r) (upd σ r (.lst true (xs ++ ys)))) : BOP G C .Add (.ref a) (.ref b) μ σ Q := by
  rintro _ _ rfl rfl s S
  obtain ⟨vs, n, hr, e⟩ := at_mut (S.rep a _ ha)
  obtain ⟨ws, n', hr', e'⟩ := at_mut (S.rep b _ hb)
  have l1 := hr.length
  have l2 := hr'.length
  refine PySem.P.add_list (items := vs.toArray) (n := n) (items2 := ws.toArray) (n2 := n') e e' ?_ ?_
  · rw [show (vs.toArray ++ ws.toArray) = (vs ++ ws).toArray from by simp]
    exact vp_push S (at_new_list (hr.append hr') S.toStG.Bfresh) hq
  · simp only [List.size_toArray]; rw [sizeLine_eq]; omega

/-- all of the heap but L, as a ledger -/
def allBut (L : Addr) (h : Heap) : List (Addr × Obj) := (List.range h.objs.size).filterMap fun a => if a = L then none else (h.get? a).map fun o => (a, o)
theorem mem_allBut {L a : Addr} {o : Obj} {h : Heap} : (a, o) ∈ allBut L h ↔ a ≠ L ∧ h.get? a = some o := by
  unfold allBut
  rw [List.mem_filterMap]
  constructor
  · rintro ⟨b, hb, e⟩
    split at e
    · cases e
    · next hne =>
      obtain ⟨o', ho', e'⟩ := Option.map_eq_some_iff.mp e
      cases e'; exact ⟨hne, ho'⟩
  · rintro ⟨hne, ho⟩
    exact ⟨a, List.mem_range.mpr (Heap.lt_size ho), by rw [if_neg hne, ho]; rfl⟩
theorem empty_get (a : Addr) : ({} : Heap).get? a = none := by
  unfold Heap.get?; simp
theorem news_all (L : Addr) (h : Heap) : News {} L h (allBut L h) := fun p hp => by
  obtain ⟨a, o⟩ := p
  obtain ⟨h1, h2⟩ := mem_allBut.mp hp
  exact ⟨h2, h1, empty_get _⟩
theorem fr_all {L : Addr} {h : Heap} {m : Str → Option Value} (hn : h.Ns L m) : Fr {} L h m := ⟨hn, fun b o e => (by rw [empty_get] at e; cases e), Nat.zero_le _⟩

theorem St.add {h : Heap} {r : Addr} {ao : AO} (S : St G C μ σ h) (ha : ao.at G.B h r) : St G C μ (upd σ r ao) h :=
  ⟨⟨S.stay, fun a o q => by
    unfold upd at q
    split at q
    · next e => cases q; rw [e]; exact ha
    · exact S.rep a o q⟩, S.ns, S.vars⟩

theorem BOP_rep {a : Addr} {u : AV} {k : Int} {Q : AV → AH → Prop} (ha : σ a = some (.lst true [u])) (hl : k ≤ 1000000) (hl' : -1000000 ≤ k)
    (hq : ∀ r, σ r = none → Q (.ref r) (upd σ r (.lst true (List.replicate k.toNat u)))) : BOP G C .Mult (.ref a) (.int k) μ σ Q := by
  rintro _ _ rfl ⟨t, rfl⟩ s S
  obtain ⟨vs, n, hr, e⟩ := at_mut (S.rep a _ ha)
  obtain ⟨v, rfl, hv⟩ := are1 hr
  obtain ⟨m, hn⟩ := S.ns
  refine mul_list (fr_all hn) (news_all C.env.locals s.heap) e (by omega) (by omega) (by simp; omega) fun h' F' N' => ?_
  have hnew := (N' _ (.head _)).1
  have kk : ∀ b o, b ≠ C.env.locals → s.heap.get? b = some o → h'.get? b = some o := fun b o hb e => (N' (b, o) (.tail _ (mem_allBut.mpr ⟨hb, e⟩))).1
  have hfold : ∀ k : Nat, List.foldl (fun x1 x2 => x1 ++ x2) #[] (List.replicate k #[v]) = (List.replicate k v).toArray := by
    have gen : ∀ (k : Nat) (acc : Array Value), List.foldl (fun x1 x2 => x1 ++ x2) acc (List.replicate k #[v]) = acc ++ (List.replicate k v).toArray := by
      intro k
      induction k with
      | zero => intro acc; simp
      | succ k ih =>
        intro acc
        rw [List.replicate_succ, List.foldl_cons, ih, List.replicate_succ]
        apply Array.toList_inj.mp
        simp
    intro k
    rw [gen]; simp
  refine ⟨.ref s.heap.objs.size, _, is_ref _, hq _ S.toStG.fresh, (S.extBut hn F'.ns kk).add ⟨List.replicate k.toNat v, 0, none, #[], Are.replicate hv _, ?_, fun _ => ⟨rfl, rfl, S.toStG.Bfresh⟩⟩, fun b o hb n e => ⟨kk b o (fun q => hb (by rw [q])) e, ?_⟩, Same.heap⟩
  · rw [hnew]
    simp only [List.isEmpty_toArray, List.isEmpty_cons, Bool.false_eq_true, if_false]
    rw [show ([v].toArray : Array Value) = #[v] from rfl, hfold]
  · unfold upd
    rw [if_neg (Nat.ne_of_lt (Heap.lt_size e)), n]

/-! ### comparisons of what is made -/
theorem eqAt_int {A : Around} {s : Shared} {a b : Int} {t u : Tok} : SeqAt.EqAt A s (.int a t) (.int b u) (a == b) := fun prog w E Q h => by
  unfold eqBool
  refine wpAny_holding ?_
  refine wpAny_ite_split (fun hab => ?_) (fun _ => ?_)
  · have : a = b := by have := eq_of_beq hab; injection this
    subst this
    exact wpAny_bind (wpAny_rule (wpAny_pure (by simpa using h)))
  · exact wpAny_bind (eq_int (wpAny_truthy_bool h))
theorem eqAt_bool {A : Around} {s : Shared} {a b : Bool} : SeqAt.EqAt A s (.bool a) (.bool b) (a == b) := fun prog w E Q h => by
  unfold eqBool
  refine wpAny_holding ?_
  refine wpAny_ite_split (fun hab => ?_) (fun _ => ?_)
  · have : a = b := by have := eq_of_beq hab; injection this
    subst this
    exact wpAny_bind (wpAny_rule (wpAny_pure (by simpa using h)))
  · exact wpAny_bind (eq_bool (wpAny_truthy_bool h))

theorem COP_in_ints {i : Int} {t : Addr} {ns : List Int} {Q : AV → AH → Prop} (ht : σ t = some (.tup (nums ns))) (hq : Q (.bool (ns.any fun n => n == i)) σ) : COP G C .In (.int i) (.ref t) μ σ Q := by
  rintro _ _ ⟨tk, rfl⟩ rfl s S
  obtain ⟨vs, hr, hl⟩ := at_isTup (S.rep t _ ht)
  refine SeqAt.in_tupleAt (fun v => match v with | .int n _ => n == i | _ => false) hl (fun y hy => ?_) ?_
  · have hm : ∀ {ns : List Int} {vs : List Value}, Are (nums ns) vs → ∀ y ∈ vs, ∃ n u, y = .int n u := by
      intro ns
      induction ns with
      | nil => intro vs h y hy; cases vs with
        | nil => cases hy
        | cons _ _ => exact h.elim
      | cons n ns ih => intro vs h y hy; cases vs with
        | nil => exact h.elim
        | cons v vs =>
          rcases List.mem_cons.mp hy with rfl | hy
          · obtain ⟨t, rfl⟩ := h.1; exact ⟨n, t, rfl⟩
          · exact ih h.2 y hy
    obtain ⟨n, u, rfl⟩ := hm hr y (by simpa using hy)
    exact eqAt_int
  · have hany : ∀ {ns : List Int} {vs : List Value}, Are (nums ns) vs → vs.any (fun v => match v with | .int n _ => n == i | _ => false) = ns.any fun n => n == i := by
      intro ns
      induction ns with
      | nil => intro vs h; cases vs with
        | nil => rfl
        | cons _ _ => exact h.elim
      | cons n ns ih => intro vs h; cases vs with
        | nil => exact h.elim
        | cons v vs =>
          obtain ⟨t, rfl⟩ := h.1
          simp only [List.any_cons, ih h.2]
    rw [List.any_toArray, hany hr]
    exact vp_same _ S (is_bool _) hq

/-- a number against (False, []) -/
theorem COP_eq_nought {a b l e : Addr} {m m' : Bool} {xs : List AV} {Q : AV → AH → Prop} (ha : σ a = some (.tup [.bool false, .ref l])) (hb : σ b = some (.tup [.bool false, .ref e])) (hl : σ l = some (.lst m xs)) (he : σ e = some (.lst m' []))
    (hle : l ≠ e) (hq : Q (.bool xs.isEmpty) σ) : COP G C .Eq (.ref a) (.ref b) μ σ Q := by
  rintro _ _ rfl rfl s S
  obtain ⟨vs, hr, hva⟩ := at_isTup (S.rep a _ ha)
  obtain ⟨v₁, v₂, rfl, e1, e2⟩ := are2 hr
  obtain ⟨ws, hr', hvb⟩ := at_isTup (S.rep b _ hb)
  obtain ⟨w₁, w₂, rfl, e3, e4⟩ := are2 hr'
  cases e1; cases e2; cases e3; cases e4
  obtain ⟨xv, hx, hxl⟩ := at_isList (S.rep l _ hl)
  obtain ⟨yv, hy, hyl⟩ := at_isList (S.rep e _ he)
  have hyv : yv = [] := by
    have := hy.length
    exact List.length_eq_zero_iff.mp this.symm
  subst hyv
  have hu : C.A.units + 100 < cLine ∨ True := .inr trivial
  have hlv := C.units
  refine SeqAt.eq_tupleAt (e := fun j => if j = 0 then true else xs.isEmpty) hva hvb (by omega) (fun j h1 h2 => ?_) ?_
  · match j, h1, h2 with
    | 0, _, _ => exact eqAt_bool
    | 1, _, _ =>
      show SeqAt.EqAt _ _ (.ref l) (.ref e) xs.isEmpty
      refine SeqAt.EqAt.of_refs hle ?_
      cases xs with
      | nil =>
        have : xv = [] := List.length_eq_zero_iff.mp hx.length.symm
        subst this
        have := SeqAt.RcAt.lists (A := C.A.in1) (e := fun _ => true) hxl hyl rfl (by show C.A.units + 1 < _; omega) (fun j h1 _ => absurd h1 (Nat.not_lt_zero _))
        simpa using this
      | cons x xs =>
        have hlen := hx.length
        simp only [List.isEmpty_cons]
        exact SeqAt.RcAt.lists_lengths hxl hyl (by simp; intro q; subst q; simp at hlen) (by show C.A.units + 1 < _; omega)
    | j + 2, h1, _ => exact absurd h1 (by simp)
  · have : ((List.range (min [Value.bool false, Value.ref l].toArray.size [Value.bool false, Value.ref e].toArray.size)).all (fun j => if j = 0 then true else xs.isEmpty) && ([Value.bool false, Value.ref l].toArray.size == [Value.bool false, Value.ref e].toArray.size)) = xs.isEmpty := by
      simp [List.range, List.range.loop]
    rw [this]
    exact vp_same _ S (is_bool _) hq
end
section
variable {G : GC} {C : FC G} {μ : Mu} {σ : AH} {N : Mu → AH → Prop} {R : AV → AH → Prop}

theorem X_forEnum {xi xv : Str} {pi pv pt p rpos pos : Pos} {k : Nat} {e : Expr} {body : List Stmt} (hki : C.env.kindOf xi = some .local) (hkv : C.env.kindOf xv = some .local) (hr : C.env.kindOf "enumerate" = some .globalImplicit)
    (h : EV G C e μ σ fun u σ₁ => ∃ l m xs, ∃ (I : Nat → Mu → AH → Prop), u = .ref l ∧ σ₁ l = some (.lst m xs) ∧ Hand (I 0) μ σ₁ ∧ (∀ i μ' σ', I i μ' σ' → ∃ m', σ' l = some (.lst m' xs)) ∧
      (∀ i μ' σ' w, xs[i]? = some w → I i μ' σ' → XS G C body ((xv, w) :: (xi, .int i) :: μ') σ' (Hand (I (i + 1))) R) ∧ (∀ μ' σ', I xs.length μ' σ' → N μ' σ'))
    (hs : ∀ y, foldedSetIterable (.Call (.Name "enumerate" p) [e] [] rpos) C.env y = pure y := by intro _; with_unfolding_all rfl)
    (he : eval (.Call (.Name "enumerate" p) [e] [] rpos) C.env = (do callWith rpos (← eval (.Name "enumerate" p) C.env) [] (backTo rpos (starEach [e] C.env)) (backToKw rpos (keywordEach [] C.env))) := by with_unfolding_all rfl)
    (he' : starEach [e] C.env = (false, eval e C.env) :: starEach [] C.env := by with_unfolding_all rfl)
    (hdi : (xi == ("__debug__" : Str)) = false := by decide) (hdv : (xv == ("__debug__" : Str)) = false := by decide) :
    X1 G C (.For (.Tuple [.Name xi pi, .Name xv pv] k pt) (.Call (.Name "enumerate" p) [e] [] rpos) body [] pos) μ σ N R := fun s S => by
  refine wpAny_For (call_type_K (P := fun us σ₁ => ∃ u, us = [u] ∧ ∃ l m xs, ∃ (I : Nat → Mu → AH → Prop), u = .ref l ∧ σ₁ l = some (.lst m xs) ∧ Hand (I 0) μ σ₁ ∧ (∀ i μ' σ', I i μ' σ' → ∃ m', σ' l = some (.lst m' xs)) ∧
      (∀ i μ' σ' w, xs[i]? = some w → I i μ' σ' → XS G C body ((xv, w) :: (xi, .int i) :: μ') σ' (Hand (I (i + 1))) R) ∧ (∀ μ' σ', I xs.length μ' σ' → N μ' σ')) S hr boot_enumerate (G.no (by decide))
    (EVs_cons (h.mono fun u σ₁ hq => EVs_nil ⟨u, rfl, hq⟩) he') (fun us vs σ₁ s₁ hus hP S₁ k₁ m₁ => ?_) (by decide) (by decide) he he' rfl) hs
  obtain ⟨u, rfl, l, m, xs, I, eu, hl, ⟨μ₀, σ₀, hsub, hle, hI⟩, hlist, hstep, hfin⟩ := hP
  subst eu
  obtain ⟨v, rfl, hv⟩ := are1 hus
  cases hv
  obtain ⟨vs, hr, hw⟩ := at_isList (S₁.rep l _ hl)
  refine call_enumerate_list hw fun H hE hIt hz p1 => ?_
  refine wpAny_pyIter_enum hE ?_
  have S₂ : St G C μ σ₁ H := S₁.ext p1
  obtain ⟨mL, hnL⟩ := S₁.ns
  have hB : ∀ b, s₁.heap.objs.size ≤ b → G.B.get? b = none := fun b hb => by
    cases q : G.B.get? b with
    | none => rfl
    | some o => exact absurd (Heap.lt_size (S₁.stay _ _ q)) (Nat.not_lt.mpr hb)
  refine for_core (s := { s₁ with heap := H }) (fun b => b = s₁.heap.objs.size + 1 ∨ b = s₁.heap.objs.size) xs.length
    (fun i h => (∃ old, IsEnum h (s₁.heap.objs.size + 1) s₁.heap.objs.size ((i : Nat) : Int) old) ∧ h.IsListIter s₁.heap.objs.size l i) I ?_ ?_ ?_ (S₂.le hle hsub) ?_ hI ?_ ?_ hfin (R := R) ?_
  · rintro b (rfl | rfl)
    · exact ⟨ns_ne hnL (Nat.le_succ _), hB _ (Nat.le_succ _)⟩
    · exact ⟨ns_ne hnL (Nat.le_refl _), hB _ (Nat.le_refl _)⟩
  · rintro h i ⟨⟨old, hIe⟩, o, ho, hc, hd⟩ b (rfl | rfl)
    · exact ⟨_, _, hIe, rfl⟩
    · exact ⟨o, _, ho, hd⟩
  · rintro i h h' ⟨⟨old, hIe⟩, hIt⟩ k
    exact ⟨⟨old, k _ _ (.inl rfl) hIe⟩, hIt.at fun o e => k _ _ (.inr rfl) e⟩
  · exact ⟨⟨.none, by simpa using hE⟩, hIt⟩
  · rintro s' μ' σ' ⟨⟨old, hIe⟩, hIt⟩ hinv S' Q hQ
    obtain ⟨m', hl'⟩ := hlist _ _ _ hinv
    obtain ⟨vs', hr', hw'⟩ := at_isList (S'.rep l _ hl')
    exact wpAny_pyNext_enum_end C.hh hIe hIt hw' (by simp [hr'.length]) fun h' he => hQ h' fun b o hb e => he b o (fun q => hb (.inr q)) e
  · rintro i s' μ' σ' hi ⟨⟨old, hIe⟩, hIt⟩ hinv S'
    obtain ⟨m', hl'⟩ := hlist _ _ _ hinv
    obtain ⟨vs', hr', hw'⟩ := at_isList (S'.rep l _ hl')
    obtain ⟨v, hv, hu⟩ := hr'.get (List.getElem?_eq_getElem hi)
    refine wpAny_pyNext_enum_item hIe hIt hw' (x := v) (by simpa using hv) (Nat.succ_ne_self _) fun h₁ heo hit₁ ht₁ hz₁ hk₁ => ⟨_, rfl, ?_⟩
    refine wpAny_letOwnedTupleGo_enum heo fun h₂ he₂ hs₂ => ?_
    replace hs₂ : Heap.SameBut (s₁.heap.objs.size + 1) h₁ h₂ := hs₂
    obtain ⟨oi, hoi, hci, hdi'⟩ := id hIt
    have hsz : s₁.heap.objs.size + 1 < s'.heap.objs.size := Heap.lt_size hIe
    have ht₂ : h₂.IsTuple s'.heap.objs.size #[.int i s'.toks, v] := ⟨_, (hs₂.2 _ (Nat.ne_of_gt hsz)).trans ht₁, rfl, _, rfl⟩
    have kk₂ : ∀ b o, ¬ (b = s₁.heap.objs.size + 1 ∨ b = s₁.heap.objs.size) → s'.heap.get? b = some o → h₂.get? b = some o := fun b o hb e =>
      hs₂.extBut b o (fun q => hb (.inl q)) (hk₁ b o (fun q => hb (.inl q)) (fun q => hb (.inr q)) e)
    have S'' : St G C μ' σ' h₂ := S'.turn (fun b => b = s₁.heap.objs.size + 1 ∨ b = s₁.heap.objs.size) (fun b hb => by rcases hb with rfl | rfl; exact hB _ (Nat.le_succ _); exact hB _ (Nat.le_refl _))
      (fun b hb => by rcases hb with rfl | rfl; exact ⟨_, _, hIe, rfl⟩; exact ⟨_, _, hoi, hdi'⟩) kk₂
    refine wpAny_assign_Tuple C.hh ht₂ rfl rfl fun h₃ hx₃ => ?_
    replace hx₃ : Heap.ExtBut h₂.objs.size h₂ h₃ := hx₃
    have kk₃ : ∀ b o, h₂.get? b = some o → h₃.get? b = some o := fun b o e => hx₃ b o (Nat.ne_of_lt (Heap.lt_size e)) e
    have S₃ := S''.ext kk₃
    show wpAny _ _ (do holding [v] (assign (.Name xi pi) C.env (.int i s'.toks)); do holding [] (assign (.Name xv pv) C.env v); pure ()) _ _ _
    refine wpAny_bind (wpAny_holding (wpAny_assign_Name (store_local (s := { s' with heap := h₃, toks := s'.toks + 1 }) S₃ hki hdi (is_int _ _) fun s₄ S₄ k₄ m₄ => ?_)))
    refine wpAny_bind (wpAny_holding (wpAny_assign_Name (store_local S₄ hkv hdv hu fun s₅ S₅ k₅ m₅ => wpAny_pure ⟨_, S₅, ?_, ?_, (Same.both.trans m₄).trans m₅, XS_hand (hstep i μ' σ' _ (List.getElem?_eq_getElem hi) hinv)⟩)))
    · have up : ∀ b o, b ≠ C.env.locals → (∀ vs n, o.data ≠ .seq vs n) → h₂.get? b = some o → s₅.heap.get? b = some o := fun b o hb hd e =>
        ((k₄.trans k₅) b o (fun q => hb (Option.some.inj q)) (S₃.toStG.none_of (kk₃ b o e) hd) (kk₃ b o e)).1
      refine ⟨⟨v, ?_⟩, ?_⟩
      · have e1 : ((i + 1 : Nat) : Int) = (i : Int) + 1 := by push_cast; rfl
        rw [e1]
        exact up _ _ (ns_ne hnL (Nat.le_succ _)) (fun _ _ q => by cases q) he₂
      · obtain ⟨o2, ho2, hc2, hd2⟩ := hit₁
        exact ⟨o2, up _ _ (ns_ne hnL (Nat.le_refl _)) (fun _ _ q => by rw [hd2] at q; cases q) (hs₂.extBut _ _ (Nat.ne_of_lt (Nat.lt_succ_self _)) ho2), hc2, hd2⟩
    · intro b o hbL hbM n e
      exact ((k₄.trans k₅) b o (fun q => hbL (Option.some.inj q)) n (kk₃ b o (kk₂ b o hbM e))).1
  · intro f s' hq
    have kk : ∀ {σ''} {h''}, (∀ b o, b ≠ C.env.locals → ¬ (b = s₁.heap.objs.size + 1 ∨ b = s₁.heap.objs.size) → σ₀ b = none → H.get? b = some o → h''.get? b = some o ∧ σ'' b = none) → Step (some C.env.locals) σ s.heap σ'' h'' :=
      fun k => k₁.trans fun b o hb n e => k b o (fun q => hb (by rw [q])) (fun q => by have := Heap.lt_size e; rcases q with rfl | rfl; exact Nat.lt_irrefl _ (Nat.lt_of_succ_lt this); exact Nat.lt_irrefl _ this) (hle.no n) (p1 b o e)
    rcases hq with ⟨μ', σ', rfl, hN, S', k, m⟩ | ⟨v, u, σ', rfl, hu, hR, S', k, m⟩
    · exact .inl ⟨rfl, μ', σ', hN, S', kk k, m₁.trans (Same.heap.trans m)⟩
    · exact .inr ⟨v, u, σ', rfl, hu, hR, S', kk k, m₁.trans (Same.heap.trans m)⟩

/-! ### list comprehensions -/
/-- what a comprehension draws from -/
structure Feeds (G : GC) (σ : AH) (A : Around) (I : Addr) (M : Nat) (item : Nat → AV) (It : Nat → Heap → Prop) : Prop where
  data : ∀ h i, It i h → ∃ o vs, h.get? I = some o ∧ o.data = .fields vs
  keep : ∀ i h h', It i h → (∀ o, h.get? I = some o → h'.get? I = some o) → It i h'
  self : ∀ s (Q : Value → Shared → Prop), It 0 s.heap → Q (.ref I) s → wpAny (model G.prog G.w) A (pyIter (.ref I)) Q (fun _ _ => False) s
  last : ∀ s (Q : Option Value → Shared → Prop), It M s.heap → StG G σ s.heap → (∀ h', Heap.ExtBut I s.heap h' → Q none { s with heap := h' }) → wpAny (model G.prog G.w) A (pyNext (.ref I)) Q (fun _ _ => False) s
  next : ∀ i s (Q : Option Value → Shared → Prop), i < M → It i s.heap → StG G σ s.heap → (∀ v h' tk, AV.is (item i) v → It (i + 1) h' → Heap.SameBut I s.heap h' → Q (some v) { s with heap := h', toks := tk }) → wpAny (model G.prog G.w) A (pyNext (.ref I)) Q (fun _ _ => False) s

theorem feeds_list {A : Around} {I l : Addr} {m : Bool} {xs : List AV} (hh : A.handled = none) (hl : σ l = some (.lst m xs)) :
    Feeds G σ A I xs.length (fun i => xs.getD i .none) (fun i h => h.IsListIter I l i) where
  data := fun h i ⟨o, ho, hc, hd⟩ => ⟨o, _, ho, hd⟩
  keep := fun i h h' hIt k => hIt.at fun o e => k o e
  self := fun s Q hIt h => wpAny_pyIter_listiter hIt h
  last := fun s Q hIt S hQ => by
    obtain ⟨vs', hr', hw'⟩ := at_isList (S.rep l _ hl)
    exact wpAny_pyNext_list_end hh hIt hw' (by simp [hr'.length]) fun h' he => hQ h' he
  next := fun i s Q hi hIt S hQ => by
    obtain ⟨vs', hr', hw'⟩ := at_isList (S.rep l _ hl)
    obtain ⟨v, hv, hu⟩ := hr'.get (List.getElem?_eq_getElem hi)
    refine wpAny_pyNext_list_item hIt hw' (x := v) (by simpa using hv) fun h' hit' hs' => hQ v h' _ ?_ hit' hs'
    rw [List.getD_eq_getElem?_getD, List.getElem?_eq_getElem hi]; exact hu

theorem feeds_range {A : Around} {I : Addr} {a c : Int} {M : Nat} (hh : A.handled = none) :
    Feeds G σ A I M (fun i => .int (a + i * c)) (fun i h => IsRangeIter h I (a + i * c) ((M : Int) - i) c) where
  data := fun h i hIt => ⟨_, _, hIt, rfl⟩
  keep := fun i h h' hIt k => k _ hIt
  self := fun s Q hIt h => wpAny_pyIter_rangeiter hIt h
  last := fun s Q hIt S hQ => wpAny_pyNext_range_end hh hIt (by simp) fun h' he => hQ h' he
  next := fun i s Q hi hIt S hQ => by
    refine wpAny_pyNext_range_item hIt (by omega) fun h' hit' hs' => hQ _ h' _ (is_int _ _) ?_ hs'
    have e1 : a + ((i + 1 : Nat) : Int) * c = a + i * c + c := by push_cast; rw [Int.add_mul, Int.one_mul, Int.add_assoc]
    have e2 : (M : Int) - ((i + 1 : Nat) : Int) = (M : Int) - i - 1 := by push_cast; omega
    show IsRangeIter _ _ _ _ _
    rw [e1, e2]
    exact hit'

/-- the context of a comprehension's own turns -/
def compC (C : FC G) (scope : Scope) (cl : List (Str × Addr)) (X : Addr) (hk : scope.kind = .function) (hX : G.B.get? X = none) : FC G :=
  { A := C.A, env := compEnvC scope cl X C.env, lv := C.lv, hh := C.hh, hk := hk, hg := C.hg, hb := C.hb, room := C.room, units := C.units, hL := hX }

theorem comp_core {elt iter : Expr} {x : Str} {px pos : Pos} {scope : Scope} {cl : List (Str × Addr)} {μc : Mu} {s : Shared} {I : Addr} {M : Nat} {item res : Nat → AV} {It : Nat → Heap → Prop} {K : Value → Shared → Prop}
    (F : Feeds G σ C.A I M item It) (hM : M ≤ 1000000) (S : St G C μ σ s.heap) (h0 : It 0 s.heap) (hI : I ≠ C.env.locals) (hIB : G.B.get? I = none)
    (hk : scope.kind = .function) (hcell : ∀ y ∈ scope.names, y.2 ≠ .cell) (hx : scope.names.lookup x = some .local) (hd : (x == ("__debug__" : Str)) = false)
    (hcap : ∀ p ∈ μc, lk μ p.1 = some p.2 ∧ C.env.kindOf p.1 = some .cell ∧ (relabel scope C.env).names.lookup p.1 = some .cell ∧ cl.lookup p.1 = C.env.cells.lookup p.1)
    (helt : ∀ i X hX, i < M → EV G (compC C scope cl X hk hX) elt ((x, item i) :: μc) σ fun u σ' => u = res i ∧ Le σ σ')
    (hq : ∀ s', σ s.heap.objs.size = none → St G C μ (upd σ s.heap.objs.size (.lst true ((List.range M).map res))) s'.heap → (∀ b o, b ≠ I → σ b = none → s.heap.get? b = some o → s'.heap.get? b = some o) → Same s s' → K (.ref s.heap.objs.size) s') :
    wpAny (model G.prog G.w) C.A (newList []) (fun acc s₃ => wpAny (model G.prog G.w) C.A (newFunctionEnv scope C.env.globals cl [] C.env.qual none .none (some C.env)) (fun cenv s₄ =>
      codeAny (model G.prog G.w) C.A (.compStart (.ListComp elt [⟨.Name x px, iter, [], 0⟩] scope pos) 0 (.ref I) acc { cenv with scope := relabel scope C.env })
        (compPost (model G.prog G.w) C.A (fun _ _ => False) none K acc cenv.locals) s₄) (fun _ _ => False) s₃) (fun _ _ => False) s := by
  refine wpAny_newObj_type (wpAny_newFunctionEnv hcell (by intro y hy; simp at hy) (fun h₁ hns₁ hsb₁ => ?_) hk)
  dsimp only at hns₁ hsb₁ ⊢
  have hsz2 : (s.heap.push { cls := .type "list", dict := none, data := .seq ([] : List Value).toArray }).objs.size = s.heap.objs.size + 1 := Heap.size_push ..
  have kpush : ∀ b o, s.heap.get? b = some o → (s.heap.push { cls := .type "list", dict := none, data := .seq ([] : List Value).toArray }).get? b = some o := fun _ _ e => Heap.get?_push_of_some _ e
  have hacc0 : (s.heap.push { cls := .type "list", dict := none, data := .seq ([] : List Value).toArray }).get? s.heap.objs.size = some { cls := .type "list", data := .seq ([] : List Value).toArray } := Heap.get?_push_size _ rfl
  generalize s.heap.push { cls := .type "list", dict := none, data := .seq ([] : List Value).toArray } = H2 at hns₁ hsb₁ hsz2 kpush hacc0 ⊢
  have k₁ : ∀ b o, H2.get? b = some o → h₁.get? b = some o := fun b o e => hsb₁.extBut b o (Nat.ne_of_lt (Heap.lt_size e)) (Heap.get?_push_of_some _ e)
  have hBf : ∀ b, s.heap.objs.size ≤ b → G.B.get? b = none := fun b hb => by
    cases q : G.B.get? b with
    | none => rfl
    | some o => exact absurd (Heap.lt_size (S.stay _ _ q)) (Nat.not_lt.mpr hb)
  have hXB : G.B.get? H2.objs.size = none := hBf _ (by rw [hsz2]; exact Nat.le_succ _)
  have hDX : s.heap.objs.size ≠ H2.objs.size := by rw [hsz2]; exact Nat.ne_of_lt (Nat.lt_succ_self _)
  have hσD : σ s.heap.objs.size = none := S.toStG.fresh
  have hσX : σ H2.objs.size = none := by
    cases q : σ H2.objs.size with
    | none => rfl
    | some ao => have := S.toStG.lt q; rw [hsz2] at this; exact absurd (Nat.lt_of_succ_lt this) (Nat.lt_irrefl _)
  obtain ⟨oI, vI, hoI, hdI⟩ := F.data _ _ h0
  have hIlt : I < s.heap.objs.size := Heap.lt_size hoI
  obtain ⟨mL, hnL⟩ := S.ns
  have hLlt := hnL.lt
  -- the comprehension's own state
  have captured : ∀ h', (∀ b o, b < s.heap.objs.size → σ b = none → s.heap.get? b = some o → h'.get? b = some o) → ∀ y w, lk μc y = some w → (y == ("__debug__" : Str)) = false ∧ ∃ v, AV.is w v ∧ HoldsVar (compEnvC scope cl H2.objs.size C.env) h' y v := fun h' k y w q => by
    have hm := lk_mem q
    obtain ⟨c1, c2, c3, c4⟩ := hcap _ hm
    obtain ⟨hdb, v, hv, Hv⟩ := S.vars y w c1
    refine ⟨hdb, v, hv, ?_⟩
    rcases Hv with ⟨hk', _⟩ | ⟨_, c, hc, o, ho, hdd⟩
    · rw [hk'] at c2; cases c2
    · exact .inr ⟨.inl c3, c, c4.trans hc, o, k c o (Heap.lt_size ho) (S.toStG.none_of ho fun vs n q => by rw [hdd] at q; cases q) ho, hdd⟩
  have mkSt : ∀ h' m', (∀ b o, G.B.get? b = some o → h'.get? b = some o) → (∀ a ao, σ a = some ao → ao.at G.B h' a) → h'.Ns H2.objs.size m' → (∀ b o, b < s.heap.objs.size → σ b = none → s.heap.get? b = some o → b ≠ I → h'.get? b = some o) →
      St G (compC C scope cl H2.objs.size hk hXB) μc σ h' := fun h' m' stay rep hn k => by
    refine ⟨⟨stay, rep⟩, ⟨m', hn⟩, fun y w q => ?_⟩
    have hm := lk_mem q
    obtain ⟨c1, c2, c3, c4⟩ := hcap _ hm
    obtain ⟨hdb, v, hv, Hv⟩ := S.vars y w c1
    refine ⟨hdb, v, hv, ?_⟩
    rcases Hv with ⟨hk', _⟩ | ⟨_, c, hc, o, ho, hdd⟩
    · rw [hk'] at c2; cases c2
    · refine .inr ⟨.inl c3, c, c4.trans hc, o, k c o (Heap.lt_size ho) (S.toStG.none_of ho fun vs n q => by rw [hdd] at q; cases q) ho ?_, hdd⟩
      rintro rfl
      rw [hoI] at ho; cases ho; rw [hdI] at hdd; cases hdd
  have loop : codeAny (model G.prog G.w) C.A (.compLoop (.ListComp elt [⟨.Name x px, iter, [], 0⟩] scope pos) 0 (.ref I) (.ref s.heap.objs.size) (compEnvC scope cl H2.objs.size C.env))
      (compPost (model G.prog G.w) C.A (fun _ _ => False) none K (.ref s.heap.objs.size) H2.objs.size) { s with heap := h₁, toks := s.toks + ([] : List (Str × Value)).length } := by
    refine codeAny_compLoop_list (fun n s' => ∃ i vs k m', i ≤ M ∧ n = M + 1 - i ∧ It i s'.heap ∧ Are ((List.range i).map res) vs ∧ s'.heap.get? s.heap.objs.size = some { cls := .type "list", data := .seq vs.toArray k } ∧ s'.heap.Ns H2.objs.size m' ∧ StG G σ s'.heap ∧
      (∀ b o, b ≠ I → b < s.heap.objs.size → σ b = none → s.heap.get? b = some o → s'.heap.get? b = some o) ∧ Same s s') ?_ (M + 1)
      ⟨0, [], 0, _, Nat.zero_le _, rfl, F.keep _ _ _ h0 fun o e => k₁ _ _ (kpush _ _ e), trivial, k₁ _ _ hacc0, hns₁, S.toStG.ext fun b o e => k₁ _ _ (kpush _ _ e), fun b o _ _ _ e => k₁ _ _ (kpush _ _ e), Same.both⟩ (letOwned_name _)
    rintro n s' ⟨i, vs, kk, m', hi, rfl, hIt, hAre, hD, hN, SG, keep, msame⟩
    by_cases hlt : i < M
    · refine wpAny_mono (Q := fun r s₁ => match r with
        | none => False
        | some v => wpAny (model G.prog G.w) C.A (assign (.Name x px) (compEnvC scope cl H2.objs.size C.env) v) (fun _ s₂ => wpAny (model G.prog G.w) C.A (eval elt (compEnvC scope cl H2.objs.size C.env)) (fun y s₃ =>
          wpAny (model G.prog G.w) C.A (call (.builtin "list.append") [.ref s.heap.objs.size, y]) (fun _ s₄ => ∃ m, m < M + 1 - i ∧ ∃ i vs k m', i ≤ M ∧ m = M + 1 - i ∧ It i s₄.heap ∧ Are ((List.range i).map res) vs ∧ s₄.heap.get? s.heap.objs.size = some { cls := .type "list", data := .seq vs.toArray k } ∧ s₄.heap.Ns H2.objs.size m' ∧ StG G σ s₄.heap ∧
            (∀ b o, b ≠ I → b < s.heap.objs.size → σ b = none → s.heap.get? b = some o → s₄.heap.get? b = some o) ∧ Same s s₄) (fun _ _ => False) s₃) (fun _ _ => False) s₂) (fun _ _ => False) s₁) (F.next i s' _ hlt hIt SG fun v h' tk hv hIt' hs' => ?_) ?_ (fun _ _ e => e.elim)
      · obtain ⟨oI', vI', hoI', hdI'⟩ := F.data _ _ hIt
        -- after the draw
        have stay' : ∀ b o, G.B.get? b = some o → h'.get? b = some o := fun b o e => hs'.extBut b o (by rintro rfl; rw [hIB] at e; cases e) (SG.stay b o e)
        have rep' : ∀ a ao, σ a = some ao → ao.at G.B h' a := fun a ao q => (SG.rep a ao q).keep fun o e => hs'.extBut a o (by rintro rfl; rw [SG.none_of hoI' (fun _ _ q => by rw [hdI'] at q; cases q)] at q; cases q) e
        have S' : St G (compC C scope cl H2.objs.size hk hXB) μc σ h' := mkSt h' m' stay' rep' (hN.extBut hs'.extBut (by rw [hsz2]; exact Nat.ne_of_gt (Nat.lt_succ_of_lt hIlt))) fun b o hb n e hbI => hs'.extBut b o hbI (keep b o hbI hb n e)
        refine wpAny_assign_Name (store_local (C := compC C scope cl H2.objs.size hk hXB) (s := { s' with heap := h', toks := tk }) S' (lookup_relabel_local hx) hd hv fun s₂ S₂ k₂ m₂ => ?_)
        refine VP.bind (C := compC C scope cl H2.objs.size hk hXB) (helt i _ hXB hlt s₂ S₂) fun u y σ₃ s₃ hu hq₃ S₃ k₃ m₃ => ?_
        obtain ⟨rfl, hle⟩ := hq₃
        have k₂₃ := k₂.trans k₃
        have hDne : (some s.heap.objs.size : Option Addr) ≠ some (compC C scope cl H2.objs.size hk hXB).env.locals := fun q => hDX (Option.some.inj q)
        have hD' : h'.get? s.heap.objs.size = some { cls := .type "list", data := .seq vs.toArray kk } := hs'.extBut _ _ (Nat.ne_of_gt hIlt) hD
        have hD3 := (k₂₃ _ _ hDne hσD hD').1
        have hlen := hAre.length
        rw [List.length_map, List.length_range] at hlen
        refine append_at hD3 (fun h₄ hs₄ hD4 => ?_) (by rw [List.size_toArray, ← hlen, sizeLine_eq]; omega)
        have hσ₃D : σ₃ s.heap.objs.size = none := (k₂₃ _ _ hDne hσD hD').2
        refine ⟨M + 1 - (i + 1), by omega, i + 1, vs ++ [y], kk + 1, ?_⟩
        obtain ⟨m₃', hN₃⟩ := S₃.ns
        refine ⟨m₃', hlt, rfl, ?_, ?_, by rw [hD4]; simp, ?_, ?_, ?_, ?_⟩
        · refine F.keep _ _ _ hIt' fun o e => hs₄.extBut _ _ (Nat.ne_of_lt hIlt) (k₂₃ _ _ (fun q => ?_) ?_ e).1
          · have : I = H2.objs.size := Option.some.inj q
            rw [this, hsz2] at hIlt; exact Nat.lt_irrefl _ (Nat.lt_of_succ_lt hIlt)
          · obtain ⟨oI2, vI2, hoI2, hdI2⟩ := F.data _ _ hIt'
            exact S'.toStG.none_of hoI2 fun _ _ q => by rw [hdI2] at q; cases q
        · rw [List.range_succ, List.map_append]
          exact hAre.append (us' := [res i]) ⟨hu, trivial⟩
        · exact hN₃.extBut hs₄.extBut hDX.symm
        · refine ⟨fun b o e => hs₄.extBut b o (by rintro rfl; rw [hBf _ (Nat.le_refl _)] at e; cases e) (S₃.stay b o e), fun a ao q => (S₃.rep a ao (hle a ao q)).keep fun o e => hs₄.extBut a o (by rintro rfl; rw [hσD] at q; cases q) e⟩
        · intro b o hbI hb n e
          have e1 := hs'.extBut b o hbI (keep b o hbI hb n e)
          refine hs₄.extBut b o (Nat.ne_of_lt hb) (k₂₃ b o (fun q => ?_) n e1).1
          have : b = H2.objs.size := Option.some.inj q
          rw [this, hsz2] at hb; exact Nat.lt_irrefl _ (Nat.lt_of_succ_lt hb)
        · exact ((msame.trans Same.both).trans (m₂.trans m₃)).trans Same.heap
      · intro r s₁ h₁
        cases r with
        | none => exact h₁.elim
        | some v => exact wpAny_mono h₁ (fun _ s₂ h₂ => wpAny_mono h₂ (fun y s₃ h₃ => wpAny_mono h₃ (fun _ _ q => q) fun _ _ e => e.elim) fun _ _ e => e.elim) fun _ _ e => e.elim
    · have hiM : i = M := by omega
      subst hiM
      refine wpAny_mono (F.last s' (fun r s₁ => r = none ∧ compPost (model G.prog G.w) C.A (fun _ _ => False) none K (.ref s.heap.objs.size) H2.objs.size (.ok .next) s₁) hIt SG fun h' he => ⟨rfl, m', hN.extBut he (by rw [hsz2]; exact Nat.ne_of_gt (Nat.lt_succ_of_lt hIlt)), fun h₅ hs₅ => ?_⟩) (fun r s₁ q => ?_) fun _ _ e => e.elim
      · obtain ⟨oI', vI', hoI', hdI'⟩ := F.data _ _ hIt
        have hXlt : ∀ b, b < s.heap.objs.size → b ≠ H2.objs.size := fun b hb q => by rw [q, hsz2] at hb; exact Nat.lt_irrefl _ (Nat.lt_of_succ_lt hb)
        have kk5 : ∀ b o, b ≠ I → b < s.heap.objs.size → σ b = none → s.heap.get? b = some o → h₅.get? b = some o := fun b o hbI hb n e => hs₅.extBut b o (hXlt b hb) (he b o hbI (keep b o hbI hb n e))
        have SG5 : StG G σ h₅ := ⟨fun b o e => hs₅.extBut b o (by rintro rfl; rw [hXB] at e; cases e) (he b o (by rintro rfl; rw [hIB] at e; cases e) (SG.stay b o e)), fun a ao q => (SG.rep a ao q).keep fun o e => hs₅.extBut a o (by rintro rfl; rw [hσX] at q; cases q) (he a o (by rintro rfl; rw [SG.none_of hoI' (fun _ _ q => by rw [hdI'] at q; cases q)] at q; cases q) e)⟩
        have S5 : St G C μ σ h₅ := by
          obtain ⟨oL, es, ep, hoL, hdL, rL⟩ := id hnL
          have hL5 : h₅.Ns C.env.locals mL := ⟨oL, es, ep, kk5 _ _ (Ne.symm hI) hLlt (S.toStG.ns_none hnL) hoL, hdL, rL⟩
          refine ⟨SG5, ⟨mL, hL5⟩, fun y w q => ?_⟩
          obtain ⟨hdb, v, hv, Hv⟩ := S.vars y w q
          refine ⟨hdb, v, hv, ?_⟩
          rcases Hv with ⟨hk', m₁, hn₁, e⟩ | ⟨hk', c, hc, o, ho, hdd⟩
          · exact .inl ⟨hk', mL, hL5, by rw [ns_unique hnL hn₁]; exact e⟩
          · refine .inr ⟨hk', c, hc, o, kk5 c o ?_ (Heap.lt_size ho) (S.toStG.none_of ho fun vs n q => by rw [hdd] at q; cases q) ho, hdd⟩
            rintro rfl
            rw [hoI] at ho; cases ho; rw [hdI] at hdd; cases hdd
        exact hq _ hσD (S5.add ⟨vs, kk, none, #[], hAre, hs₅.extBut _ _ hDX (he _ _ (Nat.ne_of_gt hIlt) hD), fun _ => ⟨rfl, rfl, hBf _ (Nat.le_refl _)⟩⟩) (fun b o hbI n e => kk5 b o hbI (Heap.lt_size e) n e) ((msame.trans Same.heap).trans Same.heap)
      · obtain ⟨rfl, hq⟩ := q
        exact hq
  have hit1 : It 0 h₁ := F.keep _ _ _ h0 fun o e => k₁ _ _ (kpush _ _ e)
  exact codeAny_compStart_list loop (wpAny_mono (F.self { s with heap := h₁, toks := s.toks + ([] : List (Str × Value)).length } _ hit1 loop) (fun _ _ q => q) fun _ _ e => e.elim)

theorem EV_comp_range {elt e : Expr} {es : List Expr} {x : Str} {px p rpos pos : Pos} {scope : Scope} {cl : List (Str × Addr)} (μc : Mu) {Q : AV → AH → Prop}
    (hr : C.env.kindOf "range" = some .globalImplicit)
    (hk : scope.kind = .function) (hcell : ∀ y ∈ scope.names, y.2 ≠ .cell) (hnames : ∀ y ∈ scope.names, y.2 = .local → scope.names.lookup y.1 = some .local) (hx : scope.names.lookup x = some .local) (hd : (x == ("__debug__" : Str)) = false)
    (hclos : closureFor scope C.env = pure cl)
    (hcap : ∀ p ∈ μc, lk μ p.1 = some p.2 ∧ C.env.kindOf p.1 = some .cell ∧ (relabel scope C.env).names.lookup p.1 = some .cell ∧ cl.lookup p.1 = C.env.cells.lookup p.1)
    (h : EVs G C (e :: es) μ σ fun us σ₁ => ∃ (b : Int) (res : Nat → AV), us = [.int b] ∧ b ≤ 1000000 ∧ -1000000 ≤ b ∧
      (∀ i X hX, i < b.toNat → EV G (compC C scope cl X hk hX) elt ((x, .int i) :: μc) σ₁ fun u σ' => u = res i ∧ Le σ₁ σ') ∧
      ∀ r, σ₁ r = none → Q (.ref r) (upd σ₁ r (.lst true ((List.range b.toNat).map res))))
    (hs : ∀ y, foldedSetIterable (.Call (.Name "range" p) (e :: es) [] rpos) C.env y = pure y := by intro _; with_unfolding_all rfl)
    (he : eval (.Call (.Name "range" p) (e :: es) [] rpos) C.env = (do callWith rpos (← eval (.Name "range" p) C.env) [] (backTo rpos (starEach (e :: es) C.env)) (backToKw rpos (keywordEach [] C.env))) := by with_unfolding_all rfl)
    (he' : starEach (e :: es) C.env = (false, eval e C.env) :: starEach es C.env := by with_unfolding_all rfl)
    (hplain : (backTo rpos (starEach es C.env)).any (·.1) = false := by with_unfolding_all rfl) :
    EV G C (.ListComp elt [⟨.Name x px, .Call (.Name "range" p) (e :: es) [] rpos, [], 0⟩] scope pos) μ σ Q := fun s S => by
  rw [eval_ListComp]
  refine wpAny_comprehension_free (use := none) rfl hs hclos hk hnames ?_
  refine call_type_K S hr boot_range (G.no (by decide)) h (fun us vs σ₁ s₁ hus hP S₁ k₁ m₁ => ?_) (by decide) (by decide) he he' hplain
  obtain ⟨b, res, rfl, hb1, hb2, helt, hq⟩ := hP
  obtain ⟨v, rfl, t, rfl⟩ := are1 hus
  refine call_range_1 ?_
  have hrg : IsRange (s₁.heap.push { cls := .type "range", data := .fields #[.int 0 s₁.toks, .int b t, .int 1 (s₁.toks + 1)] }) s₁.heap.objs.size 0 b 1 s₁.toks t (s₁.toks + 1) := Heap.get?_push_size _ rfl
  have S₂ : St G C μ σ₁ (s₁.heap.push { cls := .type "range", data := .fields #[.int 0 s₁.toks, .int b t, .int 1 (s₁.toks + 1)] }) := S₁.ext fun _ _ e => Heap.get?_push_of_some _ e
  have hz : (s₁.heap.push { cls := .type "range", data := .fields #[.int 0 s₁.toks, .int b t, .int 1 (s₁.toks + 1)] }).objs.size = s₁.heap.objs.size + 1 := Heap.size_push ..
  have p1 : ∀ b' o, s₁.heap.get? b' = some o → (s₁.heap.push { cls := .type "range", data := .fields #[.int 0 s₁.toks, .int b t, .int 1 (s₁.toks + 1)] }).get? b' = some o := fun _ _ e => Heap.get?_push_of_some _ e
  generalize s₁.heap.push { cls := .type "range", data := .fields #[.int 0 s₁.toks, .int b t, .int 1 (s₁.toks + 1)] } = H at hrg S₂ hz p1 ⊢
  have hsz : Builtin.Range.rangeSize 0 b 1 = (b.toNat : Int) := by rw [rangeSize_one]; split <;> omega
  refine wpAny_pyIter_range hrg (small_one (by omega) (by omega) (by omega) (by omega)) ?_
  rw [hsz]
  have S₃ : St G C μ σ₁ (H.push { cls := .type "range_iterator", data := .fields #[rawInt 0, rawInt (b.toNat : Int), rawInt 1] }) := S₂.ext fun _ _ e => Heap.get?_push_of_some _ e
  obtain ⟨mL, hnL⟩ := S₁.ns
  refine comp_core (s := { s₁ with heap := H.push { cls := .type "range_iterator", data := .fields #[rawInt 0, rawInt (b.toNat : Int), rawInt 1] }, toks := s₁.toks + 1 + 1 }) (feeds_range (I := H.objs.size) (a := 0) (c := 1) (M := b.toNat) C.hh) (by omega) S₃ ?_ (ns_ne hnL (by rw [hz]; exact Nat.le_succ _)) S₂.toStG.Bfresh hk hcell hx hd hcap (res := res) (fun i X hX hi => ?_) (fun s' hfr S' k' m' => ?_)
  · have := Heap.get?_push_size H (o := { cls := .type "range_iterator", data := .fields #[rawInt 0, rawInt (b.toNat : Int), rawInt 1] }) rfl
    simpa [IsRangeIter] using this
  · have := helt i X hX hi
    simpa using this
  · refine ⟨.ref _, _, is_ref _, hq _ hfr, S', k₁.trans fun b' o hb n e => ⟨k' b' o ?_ n (Heap.get?_push_of_some _ (p1 _ _ e)), ?_⟩, m₁.trans (Same.both.trans m')⟩
    · rw [hz]; exact Nat.ne_of_lt (Nat.lt_succ_of_lt (Heap.lt_size e))
    · rw [upd_ne ?_]
      · exact n
      · have hlt := Heap.lt_size e
        show b' ≠ (H.push _).objs.size
        rw [Heap.size_push, hz]
        exact Nat.ne_of_lt (Nat.lt_succ_of_lt (Nat.lt_succ_of_lt hlt))

theorem EV_comp_list {elt iter : Expr} {x : Str} {px pos : Pos} {scope : Scope} {cl : List (Str × Addr)} (μc : Mu) {Q : AV → AH → Prop}
    (hk : scope.kind = .function) (hcell : ∀ y ∈ scope.names, y.2 ≠ .cell) (hnames : ∀ y ∈ scope.names, y.2 = .local → scope.names.lookup y.1 = some .local) (hx : scope.names.lookup x = some .local) (hd : (x == ("__debug__" : Str)) = false)
    (hclos : closureFor scope C.env = pure cl)
    (hcap : ∀ p ∈ μc, lk μ p.1 = some p.2 ∧ C.env.kindOf p.1 = some .cell ∧ (relabel scope C.env).names.lookup p.1 = some .cell ∧ cl.lookup p.1 = C.env.cells.lookup p.1)
    (h : EV G C iter μ σ fun u σ₁ => ∃ l m xs, ∃ (res : Nat → AV), u = .ref l ∧ σ₁ l = some (.lst m xs) ∧ xs.length ≤ 1000000 ∧
      (∀ i X hX, i < xs.length → EV G (compC C scope cl X hk hX) elt ((x, xs.getD i .none) :: μc) σ₁ fun u σ' => u = res i ∧ Le σ₁ σ') ∧
      ∀ r, σ₁ r = none → Q (.ref r) (upd σ₁ r (.lst true ((List.range xs.length).map res))))
    (hs : ∀ y, foldedSetIterable iter C.env y = pure y := by intro _; with_unfolding_all rfl) :
    EV G C (.ListComp elt [⟨.Name x px, iter, [], 0⟩] scope pos) μ σ Q := fun s S => by
  rw [eval_ListComp]
  refine wpAny_comprehension_free (use := none) rfl hs hclos hk hnames ?_
  show wpAny _ _ (eval iter C.env) _ _ _
  refine VP.bind (h s S) fun u vu σ₁ s₁ hu hP S₁ k₁ m₁ => ?_
  obtain ⟨l, m, xs, res, eu, hl, hn, helt, hq⟩ := hP
  subst eu
  cases hu
  obtain ⟨vs, hr, hw⟩ := at_isList (S₁.rep l _ hl)
  refine wpAny_pyIter_list hw ?_
  have S₃ : St G C μ σ₁ (s₁.heap.push { cls := .type "list_iterator", data := .fields #[.ref l, .int 0 0] }) := S₁.ext fun _ _ e => Heap.get?_push_of_some _ e
  obtain ⟨mL, hnL⟩ := S₁.ns
  refine comp_core (s := { s₁ with heap := s₁.heap.push { cls := .type "list_iterator", data := .fields #[.ref l, .int 0 0] } }) (feeds_list (I := s₁.heap.objs.size) C.hh hl) hn S₃ ⟨_, Heap.get?_push_size _ rfl, rfl, rfl⟩ (ns_ne hnL (Nat.le_refl _)) S₁.toStG.Bfresh hk hcell hx hd hcap (res := res) helt (fun s' hfr S' k' m' => ?_)
  refine ⟨.ref _, _, is_ref _, hq _ hfr, S', k₁.trans fun b' o hb n e => ⟨k' b' o (Nat.ne_of_lt (Heap.lt_size e)) n (Heap.get?_push_of_some _ e), ?_⟩, m₁.trans (Same.heap.trans m')⟩
  rw [upd_ne ?_]
  · exact n
  · have hlt := Heap.lt_size e
    show b' ≠ (s₁.heap.push _).objs.size
    rw [Heap.size_push]
    exact Nat.ne_of_lt (Nat.lt_succ_of_lt hlt)
end
section
variable {G : GC} {C : FC G} {μ : Mu} {σ : AH} {N : Mu → AH → Prop} {R : AV → AH → Prop}

def mkCC (G : GC) (name : Str) (scope : Scope) (A : Around) (L f : Addr) (cd : Value) (l : Nat) (hh : A.handled = none) (hk : scope.kind = .function) (room : A.depth + l < recursionLimit) (units : A.units + 20 * l + 40 < cLine) (hL : G.B.get? L = none) : FC G :=
  { A := A, env := envOfC name scope L f cd, lv := l, hh := hh, hk := hk, hg := rfl, hb := rfl, room := room, units := units, hL := hL }

theorem lk_binds (kindOf : Str → Option NameKind) {names : List Str} : ∀ {us : List AV} {vs : List Value} {acc : Mu} {m cm : Str → Option Value}, Are us vs →
    (∀ x u, lk acc x = some u → ∃ v, AV.is u v ∧ (if kindOf x = some .local then m x = some v else cm x = some v)) →
    ∀ x u, lk ((names.zip us).reverse ++ acc) x = some u → ∃ v, AV.is u v ∧ (if kindOf x = some .local then bindL kindOf (names.zip vs) m x = some v else bindC kindOf (names.zip vs) cm x = some v) := by
  induction names with
  | nil => intro us vs acc m cm _ h x u q; simp at q ⊢; exact h x u q
  | cons n names ih =>
    intro us vs acc m cm ha h x u q
    match us, vs, ha with
    | [], [], _ => simp at q ⊢; exact h x u q
    | a :: us, v :: vs, ha =>
      simp only [List.zip_cons_cons, List.reverse_cons, List.append_assoc, List.singleton_append] at q ⊢
      simp only [bindL, bindC]
      refine ih (us := us) (vs := vs) (acc := (n, a) :: acc) ha.2 (fun y w q => ?_) x u q
      unfold lk at q
      split at q
      · next e =>
        cases q; subst e
        refine ⟨v, ha.1, ?_⟩
        split
        · simp
        · simp
      · next e =>
        obtain ⟨v', h1, h2⟩ := h y w q
        refine ⟨v', h1, ?_⟩
        split
        · next hy =>
          rw [if_pos hy] at h2
          split <;> simp [e, h2]
        · next hy =>
          rw [if_neg hy] at h2
          split <;> simp [e, h2]

theorem FN_introC {d : DefRec} {us : List AV} {Q : AV → AH → Prop} {l : Nat} {names : List Str} (hd : d ∈ theDefs)
    (hbind : ∀ vs, Are us vs → ∀ pm cd doc, bindArgs (docDef d.name d.params d.body d.scope pm cd doc) ⟨vs, []⟩ = pure (names.zip vs))
    (hloc : ∀ x ∈ names, (d.scope.names.lookup x = some .local ∨ d.scope.names.lookup x = some .cell) ∧ (x == ("__debug__" : Str)) = false)
    (hk : d.scope.kind = .function)
    (body : ∀ A L f cd hh room units hL, XS G (mkCC G d.name d.scope A L f cd l hh hk room units hL) d.body (names.zip us).reverse σ (fun _ σ' => Q .none σ') Q)
    (hco : d.scope.isCoroutine = false) (hgen : d.scope.isGenerator = false) : FN G (l + 1) (G.fa d.name) us σ Q := by
  intro A s vs hh hroom hunits S hvs
  obtain ⟨o, pm, code, doc, h1, h2, h3, h4⟩ := G.fnAt hd
  refine wpAny_call (codeAny_call_function (by omega) (S.stay _ _ h2) h3 hco hgen rfl (h4.keeps S.stay) ?_)
  rw [hbind vs hvs pm code doc]
  have hsome : ∀ x ∈ names.zip vs, List.lookup x.1 d.scope.names = some .cell → ∀ n, (List.lookup x.1 (cellsFrom n d.scope.names [])).isSome = true := fun x hx hc n => cells_of _ _ _ hc
  refine wpAny_pure (wpAny_newFunctionEnv_cells hk (fun x hx => ?_) fun env' he s' x => ?_)
  · rcases (hloc x.1 (List.of_mem_zip hx).1).1 with q | q
    · exact .inl q
    · exact .inr ⟨q, hsome x hx q _⟩
  subst he
  have hk1 := x.toInCall.keep
  have S1 : StG G σ s'.heap := S.ext hk1
  refine ⟨(G.nolimit.keeps S.stay).keeps hk1, ?_⟩
  show codeAny _ _ (.func d.body (envOfC d.name d.scope s.heap.objs.size (G.fa d.name) code)) _ _
  refine codeAny_func ?_
  have hL : G.B.get? s.heap.objs.size = none := S.Bfresh
  have hr : (A.deeper (envOfC d.name d.scope s.heap.objs.size (G.fa d.name) code)).depth + l < recursionLimit := by show A.depth + 1 + l < _; omega
  have hu : (A.deeper (envOfC d.name d.scope s.heap.objs.size (G.fa d.name) code)).units + 20 * l + 40 < cLine := by show A.units + 3 + 20 * l + 40 < _; omega
  have B := body (A.deeper (envOfC d.name d.scope s.heap.objs.size (G.fa d.name) code)) s.heap.objs.size (G.fa d.name) code hh hr hu hL
  have hms : Same s s' := x.toInCall.same
  refine wpAny_mono (B s' ⟨S1, ⟨_, x.toInCall.ns⟩, fun y u q => ?_⟩) (fun f s'' q => ?_) fun _ _ e => e.elim
  · have q' : lk ((names.zip us).reverse ++ []) y = some u := by rw [List.append_nil]; exact q
    have hy : y ∈ names := by
      have := lk_mem q
      exact (List.of_mem_zip (List.mem_reverse.mp this)).1
    obtain ⟨hkind, hdb⟩ := hloc y hy
    obtain ⟨v, hv, e⟩ := lk_binds (fun n => d.scope.names.lookup n) (m := fun _ => none) (cm := fun _ => none) hvs (fun _ _ q => by cases q) y u q'
    refine ⟨hdb, v, hv, ?_⟩
    rcases hkind with q | q
    · rw [if_pos q] at e
      exact .inl ⟨q, _, x.toInCall.ns, e⟩
    · rw [if_neg (by rw [q]; intro z; cases z)] at e
      have hmem : y ∈ names := hy
      have hz : ((cellsFrom (s.heap.objs.size + 1) d.scope.names []).lookup y).isSome = true := cells_of _ _ _ q
      obtain ⟨c, hc⟩ := Option.isSome_iff_exists.mp hz
      have := x.cell y c hc
      have e' : bindC (fun n => d.scope.names.lookup n) (names.zip vs) (fun _ => none) y = some v := e
      have this' : s'.heap.IsCell c (bindC (fun n => d.scope.names.lookup n) (names.zip vs) (fun _ => none) y) := this
      rw [e'] at this'
      exact .inr ⟨.inl q, c, hc, this'⟩
  · have kk : ∀ {σ'} {h' : Heap}, Step (some s.heap.objs.size) σ s'.heap σ' h' → Step none σ s.heap σ' h' := fun k b o _ n e =>
      k b o (fun q => by have := Heap.lt_size e; rw [Option.some.inj q] at this; exact Nat.lt_irrefl _ this) n (hk1 b o e)
    rcases q with ⟨e, μ'', σ'', hN, h2, h3, h4⟩ | ⟨v, u, σ'', e, h2, h3, h4, h5, h6⟩
    · subst e; exact ⟨.none, σ'', rfl, hN, h2.toStG, kk h3, hms.trans h4⟩
    · subst e; exact ⟨u, σ'', h2, h3, h4, kk h5, hms.trans h6⟩

/-! ### the text's defs by their places -/
def D (i : Nat) : DefRec := theDefs.getD i ⟨"", ⟨[], [], none, [], [], none, []⟩, [], default, default⟩
theorem defs_len : theDefs.length = 37 := by decide +kernel
theorem D_mem {i : Nat} (h : i < 37) : D i ∈ theDefs := by
  unfold D
  rw [List.getD_eq_getElem?_getD, List.getElem?_eq_getElem (by rw [defs_len]; exact h)]
  exact List.getElem_mem _

/-- a fact out of the arithmetic's sight -/
def Hid (p : Prop) : Prop := p
theorem FN_of {x : Str} {us : List AV} {Q : AV → AH → Prop} {l : Nat} (names : List Str) (i : Nat) (hn : (D i).name = x) (hi : i < 37)
    (hbind : ∀ vs, Are us vs → ∀ pm cd doc, bindArgs (docDef (D i).name (D i).params (D i).body (D i).scope pm cd doc) ⟨vs, []⟩ = pure (names.zip vs))
    (hloc : ∀ x ∈ names, (D i).scope.names.lookup x = some .local ∧ (x == ("__debug__" : Str)) = false)
    (hk : (D i).scope.kind = .function)
    (hco : (D i).scope.isCoroutine = false) (hgen : (D i).scope.isGenerator = false) (hcell : ∀ x ∈ (D i).scope.names, x.2 ≠ .cell)
    (body : ∀ (A : Around) L f cd hh (room : Hid (A.depth + l < recursionLimit)) (units : Hid (A.units + 20 * l + 40 < cLine)) hL, XS G (mkC G (D i).name (D i).scope A L f cd l hh hk room units hL) (D i).body (names.zip us).reverse σ (fun _ σ' => Q .none σ') Q)
     : FN G (l + 1) (G.fa x) us σ Q := hn ▸ FN_intro (D_mem hi) hbind hloc hk body hco hgen hcell
theorem FN_ofC {x : Str} {us : List AV} {Q : AV → AH → Prop} {l : Nat} (names : List Str) (i : Nat) (hn : (D i).name = x) (hi : i < 37)
    (hbind : ∀ vs, Are us vs → ∀ pm cd doc, bindArgs (docDef (D i).name (D i).params (D i).body (D i).scope pm cd doc) ⟨vs, []⟩ = pure (names.zip vs))
    (hloc : ∀ x ∈ names, ((D i).scope.names.lookup x = some .local ∨ (D i).scope.names.lookup x = some .cell) ∧ (x == ("__debug__" : Str)) = false)
    (hk : (D i).scope.kind = .function)
    (hco : (D i).scope.isCoroutine = false) (hgen : (D i).scope.isGenerator = false)
    (body : ∀ (A : Around) L f cd hh (room : Hid (A.depth + l < recursionLimit)) (units : Hid (A.units + 20 * l + 40 < cLine)) hL, XS G (mkCC G (D i).name (D i).scope A L f cd l hh hk room units hL) (D i).body (names.zip us).reverse σ (fun _ σ' => Q .none σ') Q)
     : FN G (l + 1) (G.fa x) us σ Q := hn ▸ FN_introC (D_mem hi) hbind hloc hk body hco hgen
end

/-! ### bits -/
theorem and_mask {x : Int} (hx : 0 ≤ x) (w : Nat) : Builtin.bitAnd x (2 ^ w - 1) = x % 2 ^ w := by
  obtain ⟨n, rfl⟩ := Int.eq_ofNat_of_zero_le hx
  have h1 : (1 : Nat) ≤ 2 ^ w := Nat.one_le_two_pow
  have e : ((2 : Int) ^ w - 1) = ((2 ^ w - 1 : Nat) : Int) := by
    rw [Int.natCast_sub h1]; push_cast; rfl
  rw [e, bitAnd_pp (by omega) (by omega)]
  simp only [Int.toNat_natCast]
  rw [Nat.and_two_pow_sub_one_eq_mod]
  push_cast; rfl
theorem or_disj {x y : Int} {k : Nat} (z : Int) (hz : 0 ≤ z) (hx : x = 2 ^ k * z) (hy : 0 ≤ y) (hlt : y < 2 ^ k) : Builtin.bitOr x y = x + y := by
  obtain ⟨m, rfl⟩ := Int.eq_ofNat_of_zero_le hz
  obtain ⟨n, rfl⟩ := Int.eq_ofNat_of_zero_le hy
  have hn : n < 2 ^ k := by
    have : ((n : Nat) : Int) < ((2 ^ k : Nat) : Int) := by push_cast; exact hlt
    omega
  have ex : x = ((2 ^ k * m : Nat) : Int) := by rw [hx]; push_cast; rfl
  have hx0 : 0 ≤ x := by rw [ex]; omega
  rw [bitOr_and, bitAnd_pp hx0 hy, ex]
  simp only [Int.toNat_natCast]
  have : 2 ^ k * m &&& n = 0 := by
    apply Nat.eq_of_testBit_eq
    intro i
    rw [Nat.testBit_and, Nat.zero_testBit]
    by_cases hi : i < k
    · rw [Nat.testBit_two_pow_mul]; simp [Nat.not_le.mpr hi]
    · rw [Nat.testBit_lt_two_pow (Nat.lt_of_lt_of_le hn (Nat.pow_le_pow_right (by omega) (by omega)))]; simp
  rw [this]; simp
theorem or_disj' {x y : Int} {k : Nat} (z : Int) (hz : 0 ≤ z) (hx : x = 2 ^ k * z) (hy : 0 ≤ y) (hlt : y < 2 ^ k) : Builtin.bitOr y x = y + x := by
  rw [bitOr_comm, or_disj z hz hx hy hlt, Int.add_comm]

section
variable {G : GC} {C : FC G} {μ : Mu} {σ : AH} {N : Mu → AH → Prop} {R : AV → AH → Prop} {Q : AV → AH → Prop}

theorem BOP_mulS {i j : Int} (h1 : -(2 ^ 60) < i) (h2 : i < 2 ^ 60) (hq : Q (.int (i * j)) σ) : BOP G C .Mult (.int i) (.int j) μ σ Q :=
  BOP_mul (IntMulOk.of_left (intBits_le_64 (by omega) (by omega))) hq
theorem BOP_div {i j : Int} (hj : 0 < j) (hj' : j < 1000000000) (hq : Q (.int (i / j)) σ) : BOP G C .FloorDiv (.int i) (.int j) μ σ Q :=
  BOP_fdiv (by omega) (PyProof.noPylong_small (by omega)) (by rw [Int.fdiv_eq_ediv_of_nonneg i (by omega)]; exact hq)
theorem BOP_emod {i j : Int} (hj : 0 < j) (hq : Q (.int (i % j)) σ) : BOP G C .Mod (.int i) (.int j) μ σ Q :=
  BOP_fmod (by omega) (by rw [Int.fmod_eq_emod_of_nonneg i (by omega)]; exact hq)
theorem AOP_emod {i j : Int} (hj : 0 < j) (hq : Q (.int (i % j)) σ) : AOP G C .Mod (.int i) (.int j) μ σ Q :=
  AOP_fmod (by omega) (by rw [Int.fmod_eq_emod_of_nonneg i (by omega)]; exact hq)
theorem BOP_shlS {i : Int} {n : Nat} (h1 : n ≤ 1000) (h2 : 0 ≤ i) (h3 : i < 2 ^ 60) (hq : Q (.int (i * 2 ^ n)) σ) : BOP G C .LShift (.int i) (.int n) μ σ Q :=
  BOP_shl (by omega) (by omega) (by omega) (by simpa using hq)
theorem pow_pos' (n : Nat) : (0 : Int) < 2 ^ n := by
  have : 0 < 2 ^ n := Nat.two_pow_pos n
  have e : ((2 ^ n : Nat) : Int) = 2 ^ n := by push_cast; rfl
  omega
theorem BOP_shrS {i : Int} {n : Nat} (hq : Q (.int (i / 2 ^ n)) σ) : BOP G C .RShift (.int i) (.int n) μ σ Q :=
  BOP_shr (by omega) (by rw [Int.toNat_natCast, Int.fdiv_eq_ediv_of_nonneg i (Int.le_of_lt (pow_pos' n))]; exact hq)
theorem AOP_shrS {i : Int} {n : Nat} (hq : Q (.int (i / 2 ^ n)) σ) : AOP G C .RShift (.int i) (.int n) μ σ Q :=
  AOP_shr (by omega) (by rw [Int.toNat_natCast, Int.fdiv_eq_ediv_of_nonneg i (Int.le_of_lt (pow_pos' n))]; exact hq)
theorem BOP_mask {i j : Int} {n : Nat} (hi : 0 ≤ i) (hj : j = 2 ^ n - 1) (hq : Q (.int (i % 2 ^ n)) σ) : BOP G C .BitAnd (.int i) (.int j) μ σ Q :=
  BOP_and (by rw [hj, and_mask hi]; exact hq)
theorem BOP_orS {i j z : Int} {k : Nat} (hz : 0 ≤ z) (hx : i = 2 ^ k * z) (h0 : 0 ≤ j) (hlt : j < 2 ^ k) (hq : Q (.int (i + j)) σ) : BOP G C .BitOr (.int i) (.int j) μ σ Q :=
  BOP_or (by rw [or_disj z hz hx h0 hlt]; exact hq)
theorem BOP_orS' {i j z : Int} {k : Nat} (hz : 0 ≤ z) (hx : j = 2 ^ k * z) (h0 : 0 ≤ i) (hlt : i < 2 ^ k) (hq : Q (.int (i + j)) σ) : BOP G C .BitOr (.int i) (.int j) μ σ Q :=
  BOP_or (by rw [or_disj' z hz hx h0 hlt]; exact hq)
theorem AOP_orS' {i j z : Int} {k : Nat} (hz : 0 ≤ z) (hx : j = 2 ^ k * z) (h0 : 0 ≤ i) (hlt : i < 2 ^ k) (hq : Q (.int (i + j)) σ) : AOP G C .BitOr (.int i) (.int j) μ σ Q :=
  AOP_or (by rw [or_disj' z hz hx h0 hlt]; exact hq)

/-- a list of ints -/
abbrev LI (ns : List Int) : AO := .lst true (nums ns)
theorem nums_length (ns : List Int) : (nums ns).length = ns.length := by simp [nums]
theorem nums_get {ns : List Int} {i : Nat} {x : Int} (h : ns[i]? = some x) : (nums ns)[i]? = some (.int x) := by simp [nums, h]
theorem nums_get' {ns : List Int} {i : Nat} {w : AV} (h : (nums ns)[i]? = some w) : ∃ x, ns[i]? = some x ∧ w = .int x := by
  simp only [nums, List.getElem?_map, Option.map_eq_some_iff] at h
  obtain ⟨x, h1, h2⟩ := h
  exact ⟨x, h1, h2.symm⟩
theorem nums_append (a b : List Int) : nums a ++ nums b = nums (a ++ b) := by simp [nums]
theorem nums_snoc (a : List Int) (x : Int) : nums a ++ [.int x] = nums (a ++ [x]) := by simp [nums]
theorem nums_set (a : List Int) (k : Nat) (x : Int) : (nums a).set k (.int x) = nums (a.set k x) := by simp [nums, List.map_set]
theorem nums_replicate (k : Nat) (x : Int) : List.replicate k (AV.int x) = nums (List.replicate k x) := by simp [nums]
theorem nums_reverse (a : List Int) : (nums a).reverse = nums a.reverse := by simp [nums]

/-- an item of a list of ints at a place that is not below nought -/
theorem EV_at {value slice : Expr} {pos : Pos}
    (h : EV G C value μ σ fun o σ₁ => EV G C slice μ σ₁ fun i σ₂ => ∃ a k ns x, o = .ref a ∧ i = .int k ∧ σ₂ a = some (LI ns) ∧ 0 ≤ k ∧ k < 1000000000 ∧ ns[k.toNat]? = some x ∧ Q (.int x) σ₂)
    (hs : ∀ l k u, subscripted slice false (.ref l) (.int k u) = operate [.ref l, .int k u] (getItem (.ref l) (.int k u)) := by intro _ _ _; with_unfolding_all rfl) : EV G C (.Subscript value slice pos) μ σ Q :=
  EV_idx (h.mono fun o σ₁ h₁ => h₁.mono fun i σ₂ ⟨a, k, ns, x, eo, ei, ha, h0, h1, hx, hq⟩ =>
    ⟨a, k, _, .int x, eo, ei, by omega, by omega, ha, by simp only [AO.item]; rw [if_neg (by omega)]; exact nums_get hx, hq⟩) hs
theorem EV_last {value slice : Expr} {pos : Pos}
    (h : EV G C value μ σ fun o σ₁ => EV G C slice μ σ₁ fun i σ₂ => ∃ a ns x, o = .ref a ∧ i = .int (-1) ∧ σ₂ a = some (LI ns) ∧ ns.getLast? = some x ∧ Q (.int x) σ₂)
    (hs : ∀ l k u, subscripted slice false (.ref l) (.int k u) = operate [.ref l, .int k u] (getItem (.ref l) (.int k u)) := by intro _ _ _; with_unfolding_all rfl) : EV G C (.Subscript value slice pos) μ σ Q :=
  EV_idx (h.mono fun o σ₁ h₁ => h₁.mono fun i σ₂ ⟨a, ns, x, eo, ei, ha, hx, hq⟩ =>
    ⟨a, -1, _, .int x, eo, ei, by omega, by omega, ha, by
      simp only [AO.item, nums_length]
      rw [List.getLast?_eq_getElem?] at hx
      have hlt := (List.getElem?_eq_some_iff.mp hx).1
      rw [if_pos (by omega), if_neg (by omega)]
      have : ((-1 : Int) + (ns.length : Int)).toNat = ns.length - 1 := by omega
      rw [this]
      exact nums_get hx, hq⟩) hs
/-- a place of a tuple -/
theorem EV_place {value slice : Expr} {pos : Pos}
    (h : EV G C value μ σ fun o σ₁ => EV G C slice μ σ₁ fun i σ₂ => ∃ a k us u, o = .ref a ∧ i = .int k ∧ σ₂ a = some (.tup us) ∧ 0 ≤ k ∧ k < 1000000000 ∧ us[k.toNat]? = some u ∧ Q u σ₂)
    (hs : ∀ l k u, subscripted slice false (.ref l) (.int k u) = operate [.ref l, .int k u] (getItem (.ref l) (.int k u)) := by intro _ _ _; with_unfolding_all rfl) : EV G C (.Subscript value slice pos) μ σ Q :=
  EV_idx (h.mono fun o σ₁ h₁ => h₁.mono fun i σ₂ ⟨a, k, us, u, eo, ei, ha, h0, h1, hx, hq⟩ =>
    ⟨a, k, _, u, eo, ei, by omega, by omega, ha, by simp only [AO.item]; rw [if_neg (by omega)]; exact hx, hq⟩) hs
/-- the length of a list of ints -/
theorem EV_lenI {e : Expr} {p pos : Pos} (hk : C.env.kindOf "len" = some .globalImplicit)
    (h : EV G C e μ σ fun u σ₁ => ∃ a ns, u = .ref a ∧ σ₁ a = some (LI ns) ∧ ns.length ≤ 1000000 ∧ Q (.int ns.length) σ₁)
    (he : eval (.Call (.Name "len" p) [e] [] pos) C.env = (do callWith pos (← eval (.Name "len" p) C.env) [] (backTo pos (starEach [e] C.env)) (backToKw pos (keywordEach [] C.env))) := by with_unfolding_all rfl)
    (he' : starEach [e] C.env = (false, eval e C.env) :: starEach [] C.env := by with_unfolding_all rfl) : EV G C (.Call (.Name "len" p) [e] [] pos) μ σ Q :=
  EV_len hk (h.mono fun u σ₁ ⟨a, ns, eu, ha, hl, hq⟩ => ⟨a, true, nums ns, eu, ha, by rw [nums_length]; exact hl, by rw [nums_length]; exact hq⟩) he he'
/-- a pure def's end -/
theorem FN.use {l l' : Nat} {f : Addr} {us : List AV} {P : AV → AH → Prop} (h : FN G l f us σ P) (hl : l ≤ l') (hq : ∀ u σ', P u σ' → Q u σ') : FN G l' f us σ Q := (h.lift hl).mono hq
end
section
variable {G : GC} {C : FC G} {μ : Mu} {σ : AH} {N N' : Mu → AH → Prop} {R : AV → AH → Prop} {Q : AV → AH → Prop}

/-- the ends of a run of statements, put out of sight -/
theorem XS.via {st : List Stmt} (h : ∀ N' R', (∀ μ σ, N μ σ → N' μ σ) → (∀ u σ, R u σ → R' u σ) → XS G C st μ σ N' R') : XS G C st μ σ N R := h N R (fun _ _ h => h) fun _ _ h => h
theorem X1.cut {st : Stmt} (N' : Mu → AH → Prop) (h : X1 G C st μ σ N' R) (hN : ∀ μ' σ', N' μ' σ' → N μ' σ') : X1 G C st μ σ N R := fun s S =>
  wpAny_mono (h s S) (fun f s' q => by
    rcases q with ⟨e, μ'', σ'', h1, h2⟩ | q
    · exact .inl ⟨e, μ'', σ'', hN _ _ h1, h2⟩
    · exact .inr q) fun _ _ e => e
theorem X1.hand {st : Stmt} (I : Mu → AH → Prop) (h : X1 G C st μ σ (Hand I) R) (hN : ∀ μ' σ', I μ' σ' → N μ' σ') : X1 G C st μ σ N R := fun s S =>
  wpAny_mono (h s S) (fun f s' q => by
    rcases XP.hand q with ⟨e, μ'', σ'', h1, h2⟩ | q
    · exact .inl ⟨e, μ'', σ'', hN _ _ h1, h2⟩
    · exact .inr q) fun _ _ e => e

theorem X_appendI {o e : Expr} {apos cpos pos : Pos} {pl : Sem Bool}
    (h : EV G C o μ σ fun w σ₁ => ∃ a, w = .ref a ∧ (∃ ns, σ₁ a = some (LI ns)) ∧ EV G C e μ σ₁ fun u σ₂ => ∃ ns x, u = .int x ∧ σ₂ a = some (LI ns) ∧ ns.length ≤ 100000 ∧ N μ (upd σ₂ a (LI (ns ++ [x]))))
    (hi : interactive C.env = false := by with_unfolding_all rfl) (hs : swapsWith (.Call (.Attribute o "append" apos) [e] [] cpos) none pos.line C.env = pure false := by with_unfolding_all rfl)
    (he : eval (.Call (.Attribute o "append" apos) [e] [] cpos) C.env = (do
      let ov ← eval o C.env
      standAt apos.atName
      let (f, first) ← holding [ov] (getMethod ov "append" pl)
      callWith cpos f first (backTo cpos (starEach [e] C.env)) []) := by with_unfolding_all rfl)
    (he' : starEach [e] C.env = (false, eval e C.env) :: starEach [] C.env := by with_unfolding_all rfl) : X1 G C (.Expr (.Call (.Attribute o "append" apos) [e] [] cpos) pos) μ σ N R :=
  X_append (h.mono fun w σ₁ ⟨a, ew, ⟨ns, ha⟩, h₁⟩ => ⟨a, _, ew, ha, h₁.mono fun u σ₂ ⟨ns, x, eu, ha, hl, hq⟩ => ⟨_, ha, by rw [nums_length]; omega, by rw [eu, nums_snoc]; exact hq⟩⟩) hi hs he he'

theorem X_setI {o i value : Expr} {pos' pos : Pos}
    (h : EV G C value μ σ fun u σ₁ => EV G C o μ σ₁ fun w σ₂ => EV G C i μ σ₂ fun k σ₃ => ∃ a ns j x, u = .int x ∧ w = .ref a ∧ k = .int j ∧ σ₃ a = some (LI ns) ∧ 0 ≤ j ∧ j < (ns.length : Int) ∧ ns.length ≤ 100000 ∧
      N μ (upd σ₃ a (LI (ns.set j.toNat x))))
    (hs : swapsWith value (some (.Subscript o i pos')) pos.line C.env = pure false := by with_unfolding_all rfl) : X1 G C (.Assign [.Subscript o i pos'] value pos) μ σ N R :=
  X_setitem (h.mono fun u σ₁ h₁ => h₁.mono fun w σ₂ h₂ => h₂.mono fun k σ₃ ⟨a, ns, j, x, eu, ew, ek, ha, j0, j1, hl, hq⟩ =>
    ⟨a, _, j, ew, ek, ha, j0, by rw [nums_length]; exact j1, by rw [nums_length]; omega, by rw [eu, nums_set]; exact hq⟩) hs

/-- a new list of ints -/
theorem EV_listI {es : List Expr} {pos : Pos} (h : EVs G C es μ σ fun us σ₁ => ∃ ns, us = nums ns ∧ ns.length ≤ 1000 ∧ ∀ r, σ₁ r = none → Q (.ref r) (upd σ₁ r (LI ns))) : EV G C (.List es pos) μ σ Q :=
  EV_list fun pos s S => wpAny_mono (h pos s S) (fun v s' ⟨us, σ', h1, ⟨ns, e, hl, hq⟩, r⟩ => ⟨us, σ', h1, ⟨by rw [e, nums_length]; omega, by rw [e]; exact hq⟩, r⟩) fun _ _ e => e
theorem EV_nilI {pos : Pos} (h : ∀ r, σ r = none → Q (.ref r) (upd σ r (LI []))) : EV G C (.List [] pos) μ σ Q := EV_listI (EVs_nil ⟨[], rfl, by simp, h⟩)
theorem BOP_repI {a : Addr} {x k : Int} (ha : σ a = some (LI [x])) (hl : k ≤ 100000) (hl' : -100000 ≤ k)
    (hq : ∀ r, σ r = none → Q (.ref r) (upd σ r (LI (List.replicate k.toNat x)))) : BOP G C .Mult (.ref a) (.int k) μ σ Q :=
  BOP_rep (u := .int x) (by exact ha) (by omega) (by omega) (by rw [nums_replicate]; exact hq)
theorem BOP_catI {a b : Addr} {xs ys : List Int} (ha : σ a = some (LI xs)) (hb : σ b = some (LI ys)) (hl : xs.length + ys.length ≤ 100000)
    (hq : ∀ r, σ r = none → Q (.ref r) (upd σ r (LI (xs ++ ys)))) : BOP G C .Add (.ref a) (.ref b) μ σ Q :=
  BOP_cat ha hb (by rw [nums_length, nums_length]; omega) (by rw [nums_append]; exact hq)

def pickedI (xs : List Int) (lo hi : Option Int) : List Int :=
  let a := lo.elim 0 (clipAt xs.length)
  let b := hi.elim xs.length (clipAt xs.length)
  (xs.drop a).take (b - a)
theorem picked_nums (xs : List Int) (lo hi : Option Int) : picked (nums xs) lo hi = nums (pickedI xs lo hi) := by
  simp only [picked, pickedI, nums_length]
  simp [nums, List.map_take, List.map_drop]
theorem EV_sliceI {value : Expr} {lower upper : Option Expr} {p pos : Pos}
    (h : EV G C value μ σ fun o σ₁ => EVo G C lower μ σ₁ fun lo σ₂ => EVo G C upper μ σ₂ fun hi σ₃ => ∃ a xs, o = .ref a ∧ σ₃ a = some (LI xs) ∧ xs.length ≤ 100000 ∧
      ∀ r, σ₃ r = none → Q (.ref r) (upd σ₃ r (LI (pickedI xs lo hi))))
    (ht : ∀ o r, letTemporaryGo value o r = pure () := by intro _ _; with_unfolding_all rfl) : EV G C (.Subscript value (.Slice lower upper none p) pos) μ σ Q :=
  EV_slice (h.mono fun o σ₁ h₁ s S => wpAny_mono (h₁ s S) (fun v s' ⟨u, σ', h1, h2, r⟩ => ⟨u, σ', h1, (fun s S => wpAny_mono (h2 s S) (fun v s' ⟨u, σ', h1, ⟨a, xs, eo, ha, hl, hq⟩, r⟩ =>
    ⟨u, σ', h1, ⟨a, true, nums xs, eo, ha, by rw [nums_length]; omega, fun r hr => by rw [picked_nums]; exact hq r hr⟩, r⟩) fun _ _ e => e), r⟩) fun _ _ e => e) ht
theorem pickedI_upto (xs : List Int) {k : Int} (h : 0 ≤ k) : pickedI xs none (some k) = xs.take k.toNat := by
  have hclip : clipAt xs.length k = min k.toNat xs.length := by
    have : k = ((k.toNat : Nat) : Int) := by omega
    rw [this, clipAt_nat, Int.toNat_natCast]
  simp only [pickedI, Option.elim, hclip, List.drop_zero, Nat.sub_zero]
  by_cases h1 : k.toNat ≤ xs.length
  · rw [Nat.min_eq_left h1]
  · rw [Nat.min_eq_right (by omega), List.take_of_length_le (Nat.le_refl _), List.take_of_length_le (by omega)]
theorem pickedI_all (xs : List Int) : pickedI xs none none = xs := by
  simp [pickedI]
theorem pickedI_run (xs : List Int) {j k : Int} (h : 0 ≤ j) (h1 : j ≤ k) (h2 : k ≤ xs.length) : pickedI xs (some j) (some k) = (xs.drop j.toNat).take (k.toNat - j.toNat) := by
  have c1 : clipAt xs.length j = j.toNat := by
    have : j = ((j.toNat : Nat) : Int) := by omega
    rw [this, clipAt_nat, Int.toNat_natCast]; omega
  have c2 : clipAt xs.length k = k.toNat := by
    have : k = ((k.toNat : Nat) : Int) := by omega
    rw [this, clipAt_nat, Int.toNat_natCast]; omega
  simp only [pickedI, Option.elim, c1, c2]

/-- a value told apart, the heap as it was -/
theorem EV.eq {e : Expr} (v : AV) (h : EV G C e μ σ fun u σ₁ => σ₁ = σ ∧ u = v) (hq : Q v σ) : EV G C e μ σ Q := h.mono fun u σ₁ ⟨e1, e2⟩ => by subst e1 e2; exact hq
theorem ET.eq {e : Expr} {Q : Bool → AH → Prop} (v : Bool) (h : ET G C e μ σ fun u σ₁ => σ₁ = σ ∧ u = v) (hq : Q v σ) : ET G C e μ σ Q := h.mono fun u σ₁ ⟨e1, e2⟩ => by subst e1 e2; exact hq
end

/-- w bits a limb -/
structure Base (w b : Nat) : Prop where
  hw : 3 ≤ w
  hw' : w ≤ 8
  hbw : (b : Int) = 2 ^ w
theorem Base.nat {w b : Nat} (H : Base w b) : b = 2 ^ w := by
  have e : ((2 ^ w : Nat) : Int) = 2 ^ w := by push_cast; rfl
  have := H.hbw
  omega
theorem Base.eight {w b : Nat} (H : Base w b) : 8 ≤ b := by
  rw [H.nat]
  exact Nat.pow_le_pow_right (n := 2) (by omega) H.hw
theorem Base.two {w b : Nat} (H : Base w b) : 2 ≤ b := by have := H.eight; omega
theorem Base.top {w b : Nat} (H : Base w b) : b ≤ 256 := by
  rw [H.nat]
  exact Nat.pow_le_pow_right (n := 2) (by omega) H.hw'
local macro_rules | `(tactic| walk_at "m") => `(tactic| with_reducible first
  | refine EV_name (by with_unfolding_all rfl) ?_
  | refine EV_int ?_
  | refine EV_bin ?_
  | refine EVs_cons ?_
  | refine EVs_nil ?_
  | refine XS_cons ?_
  | refine X_assign (by with_unfolding_all rfl) ?_
  | refine X_aug (by with_unfolding_all rfl) (by with_unfolding_all rfl) ?_
  | refine X_retL ?_
  | refine X_if ?_
  | refine ET_cmp ?_
  | refine EV_cmp ?_
  | refine EV_bool ?_
  | refine EV_none ?_
  | refine ET_and2 ?_
  | refine ET_or2 ?_
  | refine ET_not ?_
  | refine EV_and2 ?_
  | refine EV_or2 ?_
  | refine EV_not ?_
  | refine EV_neg ?_
  | refine EV_tup ?_
  | refine EV_list ?_
  | refine EV_lenI (by with_unfolding_all rfl) ?_
  | refine BOP_add ?_
  | refine BOP_sub ?_
  | refine COP_eq ?_
  | refine COP_ne ?_
  | refine COP_lt ?_
  | refine COP_gt ?_
  | refine COP_le ?_
  | refine COP_ge ?_
  | refine COP_eqb ?_
  | refine COP_neb ?_
  | refine AOP_add ?_
  | refine AOP_sub ?_
  | refine asB ?_
  | refine XS_nil ?_
  | refine EVo_none ?_
  | refine EVo_some ?_)

local macro_rules | `(tactic| walk_at "o") => `(tactic| first | with_reducible assumption | decide | (with_reducible (refine Nat.le_trans (m := 4) ?_ ?_; assumption; decide)) | omega)
theorem D0 : (D 0).name = "normal" := by decide +kernel
theorem D1 : (D 1).name = "is_even" := by decide +kernel
theorem D2 : (D 2).name = "compare" := by decide +kernel
theorem D3 : (D 3).name = "add" := by decide +kernel

section
variable {G : GC} {σ : AH}

theorem fn_is_even {a : Addr} {xs : List Int} (ha : σ a = some (LI xs)) (hl : xs.length ≤ 1000) :
    FN G 1 (G.fa "is_even") [.ref a] σ fun u σ' => Le σ σ' ∧ u = .bool (xs.length == 0 || xs.headD 0 % 2 == 0) := by
  refine FN_of ["a"] 1 D1 (by decide) ?_ (by decide +kernel) (by rfl) (by rfl) (by rfl) (by decide +kernel) ?_
  · intro vs hvs pm cd doc
    obtain ⟨v, rfl, hv⟩ := are1 hvs
    rfl
  intro A L f cd hh room units hL
  refine XS_cons ?_
  repeat walk_at "m"
  refine ⟨_, _, rfl, ha, by walk_at "o", ?_⟩
  repeat walk_at "m"
  split
  · next h => exact ⟨σ, Le.refl σ, Le.refl σ, by simp at h; simp [h]⟩
  · next h =>
    repeat walk_at "m"
    refine EV_at ?_
    repeat walk_at "m"
    simp at h
    obtain ⟨x, r, rfl⟩ := List.exists_cons_of_ne_nil h
    refine ⟨_, _, _, x, rfl, rfl, ha, by walk_at "o", by walk_at "o", rfl, ?_⟩
    repeat walk_at "m"
    refine BOP_and ?_
    rw [bitAnd_m1]
    repeat walk_at "m"
    exact ⟨σ, Le.refl σ, Le.refl σ, by simp⟩

theorem fn_normal {a : Addr} {xs : List Int} (ha : σ a = some (LI xs)) (hl : xs.length ≤ 1000) :
    FN G 1 (G.fa "normal") [.ref a] σ fun u σ' => Le σ σ' ∧ ∃ r, u = .ref r ∧ σ' r = some (LI (trim xs)) := by
  refine FN_of ["a"] 0 D0 (by decide) ?_ (by decide +kernel) (by rfl) (by rfl) (by rfl) (by decide +kernel) ?_
  · intro vs hvs pm cd doc
    obtain ⟨v, rfl, hv⟩ := are1 hvs
    rfl
  intro A L f cd hh room units hL
  refine XS_cons ?_
  repeat walk_at "m"
  refine ⟨_, _, rfl, ha, by walk_at "o", ?_⟩
  refine XS_cons ?_
  refine X_whileL (fun n μ σ' => ∃ e : Int, 0 ≤ e ∧ e ≤ xs.length ∧ n = e.toNat ∧ σ' = σ ∧ μ = ([("end", .int e), ("a", .ref a)] : Mu) ∧ ∀ x ∈ xs.drop e.toNat, x = 0) xs.length ?_ ?_
  · exact ⟨xs.length, by walk_at "o", by walk_at "o", by walk_at "o", rfl, rfl, by simp⟩
  rintro n μ σ' ⟨e, e0, e1, rfl, rfl, rfl, hz⟩
  refine ET.mono (Q := fun b σ₁ => σ₁ = σ' ∧ ((b = true ∧ 0 < e ∧ xs[(e - 1).toNat]? = some 0) ∨ (b = false ∧ ∀ j x, e.toNat = j + 1 → xs[j]? = some x → x ≠ 0))) ?_ ?_
  · repeat walk_at "m"
    split
    · next h =>
      simp only [decide_eq_true_eq] at h
      have hlt : (e - 1).toNat < xs.length := by walk_at "o"
      repeat walk_at "m"
      refine EV_at ?_
      repeat walk_at "m"
      refine ⟨_, _, _, xs[(e - 1).toNat], rfl, rfl, ha, by walk_at "o", by walk_at "o", List.getElem?_eq_getElem hlt, ?_⟩
      repeat walk_at "m"
      refine ⟨rfl, ?_⟩
      by_cases h0 : xs[(e - 1).toNat] = 0
      · exact .inl ⟨beq_iff_eq.mpr h0, h, by rw [List.getElem?_eq_getElem hlt, h0]⟩
      · refine .inr ⟨beq_eq_false_iff_ne.mpr h0, fun j x hj hx => ?_⟩
        have : (e - 1).toNat = j := by walk_at "o"
        subst this
        rw [List.getElem?_eq_getElem hlt] at hx
        cases hx; exact h0
    · next h =>
      simp only [decide_eq_true_eq] at h
      exact ⟨rfl, .inr ⟨rfl, fun j x hj => by walk_at "o"⟩⟩
  · rintro b σ₂ ⟨rfl, ⟨rfl, h, h0⟩ | ⟨rfl, hend⟩⟩
    · simp only [if_true]
      repeat walk_at "m"
      refine ⟨[("end", .int (e - 1)), ("a", .ref a)], σ₂, ⟨rfl, rfl, trivial⟩, Le.refl _, (e - 1).toNat, by walk_at "o", e - 1, by walk_at "o", by walk_at "o", rfl, rfl, rfl, fun x hx => ?_⟩
      have hlt : (e - 1).toNat < xs.length := by walk_at "o"
      rw [List.drop_eq_getElem_cons hlt] at hx
      rcases List.mem_cons.mp hx with rfl | hx
      · rw [List.getElem?_eq_getElem hlt] at h0; exact Option.some.inj h0
      · exact hz x (by rw [show e.toNat = (e - 1).toNat + 1 from by walk_at "o"]; exact hx)
    · simp only [Bool.false_eq_true, if_false]
      repeat walk_at "m"
      refine EV_slice ?_
      repeat walk_at "m"
      refine ⟨_, rfl, _, _, _, rfl, ha, by simp [nums]; omega, fun r hr => ⟨_, Le.refl _, Le.fresh (Le.refl _) _ hr, r, rfl, ?_⟩⟩
      rw [upd_self, ← take_eq_trim (by walk_at "o") hz hend]
      have hclip : clipAt (nums xs).length e = e.toNat := by
        have : e = ((e.toNat : Nat) : Int) := by walk_at "o"
        rw [this, clipAt_nat]
        simp [nums]; omega
      simp only [picked, Option.elim, hclip, List.drop_zero, Nat.sub_zero]
      simp [nums, List.map_take]
end
section
variable {G : GC} {σ : AH}

theorem nat_pow2 (w : Nat) (hw : 1 ≤ w) : 2 ≤ 2 ^ w := by
  have := Nat.pow_le_pow_right (n := 2) (by walk_at "o") hw
  simpa using this

theorem fn_compare {a a' : Addr} {b n m : Nat} (hb : 2 ≤ b) (ha : σ a = some (LI (lb b n))) (ha' : σ a' = some (LI (lb b m))) (hn : n ≤ 1000000) (hm : m ≤ 1000000) :
    FN G 1 (G.fa "compare") [.ref a, .ref a'] σ fun u σ' => Le σ σ' ∧ u = .int (cmpI n m) := by
  refine FN_of ["a", "b"] 2 D2 (by decide) ?_ (by decide +kernel) (by rfl) (by rfl) (by rfl) (by decide +kernel) ?_
  · intro vs hvs pm cd doc
    obtain ⟨v, v', rfl, hv⟩ := are2 hvs
    rfl
  intro A L f cd hh room units hL
  have l1 := lb_length_le hb n
  have l2 := lb_length_le hb m
  refine XS_cons ?_
  repeat walk_at "m"
  refine ⟨_, _, rfl, ha, by walk_at "o", ?_⟩
  repeat walk_at "m"
  refine ⟨_, _, rfl, ha', by walk_at "o", ?_⟩
  repeat walk_at "m"
  split
  · next h =>
    simp only [bne_iff_ne, ne_eq] at h
    refine XS_cons ?_
    repeat walk_at "m"
    refine EV_ife ?_
    repeat walk_at "m"
    refine ⟨_, _, rfl, ha, by walk_at "o", ?_⟩
    repeat walk_at "m"
    refine ⟨_, _, rfl, ha', by walk_at "o", ?_⟩
    repeat walk_at "m"
    split
    · next h1 =>
      simp only [decide_eq_true_eq] at h1
      repeat walk_at "m"
      refine ⟨_, rfl, _, Le.refl _, Le.refl _, ?_⟩
      have : n < m := lb_lt_length hb (by walk_at "o")
      simp [cmpI, this]
    · next h1 =>
      simp only [decide_eq_true_eq] at h1
      repeat walk_at "m"
      refine ⟨_, Le.refl _, Le.refl _, ?_⟩
      have : m < n := lb_lt_length hb (by walk_at "o")
      have h2 : ¬ n < m := by walk_at "o"
      have h3 : ¬ n = m := by walk_at "o"
      simp [cmpI, h2, h3]
  · next h =>
    simp only [bne_iff_ne, ne_eq, Decidable.not_not] at h
    have hlen : (lb b n).length = (lb b m).length := by walk_at "o"
    repeat walk_at "m"
    refine X_forRange (by rfl) (by rfl) ?_
    repeat walk_at "m"
    refine ⟨_, _, rfl, ha, by walk_at "o", ?_⟩
    repeat walk_at "m"
    refine ⟨_, rfl, ?_⟩
    repeat walk_at "m"
    refine ⟨_, rfl, ?_⟩
    repeat walk_at "m"
    refine ⟨_, _, _, (lb b n).length, fun i μ σ' => σ' = σ ∧ μ = ([("b", .ref a'), ("a", .ref a)] : Mu) ∧ (lb b n).drop ((lb b n).length - i) = (lb b m).drop ((lb b n).length - i), RangeArgs.down _ _, by walk_at "o", ?_, ?_, ?_, ?_⟩
    · rw [range_down]; omega
    · exact ⟨[("b", .ref a'), ("a", .ref a)], _, ⟨rfl, rfl, trivial⟩, Le.refl _, rfl, rfl, by simp [hlen]⟩
    · rintro i μ σ' hi ⟨rfl, rfl, hd⟩
      have hk : (lb b n).length - 1 - i < (lb b n).length := by walk_at "o"
      have hk' : (lb b n).length - 1 - i < (lb b m).length := by walk_at "o"
      have eat : ((((lb b n).length : Int) - 1) + i * -1).toNat = (lb b n).length - 1 - i := by walk_at "o"
      have hsuc : (lb b n).length - 1 - i + 1 = (lb b n).length - i := by walk_at "o"
      refine XS_cons ?_
      repeat walk_at "m"
      refine EV_at ?_
      repeat walk_at "m"
      refine ⟨_, _, _, (lb b n)[(lb b n).length - 1 - i], rfl, rfl, ha, by walk_at "o", by walk_at "o", by rw [eat]; exact List.getElem?_eq_getElem hk, ?_⟩
      refine EV_at ?_
      repeat walk_at "m"
      refine ⟨_, _, _, (lb b m)[(lb b n).length - 1 - i], rfl, rfl, ha', by walk_at "o", by walk_at "o", by rw [eat]; exact List.getElem?_eq_getElem hk', ?_⟩
      repeat walk_at "m"
      split
      · next hne =>
        simp only [bne_iff_ne, ne_eq] at hne
        refine XS_cons ?_
        repeat walk_at "m"
        refine EV_ife ?_
        repeat walk_at "m"
        refine EV_at ?_
        repeat walk_at "m"
        refine ⟨_, _, _, (lb b n)[(lb b n).length - 1 - i], rfl, rfl, ha, by walk_at "o", by walk_at "o", by rw [eat]; exact List.getElem?_eq_getElem hk, ?_⟩
        refine EV_at ?_
        repeat walk_at "m"
        refine ⟨_, _, _, (lb b m)[(lb b n).length - 1 - i], rfl, rfl, ha', by walk_at "o", by walk_at "o", by rw [eat]; exact List.getElem?_eq_getElem hk', ?_⟩
        repeat walk_at "m"
        split
        · next h1 =>
          simp only [decide_eq_true_eq] at h1
          repeat walk_at "m"
          refine ⟨_, rfl, _, Le.refl _, Le.refl _, ?_⟩
          have : n < m := lb_lt_of hb (List.getElem?_eq_getElem hk) (List.getElem?_eq_getElem hk') (by rw [hsuc]; exact hd) h1
          simp [cmpI, this]
        · next h1 =>
          simp only [decide_eq_true_eq] at h1
          repeat walk_at "m"
          refine ⟨_, Le.refl _, Le.refl _, ?_⟩
          have : m < n := lb_lt_of hb (List.getElem?_eq_getElem hk') (List.getElem?_eq_getElem hk) (by rw [hsuc]; exact hd.symm) (by walk_at "o")
          have h2 : ¬ n < m := by walk_at "o"
          have h3 : ¬ n = m := by walk_at "o"
          simp [cmpI, h2, h3]
      · next hne =>
        simp only [bne_iff_ne, ne_eq, Decidable.not_not] at hne
        repeat walk_at "m"
        refine ⟨[("b", .ref a'), ("a", .ref a)], _, ⟨rfl, rfl, trivial⟩, Le.refl _, rfl, rfl, ?_⟩
        rw [show (lb b n).length - (i + 1) = (lb b n).length - 1 - i from by walk_at "o", List.drop_eq_getElem_cons hk, List.drop_eq_getElem_cons hk', hne, hsuc, hd]
    · rintro μ σ' ⟨rfl, rfl, hd⟩
      refine XS_cons ?_
      repeat walk_at "m"
      refine ⟨_, Le.refl _, Le.refl _, ?_⟩
      have : n = m := lb_inj hb (by simpa using hd)
      subst this
      simp [cmpI]
end
section
variable {G : GC} {σ : AH}

theorem fn_add {a a' : Addr} {w b n m : Nat} (hw : 1 ≤ w) (hw' : w ≤ 30) (hbw : (b : Int) = 2 ^ w) (ha : σ a = some (LI (lb b n))) (ha' : σ a' = some (LI (lb b m))) (hn : n ≤ 10000) (hm : m ≤ 10000) :
    FN G 1 (G.fa "add") [.ref a, .ref a', .int w] σ fun u σ' => Le σ σ' ∧ ∃ r, u = .ref r ∧ σ' r = some (LI (lb b (n + m))) := by
  have hb : 2 ≤ b := by
    have := nat_pow2 w hw
    have e : ((2 ^ w : Nat) : Int) = 2 ^ w := by push_cast; rfl
    omega
  have hbm : (b : Int) ≤ 2 ^ 30 := by
    rw [hbw]
    have : 2 ^ w ≤ 2 ^ 30 := Nat.pow_le_pow_right (by walk_at "o") hw'
    have e : ((2 ^ w : Nat) : Int) = 2 ^ w := by push_cast; rfl
    have e2 : ((2 ^ 30 : Nat) : Int) = 2 ^ 30 := by decide
    omega
  refine FN_of ["a", "b", "w"] 3 D3 (by decide) ?_ (by decide +kernel) (by rfl) (by rfl) (by rfl) (by decide +kernel) ?_
  · intro vs hvs pm cd doc
    obtain ⟨v, v', v'', rfl, hv⟩ := are3 hvs
    rfl
  intro A L f cd hh room units hL
  refine XS_cons ?_
  -- the longer one first
  refine X1.hand (fun μ' σ' => σ' = σ ∧ ∃ p p' k k', k + k' = n + m ∧ k ≤ 10000 ∧ k' ≤ 10000 ∧ σ p = some (LI (lb b k)) ∧ σ p' = some (LI (lb b k')) ∧ (lb b k').length ≤ (lb b k).length ∧ μ' = ([("a", .ref p), ("b", .ref p'), ("w", .int w)] : Mu)) ?_ ?_
  · have l1 := lb_length_le hb n
    have l2 := lb_length_le hb m
    repeat walk_at "m"
    refine ⟨_, _, rfl, ha, by walk_at "o", ?_⟩
    repeat walk_at "m"
    refine ⟨_, _, rfl, ha', by walk_at "o", ?_⟩
    repeat walk_at "m"
    split
    · next h =>
      simp only [decide_eq_true_eq] at h
      repeat walk_at "m"
      refine X_swap2 (by rfl) (by rfl) ?_
      repeat walk_at "m"
      refine ⟨by simp, fun t ht => ⟨_, _, _, rfl, upd_self _ _ _, ?_⟩⟩
      repeat walk_at "m"
      exact ⟨[("a", .ref a'), ("b", .ref a), ("w", .int w)], σ, ⟨rfl, rfl, rfl, trivial⟩, Le.fresh (Le.refl _) _ ht, rfl, a', a, m, n, by walk_at "o", by walk_at "o", by walk_at "o", ha', ha, by walk_at "o", rfl⟩
    · next h =>
      simp only [decide_eq_true_eq] at h
      repeat walk_at "m"
      exact ⟨[("a", .ref a), ("b", .ref a'), ("w", .int w)], σ, ⟨rfl, rfl, rfl, trivial⟩, Le.refl _, rfl, a, a', n, m, rfl, by walk_at "o", by walk_at "o", ha, ha', by walk_at "o", rfl⟩
  clear ha ha'
  rintro μ' σ' ⟨rfl, p, p', k, k', hkk, hk, hk', hp, hp', hlen, rfl⟩
  have l1 := lb_length_le hb k
  have l2 := lb_length_le hb k'
  have d1 := lb_dig hb k
  have d2 := lb_dig hb k'
  refine XS_cons ?_
  refine X_swap3 (by rfl) (by rfl) (by rfl) ?_
  refine EV_tup ?_
  refine EVs_cons ?_
  refine EV_nilI fun r hr => ?_
  have hpr : p ≠ r := ne_of_none hp hr
  have hpr' : p' ≠ r := ne_of_none hp' hr
  repeat walk_at "m"
  refine BOP_shlS (by walk_at "o") (by walk_at "o") (by walk_at "o") ?_
  repeat walk_at "m"
  refine ⟨by simp, fun t ht => ⟨_, _, _, _, rfl, upd_self _ _ _, ?_⟩⟩
  -- the first loop
  refine XS_cons ?_
  refine X_forRange (by rfl) (by rfl) ?_
  repeat walk_at "m"
  refine ⟨_, _, rfl, by rw [upd_ne (ne_of_none (by rw [upd_ne hpr']; exact hp') ht), upd_ne hpr']; exact hp', by walk_at "o", ?_⟩
  repeat walk_at "m"
  refine ⟨_, _, _, (lb b k').length, fun i μ σ'' => ∃ zs c, σ'' = upd σ' r (LI zs) ∧ μ = ([("found", .ref r), ("carry", .int c), ("mask", .int (1 * 2 ^ w - 1)), ("a", .ref p), ("b", .ref p'), ("w", .int w)] : Mu) ∧
    zs.length = i ∧ Dig b zs ∧ 0 ≤ c ∧ c ≤ 1 ∧ val b zs + (b : Int) ^ i * c = val b ((lb b k).take i) + val b ((lb b k').take i), RangeArgs.one _, by walk_at "o", ?_, ?_, ?_, ?_⟩
  · rw [rangeSize_one]; split <;> omega
  · exact ⟨[("found", .ref r), ("carry", .int 0), ("mask", .int (1 * 2 ^ w - 1)), ("a", .ref p), ("b", .ref p'), ("w", .int w)], upd σ' r (LI []), ⟨rfl, rfl, rfl, rfl, rfl, rfl, trivial⟩, Le.fresh (Le.refl _) _ ht, [], 0, rfl, rfl, rfl, Dig.nil, by walk_at "o", by walk_at "o", by simp [val]⟩
  · rintro i μ σ'' hi ⟨zs, c, rfl, rfl, hz, hd, c0, c1, hv⟩
    have hi' : i < (lb b k).length := by walk_at "o"
    have ei : ((0 : Int) + i * 1).toNat = i := by walk_at "o"
    have gx := d1.get (List.getElem?_eq_getElem hi')
    have gy := d2.get (List.getElem?_eq_getElem hi)
    refine XS.via fun N' R' hN' hR' => ?_
    refine XS_cons ?_
    repeat walk_at "m"
    refine EV_at ?_
    repeat walk_at "m"
    refine ⟨_, _, _, (lb b k)[i], rfl, rfl, by rw [upd_ne hpr]; exact hp, by walk_at "o", by walk_at "o", by rw [ei]; exact List.getElem?_eq_getElem hi', ?_⟩
    refine EV_at ?_
    repeat walk_at "m"
    refine ⟨_, _, _, (lb b k')[i], rfl, rfl, by rw [upd_ne hpr']; exact hp', by walk_at "o", by walk_at "o", by rw [ei]; exact List.getElem?_eq_getElem hi, ?_⟩
    repeat walk_at "m"
    refine X_appendI ?_
    repeat walk_at "m"
    refine ⟨r, rfl, ⟨_, upd_self _ _ _⟩, ?_⟩
    repeat walk_at "m"
    refine BOP_mask (n := w) (by walk_at "o") (by rw [Int.one_mul]) ?_
    refine ⟨_, _, rfl, upd_self _ _ _, by walk_at "o", ?_⟩
    repeat walk_at "m"
    refine AOP_shrS ?_
    repeat walk_at "m"
    rw [← hbw, upd_upd]
    have hc := carry_le (B := b) (k := 1) (c := c + ((lb b k)[i] + (lb b k')[i])) (by walk_at "o") (by walk_at "o") (by walk_at "o")
    refine hN' _ _ ?_
    try rw [← hbw]
    refine ⟨[("found", .ref r), ("carry", .int ((c + ((lb b k)[i] + (lb b k')[i])) / b)), ("mask", .int (1 * b - 1)), ("a", .ref p), ("b", .ref p'), ("w", .int w)], _, ⟨rfl, rfl, rfl, rfl, rfl, rfl, trivial⟩, Le.refl _, _, _, rfl, rfl, by simp [hz], hd.snoc (by walk_at "o") _, hc.1, hc.2, ?_⟩
    exact add_turn hz (List.getElem?_eq_getElem hi') (List.getElem?_eq_getElem hi) hv
  rintro μ σ'' ⟨zs, c, rfl, rfl, hz, hd, c0, c1, hv⟩
  rw [List.take_of_length_le (Nat.le_refl (lb b k').length), lb_val hb k'] at hv
  -- the second loop
  refine XS_cons ?_
  refine X_forRange (by rfl) (by rfl) ?_
  repeat walk_at "m"
  refine ⟨_, _, rfl, by rw [upd_ne hpr']; exact hp', by walk_at "o", ?_⟩
  repeat walk_at "m"
  refine ⟨_, _, rfl, by rw [upd_ne hpr]; exact hp, by walk_at "o", ?_⟩
  repeat walk_at "m"
  refine ⟨_, _, _, (lb b k).length - (lb b k').length, fun i μ σ'' => ∃ zs c, σ'' = upd σ' r (LI zs) ∧ μ = ([("found", .ref r), ("carry", .int c), ("mask", .int (1 * 2 ^ w - 1)), ("a", .ref p), ("w", .int w)] : Mu) ∧
    zs.length = (lb b k').length + i ∧ Dig b zs ∧ 0 ≤ c ∧ c ≤ 1 ∧ val b zs + (b : Int) ^ ((lb b k').length + i) * c = val b ((lb b k).take ((lb b k').length + i)) + k', RangeArgs.two _ _, by walk_at "o", ?_, ?_, ?_, ?_⟩
  · rw [rangeSize_one]; split <;> omega
  · exact ⟨[("found", .ref r), ("carry", .int c), ("mask", .int (1 * 2 ^ w - 1)), ("a", .ref p), ("w", .int w)], _, ⟨rfl, rfl, rfl, rfl, rfl, trivial⟩, Le.refl _, zs, c, rfl, rfl, hz, hd, c0, c1, hv⟩
  · clear hv hd c0 c1 hz zs c
    rintro i μ σ'' hi ⟨zs, c, rfl, rfl, hz, hd, c0, c1, hv⟩
    have hi' : (lb b k').length + i < (lb b k).length := by walk_at "o"
    have ei : (((lb b k').length : Int) + i * 1).toNat = (lb b k').length + i := by walk_at "o"
    have gx := d1.get (List.getElem?_eq_getElem hi')
    refine XS.via fun N' R' hN' hR' => ?_
    refine XS_cons ?_
    repeat walk_at "m"
    refine EV_at ?_
    repeat walk_at "m"
    refine ⟨_, _, _, (lb b k)[(lb b k').length + i], rfl, rfl, by rw [upd_ne hpr]; exact hp, by walk_at "o", by walk_at "o", by rw [ei]; exact List.getElem?_eq_getElem hi', ?_⟩
    repeat walk_at "m"
    refine X_appendI ?_
    repeat walk_at "m"
    refine ⟨r, rfl, ⟨_, upd_self _ _ _⟩, ?_⟩
    repeat walk_at "m"
    refine BOP_mask (n := w) (by walk_at "o") (by rw [Int.one_mul]) ?_
    refine ⟨_, _, rfl, upd_self _ _ _, by walk_at "o", ?_⟩
    repeat walk_at "m"
    refine AOP_shrS ?_
    repeat walk_at "m"
    rw [← hbw, upd_upd]
    have hc := carry_le (B := b) (k := 1) (c := c + (lb b k)[(lb b k').length + i]) (by walk_at "o") (by walk_at "o") (by walk_at "o")
    refine hN' _ _ ?_
    try rw [← hbw]
    refine ⟨[("found", .ref r), ("carry", .int ((c + (lb b k)[(lb b k').length + i]) / b)), ("mask", .int (1 * b - 1)), ("a", .ref p), ("w", .int w)], _, ⟨rfl, rfl, rfl, rfl, rfl, trivial⟩, Le.refl _, _, _, rfl, rfl, by simp [hz]; omega, hd.snoc (by walk_at "o") _, hc.1, hc.2, ?_⟩
    exact add_turn2 hz (List.getElem?_eq_getElem hi') hv
  clear hv hd c0 c1 hz zs c
  rintro μ σ'' ⟨zs, c, rfl, rfl, hz, hd, c0, c1, hv⟩
  have hlen' : (lb b k').length + ((lb b k).length - (lb b k').length) = (lb b k).length := by walk_at "o"
  rw [hlen'] at hz hv
  rw [List.take_of_length_le (Nat.le_refl (lb b k).length), lb_val hb k, ← hz] at hv
  have hend := add_end (n := k) (m := k') hb hd hz hv c0 c1
  rw [hkk] at hend
  refine XS_cons ?_
  refine X1.hand (fun μ σ'' => σ'' = upd σ' r (LI (lb b (n + m))) ∧ μ = ([("found", .ref r)] : Mu)) ?_ ?_
  · repeat walk_at "m"
    split
    · next h =>
      simp only [decide_eq_true_eq] at h
      rw [if_pos (by walk_at "o")] at hend
      repeat walk_at "m"
      refine X_appendI ?_
      repeat walk_at "m"
      refine ⟨r, rfl, ⟨_, upd_self _ _ _⟩, ?_⟩
      repeat walk_at "m"
      refine ⟨_, _, rfl, upd_self _ _ _, by walk_at "o", ?_⟩
      repeat walk_at "m"
      rw [upd_upd, hend]
      exact ⟨[("found", .ref r)], _, ⟨rfl, trivial⟩, Le.refl _, rfl, rfl⟩
    · next h =>
      simp only [decide_eq_true_eq] at h
      rw [if_neg (by walk_at "o")] at hend
      repeat walk_at "m"
      rw [hend]
      exact ⟨[("found", .ref r)], _, ⟨rfl, trivial⟩, Le.refl _, rfl, rfl⟩
  rintro μ σ'' ⟨rfl, rfl⟩
  refine XS_cons ?_
  repeat walk_at "m"
  exact ⟨_, Le.refl _, Le.fresh (Le.refl _) _ hr, r, rfl, upd_self _ _ _⟩
end
section
variable {G : GC} {σ : AH}
theorem D4 : (D 4).name = "sub" := by decide +kernel
theorem D6 : (D 6).name = "divrem_limb" := by decide +kernel
theorem D7 : (D 7).name = "shift_left" := by decide +kernel
theorem D8 : (D 8).name = "shift_right" := by decide +kernel

theorem fn_sub {a a' : Addr} {w b n m : Nat} (H : Base w b) (ha : σ a = some (LI (lb b n))) (ha' : σ a' = some (LI (lb b m))) (hn : n ≤ 1000) (hm : m ≤ n) :
    FN G 2 (G.fa "sub") [.ref a, .ref a', .int w] σ fun u σ' => Le σ σ' ∧ ∃ r, u = .ref r ∧ σ' r = some (LI (lb b (n - m))) := by
  have hb := H.two
  have hb' := H.top
  have hw := H.hw'
  refine FN_of ["a", "b", "w"] 4 D4 (by decide) ?_ (by decide +kernel) (by rfl) (by rfl) (by rfl) (by decide +kernel) ?_
  · intro vs hvs pm cd doc
    obtain ⟨v, v', v'', rfl, hv⟩ := are3 hvs
    rfl
  intro A L f cd hh room units hL
  have l1 := lb_short (n := n) H.eight hn
  have l2 := lb_short (n := m) H.eight (by omega)
  have d1 := lb_dig hb n
  have d2 := lb_dig hb m
  refine XS_cons ?_
  repeat walk_at "m"
  refine EV_calln (by decide +kernel) (by rfl) ?_
  repeat walk_at "m"
  refine (fn_compare hb ha ha' (by walk_at "o") (by walk_at "o")).use (Nat.le_of_ble_eq_true rfl) ?_
  rintro _ σ₁ ⟨hle, rfl⟩
  have ha := hle _ _ ha
  have ha' := hle _ _ ha'
  repeat walk_at "m"
  rw [show decide (cmpI n m < 0) = false from by
    have : ¬ n < m := by walk_at "o"
    simp only [cmpI, this, if_false]; split <;> rfl]
  simp only [Bool.false_eq_true, if_false]
  repeat walk_at "m"
  refine X_swap3 (by rfl) (by rfl) (by rfl) ?_
  refine EV_tup ?_
  refine EVs_cons ?_
  refine EV_nilI fun r hr => ?_
  have hpr : a ≠ r := ne_of_none ha hr
  have hpr' : a' ≠ r := ne_of_none ha' hr
  repeat walk_at "m"
  refine BOP_shlS (by walk_at "o") (by walk_at "o") (by walk_at "o") ?_
  repeat walk_at "m"
  refine ⟨by simp, fun t ht => ⟨_, _, _, _, rfl, upd_self _ _ _, ?_⟩⟩
  refine XS_cons ?_
  refine X_forRange (by rfl) (by rfl) ?_
  repeat walk_at "m"
  refine ⟨_, _, rfl, by rw [upd_ne (ne_of_none (by rw [upd_ne hpr]; exact ha) ht), upd_ne hpr]; exact ha, by walk_at "o", ?_⟩
  repeat walk_at "m"
  refine ⟨_, _, _, (lb b n).length, fun i μ σ'' => ∃ zs c, σ'' = upd σ₁ r (LI zs) ∧ μ = ([("found", .ref r), ("borrow", .int c), ("base", .int (1 * 2 ^ w)), ("a", .ref a), ("b", .ref a')] : Mu) ∧
    zs.length = i ∧ Dig b zs ∧ (c = 0 ∨ c = 1) ∧ val b zs - (b : Int) ^ i * c = val b ((lb b n).take i) - val b ((lb b m).take i), RangeArgs.one _, by walk_at "o", ?_, ?_, ?_, ?_⟩
  · rw [rangeSize_one]; split <;> omega
  · exact ⟨[("found", .ref r), ("borrow", .int 0), ("base", .int (1 * 2 ^ w)), ("a", .ref a), ("b", .ref a')], upd σ₁ r (LI []), ⟨rfl, rfl, rfl, rfl, rfl, trivial⟩, Le.fresh (Le.refl _) _ ht, [], 0, rfl, rfl, rfl, Dig.nil, .inl rfl, by simp [val]⟩
  · rintro i μ σ'' hi ⟨zs, c, rfl, rfl, hz, hd, hc, hv⟩
    have ei : ((0 : Int) + i * 1).toNat = i := by walk_at "o"
    have ei' : (0 : Int) + i * 1 = i := by walk_at "o"
    have gx := d1.get (List.getElem?_eq_getElem hi)
    have gy := getD_dig (b := b) (by walk_at "o") d2 i
    refine XS.via fun N' R' hN' hR' => ?_
    refine XS_cons ?_
    repeat walk_at "m"
    refine EV_at ?_
    repeat walk_at "m"
    refine ⟨_, _, _, (lb b n)[i], rfl, rfl, by rw [upd_ne hpr]; exact ha, by walk_at "o", by walk_at "o", by rw [ei]; exact List.getElem?_eq_getElem hi, ?_⟩
    repeat walk_at "m"
    refine EV.eq (.int ((lb b m).getD i 0)) ?_ ?_
    · refine EV_ife ?_
      repeat walk_at "m"
      refine ⟨_, _, rfl, by rw [upd_ne hpr']; exact ha', by walk_at "o", ?_⟩
      repeat walk_at "m"
      rw [ei']
      split
      · next h =>
        simp only [decide_eq_true_eq] at h
        have h : i < (lb b m).length := by walk_at "o"
        refine EV_at ?_
        repeat walk_at "m"
        refine ⟨_, _, _, (lb b m)[i], rfl, rfl, by rw [upd_ne hpr']; exact ha', by walk_at "o", by walk_at "o", by rw [Int.toNat_natCast]; exact List.getElem?_eq_getElem h, rfl, ?_⟩
        rw [List.getD_eq_getElem?_getD, List.getElem?_eq_getElem h]; rfl
      · next h =>
        simp only [decide_eq_true_eq] at h
        repeat walk_at "m"
        refine ⟨rfl, ?_⟩
        rw [List.getD_eq_getElem?_getD, List.getElem?_eq_none (by walk_at "o")]; rfl
    repeat walk_at "m"
    refine EV.eq (.int (if (lb b n)[i] - c - (lb b m).getD i 0 < 0 then 1 else 0)) ?_ ?_
    · refine EV_ife ?_
      repeat walk_at "m"
      split
      · next h =>
        simp only [decide_eq_true_eq] at h
        repeat walk_at "m"
        exact ⟨rfl, by rw [if_pos h]⟩
      · next h =>
        simp only [decide_eq_true_eq] at h
        repeat walk_at "m"
        exact ⟨rfl, by rw [if_neg h]⟩
    repeat walk_at "m"
    refine X_appendI ?_
    repeat walk_at "m"
    refine ⟨r, rfl, ⟨_, upd_self _ _ _⟩, ?_⟩
    refine EV.eq (.int (if (lb b n)[i] - c - (lb b m).getD i 0 < 0 then (lb b n)[i] - c - (lb b m).getD i 0 + b else (lb b n)[i] - c - (lb b m).getD i 0)) ?_ ?_
    · refine EV_ife ?_
      repeat walk_at "m"
      split
      · next h =>
        simp only [decide_eq_true_eq] at h
        repeat walk_at "m"
        exact ⟨rfl, by rw [if_pos h, Int.one_mul, H.hbw]⟩
      · next h =>
        simp only [decide_eq_true_eq] at h
        repeat walk_at "m"
        exact ⟨rfl, by rw [if_neg h]⟩
    refine ⟨_, _, rfl, upd_self _ _ _, by walk_at "o", ?_⟩
    repeat walk_at "m"
    rw [upd_upd]
    refine hN' _ _ ?_
    refine ⟨[("found", .ref r), ("borrow", .int (if (lb b n)[i] - c - (lb b m).getD i 0 < 0 then 1 else 0)), ("base", .int (1 * 2 ^ w)), ("a", .ref a), ("b", .ref a')], _, ⟨rfl, rfl, rfl, rfl, rfl, trivial⟩, Le.refl _, _, _, rfl, rfl, by simp [hz], hd.append (Dig.cons ?_ ?_ Dig.nil), ?_, ?_⟩
    · split <;> omega
    · split <;> omega
    · split
      · exact .inr rfl
      · exact .inl rfl
    · exact sub_turn hz (List.getElem?_eq_getElem hi) hv
  rintro μ σ'' ⟨zs, c, rfl, rfl, hz, hd, hc, hv⟩
  rw [List.take_of_length_le (Nat.le_refl (lb b n).length), lb_val hb n, List.take_of_length_le (lb_length_mono hb hm), lb_val hb m, ← hz] at hv
  have hend := sub_end hb hd hv hc hm
  refine XS_cons ?_
  repeat walk_at "m"
  refine EV_calln (by decide +kernel) (by rfl) ?_
  repeat walk_at "m"
  refine (fn_normal (upd_self _ _ _) (by walk_at "o")).use (Nat.le_of_ble_eq_true rfl) ?_
  rintro _ σ₂ ⟨hle2, r', rfl, hr'⟩
  rw [hend] at hr'
  exact ⟨σ₂, Le.refl _, (hle.trans (Le.fresh (Le.refl _) _ hr)).trans hle2, r', rfl, hr'⟩

theorem fn_shift_left {a : Addr} {w b v n : Nat} (H : Base w b) (ha : σ a = some (LI (lb b v))) (hv : v ≤ 1000) (hn : n < w) :
    FN G 1 (G.fa "shift_left") [.ref a, .int n, .int w] σ fun u σ' => Le σ σ' ∧ ∃ r, u = .ref r ∧ σ r = none ∧ σ' r = some (LI (lb b (v * 2 ^ n))) := by
  have hb := H.two
  have hb' := H.top
  have hw := H.hw'
  have hw3 := H.hw
  refine FN_of ["a", "n", "w"] 7 D7 (by decide) ?_ (by decide +kernel) (by rfl) (by rfl) (by rfl) (by decide +kernel) ?_
  · intro vs hvs pm cd doc
    obtain ⟨v, v', v'', rfl, hv⟩ := are3 hvs
    rfl
  intro A L f cd hh room units hL
  have l1 := lb_short (n := v) H.eight hv
  have d1 := lb_dig hb v
  have hP : (2 : Int) ^ n * 2 ^ (w - n) = b := by rw [H.hbw, ← Int.pow_add]; congr 1; omega
  have hPpos : (0 : Int) < 2 ^ n := pow_pos' n
  have hKpos : (0 : Int) < 2 ^ (w - n) := pow_pos' _
  have hPb : (2 : Int) ^ n ≤ b := by
    rw [← hP]
    have := Int.mul_le_mul_of_nonneg_left (show (1 : Int) ≤ 2 ^ (w - n) by walk_at "o") (show (0 : Int) ≤ 2 ^ n by walk_at "o")
    omega
  refine XS_cons ?_
  repeat walk_at "m"
  refine ⟨_, _, rfl, ha, by walk_at "o", ?_⟩
  repeat walk_at "m"
  split
  · next h =>
    simp at h
    have hv0 : v = 0 := (lb_nil hb).mp h
    subst hv0
    refine XS_cons ?_
    refine X_retL ?_
    refine EV_nilI fun r hr => ?_
    exact ⟨_, Le.refl _, Le.fresh (Le.refl _) _ hr, r, rfl, hr, by rw [upd_self, Nat.zero_mul, lb_zero]⟩
  · next h =>
    repeat walk_at "m"
    refine X_swap2 (by rfl) (by rfl) ?_
    repeat walk_at "m"
    refine BOP_div (by walk_at "o") (by walk_at "o") ?_
    repeat walk_at "m"
    refine BOP_emod (by walk_at "o") ?_
    rw [show (n : Int) / (w : Int) = 0 from Int.ediv_eq_zero_of_lt (by walk_at "o") (by walk_at "o"), show (n : Int) % (w : Int) = n from Int.emod_eq_of_lt (by walk_at "o") (by walk_at "o")]
    repeat walk_at "m"
    refine ⟨by simp, fun t ht => ⟨_, _, _, rfl, upd_self _ _ _, ?_⟩⟩
    refine XS_forget (Le.fresh (Le.refl _) _ ht) (μ' := [("spots", .int 0), ("few", .int n), ("a", .ref a), ("w", .int w)]) ⟨rfl, rfl, rfl, rfl, trivial⟩ ?_
    refine XS_cons ?_
    refine X_swap3 (by rfl) (by rfl) (by rfl) ?_
    refine EV_tup ?_
    refine EVs_cons ?_
    refine EV_bin ?_
    refine EV_listI ?_
    repeat walk_at "m"
    refine ⟨[0], rfl, by simp, fun r0 hr0 => ?_⟩
    repeat walk_at "m"
    refine BOP_repI (upd_self _ _ _) (by walk_at "o") (by walk_at "o") fun r hr => ?_
    simp only [Int.toNat_zero, List.replicate_zero]
    have ha1 : upd σ r0 (LI [0]) a = some (LI (lb b v)) := by rw [upd_ne (ne_of_none ha hr0)]; exact ha
    have har : a ≠ r := ne_of_none ha1 hr
    have hr1 : σ r = none := by
      have hne : r ≠ r0 := by rintro rfl; rw [upd_self] at hr; cases hr
      rw [upd_ne hne] at hr; exact hr
    repeat walk_at "m"
    refine BOP_shlS (by walk_at "o") (by walk_at "o") (by walk_at "o") ?_
    repeat walk_at "m"
    refine ⟨by simp, fun t ht => ⟨_, _, _, _, rfl, upd_self _ _ _, ?_⟩⟩
    refine XS_forget (σ' := upd σ r (LI [])) (Le.fresh ((Le.fresh (Le.refl _) _ hr0).upd _ _) _ ((Le.fresh (Le.refl _) _ hr0).upd r (LI []) |>.no ht)) (μ' := [("found", .ref r), ("carry", .int 0), ("mask", .int (1 * 2 ^ w - 1)), ("few", .int n), ("a", .ref a), ("w", .int w)]) ⟨rfl, rfl, rfl, rfl, rfl, rfl, trivial⟩ ?_
    refine XS_cons ?_
    refine X_forList (by rfl) ?_
    repeat walk_at "m"
    refine ⟨a, _, nums (lb b v), fun i μ σ'' => ∃ zs c, σ'' = upd σ r (LI zs) ∧ μ = ([("found", .ref r), ("carry", .int c), ("mask", .int (1 * 2 ^ w - 1)), ("few", .int n), ("w", .int w)] : Mu) ∧
      zs.length = i ∧ Dig b zs ∧ 0 ≤ c ∧ c < 2 ^ n ∧ val b zs + (b : Int) ^ i * c = 2 ^ n * val b ((lb b v).take i), rfl, by rw [upd_ne har]; exact ha, ?_, ?_, ?_, ?_⟩
    · exact ⟨[("found", .ref r), ("carry", .int 0), ("mask", .int (1 * 2 ^ w - 1)), ("few", .int n), ("w", .int w)], _, ⟨rfl, rfl, rfl, rfl, rfl, trivial⟩, Le.refl _, [], 0, rfl, rfl, rfl, Dig.nil, by walk_at "o", by walk_at "o", by simp [val]⟩
    · rintro i μ σ'' ⟨zs, c, rfl, rfl, _⟩
      exact ⟨true, by rw [upd_ne har]; exact ha⟩
    · rintro i μ σ'' u hu ⟨zs, c, rfl, rfl, hz, hd, c0, c1, hval⟩
      obtain ⟨x, hx, rfl⟩ := nums_get' hu
      have gx := d1.get hx
      have hi := (List.getElem?_eq_some_iff.mp hx).1
      refine XS.via fun N' R' hN' hR' => ?_
      refine XS_cons ?_
      repeat walk_at "m"
      refine BOP_shlS (by walk_at "o") (by walk_at "o") (by walk_at "o") ?_
      refine AOP_orS' (k := n) gx.1 (Int.mul_comm _ _) c0 c1 ?_
      repeat walk_at "m"
      refine X_appendI ?_
      repeat walk_at "m"
      refine ⟨r, rfl, ⟨_, upd_self _ _ _⟩, ?_⟩
      repeat walk_at "m"
      have hnn : 0 ≤ x * 2 ^ n := Int.mul_nonneg gx.1 (by walk_at "o")
      refine BOP_mask (n := w) (by walk_at "o") (by rw [Int.one_mul]) ?_
      refine ⟨_, _, rfl, upd_self _ _ _, by walk_at "o", ?_⟩
      repeat walk_at "m"
      refine AOP_shrS ?_
      repeat walk_at "m"
      rw [← H.hbw, upd_upd]
      have hlt : c + x * 2 ^ n < b * 2 ^ n := by
        have : (x + 1) * 2 ^ n ≤ b * 2 ^ n := Int.mul_le_mul_of_nonneg_right (by walk_at "o") (by walk_at "o")
        rw [Int.add_mul, Int.one_mul] at this
        omega
      refine hN' _ _ ?_
      try rw [← H.hbw]
      refine ⟨[("found", .ref r), ("carry", .int ((c + x * 2 ^ n) / b)), ("mask", .int (1 * b - 1)), ("few", .int n), ("w", .int w)], _, ⟨rfl, rfl, rfl, rfl, rfl, trivial⟩, Le.refl _, _, _, rfl, rfl, by simp [hz], hd.snoc (by walk_at "o") _, Int.ediv_nonneg (by walk_at "o") (by walk_at "o"), Int.ediv_lt_of_lt_mul (by walk_at "o") (by rw [Int.mul_comm (2 ^ n) _]; exact hlt), ?_⟩
      exact shl_turn hz hx hval
    rintro μ σ'' ⟨zs, c, rfl, rfl, hz, hd, c0, c1, hval⟩
    rw [nums_length] at hz hval
    rw [List.take_of_length_le (Nat.le_refl (lb b v).length), lb_val hb v, ← hz] at hval
    have hend := shl_end (P := 2 ^ n) hb Nat.one_le_two_pow hd hz (by rw [hval]; push_cast; rfl) c0 (by walk_at "o")
    refine XS_cons ?_
    refine X1.hand (fun μ σ'' => σ'' = upd σ r (LI (lb b (v * 2 ^ n))) ∧ μ = ([("found", .ref r)] : Mu)) ?_ ?_
    · repeat walk_at "m"
      split
      · next h =>
        simp only [decide_eq_true_eq] at h
        rw [if_pos (by walk_at "o")] at hend
        repeat walk_at "m"
        refine X_appendI ?_
        repeat walk_at "m"
        refine ⟨r, rfl, ⟨_, upd_self _ _ _⟩, ?_⟩
        repeat walk_at "m"
        refine ⟨_, _, rfl, upd_self _ _ _, by walk_at "o", ?_⟩
        repeat walk_at "m"
        rw [upd_upd, hend]
        exact ⟨[("found", .ref r)], _, ⟨rfl, trivial⟩, Le.refl _, rfl, rfl⟩
      · next h =>
        simp only [decide_eq_true_eq] at h
        rw [if_neg (by walk_at "o")] at hend
        repeat walk_at "m"
        rw [hend]
        exact ⟨[("found", .ref r)], _, ⟨rfl, trivial⟩, Le.refl _, rfl, rfl⟩
    rintro μ σ'' ⟨rfl, rfl⟩
    refine XS_cons ?_
    repeat walk_at "m"
    exact ⟨_, Le.refl _, Le.fresh (Le.refl _) _ hr1, r, rfl, hr1, upd_self _ _ _⟩
end
theorem Le.more {σ σ' : AH} {r : Addr} {o : AO} (h : Le σ σ') (hr : σ' r = none) : Le σ (Mine.upd σ' r o) := h.fresh _ (h.no hr)
section
variable {G : GC} {σ : AH}
theorem fn_divrem_limb {a : Addr} {w b n d : Nat} (H : Base w b) (ha : σ a = some (LI (lb b n))) (hn : n ≤ 1000) (h0 : 0 < d) (hd : d < b) :
    FN G 2 (G.fa "divrem_limb") [.ref a, .int d, .int w] σ fun u σ' => Le σ σ' ∧ ∃ t r, u = .ref t ∧ σ' t = some (.tup [.ref r, .int ((n % d : Nat) : Int)]) ∧ σ' r = some (LI (lb b (n / d))) := by
  have hb := H.two
  have hb' := H.top
  have hw := H.hw'
  have hbw := H.hbw
  refine FN_of ["a", "limb", "w"] 6 D6 (by decide) ?_ (by decide +kernel) (by rfl) (by rfl) (by rfl) (by decide +kernel) ?_
  · intro vs hvs pm cd doc
    obtain ⟨v, v', v'', rfl, hv⟩ := are3 hvs
    rfl
  intro A L f cd hh room units hL
  have l1 := lb_short (n := n) H.eight hn
  have d1 := lb_dig hb n
  refine XS_cons ?_
  repeat walk_at "m"
  split
  · next h => simp at h; omega
  repeat walk_at "m"
  refine X_swap2 (by rfl) (by rfl) ?_
  refine EV_tup ?_
  refine EVs_cons ?_
  refine EV_bin ?_
  refine EV_listI ?_
  repeat walk_at "m"
  refine ⟨[0], rfl, by simp, fun r0 hr0 => ?_⟩
  have ha1 : upd σ r0 (LI [0]) a = some (LI (lb b n)) := by rw [upd_ne (ne_of_none ha hr0)]; exact ha
  repeat walk_at "m"
  refine ⟨_, _, rfl, ha1, by walk_at "o", ?_⟩
  repeat walk_at "m"
  refine BOP_repI (upd_self _ _ _) (by walk_at "o") (by walk_at "o") fun r hr => ?_
  rw [Int.toNat_natCast]
  have har : a ≠ r := ne_of_none ha1 hr
  have hr1 : σ r = none := by
    have hne : r ≠ r0 := by rintro rfl; rw [upd_self] at hr; cases hr
    rw [upd_ne hne] at hr; exact hr
  repeat walk_at "m"
  refine ⟨by simp, fun t ht => ⟨_, _, _, rfl, upd_self _ _ _, ?_⟩⟩
  refine XS_forget (σ' := upd σ r (LI (List.replicate (lb b n).length 0))) (Le.fresh ((Le.fresh (Le.refl _) _ hr0).upd _ _) _ ((Le.fresh (Le.refl _) _ hr0).upd r (LI (List.replicate (lb b n).length 0)) |>.no ht)) (μ' := [("found", .ref r), ("rest", .int 0), ("a", .ref a), ("limb", .int d), ("w", .int w)]) ⟨rfl, rfl, rfl, rfl, rfl, trivial⟩ ?_
  refine XS_cons ?_
  refine X_forRange (by rfl) (by rfl) ?_
  repeat walk_at "m"
  refine ⟨_, _, rfl, by rw [upd_ne har]; exact ha, by walk_at "o", ?_⟩
  repeat walk_at "m"
  refine ⟨_, rfl, ?_⟩
  repeat walk_at "m"
  refine ⟨_, rfl, ?_⟩
  repeat walk_at "m"
  refine ⟨_, _, _, (lb b n).length, fun i μ σ'' => ∃ zs R, σ'' = upd σ r (LI zs) ∧ μ = ([("found", .ref r), ("rest", .int R), ("a", .ref a), ("limb", .int d), ("w", .int w)] : Mu) ∧
    zs.length = (lb b n).length ∧ Dig b zs ∧ 0 ≤ R ∧ R < d ∧ val b ((lb b n).drop ((lb b n).length - i)) = d * val b (zs.drop ((lb b n).length - i)) + R, RangeArgs.down _ _, by walk_at "o", ?_, ?_, ?_, ?_⟩
  · rw [range_down]; omega
  · exact ⟨[("found", .ref r), ("rest", .int 0), ("a", .ref a), ("limb", .int d), ("w", .int w)], _, ⟨rfl, rfl, rfl, rfl, rfl, trivial⟩, Le.refl _, List.replicate (lb b n).length 0, 0, rfl, rfl, by simp, Dig.replicate (by walk_at "o") _, by walk_at "o", by walk_at "o", by simp [val]⟩
  · rintro i μ σ'' hi ⟨zs, R, rfl, rfl, hz, hd', R0, R1, hv⟩
    have hk : (lb b n).length - 1 - i < (lb b n).length := by walk_at "o"
    have eat : ((((lb b n).length : Int) - 1) + i * -1).toNat = (lb b n).length - 1 - i := by walk_at "o"
    have hsuc : (lb b n).length - i = (lb b n).length - 1 - i + 1 := by walk_at "o"
    have hsuc' : (lb b n).length - (i + 1) = (lb b n).length - 1 - i := by walk_at "o"
    have gx := d1.get (List.getElem?_eq_getElem hk)
    have hRb : 0 ≤ R * b ∧ R * b < 2 ^ 60 := by
      have h1 : 0 ≤ R * b := Int.mul_nonneg R0 (by walk_at "o")
      have h2 : R * b ≤ 256 * b := Int.mul_le_mul_of_nonneg_right (by walk_at "o") (by walk_at "o")
      omega
    refine XS.via fun N' R' hN' hR' => ?_
    refine XS_cons ?_
    repeat walk_at "m"
    refine BOP_shlS (by walk_at "o") (by walk_at "o") (by walk_at "o") ?_
    refine EV_at ?_
    repeat walk_at "m"
    refine ⟨_, _, _, (lb b n)[(lb b n).length - 1 - i], rfl, rfl, by rw [upd_ne har]; exact ha, by walk_at "o", by walk_at "o", by rw [eat]; exact List.getElem?_eq_getElem hk, ?_⟩
    refine BOP_orS (k := w) R0 (Int.mul_comm _ _) gx.1 (by walk_at "o") ?_
    rw [← hbw]
    repeat walk_at "m"
    refine X_setI ?_
    repeat walk_at "m"
    refine BOP_div (by walk_at "o") (by walk_at "o") ?_
    repeat walk_at "m"
    refine ⟨_, _, _, _, rfl, rfl, rfl, upd_self _ _ _, by walk_at "o", by walk_at "o", by walk_at "o", ?_⟩
    rw [eat, upd_upd]
    repeat walk_at "m"
    refine AOP_emod (by walk_at "o") ?_
    repeat walk_at "m"
    have hq := div_limb (B := b) (d := d) (by walk_at "o") R0 R1 gx.1 gx.2
    refine hN' _ _ ?_
    try rw [← hbw]
    refine ⟨[("found", .ref r), ("rest", .int ((R * b + (lb b n)[(lb b n).length - 1 - i]) % d)), ("a", .ref a), ("limb", .int d), ("w", .int w)], _, ⟨rfl, rfl, rfl, rfl, rfl, trivial⟩, Le.refl _, _, _, rfl, rfl, by simp [hz], hd'.set _ hq.1 hq.2, Int.emod_nonneg _ (by walk_at "o"), Int.emod_lt_of_pos _ (by walk_at "o"), ?_⟩
    rw [hsuc'] 
    rw [hsuc] at hv
    rw [drop_set_eq (by walk_at "o"), val_drop b (List.getElem?_eq_getElem hk)]
    exact div_turn (by walk_at "o") hv rfl
  rintro μ σ'' ⟨zs, R, rfl, rfl, hz, hd', R0, R1, hv⟩
  rw [Nat.sub_self, List.drop_zero, List.drop_zero, lb_val hb n] at hv
  obtain ⟨hend, rfl⟩ := div_end hb h0 hd' hv R0 R1
  refine XS_cons ?_
  repeat walk_at "m"
  refine EV_calln (by decide +kernel) (by rfl) ?_
  repeat walk_at "m"
  refine (fn_normal (upd_self _ _ _) (by walk_at "o")).use (Nat.le_of_ble_eq_true rfl) ?_
  rintro _ σ₂ ⟨hle2, r', rfl, hr'⟩
  rw [hend] at hr'
  repeat walk_at "m"
  refine ⟨by simp, fun t ht => ?_⟩
  refine ⟨_, Le.refl _, ((Le.fresh (Le.refl _) _ hr1).trans hle2).more ht, t, r', rfl, upd_self _ _ _, ?_⟩
  rw [upd_ne (ne_of_none hr' ht)]; exact hr'

theorem D16 : (D 16).name = "divrem_small" := by decide +kernel
theorem fn_divrem_small {a a' : Addr} {w b n d : Nat} (H : Base w b) (ha : σ a = some (LI (lb b n))) (ha' : σ a' = some (LI (lb b d))) (hn : n ≤ 1000) (h0 : 0 < d) (hd : d < b) :
    FN G 3 (G.fa "divrem_small") [.ref a, .ref a', .int w] σ fun u σ' => Le σ σ' ∧ ∃ t r s, u = .ref t ∧ σ' t = some (.tup [.ref r, .ref s]) ∧ σ' r = some (LI (lb b (n / d))) ∧ σ' s = some (LI (lb b (n % d))) := by
  have hb := H.two
  refine FN_of ["a", "b", "w"] 16 D16 (by decide) ?_ (by decide +kernel) (by rfl) (by rfl) (by rfl) (by decide +kernel) ?_
  · intro vs hvs pm cd doc
    obtain ⟨v, v', v'', rfl, hv⟩ := are3 hvs
    rfl
  intro A L f cd hh room units hL
  have ed : lb b d = [(d : Int)] := by
    rw [lb_pos hb (by walk_at "o"), Nat.mod_eq_of_lt hd, Nat.div_eq_of_lt hd, lb_zero]
  rw [ed] at ha'
  refine XS_cons ?_
  refine X_unpack2 (by rfl) (by rfl) ?_
  refine EV_calln (by decide +kernel) (by rfl) ?_
  repeat walk_at "m"
  refine EV_at ?_
  repeat walk_at "m"
  refine ⟨_, _, _, (d : Int), rfl, rfl, ha', by walk_at "o", by walk_at "o", rfl, ?_⟩
  repeat walk_at "m"
  refine (fn_divrem_limb H ha hn h0 hd).use (Nat.le_of_ble_eq_true rfl) ?_
  rintro _ σ₁ ⟨hle, t, r, rfl, ht, hr⟩
  refine ⟨t, _, _, rfl, ht, ?_⟩
  refine XS_cons ?_
  repeat walk_at "m"
  refine EV_ife ?_
  repeat walk_at "m"
  split
  · next h =>
    simp only [decide_eq_true_eq] at h
    refine EV_listI ?_
    repeat walk_at "m"
    refine ⟨[((n % d : Nat) : Int)], rfl, by simp, fun s hs => ?_⟩
    repeat walk_at "m"
    refine ⟨by simp, fun t' ht' => ?_⟩
    have hr' : upd σ₁ s (LI [((n % d : Nat) : Int)]) r = some (LI (lb b (n / d))) := by rw [upd_ne (ne_of_none hr hs)]; exact hr
    refine ⟨_, Le.refl _, (hle.more hs).more ht', t', r, s, rfl, upd_self _ _ _, ?_, ?_⟩
    · rw [upd_ne (ne_of_none hr' ht')]; exact hr'
    · rw [upd_ne (ne_of_none (upd_self _ _ _) ht'), upd_self]
      have h1 : n % d < b := Nat.lt_trans (Nat.mod_lt _ h0) hd
      rw [lb_pos hb (by walk_at "o" : n % d ≠ 0), Nat.mod_eq_of_lt h1, Nat.div_eq_of_lt h1, lb_zero]
  · next h =>
    simp only [decide_eq_true_eq] at h
    have hz : n % d = 0 := by walk_at "o"
    refine EV_nilI fun s hs => ?_
    repeat walk_at "m"
    refine ⟨by simp, fun t' ht' => ?_⟩
    have hr' : upd σ₁ s (LI []) r = some (LI (lb b (n / d))) := by rw [upd_ne (ne_of_none hr hs)]; exact hr
    refine ⟨_, Le.refl _, (hle.more hs).more ht', t', r, s, rfl, upd_self _ _ _, ?_, ?_⟩
    · rw [upd_ne (ne_of_none hr' ht')]; exact hr'
    · rw [upd_ne (ne_of_none (upd_self _ _ _) ht'), upd_self, hz, lb_zero]
end
section
variable {G : GC} {σ : AH}
theorem fn_shift_right {a : Addr} {w b v n : Nat} (H : Base w b) (ha : σ a = some (LI (lb b v))) (hv : v ≤ 100000) (hn : n ≤ 1000) :
    FN G 2 (G.fa "shift_right") [.ref a, .int n, .int w] σ fun u σ' => Le σ σ' ∧ ∃ r, u = .ref r ∧ σ' r = some (LI (lb b (v / 2 ^ n))) := by
  have hb := H.two
  have hb' := H.top
  have hw := H.hw'
  have hw3 := H.hw
  have hbw := H.hbw
  refine FN_of ["a", "n", "w"] 8 D8 (by decide) ?_ (by decide +kernel) (by rfl) (by rfl) (by rfl) (by decide +kernel) ?_
  · intro vs hvs pm cd doc
    obtain ⟨v, v', v'', rfl, hv⟩ := are3 hvs
    rfl
  intro A L f cd hh room units hL
  have l1 : (lb b v).length ≤ 17 := lb_length_pow hb 17 v (by have := Nat.pow_le_pow_left hb 17; omega)
  have d1 := lb_dig hb v
  have d1' : Dig (2 ^ w) (lb b v) := hbw ▸ d1
  generalize hs : n / w = s
  generalize hf : n % w = fw
  have hfw : fw < w := by rw [← hf]; exact Nat.mod_lt _ (by walk_at "o")
  have hfw' : fw ≤ w := by walk_at "o"
  have hsn : w * s + fw = n := by rw [← hs, ← hf]; exact Nat.div_add_mod n w
  have hs1 : s ≤ 1000 := by rw [← hs]; exact Nat.le_trans (Nat.div_le_self _ _) hn
  have es : (n : Int) / (w : Int) = s := by rw [← hs]; rfl
  have ef : (n : Int) % (w : Int) = fw := by rw [← hf]; rfl
  have hP : (2 : Int) ^ fw * 2 ^ (w - fw) = 2 ^ w := by rw [← Int.pow_add]; congr 1; omega
  have hP1 : (0 : Int) < 2 ^ fw := pow_pos' fw
  have hP2 : (0 : Int) < 2 ^ (w - fw) := pow_pos' _
  refine XS_cons ?_
  refine X_swap2 (by rfl) (by rfl) ?_
  repeat walk_at "m"
  refine BOP_div (by walk_at "o") (by walk_at "o") ?_
  repeat walk_at "m"
  refine BOP_emod (by walk_at "o") ?_
  rw [es, ef]
  repeat walk_at "m"
  refine ⟨by simp, fun t ht => ⟨_, _, _, rfl, upd_self _ _ _, ?_⟩⟩
  refine XS_forget (Le.fresh (Le.refl _) _ ht) (μ' := [("spots", .int s), ("few", .int fw), ("a", .ref a), ("w", .int w)]) ⟨rfl, rfl, rfl, rfl, trivial⟩ ?_
  refine XS_cons ?_
  refine X_swap2 (by rfl) (by rfl) ?_
  refine EV_tup ?_
  refine EVs_cons ?_
  refine EV_nilI fun r hr => ?_
  have har : a ≠ r := ne_of_none ha hr
  repeat walk_at "m"
  refine BOP_shlS (by walk_at "o") (by walk_at "o") (by walk_at "o") ?_
  repeat walk_at "m"
  refine ⟨by simp, fun t ht => ⟨_, _, _, rfl, upd_self _ _ _, ?_⟩⟩
  refine XS_forget (Le.fresh (Le.refl _) _ ht) (μ' := [("found", .ref r), ("mask", .int (1 * 2 ^ w - 1)), ("spots", .int s), ("few", .int fw), ("a", .ref a), ("w", .int w)]) ⟨rfl, rfl, rfl, rfl, rfl, rfl, trivial⟩ ?_
  refine XS_cons ?_
  refine X_forRange (by rfl) (by rfl) ?_
  repeat walk_at "m"
  refine ⟨_, _, rfl, by rw [upd_ne har]; exact ha, by walk_at "o", ?_⟩
  repeat walk_at "m"
  refine ⟨_, _, _, (lb b v).length - s, fun i μ σ'' => ∃ zs, σ'' = upd σ r (LI zs) ∧ μ = ([("found", .ref r), ("mask", .int (1 * 2 ^ w - 1)), ("few", .int fw), ("a", .ref a), ("w", .int w)] : Mu) ∧
    zs.length = i ∧ Dig (2 ^ w) zs ∧ val (2 ^ w) zs + (2 ^ w) ^ i * (val (2 ^ w) ((lb b v).drop (s + i)) / 2 ^ fw) = val (2 ^ w) ((lb b v).drop s) / 2 ^ fw, RangeArgs.two _ _, by walk_at "o", ?_, ?_, ?_, ?_⟩
  · rw [rangeSize_one]; split <;> omega
  · exact ⟨[("found", .ref r), ("mask", .int (1 * 2 ^ w - 1)), ("few", .int fw), ("a", .ref a), ("w", .int w)], _, ⟨rfl, rfl, rfl, rfl, rfl, trivial⟩, Le.refl _, [], rfl, rfl, rfl, Dig.nil, by simp [val]⟩
  · rintro i μ σ'' hi ⟨zs, rfl, rfl, hz, hd, hval⟩
    have hk : s + i < (lb b v).length := by walk_at "o"
    have ek : ((s : Int) + i * 1).toNat = s + i := by walk_at "o"
    have gx := d1'.get (List.getElem?_eq_getElem hk)
    have gy := getD_dig (b := 2 ^ w) (by walk_at "o") d1' (s + i + 1)
    refine XS.via fun N' R' hN' hR' => ?_
    refine XS_cons ?_
    repeat walk_at "m"
    refine EV.eq (.int ((lb b v).getD (s + i + 1) 0)) ?_ ?_
    · refine EV_ife ?_
      repeat walk_at "m"
      refine ⟨_, _, rfl, by rw [upd_ne har]; exact ha, by walk_at "o", ?_⟩
      repeat walk_at "m"
      split
      · next h =>
        simp only [decide_eq_true_eq] at h
        have h : s + i + 1 < (lb b v).length := by walk_at "o"
        have ek' : ((s : Int) + i * 1 + 1).toNat = s + i + 1 := by walk_at "o"
        refine EV_at ?_
        repeat walk_at "m"
        refine ⟨_, _, _, (lb b v)[s + i + 1], rfl, rfl, by rw [upd_ne har]; exact ha, by walk_at "o", by walk_at "o", by rw [ek']; exact List.getElem?_eq_getElem h, rfl, ?_⟩
        rw [List.getD_eq_getElem?_getD, List.getElem?_eq_getElem h]; rfl
      · next h =>
        simp only [decide_eq_true_eq] at h
        repeat walk_at "m"
        refine ⟨rfl, ?_⟩
        rw [List.getD_eq_getElem?_getD, List.getElem?_eq_none (by walk_at "o")]; rfl
    repeat walk_at "m"
    refine X_appendI ?_
    repeat walk_at "m"
    refine ⟨r, rfl, ⟨_, upd_self _ _ _⟩, ?_⟩
    refine EV_bin ?_
    refine EV_bin ?_
    refine EV_bin ?_
    refine EV_at ?_
    repeat walk_at "m"
    refine ⟨_, _, _, (lb b v)[s + i], rfl, rfl, by rw [upd_ne har]; exact ha, by walk_at "o", by walk_at "o", by rw [ek]; exact List.getElem?_eq_getElem hk, ?_⟩
    repeat walk_at "m"
    refine BOP_shrS ?_
    repeat walk_at "m"
    rw [show (w : Int) - (fw : Int) = ((w - fw : Nat) : Int) from by walk_at "o"]
    refine BOP_shlS (by walk_at "o") (by walk_at "o") (by walk_at "o") ?_
    have hx0 : 0 ≤ (lb b v)[s + i] / 2 ^ fw := Int.ediv_nonneg gx.1 (by walk_at "o")
    have hx1 : (lb b v)[s + i] / 2 ^ fw < 2 ^ (w - fw) := Int.ediv_lt_of_lt_mul hP1 (by rw [Int.mul_comm, hP]; exact gx.2)
    have hy0 : 0 ≤ (lb b v).getD (s + i + 1) 0 * 2 ^ (w - fw) := Int.mul_nonneg gy.1 (by walk_at "o")
    refine BOP_orS' (k := w - fw) gy.1 (Int.mul_comm _ _) hx0 hx1 ?_
    repeat walk_at "m"
    refine BOP_mask (n := w) (by walk_at "o") (by rw [Int.one_mul]) ?_
    refine ⟨_, _, rfl, upd_self _ _ _, by walk_at "o", ?_⟩
    repeat walk_at "m"
    rw [upd_upd]
    refine hN' _ _ ?_
    refine ⟨[("found", .ref r), ("mask", .int (1 * 2 ^ w - 1)), ("few", .int fw), ("a", .ref a), ("w", .int w)], _, ⟨rfl, rfl, rfl, rfl, rfl, trivial⟩, Le.refl _, _, rfl, rfl, by simp [hz], hd.snoc (by walk_at "o") _, ?_⟩
    exact shr_turn hfw' hz d1' (List.getElem?_eq_getElem hk) hval
  rintro μ σ'' ⟨zs, rfl, rfl, hz, hd, hval⟩
  rw [List.drop_of_length_le (show (lb b v).length ≤ s + ((lb b v).length - s) by walk_at "o")] at hval
  simp only [val, Int.zero_ediv, Int.mul_zero, Int.add_zero] at hval
  rw [← hbw] at hd hval
  have hend := shr_end (s := s) (f := fw) (n := v) hb hbw hd hval
  rw [hsn] at hend
  refine XS_cons ?_
  repeat walk_at "m"
  refine EV_calln (by decide +kernel) (by rfl) ?_
  repeat walk_at "m"
  refine (fn_normal (upd_self _ _ _) (by walk_at "o")).use (Nat.le_of_ble_eq_true rfl) ?_
  rintro _ σ₂ ⟨hle2, r', rfl, hr'⟩
  rw [hend] at hr'
  exact ⟨_, Le.refl _, (Le.fresh (Le.refl _) _ hr).trans hle2, r', rfl, hr'⟩

theorem D9 : (D 9).name = "bits" := by decide +kernel
theorem fn_bits1 {a : Addr} {w : Nat} {x : Int} (ha : σ a = some (LI [x])) :
    FN G 1 (G.fa "bits") [.ref a, .int w] σ fun u σ' => σ' = σ ∧ u = .int (Builtin.Int.intBits x) := by
  refine FN_of ["a", "w"] 9 D9 (by decide) ?_ (by decide +kernel) (by rfl) (by rfl) (by rfl) (by decide +kernel) ?_
  · intro vs hvs pm cd doc
    obtain ⟨v, v', rfl, hv⟩ := are2 hvs
    rfl
  intro A L f cd hh room units hL
  refine XS_cons ?_
  repeat walk_at "m"
  refine EV_ife ?_
  repeat walk_at "m"
  refine ⟨_, _, rfl, ha, by simp, ?_⟩
  repeat walk_at "m"
  simp only [List.length_singleton]
  rw [if_pos (by simp)]
  repeat walk_at "m"
  refine ⟨_, _, rfl, ha, by simp, ?_⟩
  repeat walk_at "m"
  simp only [List.length_singleton]
  refine BOP_mulS (by decide) (by decide) ?_
  refine EV_bitlen ?_
  refine EV_last ?_
  repeat walk_at "m"
  refine ⟨_, rfl, _, _, x, rfl, rfl, ha, rfl, ?_⟩
  refine ⟨_, rfl, ?_⟩
  repeat walk_at "m"
  refine ⟨_, Le.refl _, rfl, ?_⟩
  simp
end
theorem bit_low : ∀ x : Fin 256, 0 < x.val → ∃ t, t < 8 ∧ Builtin.Int.intBits (Builtin.bitAnd (x.val : Int) (-(x.val : Int))) = t + 1 ∧ x.val / 2 ^ t * 2 ^ t = x.val ∧ x.val / 2 ^ t % 2 = 1 := by decide +kernel
/-- the symbol of twos -/
def ts (t v : Nat) : Int := if t % 2 = 1 ∧ (v % 8 = 3 ∨ v % 8 = 5) then -1 else 1
section
variable {G : GC} {σ : AH}
theorem D10 : (D 10).name = "bit" := by decide +kernel
theorem D11 : (D 11).name = "trailing" := by decide +kernel
theorem D12 : (D 12).name = "last_bits" := by decide +kernel
theorem D13 : (D 13).name = "two_sign" := by decide +kernel
theorem fn_bit {a : Addr} {w b v n : Nat} (H : Base w b) (ha : σ a = some (LI (lb b v))) (hv : v ≤ 1000) (hn : n ≤ 1000) :
    FN G 1 (G.fa "bit") [.ref a, .int n, .int w] σ fun u σ' => σ' = σ ∧ u = .int ((v / 2 ^ n % 2 : Nat) : Int) := by
  have hb := H.two
  have hw := H.hw'
  have hw3 := H.hw
  have l1 := lb_short (n := v) H.eight (by omega)
  refine FN_of ["a", "n", "w"] 10 D10 (by decide) ?_ (by decide +kernel) (by rfl) (by rfl) (by rfl) (by decide +kernel) ?_
  · intro vs hvs pm cd doc
    obtain ⟨v, v', v'', rfl, hv⟩ := are3 hvs
    rfl
  intro A L f cd hh room units hL
  have hon := bit_of (v := v) (n := n) (by walk_at "o") H.nat
  have hoff := bit_off (v := v) (n := n) (by walk_at "o") H.nat
  generalize hs : n / w = s at hon hoff
  generalize hf : n % w = fw at hon hoff
  have es : (n : Int) / (w : Int) = s := by rw [← hs]; rfl
  have ef : (n : Int) % (w : Int) = fw := by rw [← hf]; rfl
  have hs1 : s ≤ 1000 := by rw [← hs]; exact Nat.le_trans (Nat.div_le_self _ _) hn
  refine XS_cons ?_
  repeat walk_at "m"
  refine EV_ife ?_
  repeat walk_at "m"
  refine BOP_div (by walk_at "o") (by walk_at "o") ?_
  repeat walk_at "m"
  refine ⟨_, _, rfl, ha, by walk_at "o", ?_⟩
  repeat walk_at "m"
  rw [es]
  split
  · next h =>
    simp only [decide_eq_true_eq] at h
    have h : s < (lb b v).length := by walk_at "o"
    have gx := lb_get hb (List.getElem?_eq_getElem h)
    repeat walk_at "m"
    refine EV_at ?_
    repeat walk_at "m"
    refine BOP_div (by walk_at "o") (by walk_at "o") ?_
    rw [es]
    refine ⟨_, _, _, (lb b v)[s], rfl, rfl, ha, by walk_at "o", by walk_at "o", by rw [Int.toNat_natCast]; exact List.getElem?_eq_getElem h, ?_⟩
    repeat walk_at "m"
    refine BOP_emod (by walk_at "o") ?_
    rw [ef]
    refine BOP_shrS ?_
    repeat walk_at "m"
    rw [gx]
    have e1 : (((v / b ^ (s) % b : Nat) : Int) / 2 ^ (fw)) = ((v / b ^ (s) % b / 2 ^ (fw) : Nat) : Int) := by push_cast; rfl
    rw [e1]
    refine BOP_mask (n := 1) (Int.natCast_nonneg _) (by rfl) ?_
    refine ⟨_, Le.refl _, rfl, ?_⟩
    rw [← hon]
    rfl
  · next h =>
    simp only [decide_eq_true_eq] at h
    repeat walk_at "m"
    refine ⟨_, Le.refl _, rfl, ?_⟩
    rw [hoff (lb_high hb (by walk_at "o"))]
    rfl

theorem fn_trailing {a : Addr} {w b v : Nat} (H : Base w b) (ha : σ a = some (LI (lb b v))) (hv : v < 24) (hv0 : 0 < v) :
    FN G 1 (G.fa "trailing") [.ref a, .int w] σ fun u σ' => σ' = σ ∧ u = .int (tz v) := by
  have hb := H.two
  have hb' := H.top
  have hw := H.hw'
  have hw3 := H.hw
  have l1 := lb_short (n := v) H.eight (by omega)
  refine FN_of ["a", "w"] 11 D11 (by decide) ?_ (by decide +kernel) (by rfl) (by rfl) (by rfl) (by decide +kernel) ?_
  · intro vs hvs pm cd doc
    obtain ⟨v, v', rfl, hv⟩ := are2 hvs
    rfl
  intro A L f cd hh room units hL
  refine XS_cons ?_
  refine X_forEnum (by rfl) (by rfl) (by rfl) ?_
  repeat walk_at "m"
  refine ⟨a, _, nums (lb b v), fun i μ σ'' => σ'' = σ ∧ μ = ([("a", .ref a), ("w", .int w)] : Mu) ∧ v % b ^ i = 0, rfl, ha, ?_, ?_, ?_, ?_⟩
  · exact ⟨[("a", .ref a), ("w", .int w)], _, ⟨rfl, rfl, trivial⟩, Le.refl _, rfl, rfl, by simp [Nat.mod_one]⟩
  · rintro i μ σ'' ⟨rfl, _⟩
    exact ⟨_, ha⟩
  · rintro i μ σ'' u hu ⟨rfl, rfl, hlow⟩
    obtain ⟨x, hx, rfl⟩ := nums_get' hu
    have gx := lb_get hb hx
    have hi := (List.getElem?_eq_some_iff.mp hx).1
    refine XS_cons ?_
    repeat walk_at "m"
    split
    · next h =>
      simp only [decide_eq_true_eq] at h
      obtain ⟨t, ht, hbits, h1, h2⟩ := bit_low ⟨v / b ^ i % b, by have := Nat.mod_lt (v / b ^ i) (show 0 < b by walk_at "o"); omega⟩ (by show 0 < v / b ^ i % b; omega)
      have hj := trail_join (x := v / b ^ i % b) H.nat hlow rfl h1 h2
      have hspec := tz_spec hv hj.1 hj.2
      refine XS_cons ?_
      repeat walk_at "m"
      refine BOP_mulS (by walk_at "o") (by walk_at "o") ?_
      refine EV_bitlen ?_
      refine EV_bin ?_
      repeat walk_at "m"
      refine ⟨_, rfl, ?_⟩
      refine BOP_and ?_
      refine ⟨_, rfl, ?_⟩
      repeat walk_at "m"
      refine ⟨_, Le.refl _, rfl, ?_⟩
      rw [← hspec, gx, hbits]
      congr 1
      push_cast
      omega
    · next h =>
      simp only [decide_eq_true_eq] at h
      repeat walk_at "m"
      exact ⟨[("a", .ref a), ("w", .int w)], _, ⟨rfl, rfl, trivial⟩, Le.refl _, rfl, rfl, low_zero (by walk_at "o") hlow (by walk_at "o")⟩
  rintro μ σ'' ⟨rfl, rfl, hlow⟩
  exfalso
  rw [nums_length] at hlow
  have hlt := val_lt (b := b) (by walk_at "o") (lb_dig hb v)
  rw [lb_val hb] at hlt
  have hlt' : v < b ^ (lb b v).length := by
    have : ((b ^ (lb b v).length : Nat) : Int) = (b : Int) ^ (lb b v).length := by push_cast; rfl
    omega
  rw [Nat.mod_eq_of_lt hlt'] at hlow
  omega

theorem fn_last_bits {a : Addr} {w b v k : Nat} (H : Base w b) (ha : σ a = some (LI (lb b v))) (hv : v ≤ 1000) (hk : k = 2 ∨ k = 3) :
    FN G 2 (G.fa "last_bits") [.ref a, .int k, .int w] σ fun u σ' => Le σ σ' ∧ u = .int ((v % 2 ^ k : Nat) : Int) := by
  refine FN_ofC ["a", "many", "w"] 12 D12 (by decide) ?_ (by decide +kernel) (by rfl) (by rfl) (by rfl) ?_
  · intro vs hvs pm cd doc
    obtain ⟨v, v', v'', rfl, hv⟩ := are3 hvs
    rfl
  intro A L f cd hh room units hL
  refine XS_cons ?_
  refine X_retL ?_
  refine EV_sum (by rfl) ?_
  refine EV_comp_range ([("a", .ref a), ("w", .int w)] : Mu) (by rfl) (by rfl) (by decide +kernel) (by decide +kernel) (by rfl) (by rfl) (by rfl) ?_ ?_
  · intro p hp
    rcases List.mem_cons.mp hp with rfl | hp
    · exact ⟨rfl, rfl, rfl, rfl⟩
    · rcases List.mem_cons.mp hp with rfl | hp
      · exact ⟨rfl, rfl, rfl, rfl⟩
      · cases hp
  repeat walk_at "m"
  refine ⟨_, fun i => .int (((v / 2 ^ i % 2 : Nat) : Int) * 2 ^ i), rfl, by walk_at "o", by walk_at "o", ?_, ?_⟩
  · intro i X hX hi
    repeat walk_at "m"
    refine EV_calln (by decide +kernel) (by rfl) ?_
    repeat walk_at "m"
    refine (fn_bit H ha hv (by walk_at "o")).use (Nat.le_of_ble_eq_true rfl) ?_
    rintro _ σ₁ ⟨rfl, rfl⟩
    repeat walk_at "m"
    refine BOP_shlS (by walk_at "o") (by walk_at "o") (by walk_at "o") ?_
    exact ⟨rfl, Le.refl _⟩
  intro r hr
  refine ⟨r, true, (List.range k).map fun i => (((v / 2 ^ i % 2 : Nat) : Int) * 2 ^ i), rfl, ?_, ?_⟩
  · rw [upd_self, Int.toNat_natCast]
    simp [nums]
  refine ⟨_, Le.refl _, Le.fresh (Le.refl _) _ hr, ?_⟩
  congr 1
  rcases hk with rfl | rfl
  · have e : List.range 2 = [0, 1] := rfl
    rw [e]
    simp only [List.map_cons, List.map_nil, List.sum_cons, List.sum_nil]
    omega
  · have e : List.range 3 = [0, 1, 2] := rfl
    rw [e]
    simp only [List.map_cons, List.map_nil, List.sum_cons, List.sum_nil]
    omega

theorem fn_two_sign {a : Addr} {w b v t : Nat} (H : Base w b) (ha : σ a = some (LI (lb b v))) (hv : v ≤ 1000) :
    FN G 3 (G.fa "two_sign") [.int t, .ref a, .int w] σ fun u σ' => Le σ σ' ∧ u = .int (ts t v) := by
  refine FN_of ["twos", "a", "w"] 13 D13 (by decide) ?_ (by decide +kernel) (by rfl) (by rfl) (by rfl) (by decide +kernel) ?_
  · intro vs hvs pm cd doc
    obtain ⟨v, v', v'', rfl, hv⟩ := are3 hvs
    rfl
  intro A L f cd hh room units hL
  refine XS_cons ?_
  repeat walk_at "m"
  refine EV_ife ?_
  repeat walk_at "m"
  refine BOP_emod (by walk_at "o") ?_
  repeat walk_at "m"
  split
  · next h =>
    simp only [beq_iff_eq] at h
    repeat walk_at "m"
    refine EV_calln (by decide +kernel) (by rfl) ?_
    repeat walk_at "m"
    refine (fn_last_bits (k := 3) H ha hv (.inr rfl)).use (Nat.le_of_ble_eq_true rfl) ?_
    rintro _ σ₁ ⟨hle, rfl⟩
    repeat walk_at "m"
    refine ⟨by simp, fun q hq => ?_⟩
    refine COP_in_ints (ns := [3, 5]) (upd_self _ _ _) ?_
    repeat walk_at "m"
    split
    · next h2 =>
      simp at h2
      repeat walk_at "m"
      refine ⟨1, rfl, _, Le.refl _, hle.more hq, ?_⟩
      unfold ts
      rw [if_pos ⟨by walk_at "o", by walk_at "o"⟩]
    · next h2 =>
      simp at h2
      repeat walk_at "m"
      refine ⟨_, Le.refl _, hle.more hq, ?_⟩
      unfold ts
      rw [if_neg (by walk_at "o")]
  · next h =>
    simp only [beq_iff_eq] at h
    simp only [Bool.false_eq_true, if_false]
    repeat walk_at "m"
    refine ⟨_, Le.refl _, Le.refl _, ?_⟩
    unfold ts
    rw [if_neg (by walk_at "o")]
end
section
variable {G : GC} {σ : AH}
theorem D15 : (D 15).name = "mul_school" := by decide +kernel
theorem fn_mul_school {a a' : Addr} {w b n m : Nat} (H : Base w b) (ha : σ a = some (LI (lb b n))) (ha' : σ a' = some (LI (lb b m))) (hn : n ≤ 1000) (hm : m ≤ 1000) :
    FN G 2 (G.fa "mul_school") [.ref a, .ref a', .int w] σ fun u σ' => Le σ σ' ∧ ∃ r, u = .ref r ∧ σ' r = some (LI (lb b (n * m))) := by
  have hb := H.two
  have hb' := H.top
  have hw := H.hw'
  have hbw := H.hbw
  refine FN_of ["a", "b", "w"] 15 D15 (by decide) ?_ (by decide +kernel) (by rfl) (by rfl) (by rfl) (by decide +kernel) ?_
  · intro vs hvs pm cd doc
    obtain ⟨v, v', v'', rfl, hv⟩ := are3 hvs
    rfl
  intro A L f cd hh room units hL
  have l1 := lb_short H.eight hn
  have l2 := lb_short H.eight hm
  have d1 := lb_dig hb n
  have d2 := lb_dig hb m
  refine XS_cons ?_
  refine X_swap2 (by rfl) (by rfl) ?_
  refine EV_tup ?_
  refine EVs_cons ?_
  refine EV_bin ?_
  refine EV_listI ?_
  repeat walk_at "m"
  refine ⟨[0], rfl, by simp, fun r0 hr0 => ?_⟩
  have ha1 : upd σ r0 (LI [0]) a = some (LI (lb b n)) := by rw [upd_ne (ne_of_none ha hr0)]; exact ha
  have ha1' : upd σ r0 (LI [0]) a' = some (LI (lb b m)) := by rw [upd_ne (ne_of_none ha' hr0)]; exact ha'
  repeat walk_at "m"
  refine ⟨_, _, rfl, ha1, by walk_at "o", ?_⟩
  repeat walk_at "m"
  refine ⟨_, _, rfl, ha1', by walk_at "o", ?_⟩
  repeat walk_at "m"
  refine BOP_repI (upd_self _ _ _) (by walk_at "o") (by walk_at "o") fun r hr => ?_
  rw [show (((lb b n).length : Int) + (lb b m).length).toNat = (lb b n).length + (lb b m).length from by walk_at "o"]
  have har : a ≠ r := ne_of_none ha1 hr
  have har' : a' ≠ r := ne_of_none ha1' hr
  have hr1 : σ r = none := by
    have hne : r ≠ r0 := by rintro rfl; rw [upd_self] at hr; cases hr
    rw [upd_ne hne] at hr; exact hr
  repeat walk_at "m"
  refine BOP_shlS (by walk_at "o") (by walk_at "o") (by walk_at "o") ?_
  repeat walk_at "m"
  refine ⟨by simp, fun t ht => ⟨_, _, _, rfl, upd_self _ _ _, ?_⟩⟩
  refine XS_forget (σ' := upd σ r (LI (List.replicate ((lb b n).length + (lb b m).length) 0))) (Le.fresh ((Le.fresh (Le.refl _) _ hr0).upd _ _) _ ((Le.fresh (Le.refl _) _ hr0).upd r (LI (List.replicate ((lb b n).length + (lb b m).length) 0)) |>.no ht)) (μ' := [("found", .ref r), ("mask", .int (1 * 2 ^ w - 1)), ("a", .ref a), ("b", .ref a'), ("w", .int w)]) ⟨rfl, rfl, rfl, rfl, rfl, trivial⟩ ?_
  refine XS_cons ?_
  refine X_forEnum (by rfl) (by rfl) (by rfl) ?_
  repeat walk_at "m"
  refine ⟨a, _, nums (lb b n), fun i μ σ'' => ∃ zs, σ'' = upd σ r (LI zs) ∧ μ = ([("found", .ref r), ("mask", .int (1 * 2 ^ w - 1)), ("a", .ref a), ("b", .ref a'), ("w", .int w)] : Mu) ∧
    zs.length = (lb b n).length + (lb b m).length ∧ Dig b zs ∧ zs.drop (i + (lb b m).length) = List.replicate ((lb b n).length - i) 0 ∧ val b zs = val b ((lb b n).take i) * m, rfl, by rw [upd_ne har]; exact ha, ?_, ?_, ?_, ?_⟩
  · exact ⟨[("found", .ref r), ("mask", .int (1 * 2 ^ w - 1)), ("a", .ref a), ("b", .ref a'), ("w", .int w)], _, ⟨rfl, rfl, rfl, rfl, rfl, trivial⟩, Le.refl _, _, rfl, rfl, by simp, Dig.replicate (by walk_at "o") _, by rw [List.drop_replicate]; congr 1; omega, by rw [val_replicate]; simp [val]⟩
  · rintro i μ σ'' ⟨zs, rfl, rfl, _⟩
    exact ⟨true, by rw [upd_ne har]; exact ha⟩
  · rintro i μ σ'' u hu ⟨zs, rfl, rfl, hz, hd, hdr, hval⟩
    obtain ⟨x, hx, rfl⟩ := nums_get' hu
    have gx := d1.get hx
    have hi := (List.getElem?_eq_some_iff.mp hx).1
    refine XS.via fun N' R' hN' hR' => ?_
    refine XS_cons ?_
    repeat walk_at "m"
    refine X_forEnum (by rfl) (by rfl) (by rfl) ?_
    repeat walk_at "m"
    refine ⟨a', _, nums (lb b m), fun j μ σ'' => ∃ zs' c, σ'' = upd σ r (LI zs') ∧ μ = ([("carry", .int c), ("limb", .int x), ("at", .int i), ("found", .ref r), ("mask", .int (1 * 2 ^ w - 1)), ("a", .ref a), ("b", .ref a'), ("w", .int w)] : Mu) ∧
      zs'.length = (lb b n).length + (lb b m).length ∧ Dig b zs' ∧ zs'.drop (i + (lb b m).length) = List.replicate ((lb b n).length - i) 0 ∧ 0 ≤ c ∧ c < b ∧
      val b zs' + (b : Int) ^ (i + j) * c = val b zs + (b : Int) ^ i * (x * val b ((lb b m).take j)), rfl, by rw [upd_ne har']; exact ha', ?_, ?_, ?_, ?_⟩
    · exact ⟨[("carry", .int 0), ("limb", .int x), ("at", .int i), ("found", .ref r), ("mask", .int (1 * 2 ^ w - 1)), ("a", .ref a), ("b", .ref a'), ("w", .int w)], _, ⟨rfl, rfl, rfl, rfl, rfl, rfl, rfl, rfl, trivial⟩, Le.refl _, zs, 0, rfl, rfl, hz, hd, hdr, by walk_at "o", by walk_at "o", by simp [val]⟩
    · rintro j μ σ'' ⟨zs', c, rfl, rfl, _⟩
      exact ⟨true, by rw [upd_ne har']; exact ha'⟩
    · rintro j μ σ'' u hu ⟨zs', c, rfl, rfl, hz', hd', hdr', c0, c1, hval'⟩
      obtain ⟨y, hy, rfl⟩ := nums_get' hu
      have gy := d2.get hy
      have hj := (List.getElem?_eq_some_iff.mp hy).1
      have ek : ((i : Int) + (j : Int)).toNat = i + j := by walk_at "o"
      have hk : i + j < zs'.length := by walk_at "o"
      have gz := hd'.get (List.getElem?_eq_getElem hk)
      have hxy : x * y ≤ 256 * 256 := Int.mul_le_mul (by walk_at "o") (by walk_at "o") gy.1 (by walk_at "o")
      have hc := mul_carry (B := b) (by walk_at "o") c0 c1 gz.1 gz.2 gx.1 gx.2 gy.1 gy.2
      refine XS.via fun N' R' hN' hR' => ?_
      refine XS_cons ?_
      repeat walk_at "m"
      refine EV_at ?_
      repeat walk_at "m"
      refine ⟨_, _, _, zs'[i + j], rfl, rfl, upd_self _ _ _, by walk_at "o", by walk_at "o", by rw [ek]; exact List.getElem?_eq_getElem hk, ?_⟩
      repeat walk_at "m"
      refine BOP_mulS (by walk_at "o") (by walk_at "o") ?_
      repeat walk_at "m"
      refine X_setI ?_
      repeat walk_at "m"
      refine BOP_mask (n := w) (by walk_at "o") (by rw [Int.one_mul]) ?_
      repeat walk_at "m"
      refine ⟨_, _, _, _, rfl, rfl, rfl, upd_self _ _ _, by walk_at "o", by walk_at "o", by walk_at "o", ?_⟩
      rw [ek, upd_upd, ← hbw]
      repeat walk_at "m"
      refine AOP_shrS ?_
      rw [← hbw]
      repeat walk_at "m"
      refine hN' _ _ ?_
      try rw [← hbw]
      refine ⟨[("carry", .int ((c + (zs'[i + j] + x * y)) / b)), ("limb", .int x), ("at", .int i), ("found", .ref r), ("mask", .int (1 * b - 1)), ("a", .ref a), ("b", .ref a'), ("w", .int w)], _, ⟨rfl, rfl, rfl, rfl, rfl, rfl, rfl, rfl, trivial⟩, Le.refl _, _, _, rfl, rfl, by simp [hz'], hd'.set _ (Int.emod_nonneg _ (by walk_at "o")) (Int.emod_lt_of_pos _ (by walk_at "o")), by rw [set_drop (by walk_at "o")]; exact hdr', hc.2.1, hc.2.2, ?_⟩
      exact mul_turn rfl (List.getElem?_eq_getElem hk) hy hval'
    rintro μ σ'' ⟨zs', c, rfl, rfl, hz', hd', hdr', c0, c1, hval'⟩
    rw [nums_length, List.take_of_length_le (Nat.le_refl (lb b m).length), lb_val hb m] at hval'
    have hz0 := drop_zero_get hdr' (by walk_at "o")
    refine XS_cons ?_
    refine X_setI ?_
    repeat walk_at "m"
    refine ⟨_, _, rfl, by rw [upd_ne har']; exact ha', by walk_at "o", ?_⟩
    repeat walk_at "m"
    have ek : ((i : Int) + ((lb b m).length : Int)).toNat = i + (lb b m).length := by walk_at "o"
    refine ⟨_, _, _, _, rfl, rfl, rfl, upd_self _ _ _, by walk_at "o", by walk_at "o", by walk_at "o", ?_⟩
    rw [ek, upd_upd]
    repeat walk_at "m"
    refine hN' _ _ ?_
    refine ⟨[("found", .ref r), ("mask", .int (1 * 2 ^ w - 1)), ("a", .ref a), ("b", .ref a'), ("w", .int w)], _, ⟨rfl, rfl, rfl, rfl, rfl, trivial⟩, Le.refl _, _, rfl, rfl, by simp [hz'], hd'.set _ c0 c1, ?_, ?_⟩
    · rw [show i + 1 + (lb b m).length = i + (lb b m).length + 1 by walk_at "o", set_drop (by walk_at "o"), drop_zero_next hdr']
      congr 1
    · rw [val_set _ _ hz0, Int.sub_zero, hval', hval, val_take_succ _ hx, Int.add_mul, Int.mul_assoc]
  rintro μ σ'' ⟨zs, rfl, rfl, hz, hd, hdr, hval⟩
  rw [nums_length, List.take_of_length_le (Nat.le_refl (lb b n).length), lb_val hb n] at hval
  have hend : trim zs = lb b (n * m) := trim_eq_lb hb hd (by rw [hval]; push_cast; rfl)
  refine XS_cons ?_
  repeat walk_at "m"
  refine EV_calln (by decide +kernel) (by rfl) ?_
  repeat walk_at "m"
  refine (fn_normal (upd_self _ _ _) (by walk_at "o")).use (Nat.le_of_ble_eq_true rfl) ?_
  rintro _ σ₂ ⟨hle2, r', rfl, hr'⟩
  rw [hend] at hr'
  exact ⟨_, Le.refl _, (Le.fresh (Le.refl _) _ hr1).trans hle2, r', rfl, hr'⟩
end
section
variable {G : GC} {σ : AH}
theorem D17 : (D 17).name = "guessed_limb" := by decide +kernel
theorem D18 : (D 18).name = "take_away" := by decide +kernel
theorem D20 : (D 20).name = "divide_rows" := by decide +kernel
theorem D21 : (D 21).name = "divrem_school" := by decide +kernel
theorem fn_guessed {a : Addr} {w b : Nat} {t0 t1 t2 fi se : Int} (H : Base w b) (ha : σ a = some (LI [t0, t1, t2])) (h0 : 0 ≤ t0 ∧ t0 < b) (h1 : 0 ≤ t1 ∧ t1 < b) (h2 : 0 ≤ t2 ∧ t2 < b)
    (hf : 0 < fi ∧ fi < b) (hs : 0 ≤ se ∧ se < b) (hlt : (t2 * b + t1) * b + t0 < (fi * b + se) * b) :
    FN G 1 (G.fa "guessed_limb") [.ref a, .int fi, .int se, .int w] σ fun u σ' => Le σ σ' ∧ u = .int (((t2 * b + t1) * b + t0) / (fi * b + se)) := by
  have hb := H.two
  have hb' := H.top
  have hw := H.hw'
  have hbw := H.hbw
  have hDp : 0 < fi * b + se := by have := Int.mul_pos hf.1 (show (0 : Int) < b by walk_at "o"); omega
  have n2 : 0 ≤ t2 * b := Int.mul_nonneg h2.1 (by walk_at "o")
  have m2 : t2 * b ≤ 256 * 256 := Int.mul_le_mul (by walk_at "o") (by walk_at "o") (by walk_at "o") (by walk_at "o")
  have hT0 : 0 ≤ (t2 * b + t1) * b + t0 := by have := Int.mul_nonneg (show 0 ≤ t2 * b + t1 by walk_at "o") (show (0 : Int) ≤ b by walk_at "o"); omega
  have hT1 : (t2 * b + t1) * b ≤ 70000 * 256 := Int.mul_le_mul (by walk_at "o") (by walk_at "o") (by walk_at "o") (by walk_at "o")
  have hstart := guess_start (B := b) (by walk_at "o") rfl rfl hf.1 hs.1 hT0 h0.2 hlt
  refine FN_of ["top", "first", "second", "w"] 17 D17 (by decide) ?_ (by decide +kernel) (by rfl) (by rfl) (by rfl) (by decide +kernel) ?_
  · intro vs hvs pm cd doc
    obtain ⟨v, v', v'', v''', rfl, hv⟩ := are4 hvs
    rfl
  intro A L f cd hh room units hL
  refine XS_cons ?_
  refine X_swap2 (by rfl) (by rfl) ?_
  refine EV_tup ?_
  refine EVs_cons ?_
  refine EV_bin ?_
  refine EV_bin ?_
  refine EV_at ?_
  repeat walk_at "m"
  refine ⟨_, _, _, t2, rfl, rfl, ha, by walk_at "o", by walk_at "o", rfl, ?_⟩
  repeat walk_at "m"
  refine BOP_shlS (by walk_at "o") (by walk_at "o") (by walk_at "o") ?_
  refine EV_at ?_
  repeat walk_at "m"
  refine ⟨_, _, _, t1, rfl, rfl, ha, by walk_at "o", by walk_at "o", rfl, ?_⟩
  refine BOP_orS (k := w) h2.1 (Int.mul_comm _ _) h1.1 (by walk_at "o") ?_
  rw [← hbw]
  repeat walk_at "m"
  refine BOP_shlS (by walk_at "o") (by walk_at "o") (by walk_at "o") ?_
  rw [← hbw, Int.one_mul]
  repeat walk_at "m"
  refine ⟨by simp, fun t ht => ⟨_, _, _, rfl, upd_self _ _ _, ?_⟩⟩
  refine XS_forget (Le.fresh (Le.refl _) _ ht) (μ' := [("high", .int (t2 * b + t1)), ("base", .int b), ("top", .ref a), ("first", .int fi), ("second", .int se), ("w", .int w)]) ⟨rfl, rfl, rfl, rfl, rfl, rfl, trivial⟩ ?_
  refine XS_cons ?_
  repeat walk_at "m"
  refine EV_min (by rfl) ?_
  repeat walk_at "m"
  refine BOP_div (by walk_at "o") (by walk_at "o") ?_
  repeat walk_at "m"
  refine ⟨_, _, rfl, rfl, ?_⟩
  have hdiv : 0 ≤ (t2 * b + t1) / fi := Int.ediv_nonneg (by walk_at "o") (by walk_at "o")
  generalize hg : min ((t2 * (b : Int) + t1) / fi) ((b : Int) - 1) = g at hstart
  have g0 : 0 ≤ g := by walk_at "o"
  have g1 : g ≤ b - 1 := by walk_at "o"
  repeat walk_at "m"
  refine BOP_mulS (by walk_at "o") (by walk_at "o") ?_
  refine BOP_sub ?_
  have hq0 : 0 ≤ ((t2 * b + t1) * b + t0) / (fi * b + se) := Int.ediv_nonneg hT0 (by walk_at "o")
  have hfi : g * fi ≤ t2 * b + t1 := by
    have h1 : g * fi ≤ (t2 * b + t1) / fi * fi := Int.mul_le_mul_of_nonneg_right (by walk_at "o") (by walk_at "o")
    have := Int.ediv_mul_le (t2 * b + t1) (show fi ≠ 0 by walk_at "o")
    omega
  refine XS_forget (Le.refl _) (μ' := [("rest", .int (t2 * b + t1 - g * fi)), ("limb", .int g), ("base", .int b), ("top", .ref a), ("first", .int fi), ("second", .int se), ("w", .int w)]) ⟨rfl, rfl, rfl, rfl, rfl, rfl, rfl, trivial⟩ ?_
  refine XS_cons ?_
  refine X_whileL (fun k μ σ' => σ' = σ ∧ ∃ g r : Int, μ = ([("rest", .int r), ("limb", .int g), ("base", .int b), ("top", .ref a), ("first", .int fi), ("second", .int se), ("w", .int w)] : Mu) ∧ (k : Int) = g ∧ g ≤ b - 1 ∧ r = t2 * b + t1 - g * fi ∧ ((t2 * b + t1) * b + t0) / (fi * b + se) ≤ g ∧ 0 ≤ r) g.toNat ?_ ?_
  · exact ⟨rfl, g, _, rfl, by walk_at "o", g1, rfl, hstart, by walk_at "o"⟩
  clear hfi g0 g1 hstart hg g
  rintro k μ σ' ⟨rfl, g, r, rfl, hk, g1, hr, hle, r0⟩
  have gfi : 0 ≤ g * se := Int.mul_nonneg (by walk_at "o") hs.1
  refine ET.eq (decide (r < b ∧ r * b + t0 < g * se)) ?_ ?_
  · repeat walk_at "m"
    split
    · next h =>
      simp only [decide_eq_true_eq] at h
      repeat walk_at "m"
      refine BOP_mulS (by walk_at "o") (by walk_at "o") ?_
      repeat walk_at "m"
      refine BOP_shlS (by walk_at "o") (by walk_at "o") (by walk_at "o") ?_
      refine EV_at ?_
      repeat walk_at "m"
      refine ⟨_, _, _, t0, rfl, rfl, ha, by walk_at "o", by walk_at "o", rfl, ?_⟩
      refine BOP_orS (k := w) r0 (Int.mul_comm _ _) h0.1 (by walk_at "o") ?_
      rw [← hbw]
      repeat walk_at "m"
      refine ⟨rfl, ?_⟩
      simp [h]
    · next h =>
      simp only [decide_eq_true_eq] at h
      refine ⟨rfl, ?_⟩
      simp [h]
  split
  · next h =>
    simp only [decide_eq_true_eq] at h
    have hturn := guess_turn (B := b) (T := (t2 * b + t1) * b + t0) rfl rfl hDp hr h.2
    repeat walk_at "m"
    refine ⟨[("rest", .int (r + fi)), ("limb", .int (g - 1)), ("base", .int b), ("top", .ref a), ("first", .int fi), ("second", .int se), ("w", .int w)], _, ⟨rfl, rfl, rfl, rfl, rfl, rfl, rfl, trivial⟩, Le.refl _, (g - 1).toNat, by walk_at "o", rfl, g - 1, r + fi, rfl, by walk_at "o", by walk_at "o", ?_, hturn, by walk_at "o"⟩
    rw [hr, Int.sub_mul]
    omega
  · next h =>
    simp only [decide_eq_true_eq] at h
    have hend := guess_end (B := b) (by walk_at "o") rfl rfl hDp hr h0.1 g1 hs.1 hs.2 hle h
    refine XS_cons ?_
    repeat walk_at "m"
    exact ⟨_, Le.refl _, Le.refl _, by rw [hend]⟩

theorem fn_take_away {p q : Addr} {w b : Nat} {t0 t1 t2 d0 d1 g : Int} {pre suf : List Int} (H : Base w b) (hp : σ p = some (LI (pre ++ ([t0, t1, t2] ++ suf)))) (hq : σ q = some (LI [d0, d1])) (hpq : p ≠ q)
    (hlen : pre.length + 3 + suf.length ≤ 1000) (ht : Dig b [t0, t1, t2]) (hd : Dig b [d0, d1]) (hD : 0 < val b [d0, d1]) (hg : g = val b [t0, t1, t2] / val b [d0, d1]) (hg1 : g < b) :
    FN G 1 (G.fa "take_away") [.ref p, .ref q, .int g, .int pre.length, .int w] σ fun u σ' => u = .int 0 ∧ ∃ z0 z1, Dig b [z0, z1] ∧ val b [z0, z1] = val b [t0, t1, t2] % val b [d0, d1] ∧ Le (upd σ p (LI (pre ++ ([z0, z1, 0] ++ suf)))) σ' := by
  have hb := H.two
  have hb' := H.top
  have hw := H.hw'
  have hbw := H.hbw
  have hT0 := val_nonneg (b := b) (by walk_at "o") ht
  have hg0 : 0 ≤ g := by rw [hg]; exact Int.ediv_nonneg hT0 (by walk_at "o")
  refine FN_of ["rest", "b", "limb", "at", "w"] 18 D18 (by decide) ?_ (by decide +kernel) (by rfl) (by rfl) (by rfl) (by decide +kernel) ?_
  · intro vs hvs pm cd doc
    obtain ⟨v, v', v'', v3, v4, rfl, hv⟩ := are5 hvs
    rfl
  intro A L f cd hh room units hL
  refine XS_cons ?_
  refine X_swap2 (by rfl) (by rfl) ?_
  repeat walk_at "m"
  refine BOP_shlS (by walk_at "o") (by walk_at "o") (by walk_at "o") ?_
  rw [← hbw, Int.one_mul]
  repeat walk_at "m"
  refine ⟨by simp, fun t ht => ⟨_, _, _, rfl, upd_self _ _ _, ?_⟩⟩
  refine XS_forget (Le.fresh (Le.refl _) _ ht) (μ' := [("carry", .int 0), ("base", .int b), ("rest", .ref p), ("b", .ref q), ("limb", .int g), ("at", .int pre.length)]) ⟨rfl, rfl, rfl, rfl, rfl, rfl, trivial⟩ ?_
  clear ht t
  refine XS_cons ?_
  refine X_forEnum (by rfl) (by rfl) (by rfl) ?_
  repeat walk_at "m"
  refine ⟨q, _, nums [d0, d1], fun i μ σ'' => ∃ ms c, σ'' = upd σ p (LI (pre ++ (ms ++ suf))) ∧ μ = ([("carry", .int c), ("base", .int b), ("rest", .ref p), ("b", .ref q), ("limb", .int g), ("at", .int pre.length)] : Mu) ∧
    ms.length = 3 ∧ Dig b ms ∧ 0 ≤ c ∧ ms.drop i = [t0, t1, t2].drop i ∧ val b ms = val b [t0, t1, t2] - g * val b ([d0, d1].take i) + (b : Int) ^ i * c, rfl, hq, ?_, ?_, ?_, ?_⟩
  · exact ⟨[("carry", .int 0), ("base", .int b), ("rest", .ref p), ("b", .ref q), ("limb", .int g), ("at", .int pre.length)], _, ⟨rfl, rfl, rfl, rfl, rfl, rfl, trivial⟩, Le.of (Le.refl _) hp, [t0, t1, t2], 0, rfl, rfl, rfl, ht, by walk_at "o", rfl, by simp [val]⟩
  · rintro i μ σ'' ⟨ms, c, rfl, rfl, _⟩
    exact ⟨true, by rw [upd_ne hpq.symm]; exact hq⟩
  · rintro i μ σ'' u hu ⟨ms, c, rfl, rfl, hm, hdm, c0, hdr, hval⟩
    obtain ⟨y, hy, rfl⟩ := nums_get' hu
    have gy := hd.get hy
    have hi : i < 2 := (List.getElem?_eq_some_iff.mp hy).1
    have him : i < ms.length := by walk_at "o"
    have gt := hdm.get (List.getElem?_eq_getElem him)
    have ek : ((pre.length : Int) + (i : Int)).toNat = pre.length + i := by walk_at "o"
    have hget : (pre ++ (ms ++ suf))[pre.length + i]? = some ms[i] := by rw [mid_get him]; exact List.getElem?_eq_getElem him
    have hp0 : 0 ≤ g * y + c := by have := Int.mul_nonneg hg0 gy.1; omega
    have hstep := take_step (B := b) (by walk_at "o") gt.1 gt.2 hp0
    refine XS.via fun N' R' hN' hR' => ?_
    refine XS_cons ?_
    repeat walk_at "m"
    refine EV_at ?_
    repeat walk_at "m"
    refine ⟨_, _, _, ms[i], rfl, rfl, upd_self _ _ _, by walk_at "o", by walk_at "o", by rw [ek]; exact hget, ?_⟩
    repeat walk_at "m"
    refine BOP_mulS (by walk_at "o") (by walk_at "o") ?_
    repeat walk_at "m"
    refine BOP_emod (by walk_at "o") ?_
    repeat walk_at "m"
    refine BOP_mulS (by walk_at "o") (by walk_at "o") ?_
    repeat walk_at "m"
    refine BOP_div (by walk_at "o") (by walk_at "o") ?_
    refine EV.eq (.int (if ms[i] - (g * y + c) % b < 0 then 1 else 0)) ?_ ?_
    · refine EV_ife ?_
      repeat walk_at "m"
      split
      · next h =>
        simp only [decide_eq_true_eq] at h
        repeat walk_at "m"
        exact ⟨rfl, by rw [if_pos h]⟩
      · next h =>
        simp only [decide_eq_true_eq] at h
        repeat walk_at "m"
        exact ⟨rfl, by rw [if_neg h]⟩
    repeat walk_at "m"
    refine X_setI ?_
    refine EV.eq (.int (if ms[i] - (g * y + c) % b < 0 then ms[i] - (g * y + c) % b + b else ms[i] - (g * y + c) % b)) ?_ ?_
    · refine EV_ife ?_
      repeat walk_at "m"
      split
      · next h =>
        simp only [decide_eq_true_eq] at h
        repeat walk_at "m"
        exact ⟨rfl, by rw [if_pos h]⟩
      · next h =>
        simp only [decide_eq_true_eq] at h
        repeat walk_at "m"
        exact ⟨rfl, by rw [if_neg h]⟩
    repeat walk_at "m"
    refine ⟨_, _, _, _, rfl, rfl, rfl, upd_self _ _ _, by walk_at "o", ?_, ?_, ?_⟩
    · simp only [List.length_append]; omega
    · simp only [List.length_append]; omega
    rw [ek, upd_upd, mid_set him]
    repeat walk_at "m"
    refine hN' _ _ ⟨[("carry", .int ((g * y + c) / b + (if ms[i] - (g * y + c) % b < 0 then 1 else 0))), ("base", .int b), ("rest", .ref p), ("b", .ref q), ("limb", .int g), ("at", .int pre.length)], _, ⟨rfl, rfl, rfl, rfl, rfl, rfl, trivial⟩, Le.refl _, _, _, rfl, rfl, by simp [hm], hdm.set _ hstep.1.1 hstep.1.2, hstep.2.2, ?_, ?_⟩
    · rw [set_drop (by walk_at "o"), ← List.drop_drop, hdr, List.drop_drop]
    · exact take_turn (List.getElem?_eq_getElem him) hy hstep.2.1 hval
  rintro μ σ'' ⟨ms, c, rfl, rfl, hm, hdm, c0, hdr, hval⟩
  obtain ⟨z0, z1, z2, rfl⟩ := three hm
  simp only [nums_length, List.length_cons, List.length_nil, List.drop_succ_cons, List.drop_zero, List.cons.injEq, and_true, List.take_succ_cons, List.take_zero] at hdr hval
  subst hdr
  have gz0 := hdm.get (k := 0) rfl
  have gz1 := hdm.get (k := 1) rfl
  have hD2 : val b [d0, d1] < (b : Int) * b := by
    have := val_lt (b := b) (by walk_at "o") hd
    simpa [Int.pow_succ] using this
  have hend := take_end (B := b) (by walk_at "o") gz0.1 gz0.2 gz1.1 gz1.2 hD hD2 (by rw [← hg]; exact hval)
  have hget : (pre ++ ([z0, z1, z2] ++ suf))[pre.length + 2]? = some z2 := by rw [mid_get (by simp)]; rfl
  refine XS_cons ?_
  repeat walk_at "m"
  refine EV_at ?_
  repeat walk_at "m"
  refine ⟨_, _, rfl, by rw [upd_ne hpq.symm]; exact hq, by simp, ?_⟩
  repeat walk_at "m"
  refine ⟨_, _, _, z2, rfl, rfl, upd_self _ _ _, ?_, ?_, ?_, ?_⟩
  · simp only [List.length_cons, List.length_nil]; omega
  · simp only [List.length_cons, List.length_nil]; omega
  · rw [show ((pre.length : Int) + (([d0, d1] : List Int).length : Int)).toNat = pre.length + 2 from by simp only [List.length_cons, List.length_nil]; omega]
    exact hget
  repeat walk_at "m"
  rw [hend.1]
  repeat walk_at "m"
  refine X_setI ?_
  refine EV.eq (.int 0) ?_ ?_
  · refine EV_ife ?_
    repeat walk_at "m"
    simp only [Int.lt_irrefl, decide_false, Bool.false_eq_true, if_false]
    repeat walk_at "m"
    exact ⟨rfl, rfl⟩
  repeat walk_at "m"
  refine ⟨_, _, rfl, by rw [upd_ne hpq.symm]; exact hq, by simp, ?_⟩
  repeat walk_at "m"
  refine ⟨_, _, _, _, rfl, rfl, rfl, upd_self _ _ _, ?_, ?_, ?_, ?_⟩
  · simp only [List.length_cons, List.length_nil]; omega
  · simp only [List.length_cons, List.length_nil, List.length_append]; omega
  · simp only [List.length_cons, List.length_nil, List.length_append]; omega
  rw [show ((pre.length : Int) + (([d0, d1] : List Int).length : Int)).toNat = pre.length + 2 from by simp only [List.length_cons, List.length_nil]; omega, upd_upd, mid_set (by simp)]
  repeat walk_at "m"
  refine EV_ife ?_
  repeat walk_at "m"
  simp only [Int.lt_irrefl, decide_false, Bool.false_eq_true, if_false]
  repeat walk_at "m"
  refine ⟨_, Le.refl _, rfl, z0, z1, Dig.cons gz0.1 gz0.2 (Dig.cons gz1.1 gz1.2 Dig.nil), ?_, Le.refl _⟩
  simpa [val] using hend.2
end
section
variable {G : GC} {σ : AH}
theorem fn_divide_rows {p q : Addr} {w b N : Nat} {R0 : List Int} {d0 d1 : Int} (H : Base w b) (hp : σ p = some (LI R0)) (hq : σ q = some (LI [d0, d1])) (hpq : p ≠ q)
    (hlen : R0.length = N + 2) (hN : N ≤ 100) (hR : Dig b R0) (hd : Dig b [d0, d1]) (hd1 : 0 < d1) (htop : val b (R0.drop N) < val b [d0, d1]) :
    FN G 2 (G.fa "divide_rows") [.ref p, .ref q, .int w] σ fun u σ' => ∃ r zs rs, u = .ref r ∧ σ' r = some (LI zs) ∧ Dig b zs ∧ zs.length = N ∧ Dig b rs ∧ rs.length = N + 2 ∧ val b R0 = val b [d0, d1] * val b zs + val b rs ∧ val b rs < val b [d0, d1] ∧ Le (upd σ p (LI rs)) σ' := by
  have hb := H.two
  have hb' := H.top
  have hw := H.hw'
  have hbw := H.hbw
  have gd0 := hd.get (k := 0) rfl
  have gd1 := hd.get (k := 1) rfl
  have eD : val b [d0, d1] = d1 * b + d0 := by simp only [val]; grind
  have hD0 : 0 < val b [d0, d1] := by rw [eD]; have := Int.mul_pos hd1 (show (0 : Int) < b by walk_at "o"); omega
  refine FN_of ["rest", "b", "w"] 20 D20 (by decide) ?_ (by decide +kernel) (by rfl) (by rfl) (by rfl) (by decide +kernel) ?_
  · intro vs hvs pm cd doc
    obtain ⟨v, v', v'', rfl, hv⟩ := are3 hvs
    rfl
  intro A L f cd hh room units hL
  refine XS_cons ?_
  repeat walk_at "m"
  refine ⟨_, _, rfl, hq, by simp, ?_⟩
  repeat walk_at "m"
  refine ⟨by simp, fun r0 hr0 => ?_⟩
  have hp1 : upd σ r0 (LI [0]) p = some (LI R0) := by rw [upd_ne (ne_of_none hp hr0)]; exact hp
  repeat walk_at "m"
  refine ⟨_, _, rfl, hp1, by walk_at "o", ?_⟩
  repeat walk_at "m"
  refine BOP_repI (x := 0) (by exact upd_self _ _ _) (by simp only [List.length_cons, List.length_nil]; omega) (by simp only [List.length_cons, List.length_nil]; omega) fun r hr => ?_
  rw [show ((R0.length : Int) - (([d0, d1] : List Int).length : Int)).toNat = N from by simp only [List.length_cons, List.length_nil]; omega]
  have hpr : p ≠ r := ne_of_none hp1 hr
  have hqr : q ≠ r := ne_of_none (show upd σ r0 (LI [0]) q = some (LI [d0, d1]) by rw [upd_ne (ne_of_none hq hr0)]; exact hq) hr
  have hr1 : σ r = none := by
    have hne : r ≠ r0 := by rintro rfl; rw [upd_self] at hr; cases hr
    rw [upd_ne hne] at hr; exact hr
  refine XS_forget (σ' := upd σ r (LI (List.replicate N 0))) ((Le.fresh (Le.refl _) _ hr0).upd _ _) (μ' := [("quotient", .ref r), ("size", .int 2), ("rest", .ref p), ("b", .ref q), ("w", .int w)]) ⟨rfl, rfl, rfl, rfl, rfl, trivial⟩ ?_
  refine XS_cons ?_
  refine X_forRange (by rfl) (by rfl) ?_
  repeat walk_at "m"
  refine ⟨_, _, rfl, by rw [upd_ne hpr]; exact hp, by walk_at "o", ?_⟩
  repeat walk_at "m"
  refine ⟨_, rfl, ?_⟩
  repeat walk_at "m"
  refine ⟨_, rfl, ?_⟩
  repeat walk_at "m"
  refine ⟨_, _, _, N, fun i μ σ'' => ∃ qs x0 x1, σ'' = upd (upd σ p (LI (R0.take (N - i) ++ ([x0, x1] ++ List.replicate i 0)))) r (LI qs) ∧ μ = ([("quotient", .ref r), ("size", .int 2), ("rest", .ref p), ("b", .ref q), ("w", .int w)] : Mu) ∧
    qs.length = N ∧ Dig b qs ∧ Dig b [x0, x1] ∧ val b [x0, x1] < val b [d0, d1] ∧ val b (R0.drop (N - i)) = val b [d0, d1] * val b (qs.drop (N - i)) + val b [x0, x1], RangeArgs.down _ _, by walk_at "o", ?_, ?_, ?_, ?_⟩
  · rw [show (R0.length : Int) - 2 - 1 = (N : Int) - 1 from by walk_at "o", range_down]
    omega
  · obtain ⟨x0, x1, ex⟩ := two_of (ms := R0.drop N) (by rw [List.length_drop]; omega)
    refine ⟨[("quotient", .ref r), ("size", .int 2), ("rest", .ref p), ("b", .ref q), ("w", .int w)], _, ⟨rfl, rfl, rfl, rfl, rfl, trivial⟩, Le.refl _, List.replicate N 0, x0, x1, ?_, rfl, by simp, Dig.replicate (by walk_at "o") _, by rw [← ex]; exact hR.drop N, by rw [← ex]; exact htop, ?_⟩
    · congr 1
      funext x
      by_cases hx : x = p
      · subst hx; rw [upd_self, Nat.sub_zero, List.replicate_zero, List.append_nil, ← ex, List.take_append_drop]; exact hp
      · rw [upd_ne hx]
    · rw [Nat.sub_zero, ex, List.drop_of_length_le (by simp)]; simp [val]
  · rintro i μ σ'' hi ⟨qs, x0, x1, rfl, rfl, hqs, hdq, hdx, hlt, hval⟩
    have hk : N - 1 - i < R0.length := by walk_at "o"
    have hs1 : N - i = N - 1 - i + 1 := by walk_at "o"
    have hs2 : N - (i + 1) = N - 1 - i := by walk_at "o"
    have eat : ((R0.length : Int) - 2 - 1 + i * -1).toNat = N - 1 - i := by walk_at "o"
    have eat' : (R0.length : Int) - 2 - 1 + i * -1 = ((N - 1 - i : Nat) : Int) := by walk_at "o"
    have gx := hR.get (List.getElem?_eq_getElem hk)
    have gx0 := hdx.get (k := 0) rfl
    have gx1 := hdx.get (k := 1) rfl
    have etk : R0.take (N - i) ++ ([x0, x1] ++ List.replicate i 0) = R0.take (N - 1 - i) ++ ([R0[N - 1 - i], x0, x1] ++ List.replicate i 0) := by
      rw [hs1, List.take_add_one, List.getElem?_eq_getElem hk, Option.toList_some, List.append_assoc]; rfl
    rw [etk]
    have hpl : (R0.take (N - 1 - i)).length = N - 1 - i := by rw [List.length_take]; omega
    have hdT : Dig b [R0[N - 1 - i], x0, x1] := Dig.cons gx.1 gx.2 hdx
    generalize hpre : R0.take (N - 1 - i) = pre at hpl ⊢
    generalize hx : R0[N - 1 - i] = x at *
    have hv : val b (R0.drop (N - 1 - i)) = x + b * val b (R0.drop (N - i)) := by
      rw [val_drop b (List.getElem?_eq_getElem hk), hx, ← hs1]
    have eT : val b [x, x0, x1] = (x1 * b + x0) * b + x := by simp only [val]; grind
    have eT' : val b [x, x0, x1] = val b [x0, x1] * b + x := by simp only [val]; grind
    have hTlt : val b [x, x0, x1] < val b [d0, d1] * b := by
      rw [eT']
      have : (val b [x0, x1] + 1) * b ≤ val b [d0, d1] * b := Int.mul_le_mul_of_nonneg_right (by walk_at "o") (by walk_at "o")
      rw [Int.add_mul, Int.one_mul] at this
      omega
    have hT0 := val_nonneg (b := b) (by walk_at "o") hdT
    have hq0 : 0 ≤ val b [x, x0, x1] / val b [d0, d1] := Int.ediv_nonneg hT0 (by walk_at "o")
    have hq1 : val b [x, x0, x1] / val b [d0, d1] < b := Int.ediv_lt_of_lt_mul hD0 (by rw [Int.mul_comm]; exact hTlt)
    generalize hσ : upd (upd σ p (LI (pre ++ ([x, x0, x1] ++ List.replicate i 0)))) r (LI qs) = σ₀
    have sp : σ₀ p = some (LI (pre ++ ([x, x0, x1] ++ List.replicate i 0))) := by rw [← hσ, upd_ne hpr, upd_self]
    have sr : σ₀ r = some (LI qs) := by rw [← hσ, upd_self]
    have sq : σ₀ q = some (LI [d0, d1]) := by rw [← hσ, upd_ne hqr, upd_ne hpq.symm]; exact hq
    refine XS.via fun N' R' hN' hR' => ?_
    refine XS_cons ?_
    repeat walk_at "m"
    refine EV_calln (by decide +kernel) (by rfl) ?_
    refine EVs_cons ?_
    refine EV_sliceI ?_
    repeat walk_at "m"
    rw [eat']
    refine ⟨_, rfl, ?_⟩
    repeat walk_at "m"
    refine ⟨_, rfl, ?_⟩
    refine ⟨p, _, rfl, sp, by simp; omega, fun t ht => ?_⟩
    rw [show ((N - 1 - i : Nat) : Int) + 2 - 2 = ((N - 1 - i : Nat) : Int) by walk_at "o", show ((N - 1 - i : Nat) : Int) + 2 + 1 = ((N - 1 - i + 3 : Nat) : Int) by walk_at "o"]
    rw [pickedI_run _ (by walk_at "o") (by walk_at "o") (by simp; omega), Int.toNat_natCast, Int.toNat_natCast, ← hpl, List.drop_left, show pre.length + 3 - pre.length = 3 by walk_at "o"]
    rw [show List.take 3 ([x, x0, x1] ++ List.replicate i 0) = [x, x0, x1] from rfl]
    have sp1 : upd σ₀ t (LI [x, x0, x1]) p = some (LI (pre ++ ([x, x0, x1] ++ List.replicate i 0))) := by rw [upd_ne (ne_of_none sp ht)]; exact sp
    have sq1 : upd σ₀ t (LI [x, x0, x1]) q = some (LI [d0, d1]) := by rw [upd_ne (ne_of_none sq ht)]; exact sq
    repeat walk_at "m"
    refine EV_at ?_
    repeat walk_at "m"
    refine ⟨_, _, _, d1, rfl, rfl, sq1, by walk_at "o", by walk_at "o", rfl, ?_⟩
    refine EVs_cons ?_
    refine EV_at ?_
    repeat walk_at "m"
    refine ⟨_, _, _, d0, rfl, rfl, sq1, by walk_at "o", by walk_at "o", rfl, ?_⟩
    repeat walk_at "m"
    refine (fn_guessed H (upd_self _ _ _) gx gx0 gx1 ⟨hd1, gd1.2⟩ gd0 (by rw [← eT, ← eD]; exact hTlt)).use (Nat.le_of_ble_eq_true rfl) ?_
    rintro _ σ₁ ⟨hle, rfl⟩
    rw [← eT, ← eD]
    have hle1 : Le σ₀ σ₁ := (Le.fresh (Le.refl _) _ ht).trans hle
    refine XS_forget hle1 (μ' := [("limb", .int (val b [x, x0, x1] / val b [d0, d1])), ("at", .int pre.length), ("quotient", .ref r), ("size", .int 2), ("rest", .ref p), ("b", .ref q), ("w", .int w)]) ⟨rfl, rfl, rfl, rfl, rfl, rfl, rfl, trivial⟩ ?_
    refine XS_cons ?_
    repeat walk_at "m"
    refine EV_calln (by decide +kernel) (by rfl) ?_
    repeat walk_at "m"
    refine (fn_take_away H sp sq hpq (by simp; omega) hdT hd hD0 rfl hq1).use (Nat.le_of_ble_eq_true rfl) ?_
    rintro _ σ₂ ⟨rfl, z0, z1, hdz, hz, hle2⟩
    repeat walk_at "m"
    rw [if_neg (by decide)]
    repeat walk_at "m"
    refine X_setI ?_
    repeat walk_at "m"
    have sr2 : σ₂ r = some (LI qs) := hle2 _ _ (by rw [upd_ne hpr.symm]; exact sr)
    refine ⟨_, _, _, _, rfl, rfl, rfl, sr2, by walk_at "o", by walk_at "o", by walk_at "o", ?_⟩
    repeat walk_at "m"
    refine hN' _ _ ⟨[("quotient", .ref r), ("size", .int 2), ("rest", .ref p), ("b", .ref q), ("w", .int w)], upd (upd σ₀ p (LI (pre ++ ([z0, z1, 0] ++ List.replicate i 0)))) r (LI (qs.set pre.length (val b [x, x0, x1] / val b [d0, d1]))), ⟨rfl, rfl, rfl, rfl, rfl, trivial⟩, hle2.upd _ _, qs.set pre.length (val b [x, x0, x1] / val b [d0, d1]), z0, z1, ?_, rfl, by simp [hqs], hdq.set _ hq0 hq1, hdz, ?_, ?_⟩
    · rw [← hσ, hs2, hpre]
      funext x
      by_cases hx : x = r
      · subst hx; rw [upd_self, upd_self]
      · rw [upd_ne hx, upd_ne hx]
        by_cases hx' : x = p
        · subst hx'; rw [upd_self, upd_self]; rfl
        · rw [upd_ne hx', upd_ne hx', upd_ne hx, upd_ne hx']
    · rw [hz]; exact Int.emod_lt_of_pos _ hD0
    · rw [hs2, hv, hz, hpl, drop_set_eq (by walk_at "o"), val, eT']
      rw [hs1] at hval
      rw [hs1]
      exact div_turn hD0 hval rfl
  rintro μ σ'' ⟨qs, x0, x1, rfl, rfl, hqs, hdq, hdx, hlt, hval⟩
  refine XS_cons ?_
  repeat walk_at "m"
  rw [Nat.sub_self, List.drop_zero, List.drop_zero] at hval
  refine ⟨_, Le.refl _, r, qs, _, rfl, upd_self _ _ _, hdq, hqs, ?_, ?_, ?_, ?_, (Le.refl _).more (r := r) ?_⟩
  · exact (hR.take _).append (hdx.append (Dig.replicate (by walk_at "o") _))
  · simp
  · rw [Nat.sub_self, List.take_zero, List.nil_append, val_pad]; exact hval
  · rw [Nat.sub_self, List.take_zero, List.nil_append, val_pad]; exact hlt
  · rw [upd_ne hpr.symm]; exact hr1
end
/-- the bits of a small number -/
def kb (u : Nat) : Nat := if u < 2 then 1 else if u < 4 then 2 else 3
theorem kb_eq : ∀ u : Fin 8, 0 < u.val → (Builtin.Int.intBits (u.val : Int) : Int) = kb u.val := by decide +kernel
theorem kb_lt : ∀ u : Fin 8, 0 < u.val → u.val < 2 ^ kb u.val := by decide +kernel
theorem kb_pos (u : Nat) : 1 ≤ kb u ∧ kb u ≤ 3 := by unfold kb; split; omega; split <;> omega
theorem cmpI_neg {n m : Nat} : cmpI n m < 0 ↔ n < m := by
  unfold cmpI
  split
  · next h => exact ⟨fun _ => h, fun _ => by walk_at "o"⟩
  · next h => refine ⟨fun q => ?_, fun q => absurd q h⟩; split at q <;> omega
section
variable {G : GC} {σ : AH}
theorem fn_divrem_school {a a' : Addr} {w b n m : Nat} (H : Base w b) (ha : σ a = some (LI (lb b n))) (ha' : σ a' = some (LI (lb b m))) (hn : n ≤ 1000) (hm0 : 0 < m) (hm : m < 64) :
    FN G 4 (G.fa "divrem_school") [.ref a, .ref a', .int w] σ fun u σ' => Le σ σ' ∧ ∃ t r s, u = .ref t ∧ σ' t = some (.tup [.ref r, .ref s]) ∧ σ' r = some (LI (lb b (n / m))) ∧ σ' s = some (LI (lb b (n % m))) := by
  have hb := H.two
  have hb8 := H.eight
  have hb' := H.top
  have hw := H.hw'
  have hw3 := H.hw
  refine FN_of ["a", "b", "w"] 21 D21 (by decide) ?_ (by decide +kernel) (by rfl) (by rfl) (by rfl) (by decide +kernel) ?_
  · intro vs hvs pm cd doc
    obtain ⟨v, v', v'', rfl, hv⟩ := are3 hvs
    rfl
  intro A L f cd hh room units hL
  have l1 := lb_short hb8 hn
  have l2 := lb_short (n := m) hb8 (by walk_at "o")
  have hne : (lb b m).length ≠ 0 := fun h => by
    have := (lb_nil hb).mp (List.length_eq_zero_iff.mp h)
    omega
  refine XS_cons ?_
  repeat walk_at "m"
  refine ⟨_, _, rfl, ha', by walk_at "o", ?_⟩
  repeat walk_at "m"
  split
  · next h =>
    simp only [beq_iff_eq] at h
    omega
  repeat walk_at "m"
  refine EV_calln (by decide +kernel) (by rfl) ?_
  repeat walk_at "m"
  refine (fn_compare hb ha ha' (by walk_at "o") (by walk_at "o")).use (Nat.le_of_ble_eq_true rfl) ?_
  rintro _ σ₁ ⟨hle, rfl⟩
  have ha := hle _ _ ha
  have ha' := hle _ _ ha'
  repeat walk_at "m"
  split
  · next h =>
    have hlt : n < m := cmpI_neg.mp (of_decide_eq_true h)
    refine XS_cons ?_
    refine X_retL ?_
    refine EV_tup ?_
    refine EVs_cons ?_
    refine EV_nilI fun r hr => ?_
    refine EVs_cons ?_
    refine EV_sliceI ?_
    repeat walk_at "m"
    refine ⟨a, _, rfl, by rw [upd_ne (ne_of_none ha hr)]; exact ha, by walk_at "o", fun s hs => ?_⟩
    rw [pickedI_all]
    repeat walk_at "m"
    refine ⟨by simp, fun t ht => ?_⟩
    have hrs : r ≠ s := by rintro rfl; rw [upd_self] at hs; cases hs
    refine ⟨_, Le.refl _, ((hle.more hr).more hs).more ht, t, r, s, rfl, upd_self _ _ _, ?_, ?_⟩
    · rw [upd_ne (ne_of_none (show upd (upd σ₁ r (LI [])) s (LI (lb b n)) r = some (LI []) by rw [upd_ne hrs, upd_self]) ht), upd_ne hrs, upd_self, Nat.div_eq_of_lt hlt, lb_zero]
    · rw [upd_ne (ne_of_none (upd_self _ _ _) ht), upd_self, Nat.mod_eq_of_lt hlt]
  next h =>
  have hge : m ≤ n := by
    by_cases q : n < m
    · exact absurd (decide_eq_true (cmpI_neg.mpr q)) h
    · omega
  repeat walk_at "m"
  refine ⟨_, _, rfl, ha', by walk_at "o", ?_⟩
  repeat walk_at "m"
  split
  · next h =>
    simp only [beq_iff_eq] at h
    have hmb : m < b := by
      by_cases q : m < b
      · exact q
      · rw [two_limbs hb (by walk_at "o") (by have := Nat.mul_le_mul hb8 hb8; omega)] at h
        simp at h
    refine XS_cons ?_
    refine X_retL ?_
    refine EV_calln (by decide +kernel) (by rfl) ?_
    repeat walk_at "m"
    refine (fn_divrem_small H ha ha' hn hm0 hmb).use (Nat.le_of_ble_eq_true rfl) ?_
    rintro u σ₂ ⟨hle2, hrest⟩
    exact ⟨_, Le.refl _, hle.trans hle2, hrest⟩
  next h =>
  simp only [beq_iff_eq] at h
  have hmb : b ≤ m := by
    by_cases q : m < b
    · rw [one_limb hb hm0 q] at h; simp at h
    · omega
  have hmbb : m < b * b := by have := Nat.mul_le_mul hb8 hb8; omega
  have e2 := two_limbs hb hmb hmbb
  have hu0 : 0 < m / b := Nat.div_pos hmb (by walk_at "o")
  have hu8 : m / b < 8 := Nat.div_lt_of_lt_mul (by have := Nat.mul_le_mul_right 8 hb8; omega)
  have hk := kb_pos (m / b)
  have hkl := kb_lt ⟨m / b, hu8⟩ hu0
  have hke := kb_eq ⟨m / b, hu8⟩ hu0
  simp only at hkl hke
  have hscale := scaled_lt (k := kb (m / b)) H.nat (by walk_at "o") hkl
  generalize hgk : kb (m / b) = k at hk hkl hke hscale
  repeat walk_at "m"
  refine EV_calln (by decide +kernel) (by rfl) ?_
  refine EVs_cons ?_
  refine EV_listI ?_
  refine EVs_cons ?_
  refine EV_last ?_
  repeat walk_at "m"
  refine ⟨_, rfl, _, _, ((m / b : Nat) : Int), rfl, rfl, ha', by rw [e2]; rfl, ?_⟩
  repeat walk_at "m"
  refine ⟨[((m / b : Nat) : Int)], rfl, by simp, fun r0 hr0 => ?_⟩
  repeat walk_at "m"
  refine (fn_bits1 (upd_self _ _ _)).use (Nat.le_of_ble_eq_true rfl) ?_
  rintro _ σ₂ ⟨rfl, rfl⟩
  rw [hke]
  refine BOP_sub ?_
  rw [show (w : Int) - (k : Int) = ((w - k : Nat) : Int) from by walk_at "o"]
  generalize hgs : w - k = s at hscale
  refine XS_forget (Le.fresh (Le.refl _) _ hr0) (μ' := [("shift", .int s), ("a", .ref a), ("b", .ref a'), ("w", .int w)]) ⟨rfl, rfl, rfl, rfl, trivial⟩ ?_
  refine XS_cons ?_
  repeat walk_at "m"
  refine EV_calln (by decide +kernel) (by rfl) ?_
  repeat walk_at "m"
  refine (fn_shift_left H ha' (by walk_at "o") (show s < w by walk_at "o")).use (Nat.le_of_ble_eq_true rfl) ?_
  rintro _ σ₃ ⟨hle3, q, rfl, hq0, hq⟩
  refine XS_cons ?_
  repeat walk_at "m"
  refine EV_calln (by decide +kernel) (by rfl) ?_
  repeat walk_at "m"
  refine (fn_shift_left H (hle3 _ _ ha) (by walk_at "o") (show s < w by walk_at "o")).use (Nat.le_of_ble_eq_true rfl) ?_
  rintro _ σ₄ ⟨hle4, p0, rfl, _, hp0⟩
  have ha4 := hle4 _ _ (hle3 _ _ ha)
  have hq4 := hle4 _ _ hq
  have hrl := rows_len (n := n) (s := s) hb H.nat (by walk_at "o")
  refine XS_cons ?_
  repeat walk_at "m"
  refine ⟨by simp, fun r1 hr1 => ?_⟩
  rw [show (AO.lst true [AV.int 0]) = LI [0] from rfl]
  have ha5 : upd σ₄ r1 (LI [0]) a = some (LI (lb b n)) := by rw [upd_ne (ne_of_none ha4 hr1)]; exact ha4
  have hp5 : upd σ₄ r1 (LI [0]) p0 = some (LI (lb b (n * 2 ^ s))) := by rw [upd_ne (ne_of_none hp0 hr1)]; exact hp0
  have hq5 : upd σ₄ r1 (LI [0]) q = some (LI (lb b (m * 2 ^ s))) := by rw [upd_ne (ne_of_none hq4 hr1)]; exact hq4
  repeat walk_at "m"
  refine ⟨_, _, rfl, ha5, by walk_at "o", ?_⟩
  repeat walk_at "m"
  refine ⟨_, _, rfl, hp5, by walk_at "o", ?_⟩
  repeat walk_at "m"
  refine BOP_repI (x := 0) (by exact upd_self _ _ _) (by walk_at "o") (by walk_at "o") fun r2 hr2 => ?_
  rw [show (((lb b n).length : Int) + 1 - ((lb b (n * 2 ^ s)).length : Int)).toNat = (lb b n).length + 1 - (lb b (n * 2 ^ s)).length from by walk_at "o"]
  have ha6 := (Le.fresh (Le.refl _) (LI (List.replicate ((lb b n).length + 1 - (lb b (n * 2 ^ s)).length) 0)) hr2) _ _ ha5
  have hp6 := (Le.fresh (Le.refl _) (LI (List.replicate ((lb b n).length + 1 - (lb b (n * 2 ^ s)).length) 0)) hr2) _ _ hp5
  have hq6 := (Le.fresh (Le.refl _) (LI (List.replicate ((lb b n).length + 1 - (lb b (n * 2 ^ s)).length) 0)) hr2) _ _ hq5
  refine BOP_catI hp6 (upd_self _ _ _) (by rw [List.length_replicate]; omega) fun p hp => ?_
  have hpq : p ≠ q := (ne_of_none hq6 hp).symm
  have hleA : Le σ₄ (upd (upd σ₄ r1 (LI [0])) r2 (LI (List.replicate ((lb b n).length + 1 - (lb b (n * 2 ^ s)).length) 0))) := ((Le.refl σ₄).more hr1).more hr2
  have hq7 := (Le.fresh (Le.refl _) (LI (lb b (n * 2 ^ s) ++ List.replicate ((lb b n).length + 1 - (lb b (n * 2 ^ s)).length) 0)) hp) _ _ hq6
  generalize hσ5 : upd (upd σ₄ r1 (LI [0])) r2 (LI (List.replicate ((lb b n).length + 1 - (lb b (n * 2 ^ s)).length) 0)) = σ₅ at *
  have hp4 : σ₄ p = none := hleA.no hp
  have hle5 : Le σ σ₅ := (hle.trans (hle3.trans hle4)).trans hleA
  have hM : b ≤ m * 2 ^ s := Nat.le_trans hmb (Nat.le_mul_of_pos_right _ (Nat.two_pow_pos s))
  have eM := two_limbs hb hM hscale
  have dM := lb_dig hb (m * 2 ^ s)
  have vM := lb_val hb (m * 2 ^ s)
  rw [eM] at dM vM hq7
  have hMt : 0 < m * 2 ^ s / b := Nat.div_pos hM (by walk_at "o")
  have hla : (lb b n).length = ((lb b n).length - 1) + 1 := by
    have : (lb b m).length ≤ (lb b n).length := lb_length_mono hb hge
    omega
  have hR0v : val b (lb b (n * 2 ^ s) ++ List.replicate ((lb b n).length + 1 - (lb b (n * 2 ^ s)).length) 0) = ((n * 2 ^ s : Nat) : Int) := by rw [val_pad, lb_val hb]
  have hR0d : Dig b (lb b (n * 2 ^ s) ++ List.replicate ((lb b n).length + 1 - (lb b (n * 2 ^ s)).length) 0) := (lb_dig hb _).append (Dig.replicate (by walk_at "o") _)
  have hR0l : (lb b (n * 2 ^ s) ++ List.replicate ((lb b n).length + 1 - (lb b (n * 2 ^ s)).length) 0).length = ((lb b n).length - 1) + 2 := by rw [List.length_append, List.length_replicate]; omega
  have htop := rows_top hb H.nat hR0v hR0d hR0l hla hmb
  generalize lb b (n * 2 ^ s) ++ List.replicate ((lb b n).length + 1 - (lb b (n * 2 ^ s)).length) 0 = R0 at *
  generalize hN : (lb b n).length - 1 = N at *
  refine XS_cons ?_
  repeat walk_at "m"
  refine EV_calln (by decide +kernel) (by rfl) ?_
  repeat walk_at "m"
  refine (fn_divide_rows H (upd_self _ _ _) hq7 hpq hR0l (by walk_at "o") hR0d dM (by walk_at "o") (by rw [vM]; exact htop)).use (Nat.le_of_ble_eq_true rfl) ?_
  rintro _ σ₆ ⟨r, zs, rs, rfl, hr, hdz, hlz, hdr, hlr, hval, hvlt, hle6⟩
  rw [vM] at hval hvlt
  rw [hR0v] at hval
  obtain ⟨hz, hrr⟩ := rows_end hb hm0 hdz hdr hval hvlt
  have hp6 := hle6 _ _ (upd_self _ _ _)
  rw [upd_upd] at hle6
  have hle7 : Le σ σ₆ := (hle5.more hp).trans hle6
  refine XS_cons ?_
  refine X_retL ?_
  refine EV_tup ?_
  refine EVs_cons ?_
  refine EV_calln (by decide +kernel) (by rfl) ?_
  repeat walk_at "m"
  refine (fn_normal hr (by walk_at "o")).use (Nat.le_of_ble_eq_true rfl) ?_
  rintro _ σ₇ ⟨hle8, x, rfl, hx⟩
  rw [hz] at hx
  refine EVs_cons ?_
  refine EV_calln (by decide +kernel) (by rfl) ?_
  refine EVs_cons ?_
  refine EV_calln (by decide +kernel) (by rfl) ?_
  repeat walk_at "m"
  refine (fn_normal (hle8 _ _ hp6) (by walk_at "o")).use (Nat.le_of_ble_eq_true rfl) ?_
  rintro _ σ₈ ⟨hle9, y, rfl, hy⟩
  rw [hrr] at hy
  repeat walk_at "m"
  have hbig : n % m * 2 ^ s ≤ 100000 := by
    have h1 : n % m < m := Nat.mod_lt _ hm0
    have h2 : 2 ^ s ≤ 2 ^ 8 := Nat.pow_le_pow_right (by walk_at "o") (by walk_at "o")
    have := Nat.mul_le_mul (show n % m ≤ 64 by walk_at "o") h2
    omega
  refine (fn_shift_right H hy hbig (by walk_at "o")).use (Nat.le_of_ble_eq_true rfl) ?_
  rintro _ σ₉ ⟨hle10, z, rfl, hz'⟩
  rw [Nat.mul_div_cancel _ (Nat.two_pow_pos s)] at hz'
  repeat walk_at "m"
  refine ⟨by simp, fun t ht => ?_⟩
  have hx9 := hle10 _ _ (hle9 _ _ hx)
  exact ⟨_, Le.refl _, ((((hle7.trans hle8).trans hle9).trans hle10)).more ht, t, x, z, rfl, upd_self _ _ _, by rw [upd_ne (ne_of_none hx9 ht)]; exact hx9, by rw [upd_ne (ne_of_none hz' ht)]; exact hz'⟩
end
/-- the symbol as the program walks it -/
def jac : Nat → Nat → Nat → Int
  | 0, _, _ => 0
  | f + 1, x, y => if x = 0 then (if y = 1 then 1 else 0) else ts (tz x) y * (if x / 2 ^ tz x % 4 = 3 ∧ y % 4 = 3 then -1 else 1) * jac f (y % (x / 2 ^ tz x)) (x / 2 ^ tz x)
theorem tz_pos {x : Nat} (hx : x ≠ 0) : 0 < x / 2 ^ tz x := by
  refine Nat.div_pos ?_ (Nat.two_pow_pos _)
  unfold tz
  split
  · omega
  split
  · omega
  split
  · omega
  split
  · omega
  · have : x % 16 = 0 := by walk_at "o"
    omega
theorem jac_fuel : ∀ (f g x y : Nat), x < f → x < g → jac f x y = jac g x y
  | f + 1, g + 1, x, y, hf, hg => by
    unfold jac
    split
    · rfl
    · next h =>
      have h1 := tz_pos h
      have h2 : x / 2 ^ tz x ≤ x := Nat.div_le_self _ _
      have h3 := Nat.mod_lt y h1
      rw [jac_fuel f g _ _ (by walk_at "o") (by walk_at "o")]
theorem tz_odd : ∀ x, x < 24 → 0 < x → x / 2 ^ tz x % 2 = 1 := by decide +kernel
section
variable {G : GC} {σ : AH}
theorem D14 : (D 14).name = "jacobi" := by decide +kernel
theorem fn_jacobi {a a' : Addr} {w b x y : Nat} (H : Base w b) (ha : σ a = some (LI (lb b x))) (ha' : σ a' = some (LI (lb b y))) (hx : x ≤ 1000) (hy : y < 24) (hodd : y % 2 = 1) :
    FN G 6 (G.fa "jacobi") [.ref a, .ref a', .int w, .ref (G.fa "divrem_school")] σ fun u σ' => Le σ σ' ∧ u = .int (jac 30 (x % y) y) := by
  have hb := H.two
  have hb8 := H.eight
  have hw := H.hw'
  refine FN_of ["a", "n", "w", "divrem"] 14 D14 (by decide) ?_ (by decide +kernel) (by rfl) (by rfl) (by rfl) (by decide +kernel) ?_
  · intro vs hvs pm cd doc
    obtain ⟨v, v', v'', v3, rfl, hv⟩ := are4 hvs
    rfl
  intro A L f cd hh room units hL
  have l2 := lb_short (n := y) hb8 (by walk_at "o")
  refine XS_cons ?_
  refine X_if ?_
  refine ET_val ?_
  refine EV_calln (by decide +kernel) (by rfl) ?_
  repeat walk_at "m"
  refine (fn_is_even ha' (by walk_at "o")).use (Nat.le_of_ble_eq_true rfl) ?_
  rintro _ σ₁ ⟨hle, rfl⟩
  have hev : ((lb b y).length == 0 || (lb b y).headD 0 % 2 == 0) = false := by
    have h8 : b % 2 = 0 := by
      rw [H.nat, show w = (w - 1) + 1 from by have := H.hw; omega, Nat.pow_succ]; omega
    have e : ((y % b : Nat) : Int) % 2 = 1 := by
      have h2 : y % b % 2 = y % 2 := Nat.mod_mod_of_dvd y (Nat.dvd_of_mod_eq_zero h8)
      omega
    rw [lb_pos hb (by walk_at "o"), List.headD_cons, e]
    simp
  rw [hev]
  refine asB ?_
  simp only [Bool.false_eq_true, if_false]
  have ha := hle _ _ ha
  have ha' := hle _ _ ha'
  repeat walk_at "m"
  refine X_swap2 (by rfl) (by rfl) ?_
  refine EV_tup ?_
  repeat walk_at "m"
  refine EV_place ?_
  refine EV_callv (by rfl) (isFn_of (by decide +kernel)) ?_
  repeat walk_at "m"
  refine (fn_divrem_school H ha ha' hx (by walk_at "o") (by walk_at "o")).use (Nat.le_of_ble_eq_true rfl) ?_
  rintro _ σ₂ ⟨hle2, t, r, s, rfl, ht, hr, hs⟩
  repeat walk_at "m"
  refine ⟨_, _, _, _, rfl, rfl, ht, by walk_at "o", by walk_at "o", rfl, ?_⟩
  repeat walk_at "m"
  refine ⟨by simp, fun t' ht' => ⟨_, _, _, rfl, upd_self _ _ _, ?_⟩⟩
  have hle3 : Le σ σ₂ := hle.trans hle2
  refine XS_forget (Le.fresh (Le.refl _) _ ht') (μ' := [("found", .int 1), ("a", .ref s), ("n", .ref a'), ("w", .int w), ("divrem", .ref (G.fa "divrem_school"))]) ⟨rfl, rfl, rfl, rfl, rfl, trivial⟩ ?_
  have hmod : x % y < y := Nat.mod_lt _ (by walk_at "o")
  refine XS_cons ?_
  refine X_whileL (fun k μ σ' => Le σ σ' ∧ ∃ (fo : Int) (y' : Nat) (p q : Addr), μ = ([("found", .int fo), ("a", .ref p), ("n", .ref q), ("w", .int w), ("divrem", .ref (G.fa "divrem_school"))] : Mu) ∧ σ' p = some (LI (lb b k)) ∧ σ' q = some (LI (lb b y')) ∧ k < 24 ∧ y' < 24 ∧ 0 < y' ∧ (fo = 1 ∨ fo = -1) ∧ ∀ f, k < f → fo * jac f k y' = jac 30 (x % y) y) (x % y) ?_ ?_
  · exact ⟨hle3, 1, y, s, a', rfl, hs, hle2 _ _ ha', by walk_at "o", hy, by walk_at "o", .inl rfl, fun f hf => by rw [Int.one_mul]; exact jac_fuel _ _ _ _ hf (by walk_at "o")⟩
  clear hs ht ht' hr hle3 hle2 hev l2 hmod
  rintro k μ σ' ⟨hle3, fo, y', p, q, rfl, hp, hq, hk, hy', hy0, hfo, hT⟩
  have lk1 := lb_short (n := k) hb8 (by walk_at "o")
  refine ET.eq (decide (0 < k)) ?_ ?_
  · repeat walk_at "m"
    refine ⟨_, _, rfl, hp, by walk_at "o", ?_⟩
    repeat walk_at "m"
    refine ⟨rfl, ?_⟩
    have := lb_nil (n := k) hb
    by_cases h : k = 0
    · subst h; rfl
    · have h2 : (lb b k).length ≠ 0 := fun e => h (this.mp (List.length_eq_zero_iff.mp e))
      rw [decide_eq_true (by walk_at "o"), decide_eq_true (by walk_at "o")]
  split
  · next h =>
    simp only [decide_eq_true_eq] at h
    have htz := tz_lt k
    have hpos := tz_pos (x := k) (by walk_at "o")
    have hdl : k / 2 ^ tz k ≤ k := Nat.div_le_self _ _
    refine XS.via fun N' R' hN' hR' => ?_
    refine XS_cons ?_
    repeat walk_at "m"
    refine EV_calln (by decide +kernel) (by rfl) ?_
    repeat walk_at "m"
    refine (fn_trailing H hp hk h).use (Nat.le_of_ble_eq_true rfl) ?_
    rintro _ _ ⟨rfl, rfl⟩
    repeat walk_at "m"
    refine EV_calln (by decide +kernel) (by rfl) ?_
    repeat walk_at "m"
    refine (fn_shift_right H hp (by walk_at "o") (by walk_at "o")).use (Nat.le_of_ble_eq_true rfl) ?_
    rintro _ σ₃ ⟨hle4, p', rfl, hp'⟩
    have hq3 := hle4 _ _ hq
    repeat walk_at "m"
    refine EV_calln (by decide +kernel) (by rfl) ?_
    repeat walk_at "m"
    refine (fn_two_sign H hq3 (by walk_at "o")).use (Nat.le_of_ble_eq_true rfl) ?_
    rintro _ σ₄ ⟨hle5, rfl⟩
    refine BOP_mulS (by walk_at "o") (by walk_at "o") ?_
    have hp4 := hle5 _ _ hp'
    have hq4 := hle5 _ _ hq3
    generalize hg : k / 2 ^ tz k = k' at *
    have hts : ts (tz k) y' = 1 ∨ ts (tz k) y' = -1 := by unfold ts; split; exact .inr rfl; exact .inl rfl
    refine XS_cons ?_
    refine X1.hand (fun μ σ' => ∃ σ₅ : AH, σ' = σ₅ ∧ Le σ σ₅ ∧ σ₅ p' = some (LI (lb b k')) ∧ σ₅ q = some (LI (lb b y')) ∧ μ = ([("found", .int (fo * ts (tz k) y' * (if k' % 4 = 3 ∧ y' % 4 = 3 then -1 else 1))), ("a", .ref p'), ("n", .ref q), ("w", .int w), ("divrem", .ref (G.fa "divrem_school"))] : Mu)) ?_ ?_
    · refine X_if ?_
      refine ET_and2 ?_
      refine ET_cmp ?_
      refine EV_calln (by decide +kernel) (by rfl) ?_
      repeat walk_at "m"
      refine (fn_last_bits (k := 2) H hp4 (by walk_at "o") (.inl rfl)).use (Nat.le_of_ble_eq_true rfl) ?_
      rintro _ σ₅ ⟨hle6, rfl⟩
      have hp5 := hle6 _ _ hp4
      have hq5 := hle6 _ _ hq4
      have hleA : Le σ σ₅ := ((hle3.trans hle4).trans hle5).trans hle6
      repeat walk_at "m"
      split
      · next h1 =>
        simp only [beq_iff_eq] at h1
        have h1 : k' % 4 = 3 := by walk_at "o"
        refine ET_cmp ?_
        refine EV_calln (by decide +kernel) (by rfl) ?_
        repeat walk_at "m"
        refine (fn_last_bits (k := 2) H hq5 (by walk_at "o") (.inl rfl)).use (Nat.le_of_ble_eq_true rfl) ?_
        rintro _ σ₆ ⟨hle7, rfl⟩
        repeat walk_at "m"
        split
        · next h2 =>
          simp only [beq_iff_eq] at h2
          have h2 : y' % 4 = 3 := by walk_at "o"
          refine XS_cons ?_
          repeat walk_at "m"
          refine ⟨_, rfl, ?_⟩
          repeat walk_at "m"
          refine ⟨[("found", .int (fo * ts (tz k) y' * (if k' % 4 = 3 ∧ y' % 4 = 3 then -1 else 1))), ("a", .ref p'), ("n", .ref q), ("w", .int w), ("divrem", .ref (G.fa "divrem_school"))], _, ⟨?_, rfl, rfl, rfl, rfl, trivial⟩, Le.refl _, _, rfl, hleA.trans hle7, hle7 _ _ hp5, hle7 _ _ hq5, rfl⟩
          rw [if_pos ⟨h1, h2⟩, Int.mul_neg, Int.mul_one]; rfl
        · next h2 =>
          simp only [beq_iff_eq] at h2
          have h2 : ¬ y' % 4 = 3 := by walk_at "o"
          repeat walk_at "m"
          refine ⟨[("found", .int (fo * ts (tz k) y' * (if k' % 4 = 3 ∧ y' % 4 = 3 then -1 else 1))), ("a", .ref p'), ("n", .ref q), ("w", .int w), ("divrem", .ref (G.fa "divrem_school"))], _, ⟨?_, rfl, rfl, rfl, rfl, trivial⟩, Le.refl _, _, rfl, hleA.trans hle7, hle7 _ _ hp5, hle7 _ _ hq5, rfl⟩
          rw [if_neg (fun q => h2 q.2), Int.mul_one]; rfl
      · next h1 =>
        simp only [beq_iff_eq] at h1
        have h1 : ¬ k' % 4 = 3 := by walk_at "o"
        simp only [Bool.false_eq_true, if_false]
        repeat walk_at "m"
        refine ⟨[("found", .int (fo * ts (tz k) y' * (if k' % 4 = 3 ∧ y' % 4 = 3 then -1 else 1))), ("a", .ref p'), ("n", .ref q), ("w", .int w), ("divrem", .ref (G.fa "divrem_school"))], _, ⟨?_, rfl, rfl, rfl, rfl, trivial⟩, Le.refl _, _, rfl, hleA, hp5, hq5, rfl⟩
        rw [if_neg (fun q => h1 q.1), Int.mul_one]; rfl
    clear hle4 hle5 hp4 hq4 hp' hq3 σ₃ σ₄
    rintro μ _ ⟨σ₅, rfl, hle5, hp5, hq5, rfl⟩
    refine XS_cons ?_
    refine X_swap2 (by rfl) (by rfl) ?_
    refine EV_tup ?_
    refine EVs_cons ?_
    refine EV_place ?_
    refine EV_callv (by rfl) (isFn_of (by decide +kernel)) ?_
    repeat walk_at "m"
    refine (fn_divrem_school H hq5 hp5 (by walk_at "o") hpos (by walk_at "o")).use (Nat.le_of_ble_eq_true rfl) ?_
    rintro _ σ₆ ⟨hle6, t, r, s, rfl, ht, hr, hs⟩
    repeat walk_at "m"
    refine ⟨_, _, _, _, rfl, rfl, ht, by walk_at "o", by walk_at "o", rfl, ?_⟩
    repeat walk_at "m"
    refine ⟨by simp, fun t' ht' => ⟨_, _, _, rfl, upd_self _ _ _, ?_⟩⟩
    have hml : y' % k' < k' := Nat.mod_lt _ hpos
    repeat walk_at "m"
    refine hN' _ _ ⟨[("found", .int (fo * ts (tz k) y' * (if k' % 4 = 3 ∧ y' % 4 = 3 then -1 else 1))), ("a", .ref s), ("n", .ref p'), ("w", .int w), ("divrem", .ref (G.fa "divrem_school"))], _, ⟨rfl, rfl, rfl, rfl, rfl, trivial⟩, Le.fresh (Le.refl _) _ ht', y' % k', by walk_at "o", hle5.trans hle6, _, k', s, p', rfl, hs, hle6 _ _ hp5, by walk_at "o", by walk_at "o", hpos, ?_, ?_⟩
    · rcases hfo with rfl | rfl <;> rcases hts with e | e <;> rw [e] <;> split <;> simp
    · intro f hf
      rw [← hT (k + 1) (by walk_at "o"), jac, if_neg (show ¬ k = 0 by walk_at "o"), hg, jac_fuel f k _ _ hf (by walk_at "o")]
      simp only [Int.mul_assoc]
  · next h =>
    simp only [decide_eq_true_eq] at h
    have hk0 : k = 0 := by walk_at "o"
    subst hk0
    have hfin := hT 1 (by walk_at "o")
    rw [jac, if_pos rfl] at hfin
    refine XS_cons ?_
    refine X_retL ?_
    refine EV_ife ?_
    refine ET_cmp ?_
    refine EV_calln (by decide +kernel) (by rfl) ?_
    repeat walk_at "m"
    refine ⟨by simp, fun r hr => ?_⟩
    rw [show (AO.lst true [AV.int 1]) = LI (lb b 1) from by rw [one_limb hb (by walk_at "o") (by walk_at "o")]; rfl]
    have hq1 : upd σ' r (LI (lb b 1)) q = some (LI (lb b y')) := by rw [upd_ne (ne_of_none hq hr)]; exact hq
    repeat walk_at "m"
    refine (fn_compare hb hq1 (upd_self _ _ _) (by walk_at "o") (by walk_at "o")).use (Nat.le_of_ble_eq_true rfl) ?_
    rintro _ σ₃ ⟨hle4, rfl⟩
    have hle5 := (hle3.more (o := LI (lb b 1)) hr).trans hle4
    have hc : cmpI y' 1 = 0 ↔ y' = 1 := by
      unfold cmpI
      split
      · next q => exact ⟨fun e => by walk_at "o", fun e => by walk_at "o"⟩
      · next q => split <;> omega
    repeat walk_at "m"
    split
    · next h1 =>
      simp only [beq_iff_eq] at h1
      rw [if_pos (hc.mp h1), Int.mul_one] at hfin
      repeat walk_at "m"
      exact ⟨_, Le.refl _, hle5, by rw [hfin]⟩
    · next h1 =>
      simp only [beq_iff_eq] at h1
      rw [if_neg (fun e => h1 (hc.mpr e)), Int.mul_zero] at hfin
      repeat walk_at "m"
      exact ⟨_, Le.refl _, hle5, by rw [hfin]⟩
end
/-- a number with a sign not below nought -/
def Num (σ : AH) (b : Nat) (x : Addr) (n : Nat) : Prop := ∃ l, σ x = some (.tup [.bool false, .ref l]) ∧ σ l = some (LI (lb b n))
theorem Num.le {σ σ' : AH} {b : Nat} {x : Addr} {n : Nat} (h : Num σ b x n) (hle : Le σ σ') : Num σ' b x n := by
  obtain ⟨l, h1, h2⟩ := h
  exact ⟨l, hle _ _ h1, hle _ _ h2⟩
section
variable {G : GC} {σ : AH}
theorem D22 : (D 22).name = "signed" := by decide +kernel
theorem D23 : (D 23).name = "s_neg" := by decide +kernel
theorem D24 : (D 24).name = "s_add" := by decide +kernel
theorem D25 : (D 25).name = "s_sub" := by decide +kernel
theorem D26 : (D 26).name = "s_mul" := by decide +kernel
theorem D27 : (D 27).name = "tdiv" := by decide +kernel
theorem D28 : (D 28).name = "fdiv" := by decide +kernel
theorem fn_signed {l : Addr} {b n : Nat} {s : Bool} (hb : 8 ≤ b) (hl : σ l = some (LI (lb b n))) (hn : n ≤ 1000) :
    FN G 1 (G.fa "signed") [.bool s, .ref l] σ fun u σ' => Le σ σ' ∧ ∃ t, u = .ref t ∧ σ' t = some (.tup [.bool (s && decide (0 < n)), .ref l]) := by
  refine FN_of ["is_below", "nat"] 22 D22 (by decide) ?_ (by decide +kernel) (by rfl) (by rfl) (by rfl) (by decide +kernel) ?_
  · intro vs hvs pm cd doc
    obtain ⟨v, v', rfl, hv⟩ := are2 hvs
    rfl
  intro A L f cd hh room units hL
  have l1 := lb_short hb hn
  refine XS_cons ?_
  refine X_retL ?_
  refine EV_tup ?_
  refine EVs_cons ?_
  refine EV.eq (.bool (s && decide (0 < n))) ?_ ?_
  · repeat walk_at "m"
    cases s with
    | false =>
      simp only [Bool.false_eq_true, if_false]
      exact ⟨trivial, rfl⟩
    | true =>
      simp only [if_true]
      repeat walk_at "m"
      refine ⟨_, _, rfl, hl, by walk_at "o", ?_⟩
      repeat walk_at "m"
      refine ⟨rfl, ?_⟩
      rw [Bool.true_and]
      congr 1
      have := lb_nil (n := n) (show 2 ≤ b by walk_at "o")
      by_cases h : n = 0
      · subst h; rfl
      · have h2 : (lb b n).length ≠ 0 := fun e => h (this.mp (List.length_eq_zero_iff.mp e))
        rw [decide_eq_true (by walk_at "o"), decide_eq_true (by walk_at "o")]
  repeat walk_at "m"
  refine ⟨by simp, fun t ht => ?_⟩
  exact ⟨_, Le.refl _, Le.fresh (Le.refl _) _ ht, t, rfl, upd_self _ _ _⟩

theorem fn_s_neg {x : Addr} {b n : Nat} (hb : 8 ≤ b) (hx : Num σ b x n) (hn : n ≤ 1000) :
    FN G 2 (G.fa "s_neg") [.ref x] σ fun u σ' => Le σ σ' ∧ ∃ t l, u = .ref t ∧ σ' t = some (.tup [.bool (decide (0 < n)), .ref l]) ∧ σ' l = some (LI (lb b n)) := by
  obtain ⟨l, hx, hl⟩ := hx
  refine FN_of ["x"] 23 D23 (by decide) ?_ (by decide +kernel) (by rfl) (by rfl) (by rfl) (by decide +kernel) ?_
  · intro vs hvs pm cd doc
    obtain ⟨v, rfl, hv⟩ := are1 hvs
    rfl
  intro A L f cd hh room units hL
  refine XS_cons ?_
  refine X_retL ?_
  refine EV_calln (by decide +kernel) (by rfl) ?_
  refine EVs_cons ?_
  refine EV_not ?_
  refine EV_place ?_
  repeat walk_at "m"
  refine ⟨_, _, _, _, rfl, rfl, hx, by walk_at "o", by walk_at "o", rfl, ?_⟩
  refine asB ?_
  refine EVs_cons ?_
  refine EV_place ?_
  repeat walk_at "m"
  refine ⟨_, _, _, _, rfl, rfl, hx, by walk_at "o", by walk_at "o", rfl, ?_⟩
  repeat walk_at "m"
  refine (fn_signed hb hl hn).use (Nat.le_of_ble_eq_true rfl) ?_
  rintro _ σ₁ ⟨hle, t, rfl, ht⟩
  exact ⟨_, Le.refl _, hle, t, l, rfl, by simpa using ht, hle _ _ hl⟩

theorem fn_s_add {x y l : Addr} {w b n m : Nat} {s : Bool} (H : Base w b) (hx : Num σ b x n) (hy : σ y = some (.tup [.bool s, .ref l])) (hl : σ l = some (LI (lb b m))) (hn : n ≤ 1000) (hm : m ≤ 1000) (h1 : s = false → n + m ≤ 1000) (h2 : s = true → m ≤ n) :
    FN G 3 (G.fa "s_add") [.ref x, .ref y, .int w] σ fun u σ' => Le σ σ' ∧ ∃ t, u = .ref t ∧ Num σ' b t (if s = true then n - m else n + m) := by
  obtain ⟨lx, hx, hlx⟩ := hx
  have hb := H.two
  refine FN_of ["x", "y", "w"] 24 D24 (by decide) ?_ (by decide +kernel) (by rfl) (by rfl) (by rfl) (by decide +kernel) ?_
  · intro vs hvs pm cd doc
    obtain ⟨v, v', v'', rfl, hv⟩ := are3 hvs
    rfl
  intro A L f cd hh room units hL
  refine XS_cons ?_
  refine X_if ?_
  refine ET_cmp ?_
  refine EV_place ?_
  repeat walk_at "m"
  refine ⟨_, _, _, _, rfl, rfl, hx, by walk_at "o", by walk_at "o", rfl, ?_⟩
  refine EV_place ?_
  repeat walk_at "m"
  refine ⟨_, _, _, _, rfl, rfl, hy, by walk_at "o", by walk_at "o", rfl, ?_⟩
  repeat walk_at "m"
  cases s with
  | false =>
    simp only [beq_self_eq_true, if_true, Bool.false_eq_true, if_false]
    refine XS_cons ?_
    refine X_retL ?_
    refine EV_calln (by decide +kernel) (by rfl) ?_
    refine EVs_cons ?_
    refine EV_place ?_
    repeat walk_at "m"
    refine ⟨_, _, _, _, rfl, rfl, hx, by walk_at "o", by walk_at "o", rfl, ?_⟩
    refine EVs_cons ?_
    refine EV_calln (by decide +kernel) (by rfl) ?_
    refine EVs_cons ?_
    refine EV_place ?_
    repeat walk_at "m"
    refine ⟨_, _, _, _, rfl, rfl, hx, by walk_at "o", by walk_at "o", rfl, ?_⟩
    refine EVs_cons ?_
    refine EV_place ?_
    repeat walk_at "m"
    refine ⟨_, _, _, _, rfl, rfl, hy, by walk_at "o", by walk_at "o", rfl, ?_⟩
    repeat walk_at "m"
    refine (fn_add (by have := H.hw; omega) (by have := H.hw'; omega) H.hbw hlx hl (by walk_at "o") (by walk_at "o")).use (Nat.le_of_ble_eq_true rfl) ?_
    rintro _ σ₁ ⟨hle, r, rfl, hr⟩
    repeat walk_at "m"
    refine (fn_signed H.eight hr (h1 rfl)).use (Nat.le_of_ble_eq_true rfl) ?_
    rintro _ σ₂ ⟨hle2, t, rfl, ht⟩
    exact ⟨_, Le.refl _, hle.trans hle2, t, rfl, r, by simpa using ht, hle2 _ _ hr⟩
  | true =>
    rw [if_neg (by decide)]
    have h2 := h2 rfl
    simp only [if_true]
    repeat walk_at "m"
    refine EV_calln (by decide +kernel) (by rfl) ?_
    refine EVs_cons ?_
    refine EV_place ?_
    repeat walk_at "m"
    refine ⟨_, _, _, _, rfl, rfl, hx, by walk_at "o", by walk_at "o", rfl, ?_⟩
    refine EVs_cons ?_
    refine EV_place ?_
    repeat walk_at "m"
    refine ⟨_, _, _, _, rfl, rfl, hy, by walk_at "o", by walk_at "o", rfl, ?_⟩
    repeat walk_at "m"
    refine (fn_compare hb hlx hl (by walk_at "o") (by walk_at "o")).use (Nat.le_of_ble_eq_true rfl) ?_
    rintro _ σ₁ ⟨hle, rfl⟩
    have hx1 := hle _ _ hx
    have hy1 := hle _ _ hy
    repeat walk_at "m"
    rw [decide_eq_false (fun q => by have := cmpI_neg.mp q; omega)]
    simp only [Bool.false_eq_true, if_false]
    repeat walk_at "m"
    refine EV_calln (by decide +kernel) (by rfl) ?_
    refine EVs_cons ?_
    refine EV_place ?_
    repeat walk_at "m"
    refine ⟨_, _, _, _, rfl, rfl, hx1, by walk_at "o", by walk_at "o", rfl, ?_⟩
    refine EVs_cons ?_
    refine EV_calln (by decide +kernel) (by rfl) ?_
    refine EVs_cons ?_
    refine EV_place ?_
    repeat walk_at "m"
    refine ⟨_, _, _, _, rfl, rfl, hx1, by walk_at "o", by walk_at "o", rfl, ?_⟩
    refine EVs_cons ?_
    refine EV_place ?_
    repeat walk_at "m"
    refine ⟨_, _, _, _, rfl, rfl, hy1, by walk_at "o", by walk_at "o", rfl, ?_⟩
    repeat walk_at "m"
    refine (fn_sub H (hle _ _ hlx) (hle _ _ hl) hn h2).use (Nat.le_of_ble_eq_true rfl) ?_
    rintro _ σ₂ ⟨hle2, r, rfl, hr⟩
    repeat walk_at "m"
    refine (fn_signed H.eight hr (by walk_at "o")).use (Nat.le_of_ble_eq_true rfl) ?_
    rintro _ σ₃ ⟨hle3, t, rfl, ht⟩
    exact ⟨_, Le.refl _, (hle.trans hle2).trans hle3, t, rfl, r, by simpa using ht, hle3 _ _ hr⟩

theorem fn_s_plus {x y : Addr} {w b n m : Nat} (H : Base w b) (hx : Num σ b x n) (hy : Num σ b y m) (h1 : n + m ≤ 1000) :
    FN G 3 (G.fa "s_add") [.ref x, .ref y, .int w] σ fun u σ' => Le σ σ' ∧ ∃ t, u = .ref t ∧ Num σ' b t (n + m) := by
  obtain ⟨l, hy, hl⟩ := hy
  exact fn_s_add (s := false) H hx hy hl (by walk_at "o") (by walk_at "o") (fun _ => h1) (fun h => by cases h)

theorem fn_s_sub {x y : Addr} {w b n m : Nat} (H : Base w b) (hx : Num σ b x n) (hy : Num σ b y m) (hn : n ≤ 1000) (hm : m ≤ n) (hm0 : 0 < m) :
    FN G 4 (G.fa "s_sub") [.ref x, .ref y, .int w] σ fun u σ' => Le σ σ' ∧ ∃ t, u = .ref t ∧ Num σ' b t (n - m) := by
  refine FN_of ["x", "y", "w"] 25 D25 (by decide) ?_ (by decide +kernel) (by rfl) (by rfl) (by rfl) (by decide +kernel) ?_
  · intro vs hvs pm cd doc
    obtain ⟨v, v', v'', rfl, hv⟩ := are3 hvs
    rfl
  intro A L f cd hh room units hL
  refine XS_cons ?_
  refine X_retL ?_
  refine EV_calln (by decide +kernel) (by rfl) ?_
  repeat walk_at "m"
  refine EV_calln (by decide +kernel) (by rfl) ?_
  repeat walk_at "m"
  refine (fn_s_neg H.eight hy (by walk_at "o")).use (Nat.le_of_ble_eq_true rfl) ?_
  rintro _ σ₁ ⟨hle, t, l, rfl, ht, hl⟩
  rw [decide_eq_true hm0] at ht
  repeat walk_at "m"
  refine (fn_s_add H (hx.le hle) ht hl hn (by walk_at "o") (fun q => by cases q) (fun _ => hm)).use (Nat.le_of_ble_eq_true rfl) ?_
  rintro _ σ₂ ⟨hle2, t', rfl, ht'⟩
  exact ⟨_, Le.refl _, hle.trans hle2, t', rfl, by simpa using ht'⟩

theorem fn_s_mul {x y : Addr} {w b n m : Nat} (H : Base w b) (hx : Num σ b x n) (hy : Num σ b y m) (hn : n ≤ 1000) (hm : m ≤ 1000) (hnm : n * m ≤ 1000) :
    FN G 3 (G.fa "s_mul") [.ref x, .ref y, .int w, .ref (G.fa "mul_school")] σ fun u σ' => Le σ σ' ∧ ∃ t, u = .ref t ∧ Num σ' b t (n * m) := by
  obtain ⟨lx, hx, hlx⟩ := hx
  obtain ⟨ly, hy, hly⟩ := hy
  refine FN_of ["x", "y", "w", "mul"] 26 D26 (by decide) ?_ (by decide +kernel) (by rfl) (by rfl) (by rfl) (by decide +kernel) ?_
  · intro vs hvs pm cd doc
    obtain ⟨v, v', v'', v3, rfl, hv⟩ := are4 hvs
    rfl
  intro A L f cd hh room units hL
  refine XS_cons ?_
  refine X_retL ?_
  refine EV_calln (by decide +kernel) (by rfl) ?_
  refine EVs_cons ?_
  refine EV_cmp ?_
  refine EV_place ?_
  repeat walk_at "m"
  refine ⟨_, _, _, _, rfl, rfl, hx, by walk_at "o", by walk_at "o", rfl, ?_⟩
  refine EV_place ?_
  repeat walk_at "m"
  refine ⟨_, _, _, _, rfl, rfl, hy, by walk_at "o", by walk_at "o", rfl, ?_⟩
  repeat walk_at "m"
  refine EV_callv (by rfl) (isFn_of (by decide +kernel)) ?_
  refine EVs_cons ?_
  refine EV_place ?_
  repeat walk_at "m"
  refine ⟨_, _, _, _, rfl, rfl, hx, by walk_at "o", by walk_at "o", rfl, ?_⟩
  refine EVs_cons ?_
  refine EV_place ?_
  repeat walk_at "m"
  refine ⟨_, _, _, _, rfl, rfl, hy, by walk_at "o", by walk_at "o", rfl, ?_⟩
  repeat walk_at "m"
  refine (fn_mul_school H hlx hly hn hm).use (Nat.le_of_ble_eq_true rfl) ?_
  rintro _ σ₁ ⟨hle, r, rfl, hr⟩
  repeat walk_at "m"
  refine (fn_signed H.eight hr hnm).use (Nat.le_of_ble_eq_true rfl) ?_
  rintro _ σ₂ ⟨hle2, t, rfl, ht⟩
  exact ⟨_, Le.refl _, hle.trans hle2, t, rfl, r, by simpa using ht, hle2 _ _ hr⟩

theorem fn_tdiv {x y : Addr} {w b n m : Nat} (H : Base w b) (hx : Num σ b x n) (hy : Num σ b y m) (hn : n ≤ 1000) (hm0 : 0 < m) (hm : m < 64) :
    FN G 5 (G.fa "tdiv") [.ref x, .ref y, .int w, .ref (G.fa "divrem_school")] σ fun u σ' => Le σ σ' ∧ ∃ t q r, u = .ref t ∧ σ' t = some (.tup [.ref q, .ref r]) ∧ Num σ' b q (n / m) ∧ Num σ' b r (n % m) := by
  obtain ⟨lx, hx, hlx⟩ := hx
  obtain ⟨ly, hy, hly⟩ := hy
  have hb := H.two
  refine FN_of ["x", "y", "w", "divrem"] 27 D27 (by decide) ?_ (by decide +kernel) (by rfl) (by rfl) (by rfl) (by decide +kernel) ?_
  · intro vs hvs pm cd doc
    obtain ⟨v, v', v'', v3, rfl, hv⟩ := are4 hvs
    rfl
  intro A L f cd hh room units hL
  have l2 := lb_short (n := m) H.eight (by walk_at "o")
  have hne : (lb b m).length ≠ 0 := fun h => by
    have := (lb_nil hb).mp (List.length_eq_zero_iff.mp h)
    omega
  have hdm : n / m ≤ n := Nat.div_le_self _ _
  have hmm : n % m < m := Nat.mod_lt _ hm0
  refine XS_cons ?_
  refine X_if ?_
  refine ET_cmp ?_
  refine EV_lenI (by rfl) ?_
  refine EV_place ?_
  repeat walk_at "m"
  refine ⟨_, _, _, _, rfl, rfl, hy, by walk_at "o", by walk_at "o", rfl, ?_⟩
  refine ⟨_, _, rfl, hly, by walk_at "o", ?_⟩
  repeat walk_at "m"
  split
  · next h =>
    simp only [beq_iff_eq] at h
    omega
  repeat walk_at "m"
  refine X_unpack2 (by rfl) (by rfl) ?_
  refine EV_callv (by rfl) (isFn_of (by decide +kernel)) ?_
  refine EVs_cons ?_
  refine EV_place ?_
  repeat walk_at "m"
  refine ⟨_, _, _, _, rfl, rfl, hx, by walk_at "o", by walk_at "o", rfl, ?_⟩
  refine EVs_cons ?_
  refine EV_place ?_
  repeat walk_at "m"
  refine ⟨_, _, _, _, rfl, rfl, hy, by walk_at "o", by walk_at "o", rfl, ?_⟩
  repeat walk_at "m"
  refine (fn_divrem_school H hlx hly hn hm0 hm).use (Nat.le_of_ble_eq_true rfl) ?_
  rintro _ σ₁ ⟨hle, t, r, s, rfl, ht, hr, hs⟩
  have hx1 := hle _ _ hx
  have hy1 := hle _ _ hy
  refine ⟨t, _, _, rfl, ht, ?_⟩
  refine XS_cons ?_
  refine X_retL ?_
  refine EV_tup ?_
  refine EVs_cons ?_
  refine EV_calln (by decide +kernel) (by rfl) ?_
  refine EVs_cons ?_
  refine EV_cmp ?_
  refine EV_place ?_
  repeat walk_at "m"
  refine ⟨_, _, _, _, rfl, rfl, hx1, by walk_at "o", by walk_at "o", rfl, ?_⟩
  refine EV_place ?_
  repeat walk_at "m"
  refine ⟨_, _, _, _, rfl, rfl, hy1, by walk_at "o", by walk_at "o", rfl, ?_⟩
  repeat walk_at "m"
  refine (fn_signed H.eight hr (by walk_at "o")).use (Nat.le_of_ble_eq_true rfl) ?_
  rintro _ σ₂ ⟨hle2, q', rfl, hq'⟩
  refine EVs_cons ?_
  refine EV_calln (by decide +kernel) (by rfl) ?_
  refine EVs_cons ?_
  refine EV_place ?_
  repeat walk_at "m"
  refine ⟨_, _, _, _, rfl, rfl, hle2 _ _ hx1, by walk_at "o", by walk_at "o", rfl, ?_⟩
  repeat walk_at "m"
  refine (fn_signed H.eight (hle2 _ _ hs) (by walk_at "o")).use (Nat.le_of_ble_eq_true rfl) ?_
  rintro _ σ₃ ⟨hle3, r', rfl, hr'⟩
  repeat walk_at "m"
  refine ⟨by simp, fun t' ht' => ?_⟩
  have hf : Le σ₃ (upd σ₃ t' (.tup [.ref q', .ref r'])) := Le.fresh (Le.refl _) _ ht'
  refine ⟨_, Le.refl _, ((hle.trans hle2).trans hle3).trans hf, t', q', r', rfl, upd_self _ _ _, Num.le ⟨r, by simpa using hle3 _ _ hq', hle3 _ _ (hle2 _ _ hr)⟩ hf, Num.le ⟨s, by simpa using hr', hle3 _ _ (hle2 _ _ hs)⟩ hf⟩

theorem fn_fdiv {x y : Addr} {w b n m : Nat} (H : Base w b) (hx : Num σ b x n) (hy : Num σ b y m) (hn : n ≤ 1000) (hm0 : 0 < m) (hm : m < 64) :
    FN G 6 (G.fa "fdiv") [.ref x, .ref y, .int w, .ref (G.fa "divrem_school")] σ fun u σ' => Le σ σ' ∧ ∃ t q r, u = .ref t ∧ σ' t = some (.tup [.ref q, .ref r]) ∧ Num σ' b q (n / m) ∧ Num σ' b r (n % m) := by
  have hmm : n % m < m := Nat.mod_lt _ hm0
  refine FN_of ["x", "y", "w", "divrem"] 28 D28 (by decide) ?_ (by decide +kernel) (by rfl) (by rfl) (by rfl) (by decide +kernel) ?_
  · intro vs hvs pm cd doc
    obtain ⟨v, v', v'', v3, rfl, hv⟩ := are4 hvs
    rfl
  intro A L f cd hh room units hL
  refine XS_cons ?_
  refine X_unpack2 (by rfl) (by rfl) ?_
  refine EV_calln (by decide +kernel) (by rfl) ?_
  repeat walk_at "m"
  refine (fn_tdiv H hx hy hn hm0 hm).use (Nat.le_of_ble_eq_true rfl) ?_
  rintro _ σ₁ ⟨hle, t, q, r, rfl, ht, hq, hr⟩
  obtain ⟨lx, hx1, hlx⟩ := hx.le hle
  obtain ⟨ly, hy1, hly⟩ := hy.le hle
  obtain ⟨lr, hr1, hlr⟩ := id hr
  have l3 := lb_short (n := n % m) H.eight (by walk_at "o")
  refine ⟨t, _, _, rfl, ht, ?_⟩
  refine XS_cons ?_
  refine X_if ?_
  refine ET.eq false ?_ ?_
  · refine ET_and2 ?_
    refine ET_cmp ?_
    refine EV_lenI (by rfl) ?_
    refine EV_place ?_
    repeat walk_at "m"
    refine ⟨_, _, _, _, rfl, rfl, hr1, by walk_at "o", by walk_at "o", rfl, ?_⟩
    refine ⟨_, _, rfl, hlr, by walk_at "o", ?_⟩
    repeat walk_at "m"
    split
    · refine ET_cmp ?_
      refine EV_place ?_
      repeat walk_at "m"
      refine ⟨_, _, _, _, rfl, rfl, hx1, by walk_at "o", by walk_at "o", rfl, ?_⟩
      refine EV_place ?_
      repeat walk_at "m"
      refine ⟨_, _, _, _, rfl, rfl, hy1, by walk_at "o", by walk_at "o", rfl, ?_⟩
      repeat walk_at "m"
      exact ⟨rfl, rfl⟩
    · exact ⟨rfl, rfl⟩
  simp only [Bool.false_eq_true, if_false]
  repeat walk_at "m"
  refine ⟨by simp, fun t' ht' => ?_⟩
  have hf : Le σ₁ (upd σ₁ t' (.tup [.ref q, .ref r])) := Le.fresh (Le.refl _) _ ht'
  exact ⟨_, Le.refl _, hle.trans hf, t', q, r, rfl, upd_self _ _ _, hq.le hf, hr.le hf⟩
end
section
variable {G : GC} {σ : AH}
theorem D29 : (D 29).name = "_law_fenced" := by decide +kernel
theorem D30 : (D 30).name = "_law_limbs" := by decide +kernel
theorem D31 : (D 31).name = "_law_worth" := by decide +kernel
theorem D32 : (D 32).name = "_law_counted_under" := by decide +kernel
theorem D33 : (D 33).name = "_law_number" := by decide +kernel
theorem D34 : (D 34).name = "_law_plain" := by decide +kernel
theorem fn_fenced {p bl : Addr} {k : Nat} {c : Int} {bs : List Int} (hp : σ p = some (.lst true [.int k, .ref bl])) (hbl : σ bl = some (LI bs)) (hpb : p ≠ bl) (hk : k ≤ 1000) (hb : bs.length ≤ 1000) (hc : 0 < c) :
    FN G 1 (G.fa "_law_fenced") [.ref p, .int c] σ fun u σ' => Le (upd σ p (.lst true [.int ((k + 1 : Nat) : Int), .ref bl])) σ' ∧ ∃ v : Nat, u = .int v ∧ (v : Int) < c := by
  refine FN_of ["post", "many"] 29 D29 (by decide) ?_ (by decide +kernel) (by rfl) (by rfl) (by rfl) (by decide +kernel) ?_
  · intro vs hvs pm cd doc
    obtain ⟨v, v', rfl, hv⟩ := are2 hvs
    rfl
  intro A L f cd hh room units hL
  have fin : ∀ z : Int, ∃ v : Nat, AV.int (z % c) = .int v ∧ (v : Int) < c := fun z => by
    have h1 := Int.emod_nonneg z (show c ≠ 0 by walk_at "o")
    have h2 := Int.emod_lt_of_pos z hc
    exact ⟨(z % c).toNat, by rw [Int.toNat_of_nonneg h1], by walk_at "o"⟩
  refine XS_cons ?_
  refine X_setitem ?_
  refine EV_bin ?_
  refine EV_idx ?_
  repeat walk_at "m"
  refine ⟨p, 0, _, _, rfl, rfl, by walk_at "o", by walk_at "o", hp, rfl, ?_⟩
  repeat walk_at "m"
  refine ⟨p, _, 0, rfl, rfl, hp, by walk_at "o", by simp, by simp, ?_⟩
  rw [show ([AV.int k, AV.ref bl].set (0 : Int).toNat (.int ((k : Int) + 1))) = [.int ((k + 1 : Nat) : Int), .ref bl] from by push_cast; rfl]
  have hbl1 : upd σ p (.lst true [.int ((k + 1 : Nat) : Int), .ref bl]) bl = some (LI bs) := by rw [upd_ne hpb.symm]; exact hbl
  refine XS_cons ?_
  refine X_if ?_
  refine ET_cmp ?_
  refine EV_idx ?_
  repeat walk_at "m"
  refine ⟨p, 0, _, _, rfl, rfl, by walk_at "o", by walk_at "o", upd_self _ _ _, rfl, ?_⟩
  refine EV_lenI (by rfl) ?_
  refine EV_idx ?_
  repeat walk_at "m"
  refine ⟨p, 1, _, _, rfl, rfl, by walk_at "o", by walk_at "o", upd_self _ _ _, rfl, ?_⟩
  refine ⟨_, _, rfl, hbl1, by walk_at "o", ?_⟩
  repeat walk_at "m"
  split
  · next h =>
    simp only [decide_eq_true_eq] at h
    have h : k < bs.length := by walk_at "o"
    refine XS_cons ?_
    refine X_retL ?_
    refine EV_bin ?_
    refine EV_at ?_
    refine EV_idx ?_
    repeat walk_at "m"
    refine ⟨p, 1, _, _, rfl, rfl, by walk_at "o", by walk_at "o", upd_self _ _ _, rfl, ?_⟩
    refine EV_bin ?_
    refine EV_idx ?_
    repeat walk_at "m"
    refine ⟨p, 0, _, _, rfl, rfl, by walk_at "o", by walk_at "o", upd_self _ _ _, rfl, ?_⟩
    repeat walk_at "m"
    refine ⟨_, _, _, bs[k], rfl, rfl, hbl1, by walk_at "o", by walk_at "o", ?_, ?_⟩
    · rw [show (((k + 1 : Nat) : Int) - 1).toNat = k by walk_at "o"]; exact List.getElem?_eq_getElem h
    repeat walk_at "m"
    refine BOP_emod hc ?_
    exact ⟨_, Le.refl _, Le.refl _, fin _⟩
  · next h =>
    repeat walk_at "m"
    refine EV_idx ?_
    repeat walk_at "m"
    refine ⟨p, 0, _, _, rfl, rfl, by walk_at "o", by walk_at "o", upd_self _ _ _, rfl, ?_⟩
    refine BOP_mulS (by walk_at "o") (by walk_at "o") ?_
    refine EV_bin ?_
    refine EV_idx ?_
    repeat walk_at "m"
    refine ⟨p, 0, _, _, rfl, rfl, by walk_at "o", by walk_at "o", upd_self _ _ _, rfl, ?_⟩
    repeat walk_at "m"
    refine BOP_div (by walk_at "o") (by walk_at "o") ?_
    repeat walk_at "m"
    refine BOP_emod hc ?_
    exact ⟨_, Le.refl _, Le.refl _, fin _⟩

theorem fn_limbs {w b n : Nat} (H : Base w b) (hn : n ≤ 1000) :
    FN G 1 (G.fa "_law_limbs") [.int n, .int w] σ fun u σ' => Le σ σ' ∧ ∃ r, u = .ref r ∧ σ' r = some (LI (lb b n)) := by
  have hb := H.two
  have hw := H.hw'
  have hbn : (2 : Int) ^ ((w : Int).toNat) = (b : Int) := by rw [Int.toNat_natCast, H.hbw]
  have hbits : (Builtin.Int.intBits 2 : Int) * w ≤ 2 ^ 27 := by
    have : (Builtin.Int.intBits 2 : Int) = 2 := by decide +kernel
    rw [this]
    omega
  refine FN_of ["number", "w"] 30 D30 (by decide) ?_ (by decide +kernel) (by rfl) (by rfl) (by rfl) (by decide +kernel) ?_
  · intro vs hvs pm cd doc
    obtain ⟨v, v', rfl, hv⟩ := are2 hvs
    rfl
  intro A L f cd hh room units hL
  have l1 := lb_short (n := n) H.eight hn
  refine XS_cons ?_
  refine X_assign (by rfl) ?_
  refine EV_nilI fun r hr => ?_
  refine XS_forget (Le.refl _) (μ' := [("found", .ref r), ("number", .int n), ("w", .int w)]) ⟨rfl, rfl, rfl, trivial⟩ ?_
  refine XS_cons ?_
  refine X_whileL (fun k μ σ' => ∃ zs, σ' = upd σ r (LI zs) ∧ μ = ([("found", .ref r), ("number", .int k), ("w", .int w)] : Mu) ∧ zs ++ lb b k = lb b n) n ?_ ?_
  · exact ⟨[], rfl, rfl, rfl⟩
  rintro k μ σ' ⟨zs, rfl, rfl, hz⟩
  have hzl : zs.length ≤ 4 := by rw [← hz, List.length_append] at l1; omega
  repeat walk_at "m"
  split
  · next h =>
    simp only [decide_eq_true_eq] at h
    have hk : k ≠ 0 := by walk_at "o"
    refine XS_cons ?_
    refine X_appendI ?_
    repeat walk_at "m"
    refine ⟨r, rfl, ⟨_, upd_self _ _ _⟩, ?_⟩
    repeat walk_at "m"
    refine BOP_pow (by walk_at "o") hbits ?_
    rw [hbn]
    refine BOP_emod (by walk_at "o") ?_
    refine ⟨_, _, rfl, upd_self _ _ _, by walk_at "o", ?_⟩
    repeat walk_at "m"
    refine BOP_pow (by walk_at "o") hbits ?_
    rw [hbn]
    refine BOP_div (by walk_at "o") (by have := H.top; omega) ?_
    repeat walk_at "m"
    rw [upd_upd]
    refine ⟨[("found", .ref r), ("number", .int ((k / b : Nat) : Int)), ("w", .int w)], _, ⟨rfl, rfl, rfl, trivial⟩, Le.refl _, k / b, Nat.div_lt_self (by walk_at "o") (by walk_at "o"), zs ++ [((k % b : Nat) : Int)], rfl, rfl, ?_⟩
    rw [← hz, lb_pos hb hk, List.append_assoc]; rfl
  · next h =>
    simp only [decide_eq_true_eq] at h
    have hk : k = 0 := by walk_at "o"
    subst hk
    rw [lb_zero, List.append_nil] at hz
    refine XS_cons ?_
    repeat walk_at "m"
    exact ⟨_, Le.refl _, Le.fresh (Le.refl _) _ hr, r, rfl, by rw [upd_self, hz]⟩

theorem fn_number {w b n : Nat} (H : Base w b) (hn : n ≤ 1000) :
    FN G 2 (G.fa "_law_number") [.int n, .int w] σ fun u σ' => Le σ σ' ∧ ∃ t, u = .ref t ∧ Num σ' b t n := by
  refine FN_of ["number", "w"] 33 D33 (by decide) ?_ (by decide +kernel) (by rfl) (by rfl) (by rfl) (by decide +kernel) ?_
  · intro vs hvs pm cd doc
    obtain ⟨v, v', rfl, hv⟩ := are2 hvs
    rfl
  intro A L f cd hh room units hL
  refine XS_cons ?_
  refine X_retL ?_
  refine EV_tup ?_
  refine EVs_cons ?_
  refine EV_bool ?_
  refine EVs_cons ?_
  refine EV_calln (by decide +kernel) (by rfl) ?_
  repeat walk_at "m"
  refine (fn_limbs H hn).use (Nat.le_of_ble_eq_true rfl) ?_
  rintro _ σ₁ ⟨hle, r, rfl, hr⟩
  repeat walk_at "m"
  refine ⟨by simp, fun t ht => ?_⟩
  exact ⟨_, Le.refl _, hle.more ht, t, rfl, r, upd_self _ _ _, by rw [upd_ne (ne_of_none hr ht)]; exact hr⟩

theorem fn_worth {a : Addr} {w b n : Nat} (H : Base w b) (ha : σ a = some (LI (lb b n))) (hn : n ≤ 1000) :
    FN G 1 (G.fa "_law_worth") [.ref a, .int w] σ fun u σ' => Le σ σ' ∧ u = .int n := by
  have hb := H.two
  have hw := H.hw'
  have hb' := H.top
  have hbn : (2 : Int) ^ ((w : Int).toNat) = (b : Int) := by rw [Int.toNat_natCast, H.hbw]
  have hbits : (Builtin.Int.intBits 2 : Int) * w ≤ 2 ^ 27 := by
    have : (Builtin.Int.intBits 2 : Int) = 2 := by decide +kernel
    rw [this]
    omega
  refine FN_of ["limbs", "w"] 31 D31 (by decide) ?_ (by decide +kernel) (by rfl) (by rfl) (by rfl) (by decide +kernel) ?_
  · intro vs hvs pm cd doc
    obtain ⟨v, v', rfl, hv⟩ := are2 hvs
    rfl
  intro A L f cd hh room units hL
  have l1 := lb_short (n := n) H.eight hn
  have d1 := lb_dig hb n
  refine XS_cons ?_
  refine X_assign (by rfl) ?_
  refine EV_int ?_
  refine XS_cons ?_
  refine X_forList (by rfl) ?_
  refine EV_rev ?_
  repeat walk_at "m"
  refine ⟨1, rfl, a, true, _, rfl, rfl, ha, by rw [nums_length]; omega, fun r hr => ?_⟩
  rw [nums_reverse]
  have har : a ≠ r := ne_of_none ha hr
  refine ⟨r, _, nums (lb b n).reverse, fun i μ σ'' => σ'' = upd σ r (LI (lb b n).reverse) ∧ ∃ wo : Int, μ = ([("worth", .int wo), ("w", .int w)] : Mu) ∧ wo = val b ((lb b n).drop ((lb b n).length - i)) ∧ 0 ≤ wo ∧ wo ≤ 1000, rfl, upd_self _ _ _, ?_, ?_, ?_, ?_⟩
  · exact ⟨[("worth", .int 0), ("w", .int w)], _, ⟨rfl, rfl, trivial⟩, Le.refl _, rfl, 0, rfl, by simp [val], by walk_at "o", by walk_at "o"⟩
  · rintro i μ σ'' ⟨rfl, _⟩
    exact ⟨true, upd_self _ _ _⟩
  · rintro i μ σ'' u hu ⟨rfl, wo, rfl, hwo, w0, w1⟩
    obtain ⟨x, hx, rfl⟩ := nums_get' hu
    have hi := (List.getElem?_eq_some_iff.mp hx).1
    rw [List.length_reverse] at hi
    rw [List.getElem?_reverse hi] at hx
    have hs1 : (lb b n).length - (i + 1) = (lb b n).length - 1 - i := by walk_at "o"
    have hs2 : (lb b n).length - i = (lb b n).length - 1 - i + 1 := by walk_at "o"
    have hv := val_drop (b : Int) hx
    rw [← hs2, ← hwo] at hv
    have hle : val b ((lb b n).drop ((lb b n).length - 1 - i)) ≤ 1000 := by
      rw [val_drop_div hb]
      have : n / b ^ ((lb b n).length - 1 - i) ≤ n := Nat.div_le_self _ _
      omega
    have hge := val_nonneg (b := b) (by walk_at "o") (d1.drop ((lb b n).length - 1 - i))
    refine XS_cons ?_
    repeat walk_at "m"
    refine BOP_pow (by walk_at "o") hbits ?_
    rw [hbn]
    refine BOP_mulS (by walk_at "o") (by walk_at "o") ?_
    repeat walk_at "m"
    refine ⟨[("worth", .int (wo * b + x)), ("w", .int w)], _, ⟨rfl, rfl, trivial⟩, Le.refl _, rfl, wo * b + x, rfl, ?_, ?_, ?_⟩
    · rw [hs1, hv]; grind
    · have : wo * b + x = val b ((lb b n).drop ((lb b n).length - 1 - i)) := by rw [hv]; grind
      omega
    · have : wo * b + x = val b ((lb b n).drop ((lb b n).length - 1 - i)) := by rw [hv]; grind
      omega
  rintro μ σ'' ⟨rfl, wo, rfl, hwo, _, _⟩
  rw [nums_length, List.length_reverse, Nat.sub_self, List.drop_zero, lb_val hb] at hwo
  refine XS_cons ?_
  repeat walk_at "m"
  exact ⟨_, Le.refl _, Le.fresh (Le.refl _) _ hr, by rw [hwo]⟩

theorem fn_counted {n m a b : Nat} (hn : n ≤ 1000) (hm : 0 < m) (hm' : m ≤ 1000) (ha : a ≤ 100000) :
    FN G 1 (G.fa "_law_counted_under") [.int n, .int m, .int a, .int b] σ fun u σ' => Le σ σ' ∧ u = .int (cnt n m a b) := by
  refine FN_ofC ["n", "m", "a", "b"] 32 D32 (by decide) ?_ (by decide +kernel) (by rfl) (by rfl) (by rfl) ?_
  · intro vs hvs pm cd doc
    obtain ⟨v, v', v'', v3, rfl, hv⟩ := are4 hvs
    rfl
  intro A L f cd hh room units hL
  refine XS_cons ?_
  refine X_retL ?_
  refine EV_sum (by rfl) ?_
  refine EV_comp_range ([("a", .int a), ("b", .int b), ("m", .int m)] : Mu) (by rfl) (by rfl) (by decide +kernel) (by decide +kernel) (by rfl) (by rfl) (by rfl) ?_ ?_
  · intro p hp
    rcases List.mem_cons.mp hp with rfl | hp
    · exact ⟨rfl, rfl, rfl, rfl⟩
    rcases List.mem_cons.mp hp with rfl | hp
    · exact ⟨rfl, rfl, rfl, rfl⟩
    rcases List.mem_cons.mp hp with rfl | hp
    · exact ⟨rfl, rfl, rfl, rfl⟩
    · cases hp
  repeat walk_at "m"
  refine ⟨_, fun i => .int (((a * i + b) / m : Nat) : Int), rfl, by walk_at "o", by walk_at "o", ?_, ?_⟩
  · intro i X hX hi
    repeat walk_at "m"
    refine BOP_mulS (by walk_at "o") (by walk_at "o") ?_
    repeat walk_at "m"
    refine BOP_div (by walk_at "o") (by walk_at "o") ?_
    refine ⟨?_, Le.refl _⟩
    push_cast
    rfl
  intro r hr
  refine ⟨r, true, (List.range n).map fun i => (((a * i + b) / m : Nat) : Int), rfl, ?_, ?_⟩
  · rw [upd_self, Int.toNat_natCast]
    simp [nums]
  refine ⟨_, Le.refl _, Le.fresh (Le.refl _) _ hr, ?_⟩
  rw [cnt_cast]

theorem fn_plain {p : Addr} {w b : Nat} {xs : List AV} {ns : List Nat} (H : Base w b) (hp : σ p = some (.lst true xs)) (hl : xs.length = ns.length) (hl' : ns.length ≤ 1000) (hx : ∀ i, i < ns.length → ∃ x, xs.getD i .none = .ref x ∧ Num σ b x (ns.getD i 0) ∧ ns.getD i 0 ≤ 1000) :
    FN G 2 (G.fa "_law_plain") [.ref p, .int w] σ fun u σ' => Le σ σ' ∧ ∃ r, u = .ref r ∧ σ' r = some (LI (ns.map fun n => ((n : Nat) : Int))) := by
  refine FN_ofC ["some", "w"] 34 D34 (by decide) ?_ (by decide +kernel) (by rfl) (by rfl) (by rfl) ?_
  · intro vs hvs pm cd doc
    obtain ⟨v, v', rfl, hv⟩ := are2 hvs
    rfl
  intro A L f cd hh room units hL
  refine XS_cons ?_
  refine X_retL ?_
  refine EV_comp_list ([("w", .int w)] : Mu) (by rfl) (by decide +kernel) (by decide +kernel) (by rfl) (by rfl) (by rfl) ?_ ?_
  · intro p hp
    rcases List.mem_cons.mp hp with rfl | hp
    · exact ⟨rfl, rfl, rfl, rfl⟩
    · cases hp
  repeat walk_at "m"
  refine ⟨p, true, xs, fun i => .int ((ns.getD i 0 : Nat) : Int), rfl, hp, by walk_at "o", ?_, ?_⟩
  · intro i X hX hi
    obtain ⟨x, ex, ⟨l, hxt, hxl⟩, hn⟩ := hx i (by walk_at "o")
    rw [ex]
    refine EV_calln (by decide +kernel) (by rfl) ?_
    refine EVs_cons ?_
    refine EV_place ?_
    repeat walk_at "m"
    refine ⟨_, _, _, _, rfl, rfl, hxt, by walk_at "o", by walk_at "o", rfl, ?_⟩
    repeat walk_at "m"
    refine (fn_worth H hxl hn).use (Nat.le_of_ble_eq_true rfl) ?_
    rintro _ σ₁ ⟨hle, rfl⟩
    exact ⟨rfl, hle⟩
  intro r hr
  refine ⟨_, Le.refl _, Le.fresh (Le.refl _) _ hr, r, rfl, ?_⟩
  rw [upd_self]
  congr 2
  rw [hl]
  refine List.ext_getElem (by simp [nums]) fun i h1 h2 => ?_
  simp [nums, List.getD_eq_getElem?_getD]
  rw [List.getElem?_eq_getElem (by simpa [nums] using h2)]
  rfl
end
section
variable {G : GC} {σ : AH}
theorem D35 : (D 35).name = "_law_led" := by decide +kernel
theorem fn_led {w b n m a c : Nat} (H : Base w b) (hn0 : 0 < n) (hn : n ≤ 12) (hm0 : 0 < m) (hm : m < 24) (ha : a < 24) (hc : c < 24) (hdue : cnt n m a c ≤ 1000) :
    FN G 7 (G.fa "_law_led") [.int n, .int m, .int a, .int c, .int w] σ fun u σ' => Le σ σ' ∧ u = .int (cnt n m a c) := by
  have hb := H.two
  have hb8 := H.eight
  refine FN_of ["n", "m", "a", "b", "w"] 35 D35 (by decide) ?_ (by decide +kernel) (by rfl) (by rfl) (by rfl) (by decide +kernel) ?_
  · intro vs hvs pm cd doc
    obtain ⟨v, v', v'', v3, v4, rfl, hv⟩ := are5 hvs
    rfl
  intro A L f cd hh room units hL
  refine XS_cons ?_
  refine X_swap3 (by rfl) (by rfl) (by rfl) ?_
  refine EV_tup ?_
  refine EVs_cons ?_
  refine EV_calln (by decide +kernel) (by rfl) ?_
  repeat walk_at "m"
  refine (fn_counted (by walk_at "o") hm0 (by walk_at "o") (by walk_at "o")).use (Nat.le_of_ble_eq_true rfl) ?_
  rintro _ σ₁ ⟨hle1, rfl⟩
  refine EVs_cons ?_
  refine EV_calln (by decide +kernel) (by rfl) ?_
  repeat walk_at "m"
  refine (fn_number (n := 0) H (by walk_at "o")).use (Nat.le_of_ble_eq_true rfl) ?_
  rintro _ σ₂ ⟨hle2, T, rfl, hT⟩
  refine EVs_cons ?_
  refine EV_calln (by decide +kernel) (by rfl) ?_
  repeat walk_at "m"
  refine (fn_number (n := 1) H (by walk_at "o")).use (Nat.le_of_ble_eq_true rfl) ?_
  rintro _ σ₃ ⟨hle3, O, rfl, hO⟩
  have hT := hT.le hle3
  have hleA : Le σ σ₃ := (hle1.trans hle2).trans hle3
  repeat walk_at "m"
  refine ⟨by simp, fun t ht => ⟨_, _, _, _, rfl, upd_self _ _ _, ?_⟩⟩
  refine XS_forget (Le.fresh (Le.refl _) _ ht) (μ' := [("due", .int (cnt n m a c)), ("told", .ref T), ("one", .ref O), ("n", .int n), ("m", .int m), ("a", .int a), ("b", .int c), ("w", .int w)]) ⟨rfl, rfl, rfl, rfl, rfl, rfl, rfl, rfl, trivial⟩ ?_
  clear ht t
  refine XS_cons ?_
  refine X_unpack4 (by rfl) (by rfl) (by rfl) (by rfl) ?_
  refine EV_tup ?_
  refine EVs_cons ?_
  refine EV_calln (by decide +kernel) (by rfl) ?_
  repeat walk_at "m"
  refine (fn_number H (show n ≤ 1000 by walk_at "o")).use (Nat.le_of_ble_eq_true rfl) ?_
  rintro _ σ₄ ⟨hle4, N, rfl, hN⟩
  refine EVs_cons ?_
  refine EV_calln (by decide +kernel) (by rfl) ?_
  repeat walk_at "m"
  refine (fn_number H (show m ≤ 1000 by walk_at "o")).use (Nat.le_of_ble_eq_true rfl) ?_
  rintro _ σ₅ ⟨hle5, M, rfl, hM⟩
  refine EVs_cons ?_
  refine EV_calln (by decide +kernel) (by rfl) ?_
  repeat walk_at "m"
  refine (fn_number H (show a ≤ 1000 by walk_at "o")).use (Nat.le_of_ble_eq_true rfl) ?_
  rintro _ σ₆ ⟨hle6, A', rfl, hA⟩
  refine EVs_cons ?_
  refine EV_calln (by decide +kernel) (by rfl) ?_
  repeat walk_at "m"
  refine (fn_number H (show c ≤ 1000 by walk_at "o")).use (Nat.le_of_ble_eq_true rfl) ?_
  rintro _ σ₇ ⟨hle7, B', rfl, hB⟩
  have hA := hA.le hle7
  have hM := hM.le (hle6.trans hle7)
  have hN := hN.le (hle5.trans (hle6.trans hle7))
  have hT := hT.le (hle4.trans (hle5.trans (hle6.trans hle7)))
  have hO := hO.le (hle4.trans (hle5.trans (hle6.trans hle7)))
  have hleB : Le σ σ₇ := hleA.trans (hle4.trans (hle5.trans (hle6.trans hle7)))
  repeat walk_at "m"
  refine ⟨by simp, fun t ht => ⟨_, _, _, _, _, rfl, upd_self _ _ _, ?_⟩⟩
  refine XS_forget (Le.fresh (Le.refl _) _ ht) (μ' := [("due", .int (cnt n m a c)), ("told", .ref T), ("one", .ref O), ("n", .ref N), ("m", .ref M), ("a", .ref A'), ("b", .ref B'), ("w", .int w)]) ⟨rfl, rfl, rfl, rfl, rfl, rfl, rfl, rfl, trivial⟩ ?_
  clear ht t
  generalize hd : cnt n m a c = due at *
  refine XS_cons ?_
  refine X_forRange (by rfl) (by rfl) ?_
  repeat walk_at "m"
  refine ⟨_, _, _, 12, fun i μ σ' => ∃ (T O N M A' B' : Addr) (to n m a c : Nat), Le σ σ' ∧ Num σ' b T to ∧ Num σ' b O 1 ∧ Num σ' b N n ∧ Num σ' b M m ∧ Num σ' b A' a ∧ Num σ' b B' c ∧
    μ = ([("due", .int due), ("told", .ref T), ("one", .ref O), ("n", .ref N), ("m", .ref M), ("a", .ref A'), ("b", .ref B'), ("w", .int w)] : Mu) ∧ to + cnt n m a c = due ∧ 0 < n ∧ n ≤ 12 ∧ 0 < m ∧ m < 24 ∧ a < 24 ∧ c < 24 ∧ ends (12 - i) m a = true, RangeArgs.one _, by walk_at "o", ?_, ?_, ?_, ?_⟩
  · rfl
  · exact ⟨[("due", .int due), ("told", .ref T), ("one", .ref O), ("n", .ref N), ("m", .ref M), ("a", .ref A'), ("b", .ref B'), ("w", .int w)], _, ⟨rfl, rfl, rfl, rfl, rfl, rfl, rfl, rfl, trivial⟩, Le.refl _, T, O, N, M, A', B', 0, n, m, a, c, hleB, hT, hO, hN, hM, hA, hB, rfl, by walk_at "o", hn0, hn, hm0, hm, ha, hc, ends_start hm0 hm⟩
  · clear hT hO hN hM hA hB hleB hleA hle1 hle2 hle3 hle4 hle5 hle6 hle7 hn0 hn hm0 hm ha hc hd
    rintro i μ σ' hi ⟨T, O, N, M, A', B', to, n, m, a, c, hle, hT, hO, hN, hM, hA, hB, rfl, hcnt, hn0, hn, hm0, hm, ha, hc, hends⟩
    have hred := cnt_reduce hm0 n a c
    have ham : a % m < m := Nat.mod_lt _ hm0
    have hcm : c % m < m := Nat.mod_lt _ hm0
    have hadiv : a / m ≤ a := Nat.div_le_self _ _
    have hcdiv : c / m ≤ c := Nat.div_le_self _ _
    have hflip := cnt_flip ham hcm n
    have hn1 : n * (n - 1) ≤ 12 * 12 := Nat.mul_le_mul hn (by walk_at "o")
    have hend : a % m * n ≤ 23 * 12 := Nat.mul_le_mul (by walk_at "o") hn
    have hnn : (a % m * n + c % m) / m ≤ n := by
      rw [Nat.div_le_iff_le_mul_add_pred hm0]
      have h1 : a % m * n ≤ (m - 1) * n := Nat.mul_le_mul_right _ (by walk_at "o")
      have h2 : m * n = (m - 1) * n + n := by
        obtain ⟨q, rfl⟩ : ∃ q, m = q + 1 := ⟨m - 1, by walk_at "o"⟩
        rw [Nat.add_sub_cancel]; grind
      omega
    have hrm : (a % m * n + c % m) % m < m := Nat.mod_lt _ hm0
    have hends' : ends (12 - (i + 1)) (a % m) m = true := by
      rw [show 12 - i = 12 - (i + 1) + 1 by walk_at "o"] at hends
      exact ends_turn hends hm0
    generalize hP : n * (n - 1) / 2 = P at *
    generalize hX : a / m * P = X at *
    generalize hY : c / m * n = Y at *
    have b1 : n ≤ 1000 := by omega
    have b2 : m < 64 := by omega
    have b3 : a ≤ 1000 := by omega
    have b4 : c ≤ 1000 := by omega
    have b5 : a / m ≤ 1000 := by omega
    have b6 : c / m ≤ 1000 := by omega
    have b7 : P ≤ 1000 := by omega
    have b8 : n * (n - 1) ≤ 1000 := by omega
    have b9 : a / m * P ≤ 1000 := by omega
    have b10 : c / m * n ≤ 1000 := by omega
    have b11 : to + X ≤ 1000 := by omega
    have b12 : to + X + Y ≤ 1000 := by omega
    have b13 : a % m * n ≤ 1000 := by omega
    have b14 : a % m ≤ 1000 := by omega
    have b15 : c % m ≤ 1000 := by omega
    have b16 : a % m * n + c % m ≤ 1000 := by omega
    have b17 : n - 1 ≤ 1000 := by omega
    have b18 : 1 ≤ n := hn0
    have b19 : m ≤ 1000 := by omega
    have b20 : a % m ≤ 100000 := by omega
    refine XS.via fun N' R' hN' hR' => ?_
    refine XS_cons ?_
    refine X_unpack2 (by rfl) (by rfl) ?_
    refine EV_calln (by decide +kernel) (by rfl) ?_
    repeat walk_at "m"
    refine EV_defn (by decide +kernel) (by rfl) ?_
    repeat walk_at "m"
    refine (fn_fdiv H hA hM (by walk_at "o") hm0 (by walk_at "o")).use (Nat.le_of_ble_eq_true rfl) ?_
    rintro _ σ₁ ⟨hle1, t, S, A2, rfl, ht, hS, hA2⟩
    refine ⟨t, _, _, rfl, ht, ?_⟩
    refine XS_forget (Le.refl _) (μ' := [("steep", .ref S), ("due", .int due), ("told", .ref T), ("one", .ref O), ("n", .ref N), ("m", .ref M), ("a", .ref A2), ("b", .ref B'), ("w", .int w)]) ⟨rfl, rfl, rfl, rfl, rfl, rfl, rfl, rfl, rfl, trivial⟩ ?_
    clear ht t
    have hT := hT.le hle1
    have hO := hO.le hle1
    have hN := hN.le hle1
    have hM := hM.le hle1
    have hB := hB.le hle1
    have hle := hle.trans hle1
    clear hA hle1
    refine XS_cons ?_
    refine X_unpack2 (by rfl) (by rfl) ?_
    refine EV_calln (by decide +kernel) (by rfl) ?_
    repeat walk_at "m"
    refine EV_defn (by decide +kernel) (by rfl) ?_
    repeat walk_at "m"
    refine (fn_fdiv H hB hM (by walk_at "o") hm0 (by walk_at "o")).use (Nat.le_of_ble_eq_true rfl) ?_
    rintro _ σ₂ ⟨hle1, t, Hi, B2, rfl, ht, hHi, hB2⟩
    refine ⟨t, _, _, rfl, ht, ?_⟩
    refine XS_forget (Le.refl _) (μ' := [("high", .ref Hi), ("steep", .ref S), ("due", .int due), ("told", .ref T), ("one", .ref O), ("n", .ref N), ("m", .ref M), ("a", .ref A2), ("b", .ref B2), ("w", .int w)]) ⟨rfl, rfl, rfl, rfl, rfl, rfl, rfl, rfl, rfl, rfl, trivial⟩ ?_
    clear ht t
    have hT := hT.le hle1
    have hO := hO.le hle1
    have hN := hN.le hle1
    have hM := hM.le hle1
    have hS := hS.le hle1
    have hA2 := hA2.le hle1
    have hle := hle.trans hle1
    clear hB hle1
    refine XS_cons ?_
    refine X_assign (by rfl) ?_
    refine EV_place ?_
    refine EV_calln (by decide +kernel) (by rfl) ?_
    refine EVs_cons ?_
    refine EV_calln (by decide +kernel) (by rfl) ?_
    repeat walk_at "m"
    refine EV_calln (by decide +kernel) (by rfl) ?_
    repeat walk_at "m"
    refine (fn_s_sub H hN hO (by walk_at "o") (by walk_at "o") (by walk_at "o")).use (Nat.le_of_ble_eq_true rfl) ?_
    rintro _ σ₃ ⟨hle1, t1, rfl, ht1⟩
    repeat walk_at "m"
    refine EV_defn (by decide +kernel) (by rfl) ?_
    repeat walk_at "m"
    refine (fn_s_mul H (hN.le hle1) ht1 (by walk_at "o") (by walk_at "o") (by walk_at "o")).use (Nat.le_of_ble_eq_true rfl) ?_
    rintro _ σ₄ ⟨hle2, t2, rfl, ht2⟩
    repeat walk_at "m"
    refine ⟨by simp, fun r hr => ?_⟩
    repeat walk_at "m"
    refine ⟨by simp, fun t3 ht3 => ?_⟩
    have hr3 : Num (upd (upd σ₄ r (.lst true [.int 2])) t3 (.tup [.bool false, .ref r])) b t3 2 := by
      refine ⟨r, upd_self _ _ _, ?_⟩
      rw [upd_ne (ne_of_none (upd_self _ _ _) ht3), upd_self, one_limb hb (by walk_at "o") (by walk_at "o")]
      rfl
    have hle3 : Le σ₂ (upd (upd σ₄ r (.lst true [.int 2])) t3 (.tup [.bool false, .ref r])) := ((hle1.trans hle2).more hr).more ht3
    have hf3 : Le σ₄ (upd (upd σ₄ r (.lst true [.int 2])) t3 (.tup [.bool false, .ref r])) := ((Le.refl σ₄).more hr).more ht3
    have ht2' := ht2.le hf3
    repeat walk_at "m"
    refine EV_defn (by decide +kernel) (by rfl) ?_
    repeat walk_at "m"
    refine (fn_fdiv H ht2' hr3 (by walk_at "o") (by walk_at "o") (by walk_at "o")).use (Nat.le_of_ble_eq_true rfl) ?_
    rintro _ σ₅ ⟨hle4, t, Pa, _, rfl, ht, hPa, _⟩
    rw [hP] at hPa
    repeat walk_at "m"
    refine ⟨_, _, _, _, rfl, rfl, ht, by walk_at "o", by walk_at "o", rfl, ?_⟩
    have hle1 := hle3.trans hle4
    have hT := hT.le hle1
    have hO := hO.le hle1
    have hN := hN.le hle1
    have hM := hM.le hle1
    have hS := hS.le hle1
    have hHi := hHi.le hle1
    have hA2 := hA2.le hle1
    have hB2 := hB2.le hle1
    have hle := hle.trans hle1
    clear hle1 hle2 hle3 hle4 ht ht1 ht2 ht2' hf3 hr3 hr ht3
    refine XS_cons ?_
    refine X_assign (by rfl) ?_
    refine EV_calln (by decide +kernel) (by rfl) ?_
    repeat walk_at "m"
    refine EV_calln (by decide +kernel) (by rfl) ?_
    repeat walk_at "m"
    refine EV_defn (by decide +kernel) (by rfl) ?_
    repeat walk_at "m"
    refine (fn_s_mul H hS hPa (by walk_at "o") (by walk_at "o") (by walk_at "o")).use (Nat.le_of_ble_eq_true rfl) ?_
    rintro _ σ₆ ⟨hle1, t, rfl, ht⟩
    rw [hX] at ht
    repeat walk_at "m"
    refine (fn_s_plus H (hT.le hle1) ht (by walk_at "o")).use (Nat.le_of_ble_eq_true rfl) ?_
    rintro _ σ₇ ⟨hle2, T2, rfl, hT2⟩
    have hle1 := hle1.trans hle2
    have hO := hO.le hle1
    have hN := hN.le hle1
    have hM := hM.le hle1
    have hHi := hHi.le hle1
    have hA2 := hA2.le hle1
    have hB2 := hB2.le hle1
    have hle := hle.trans hle1
    clear hle1 hle2 ht hT hS hPa
    refine XS_cons ?_
    refine X_assign (by rfl) ?_
    refine EV_calln (by decide +kernel) (by rfl) ?_
    repeat walk_at "m"
    refine EV_calln (by decide +kernel) (by rfl) ?_
    repeat walk_at "m"
    refine EV_defn (by decide +kernel) (by rfl) ?_
    repeat walk_at "m"
    refine (fn_s_mul H hHi hN (by walk_at "o") (by walk_at "o") (by walk_at "o")).use (Nat.le_of_ble_eq_true rfl) ?_
    rintro _ σ₈ ⟨hle1, t, rfl, ht⟩
    rw [hY] at ht
    repeat walk_at "m"
    refine (fn_s_plus H (hT2.le hle1) ht (by walk_at "o")).use (Nat.le_of_ble_eq_true rfl) ?_
    rintro _ σ₉ ⟨hle2, T3, rfl, hT3⟩
    have hle1 := hle1.trans hle2
    have hO := hO.le hle1
    have hN := hN.le hle1
    have hM := hM.le hle1
    have hA2 := hA2.le hle1
    have hB2 := hB2.le hle1
    have hle := hle.trans hle1
    clear hle1 hle2 ht hT2 hHi
    refine XS_forget (Le.refl _) (μ' := [("due", .int due), ("told", .ref T3), ("one", .ref O), ("n", .ref N), ("m", .ref M), ("a", .ref A2), ("b", .ref B2), ("w", .int w)]) ⟨rfl, rfl, rfl, rfl, rfl, rfl, rfl, rfl, trivial⟩ ?_
    have hto : to + X + Y + cnt n m (a % m) (c % m) = due := by walk_at "o"
    generalize hto' : to + X + Y = to' at *
    refine XS_cons ?_
    refine X_assign (by rfl) ?_
    refine EV_calln (by decide +kernel) (by rfl) ?_
    repeat walk_at "m"
    refine ⟨by simp, fun r hr => ?_⟩
    have hf : Le σ₉ (upd σ₉ r (.lst true [.ref T3, .ref N, .ref M, .ref A2, .ref B2])) := Le.fresh (Le.refl _) _ hr
    repeat walk_at "m"
    refine (fn_plain (ns := [to', n, m, a % m, c % m]) H (upd_self _ _ _) rfl (by simp) ?_).use (Nat.le_of_ble_eq_true rfl) ?_
    · intro i hi
      match i, hi with
      | 0, _ => exact ⟨T3, rfl, hT3.le hf, show to' ≤ 1000 by walk_at "o"⟩
      | 1, _ => exact ⟨N, rfl, hN.le hf, show n ≤ 1000 by walk_at "o"⟩
      | 2, _ => exact ⟨M, rfl, hM.le hf, show m ≤ 1000 by walk_at "o"⟩
      | 3, _ => exact ⟨A2, rfl, hA2.le hf, show a % m ≤ 1000 by walk_at "o"⟩
      | 4, _ => exact ⟨B2, rfl, hB2.le hf, show c % m ≤ 1000 by walk_at "o"⟩
    rintro _ σ₁₀ ⟨hle1, pl, rfl, hpl⟩
    simp only [List.map_cons, List.map_nil] at hpl
    have hle1 := hf.trans hle1
    have hO := hO.le hle1
    have hT3 := hT3.le hle1
    have hN := hN.le hle1
    have hM := hM.le hle1
    have hA2 := hA2.le hle1
    have hB2 := hB2.le hle1
    have hle := hle.trans hle1
    clear hle1 hf hr
    refine XS_cons ?_
    refine X_if ?_
    refine ET_cmp ?_
    refine EV_bin ?_
    refine EV_at ?_
    repeat walk_at "m"
    refine ⟨_, _, _, (to' : Int), rfl, rfl, hpl, by walk_at "o", by walk_at "o", rfl, ?_⟩
    refine EV_calln (by decide +kernel) (by rfl) ?_
    refine EVs_cons ?_
    refine EV_at ?_
    repeat walk_at "m"
    refine ⟨_, _, _, (n : Int), rfl, rfl, hpl, by walk_at "o", by walk_at "o", rfl, ?_⟩
    refine EVs_cons ?_
    refine EV_at ?_
    repeat walk_at "m"
    refine ⟨_, _, _, (m : Int), rfl, rfl, hpl, by walk_at "o", by walk_at "o", rfl, ?_⟩
    refine EVs_cons ?_
    refine EV_at ?_
    repeat walk_at "m"
    refine ⟨_, _, _, ((a % m : Nat) : Int), rfl, rfl, hpl, by walk_at "o", by walk_at "o", rfl, ?_⟩
    refine EVs_cons ?_
    refine EV_at ?_
    repeat walk_at "m"
    refine ⟨_, _, _, ((c % m : Nat) : Int), rfl, rfl, hpl, by walk_at "o", by walk_at "o", rfl, ?_⟩
    repeat walk_at "m"
    refine (fn_counted (by walk_at "o") hm0 (by walk_at "o") (by walk_at "o")).use (Nat.le_of_ble_eq_true rfl) ?_
    rintro _ σ₁₁ ⟨hle1, rfl⟩
    repeat walk_at "m"
    split
    · next h =>
      simp only [bne_iff_ne, ne_eq] at h
      omega
    have hO := hO.le hle1
    have hN := hN.le hle1
    have hM := hM.le hle1
    have hA2 := hA2.le hle1
    have hB2 := hB2.le hle1
    have hT3 := hT3.le hle1
    have hpl := hle1 _ _ hpl
    have hle := hle.trans hle1
    clear hle1
    refine XS_nil ?_
    refine XS_cons ?_
    refine X_assign (by rfl) ?_
    refine EV_calln (by decide +kernel) (by rfl) ?_
    refine EVs_cons ?_
    refine EV_calln (by decide +kernel) (by rfl) ?_
    repeat walk_at "m"
    refine EV_defn (by decide +kernel) (by rfl) ?_
    repeat walk_at "m"
    refine (fn_s_mul H hA2 hN (by walk_at "o") (by walk_at "o") (by walk_at "o")).use (Nat.le_of_ble_eq_true rfl) ?_
    rintro _ σ₁₂ ⟨hle1, t, rfl, ht⟩
    repeat walk_at "m"
    refine (fn_s_plus H ht (hB2.le hle1) (by walk_at "o")).use (Nat.le_of_ble_eq_true rfl) ?_
    rintro _ σ₁₃ ⟨hle2, E, rfl, hE⟩
    have hle1 := hle1.trans hle2
    have hO := hO.le hle1
    have hM := hM.le hle1
    have hA2 := hA2.le hle1
    have hT3 := hT3.le hle1
    have hpl := hle1 _ _ hpl
    have hle := hle.trans hle1
    clear hle1 hle2 ht hN hB2
    refine XS_cons ?_
    refine X_unpack2 (by rfl) (by rfl) ?_
    refine EV_calln (by decide +kernel) (by rfl) ?_
    repeat walk_at "m"
    refine EV_defn (by decide +kernel) (by rfl) ?_
    repeat walk_at "m"
    refine (fn_fdiv H hE hM (by walk_at "o") hm0 (by walk_at "o")).use (Nat.le_of_ble_eq_true rfl) ?_
    rintro _ σ₁₄ ⟨hle1, t, N2, B3, rfl, ht, hN2, hB3⟩
    refine ⟨t, _, _, rfl, ht, ?_⟩
    have hO := hO.le hle1
    have hM := hM.le hle1
    have hA2 := hA2.le hle1
    have hT3 := hT3.le hle1
    have hpl := hle1 _ _ hpl
    have hle := hle.trans hle1
    clear hle1 ht t hE
    refine XS_cons ?_
    refine X_swap2 (by rfl) (by rfl) ?_
    repeat walk_at "m"
    refine ⟨by simp, fun t ht => ⟨_, _, _, rfl, upd_self _ _ _, ?_⟩⟩
    refine XS_forget (Le.fresh (Le.refl _) _ ht) (μ' := [("plain", .ref pl), ("due", .int due), ("told", .ref T3), ("one", .ref O), ("n", .ref N2), ("m", .ref A2), ("a", .ref M), ("b", .ref B3), ("w", .int w)]) ⟨rfl, rfl, rfl, rfl, rfl, rfl, rfl, rfl, rfl, trivial⟩ ?_
    clear ht t
    obtain ⟨ln, hN2t, hN2l⟩ := id hN2
    refine XS_cons ?_
    refine X_if ?_
    refine ET_cmp ?_
    repeat walk_at "m"
    refine ⟨by simp, fun e he => ?_⟩
    repeat walk_at "m"
    refine ⟨by simp, fun t ht => ?_⟩
    have hg : Le σ₁₄ (upd (upd σ₁₄ e (.lst true [])) t (.tup [.bool false, .ref e])) := ((Le.refl _).more he).more ht
    refine COP_eq_nought (hg _ _ hN2t) (upd_self _ _ _) (hg _ _ hN2l) (by rw [upd_ne (ne_of_none (upd_self _ _ _) ht), upd_self]) (ne_of_none hN2l he) ?_
    refine asB ?_
    split
    · next h =>
      have h0 : (a % m * n + c % m) / m = 0 := by
        rw [← lb_nil hb]
        cases hl : lb b ((a % m * n + c % m) / m) with
        | nil => rfl
        | cons q l => rw [hl] at h; simp [nums] at h
      rw [h0, cnt_zero] at hflip
      refine XS_cons ?_
      refine X_retL ?_
      refine EV_at ?_
      repeat walk_at "m"
      refine ⟨_, _, _, (to' : Int), rfl, rfl, hg _ _ hpl, by walk_at "o", by walk_at "o", rfl, ?_⟩
      refine ⟨_, Le.refl _, hR' _ _ ⟨hle.trans hg, ?_⟩⟩
      congr 1
      omega
    · next h =>
      have h0 : (a % m * n + c % m) / m ≠ 0 := by
        intro q
        rw [q, lb_zero] at h
        simp [nums] at h
      have ha0 : 0 < a % m := by
        rcases Nat.eq_zero_or_pos (a % m) with q | q
        · rw [q, Nat.zero_mul, Nat.zero_add, Nat.div_eq_of_lt hcm] at h0
          exact absurd rfl h0
        · exact q
      repeat walk_at "m"
      exact hN' _ _ ⟨[("due", .int due), ("told", .ref T3), ("one", .ref O), ("n", .ref N2), ("m", .ref A2), ("a", .ref M), ("b", .ref B3), ("w", .int w)], _, ⟨rfl, rfl, rfl, rfl, rfl, rfl, rfl, rfl, trivial⟩, hg, T3, O, N2, A2, M, B3, to', _, _, _, _, hle, hT3, hO, hN2, hA2, hM, hB3, rfl, by walk_at "o", Nat.pos_of_ne_zero h0, Nat.le_trans hnn hn, ha0, Nat.lt_trans ham hm, hm, Nat.lt_trans hrm hm, hends'⟩
  · rintro μ σ' ⟨T, O, N, M, A', B', to, n, m, a, c, _, _, _, _, _, _, _, _, _, _, _, hm0, _, _, _, hends⟩
    exfalso
    unfold ends at hends
    simp at hends
    omega
end
/-- the primes below and the odd numbers above -/
def pOf (v : Nat) : Nat := ([3, 5, 7, 11, 13, 17] : List Nat).getD v 3
theorem pOf_at : ∀ v, v < 6 → ([3, 5, 7, 11, 13, 17] : List Int)[v]? = some ((pOf v : Nat) : Int) := by decide
theorem pOf_le : ∀ v, v < 6 → 3 ≤ pOf v ∧ pOf v ≤ 17 ∧ pOf v % 2 = 1 := by decide
theorem tail_ok : ∀ v, v < 6 → ∀ u, u < 11 →
    ((3 + 2 * u) % pOf v = 0 → jac 30 ((3 + 2 * u) % pOf v) (pOf v) = 0) ∧
    ((3 + 2 * u) % pOf v ≠ 0 → jac 30 ((3 + 2 * u) % pOf v) (pOf v) = 1 - 2 * (((cnt ((pOf v + 1) / 2) (pOf v) (3 + 2 * u) 0 : Nat) : Int) % 2) ∧
      cnt ((pOf v + 1) / 2) (pOf v) (3 + 2 * u) 0 + cnt ((3 + 2 * u + 1) / 2) (3 + 2 * u) (pOf v) 0 = (pOf v - 1) / 2 * ((3 + 2 * u - 1) / 2) ∧
      cnt ((3 + 2 * u + 1) / 2) (3 + 2 * u) (pOf v) 0 ≤ 1000) := by decide +kernel
theorem base_of {v : Nat} (hv : v < 6) : Base (3 + v) (2 ^ (3 + v)) := ⟨by walk_at "o", by walk_at "o", by push_cast; rfl⟩
theorem ET.eqle {G : GC} {C : FC G} {μ : Mu} {σ : AH} {e : Expr} {Q : Bool → AH → Prop} (v : Bool) (h : ET G C e μ σ fun u σ₁ => Le σ σ₁ ∧ u = v) (hq : ∀ σ₁, Le σ σ₁ → Q v σ₁) : ET G C e μ σ Q :=
  h.mono fun u σ₁ ⟨e1, e2⟩ => by subst e2; exact hq _ e1
section
variable {G : GC} {σ : AH}
theorem D36 : (D 36).name = "law" := by decide +kernel
theorem law_body {a : Addr} {ns : List Int} (ha : σ a = some (.lst false (nums ns))) (hlen : ns.length ≤ 1000) {A : Around} {L f : Addr} {cd : Value} {hh : A.handled = none} {hk : (D 36).scope.kind = .function} {room : Hid (A.depth + 7 < recursionLimit)} {units : Hid (A.units + 20 * 7 + 40 < cLine)} {hL : G.B.get? L = none} :
    XS G (mkC G (D 36).name (D 36).scope A L f cd 7 hh hk room units hL) (D 36).body ([("script", .ref a)] : Mu) σ (fun _ _ => False) (fun u _ => u = AV.bool true) := by
  refine XS_cons ?_
  refine X_assign (by rfl) ?_
  refine EV_list ?_
  refine EVs_cons ?_
  refine EV_int ?_
  refine EVs_cons ?_
  refine EV_comp_list ([] : Mu) (by rfl) (by decide +kernel) (by decide +kernel) (by rfl) (by rfl) (by rfl) ?_ ?_
  · intro p hp
    cases hp
  refine EV_slice ?_
  repeat walk_at "m"
  refine ⟨_, rfl, ?_⟩
  refine ⟨a, _, _, rfl, ha, by rw [nums_length]; omega, fun r hr => ?_⟩
  rw [picked_nums, pickedI_upto _ (by walk_at "o")]
  have hl7 : (ns.take (7 : Int).toNat).length ≤ 7 := by rw [List.length_take]; exact Nat.min_le_left _ _
  generalize ns.take (7 : Int).toNat = bs at *
  refine ⟨r, true, nums bs, fun i => .int (let x := bs.getD i 0; if x < 0 then -x else x), rfl, upd_self _ _ _, by rw [nums_length]; omega, ?_, ?_⟩
  · intro i X hX hi
    rw [nums_length] at hi
    rw [show (nums bs).getD i .none = .int (bs.getD i 0) from by
      rw [List.getD_eq_getElem?_getD, nums_get (List.getElem?_eq_getElem hi), List.getD_eq_getElem?_getD, List.getElem?_eq_getElem hi]; rfl]
    refine EV_abs (by rfl) ?_
    refine EV_toInt (by rfl) ?_
    repeat walk_at "m"
    exact ⟨_, rfl, _, rfl, rfl, Le.refl _⟩
  intro bl hbl
  rw [show (List.range (nums bs).length).map (fun i => AV.int (let x := bs.getD i 0; if x < 0 then -x else x)) = nums ((List.range bs.length).map fun i => let x := bs.getD i 0; if x < 0 then -x else x) from by
    rw [nums_length]; simp [nums]]
  generalize hcs : ((List.range bs.length).map fun i => let x := bs.getD i 0; if x < 0 then -x else x) = cs
  have hcl : cs.length ≤ 7 := by rw [← hcs, List.length_map, List.length_range]; exact hl7
  have hcl' : cs.length ≤ 1000 := by omega
  generalize hσ : upd σ r (.lst true (nums bs)) = σ₁ at *
  repeat walk_at "m"
  refine ⟨by simp, fun p hp => ?_⟩
  have hpb : p ≠ bl := by rintro rfl; rw [upd_self] at hp; cases hp
  have hbl : upd (upd σ₁ bl (.lst true (nums cs))) p (.lst true [.int 0, .ref bl]) bl = some (LI cs) := by rw [upd_ne hpb.symm, upd_self]
  have hp : upd (upd σ₁ bl (.lst true (nums cs))) p (.lst true [.int 0, .ref bl]) p = some (.lst true [.int ((0 : Nat) : Int), .ref bl]) := upd_self _ _ _
  generalize upd (upd σ₁ bl (.lst true (nums cs))) p (.lst true [.int 0, .ref bl]) = σ₂ at *
  refine XS_cons ?_
  refine X_swap3 (by rfl) (by rfl) (by rfl) ?_
  refine EV_tup ?_
  refine EVs_cons ?_
  refine EV_bin ?_
  refine EV_int ?_
  refine EV_calln (by decide +kernel) (by rfl) ?_
  repeat walk_at "m"
  refine (fn_fenced hp hbl hpb (by walk_at "o") (by walk_at "o") (by walk_at "o")).use (Nat.le_of_ble_eq_true rfl) ?_
  rintro _ σ₃ ⟨hle, w, rfl, hw⟩
  have hp := hle _ _ (upd_self _ _ _)
  have hbl := hle _ _ (show upd σ₂ p _ bl = _ by rw [upd_ne hpb.symm]; exact hbl)
  repeat walk_at "m"
  refine EV_calln (by decide +kernel) (by rfl) ?_
  repeat walk_at "m"
  refine (fn_fenced hp hbl hpb (by walk_at "o") (by walk_at "o") (by walk_at "o")).use (Nat.le_of_ble_eq_true rfl) ?_
  rintro _ σ₄ ⟨hle, n, rfl, hn⟩
  have hp := hle _ _ (upd_self _ _ _)
  have hbl := hle _ _ (show upd σ₃ p _ bl = _ by rw [upd_ne hpb.symm]; exact hbl)
  repeat walk_at "m"
  refine EV_calln (by decide +kernel) (by rfl) ?_
  repeat walk_at "m"
  refine (fn_fenced hp hbl hpb (by walk_at "o") (by walk_at "o") (by walk_at "o")).use (Nat.le_of_ble_eq_true rfl) ?_
  rintro _ σ₅ ⟨hle, m, rfl, hm⟩
  have hp := hle _ _ (upd_self _ _ _)
  have hbl := hle _ _ (show upd σ₄ p _ bl = _ by rw [upd_ne hpb.symm]; exact hbl)
  repeat walk_at "m"
  refine ⟨by simp, fun t ht => ⟨_, _, _, _, rfl, upd_self _ _ _, ?_⟩⟩
  rw [show (3 : Int) + (w : Int) = ((3 + w : Nat) : Int) by walk_at "o", show (1 : Int) + (n : Int) = ((1 + n : Nat) : Int) by walk_at "o", show (1 : Int) + (m : Int) = ((1 + m : Nat) : Int) by walk_at "o"]
  have H : Base (3 + w) (2 ^ (3 + w)) := base_of (by walk_at "o")
  generalize (2 : Nat) ^ (3 + w) = b at H
  generalize (3 + w) = w at H ⊢
  refine XS_forget (Le.fresh (Le.refl _) _ ht) (μ' := [("w", .int w), ("n", .int ((1 + n : Nat) : Int)), ("m", .int ((1 + m : Nat) : Int)), ("post", .ref p)]) ⟨rfl, rfl, rfl, rfl, trivial⟩ ?_
  clear ht t
  refine XS_cons ?_
  refine X_swap2 (by rfl) (by rfl) ?_
  refine EV_tup ?_
  refine EVs_cons ?_
  refine EV_calln (by decide +kernel) (by rfl) ?_
  repeat walk_at "m"
  refine (fn_fenced hp hbl hpb (by walk_at "o") (by walk_at "o") (by walk_at "o")).use (Nat.le_of_ble_eq_true rfl) ?_
  rintro _ σ₆ ⟨hle, x, rfl, hx⟩
  have hp := hle _ _ (upd_self _ _ _)
  have hbl := hle _ _ (show upd σ₅ p _ bl = _ by rw [upd_ne hpb.symm]; exact hbl)
  repeat walk_at "m"
  refine EV_calln (by decide +kernel) (by rfl) ?_
  repeat walk_at "m"
  refine (fn_fenced hp hbl hpb (by walk_at "o") (by walk_at "o") (by walk_at "o")).use (Nat.le_of_ble_eq_true rfl) ?_
  rintro _ σ₇ ⟨hle, y, rfl, hy⟩
  have hp := hle _ _ (upd_self _ _ _)
  have hbl := hle _ _ (show upd σ₆ p _ bl = _ by rw [upd_ne hpb.symm]; exact hbl)
  repeat walk_at "m"
  refine ⟨by simp, fun t ht => ⟨_, _, _, rfl, upd_self _ _ _, ?_⟩⟩
  refine XS_forget (Le.fresh (Le.refl _) _ ht) (μ' := [("a", .int x), ("b", .int y), ("w", .int w), ("n", .int ((1 + n : Nat) : Int)), ("m", .int ((1 + m : Nat) : Int)), ("post", .ref p)]) ⟨rfl, rfl, rfl, rfl, rfl, rfl, trivial⟩ ?_
  clear ht t
  refine XS_cons ?_
  refine X_if ?_
  refine ET_cmp ?_
  refine EV_calln (by decide +kernel) (by rfl) ?_
  repeat walk_at "m"
  refine (fn_led H (by walk_at "o") (by walk_at "o") (by walk_at "o") (by walk_at "o") (by walk_at "o") (by walk_at "o") (cnt_bound (by walk_at "o") (by walk_at "o") (by walk_at "o"))).use (Nat.le_of_ble_eq_true rfl) ?_
  rintro _ σ₈ ⟨hle, rfl⟩
  have hp := hle _ _ hp
  have hbl := hle _ _ hbl
  refine EV_calln (by decide +kernel) (by rfl) ?_
  repeat walk_at "m"
  refine (fn_counted (by walk_at "o") (by walk_at "o") (by walk_at "o") (by walk_at "o")).use (Nat.le_of_ble_eq_true rfl) ?_
  rintro _ σ₉ ⟨hle, rfl⟩
  have hp := hle _ _ hp
  have hbl := hle _ _ hbl
  repeat walk_at "m"
  simp only [bne_self_eq_false, Bool.false_eq_true, if_false]
  refine XS_nil ?_
  refine XS_cons ?_
  refine X_swap2 (by rfl) (by rfl) ?_
  refine EV_tup ?_
  refine EVs_cons ?_
  refine EV_at ?_
  refine EV_listI ?_
  repeat walk_at "m"
  refine ⟨[3, 5, 7, 11, 13, 17], rfl, by simp, fun r6 hr6 => ?_⟩
  have hf := Le.fresh (Le.refl σ₉) (LI [3, 5, 7, 11, 13, 17]) hr6
  refine EV_calln (by decide +kernel) (by rfl) ?_
  repeat walk_at "m"
  refine (fn_fenced (hf _ _ hp) (hf _ _ hbl) hpb (by walk_at "o") (by walk_at "o") (by walk_at "o")).use (Nat.le_of_ble_eq_true rfl) ?_
  rintro _ σ₁₀ ⟨hle, v, rfl, hv⟩
  have hp6 := ne_of_none hp hr6
  have hr6' := hle _ _ (show upd (upd σ₉ r6 (LI [3, 5, 7, 11, 13, 17])) p _ r6 = _ by rw [upd_ne hp6.symm, upd_self])
  have hp := hle _ _ (upd_self _ _ _)
  have hbl := hle _ _ (show upd (upd σ₉ r6 (LI [3, 5, 7, 11, 13, 17])) p _ bl = _ by rw [upd_ne hpb.symm]; exact hf _ _ hbl)
  have hv6 : v < 6 := by walk_at "o"
  refine ⟨_, _, _, ((pOf v : Nat) : Int), rfl, rfl, hr6', by walk_at "o", by walk_at "o", by rw [Int.toNat_natCast]; exact pOf_at v hv6, ?_⟩
  repeat walk_at "m"
  refine EV_calln (by decide +kernel) (by rfl) ?_
  repeat walk_at "m"
  refine (fn_fenced hp hbl hpb (by walk_at "o") (by walk_at "o") (by walk_at "o")).use (Nat.le_of_ble_eq_true rfl) ?_
  rintro _ σ₁₁ ⟨hle, u, rfl, hu⟩
  refine BOP_mulS (by walk_at "o") (by walk_at "o") ?_
  repeat walk_at "m"
  have hu11 : u < 11 := by walk_at "o"
  obtain ⟨tail0, tail1⟩ := tail_ok v hv6 u hu11
  obtain ⟨p3, p17, podd⟩ := pOf_le v hv6
  have ecast : (3 : Int) + 2 * (u : Int) = ((3 + 2 * u : Nat) : Int) := by walk_at "o"
  rw [ecast]
  have hq : 3 + 2 * u ≤ 23 := by walk_at "o"
  have hqo : 3 ≤ 3 + 2 * u := by walk_at "o"
  generalize 3 + 2 * u = qq at *
  generalize pOf v = pp at *
  refine ⟨by simp, fun t ht => ⟨_, _, _, rfl, upd_self _ _ _, ?_⟩⟩
  refine XS_forget (Le.fresh (Le.refl _) _ ht) (μ' := [("p", .int pp), ("q", .int qq), ("w", .int w)]) ⟨rfl, rfl, rfl, trivial⟩ ?_
  clear ht t
  refine XS_cons ?_
  repeat walk_at "m"
  refine BOP_emod (by walk_at "o") ?_
  repeat walk_at "m"
  rw [show (qq : Int) % (pp : Int) = ((qq % pp : Nat) : Int) from rfl]
  split
  · next h =>
    simp only [beq_iff_eq] at h
    refine XS_cons ?_
    refine X_retL ?_
    refine EV_cmp ?_
    refine EV_calln (by decide +kernel) (by rfl) ?_
    refine EVs_cons ?_
    refine EV_calln (by decide +kernel) (by rfl) ?_
    repeat walk_at "m"
    refine (fn_limbs H (by walk_at "o")).use (Nat.le_of_ble_eq_true rfl) ?_
    rintro _ σ₁₂ ⟨hle1, l1, rfl, hl1⟩
    refine EVs_cons ?_
    refine EV_calln (by decide +kernel) (by rfl) ?_
    repeat walk_at "m"
    refine (fn_limbs H (by walk_at "o")).use (Nat.le_of_ble_eq_true rfl) ?_
    rintro _ σ₁₃ ⟨hle2, l2, rfl, hl2⟩
    repeat walk_at "m"
    refine EV_defn (by decide +kernel) (by rfl) ?_
    repeat walk_at "m"
    refine (fn_jacobi H (hle2 _ _ hl1) hl2 (by walk_at "o") (by walk_at "o") podd).use (Nat.le_of_ble_eq_true rfl) ?_
    rintro _ σ₁₄ ⟨hle3, rfl⟩
    repeat walk_at "m"
    rw [tail0 (by walk_at "o")]
    exact ⟨_, Le.refl _, rfl⟩
  next h =>
  simp only [beq_iff_eq] at h
  obtain ⟨tj, ts, tb⟩ := tail1 (by walk_at "o")
  have hcb : cnt ((pp + 1) / 2) pp qq 0 ≤ 1000 := cnt_bound (by walk_at "o") hq (by walk_at "o")
  refine XS_nil ?_
  refine XS_cons ?_
  refine X_assign (by rfl) ?_
  refine EV_calln (by decide +kernel) (by rfl) ?_
  repeat walk_at "m"
  refine BOP_div (by walk_at "o") (by walk_at "o") ?_
  rw [show ((pp : Int) + 1) / 2 = (((pp + 1) / 2 : Nat) : Int) by walk_at "o"]
  repeat walk_at "m"
  refine (fn_led (c := 0) H (by walk_at "o") (by walk_at "o") (by walk_at "o") (by walk_at "o") (by walk_at "o") (by walk_at "o") hcb).use (Nat.le_of_ble_eq_true rfl) ?_
  rintro _ σ₁₂ ⟨hle1, rfl⟩
  refine XS_cons ?_
  refine X_if ?_
  have ecmp : (1 : Int) - 2 * (((cnt ((pp + 1) / 2) pp qq 0 : Nat) : Int) % 2) = jac 30 (qq % pp) pp := tj.symm
  refine ET.eqle false ?_ ?_
  · refine ET_or2 ?_
    refine ET_cmp ?_
    repeat walk_at "m"
    refine COP_is_none ?_
    refine asB ?_
    rw [if_neg (by simp [AV.isNone])]
    refine ET_cmp ?_
    refine EV_calln (by decide +kernel) (by rfl) ?_
    refine EVs_cons ?_
    refine EV_calln (by decide +kernel) (by rfl) ?_
    repeat walk_at "m"
    refine (fn_limbs H (by walk_at "o")).use (Nat.le_of_ble_eq_true rfl) ?_
    rintro _ σ₁₃ ⟨hle1, l1, rfl, hl1⟩
    refine EVs_cons ?_
    refine EV_calln (by decide +kernel) (by rfl) ?_
    repeat walk_at "m"
    refine (fn_limbs H (by walk_at "o")).use (Nat.le_of_ble_eq_true rfl) ?_
    rintro _ σ₁₄ ⟨hle2, l2, rfl, hl2⟩
    repeat walk_at "m"
    refine EV_defn (by decide +kernel) (by rfl) ?_
    repeat walk_at "m"
    refine (fn_jacobi H (hle2 _ _ hl1) hl2 (by walk_at "o") (by walk_at "o") podd).use (Nat.le_of_ble_eq_true rfl) ?_
    rintro _ σ₁₅ ⟨hle3, rfl⟩
    repeat walk_at "m"
    refine BOP_emod (by walk_at "o") ?_
    refine BOP_mulS (by walk_at "o") (by walk_at "o") ?_
    repeat walk_at "m"
    rw [ecmp]
    refine ⟨(hle1.trans hle2).trans hle3, ?_⟩
    simp
  intro σ₁₃ hle2
  simp only [Bool.false_eq_true, if_false]
  refine XS_nil ?_
  refine XS_cons ?_
  refine X_assign (by rfl) ?_
  refine EV_calln (by decide +kernel) (by rfl) ?_
  repeat walk_at "m"
  refine BOP_div (by walk_at "o") (by walk_at "o") ?_
  rw [show ((qq : Int) + 1) / 2 = (((qq + 1) / 2 : Nat) : Int) by walk_at "o"]
  repeat walk_at "m"
  refine (fn_led (c := 0) H (by walk_at "o") (by walk_at "o") (by walk_at "o") (by walk_at "o") (by walk_at "o") (by walk_at "o") tb).use (Nat.le_of_ble_eq_true rfl) ?_
  rintro _ σ₁₄ ⟨hle3, rfl⟩
  refine XS_cons ?_
  refine X_retL ?_
  refine EV_and2 ?_
  refine EV_cmp ?_
  repeat walk_at "m"
  refine COP_isnot_none ?_
  refine asB ?_
  rw [if_pos (by simp [AV.isNone])]
  refine EV_cmp ?_
  repeat walk_at "m"
  refine BOP_div (by walk_at "o") (by walk_at "o") ?_
  repeat walk_at "m"
  refine BOP_div (by walk_at "o") (by walk_at "o") ?_
  refine BOP_mulS (by walk_at "o") (by walk_at "o") ?_
  repeat walk_at "m"
  refine ⟨_, Le.refl _, ?_⟩
  have e1 : ((pp : Int) - 1) / 2 = (((pp - 1) / 2 : Nat) : Int) := by walk_at "o"
  have e2 : ((qq : Int) - 1) / 2 = (((qq - 1) / 2 : Nat) : Int) := by walk_at "o"
  rw [e1, e2, ← Int.natCast_mul, ← ts, Int.natCast_add]
  simp
end
theorem ints_are {vs : List Value} {ns : List Int} (h : IntsAre vs ns) : Are (nums ns) vs := by
  induction h with
  | nil => trivial
  | cons i t _ ih => exact ⟨⟨t, rfl⟩, ih⟩
theorem law_end {w : World} {s₁ : Shared} {p PR : Program} {loose : List Str} {mean : ExcName → Option Value} {mg mb : Str → Option Value} (T : Top p loose mean mg mb s₁.heap)
    (hdefs : recsOf p = theDefs) (hfree : ∀ x ∈ (["len", "range", "sum", "abs", "int", "min", "enumerate"] : List Str), x ∉ startupNames ∧ x ∉ loose ∧ x ∉ (recsOf p).map (·.name) ∧ x ∉ (litsOf p).map (·.1) ∧ x ∉ (clssOf p loose).map (·.name))
    {fa : Addr} {cd : Value} {a : Addr} {vs : List Value} {ns : List Int} (hL : s₁.heap.IsList a vs.toArray) (hI : IntsAre vs ns) (hlen : ns.length ≤ 1000)
    {h₁ : Heap} {m : Str → Option Value} (F : Fr s₁.heap s₁.heap.objs.size h₁ m) (hm : m "script" = some (.ref a))
    {name : Str} {scope : Scope} {body : List Stmt} (hn : name = (D 36).name) (hs : scope = (D 36).scope) (hb : body = (D 36).body)
    {tk : Nat} {K : Flow → Shared → Prop} {E : Value → Shared → Prop}
    (hK : ∀ s' : Shared, (∀ b o, s₁.heap.get? b = some o → s'.heap.get? b = some o) → s'.os = s₁.os → s'.gens = s₁.gens → K (.ret (.bool true)) s') :
    wpAny (model PR w) (callerA.deeper (envOf name scope s₁.heap.objs.size fa cd)) (execs body (envOf name scope s₁.heap.objs.size fa cd)) K E
      { heap := h₁, gens := s₁.gens, drawn := s₁.drawn, toks := tk, os := s₁.os } := by
  subst hn hs hb
  let G : GC := { prog := PR, w := w, B := s₁.heap, mg := mg, mb := mb, g := T.g, b := T.b, nolimit := T.nolimit, builtins := T.builtins, fn := fun d hd => T.fn d (by rw [hdefs]; exact hd), free := fun x hx => T.free x (hfree x hx).1 (hfree x hx).2.1 (hfree x hx).2.2.1 (hfree x hx).2.2.2.1 (hfree x hx).2.2.2.2 }
  have hLn : G.B.get? s₁.heap.objs.size = none := by
    cases q : s₁.heap.get? s₁.heap.objs.size with
    | none => rfl
    | some o => exact absurd (Heap.lt_size q) (Nat.lt_irrefl _)
  obtain ⟨o, ho, hcls, n, hdat⟩ := hL
  let σ : AH := fun x => if x = a then some (.lst false (nums ns)) else none
  have hσ : σ a = some (.lst false (nums ns)) := if_pos rfl
  have hr : (callerA.deeper (envOf (D 36).name (D 36).scope s₁.heap.objs.size fa cd)).depth + 7 < recursionLimit := by show 302 + 7 < recursionLimit; decide
  have hu : (callerA.deeper (envOf (D 36).name (D 36).scope s₁.heap.objs.size fa cd)).units + 20 * 7 + 40 < cLine := by show 7 + 20 * 7 + 40 < cLine; decide
  have B := law_body (G := G) (σ := σ) hσ hlen (A := callerA.deeper (envOf (D 36).name (D 36).scope s₁.heap.objs.size fa cd)) (L := s₁.heap.objs.size) (f := fa) (cd := cd) (hh := rfl) (hk := by rfl) (room := hr) (units := hu) (hL := hLn)
  refine wpAny_mono (B { heap := h₁, gens := s₁.gens, drawn := s₁.drawn, toks := tk, os := s₁.os } ⟨⟨F.keep, fun x ao q => ?_⟩, ⟨_, F.ns⟩, fun x u q => ?_⟩) (fun f s' q => ?_) fun _ _ e => e.elim
  · have q : (if x = a then some (AO.lst false (nums ns)) else none) = some ao := q
    by_cases e : x = a
    · subst e
      rw [if_pos rfl] at q
      cases q
      obtain ⟨c, d, dt, sl⟩ := o
      simp only at hcls hdat
      subst hcls hdat
      exact ⟨vs, n, d, sl, ints_are hI, F.keep _ _ ho, fun h => by cases h⟩
    · rw [if_neg e] at q
      cases q
  · unfold lk at q
    split at q
    · next e =>
      subst e
      cases q
      exact ⟨by decide, _, rfl, .inl ⟨by rfl, _, F.ns, hm⟩⟩
    · cases q
  · rcases q with ⟨_, _, _, h, _⟩ | ⟨v, u, σ', rfl, hu, rfl, S, _, hsame⟩
    · exact h.elim
    · obtain ⟨h', t', rfl⟩ := hsame
      cases hu
      exact hK _ S.stay rfl rfl
end Mine
set_option maxRecDepth 100000 in
set_option maxHeartbeats 8000000 in
theorem PySem.Challenge.cw_xm0409_01_holds : PySem.Challenge.rw_xm0409_01.Holds := by
  w_on; o_law; o_head Hook.none; (case hw => w_witness2)
  intro w s₀ s₁ mg mb G Y fa o pm cd doc dV kV ho hd hcd hD hmg hg args vals as hpre hlay hrd hwl hlo
  refine Ground.open G ?_
  intro T B Dd TE TW
  have TA := at_of_top T
  clear hmg
  wrow_args hpre hlay hrd hwl hlo
  refine enter_call ?_
  try refine codeAny_mono ?_ (fun _ _ g => GoodW.toG g)
  have K0 := below_caller (Top.heap T)
  w_call any ho hd hcd hD T F
  with_reducible rename IntsAre _ _ => hI
  with_reducible rename Heap.IsList _ _ _ => hL
  with_reducible rename Fr _ _ _ _ => hF
  refine Mine.law_end T (by with_unfolding_all rfl) (by decide +kernel) hL hI ?_ hF (by rfl) (by with_unfolding_all rfl) (by with_unfolding_all rfl) (by with_unfolding_all rfl) ?_
  · omega
  · intro s' h1 h2 h3
    refine ⟨.inl ⟨.bool true, .bool true, [], rfl, raisesW_false (by wrow_none_raised), .bool true, by wrow_post, unshared_nil⟩, h1, h2, ?_⟩
    rw [h3]
    assumption
