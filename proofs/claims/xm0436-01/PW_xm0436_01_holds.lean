import PyProof.Rows.All
import Wide.All
import OpenK.AllK
import Wide.FinOn
import Lean
import PySem.Challenge.RW_xm0436_01
open PySem PySem.W PyProof.Rows
set_option Elab.async false
set_option rowWalk.seconds 0
set_option maxRecDepth 100000
set_option maxHeartbeats 8000000
namespace Mine
open_top hd for PySem.Challenge.rw_xm0436_01
open PySem
/-- the number that a row of limbs stands for, least first, to the base B -/
def val (B : Int) : List Int → Int
  | [] => 0
  | x :: r => x + B * val B r
def Lim (B : Int) (xs : List Int) : Prop := ∀ x ∈ xs, 0 ≤ x ∧ x < B
/-- no nought at the end -/
def Nm (xs : List Int) : Prop := xs = [] ∨ xs.getD (xs.length - 1) 0 ≠ 0
/-- the row of limbs of v in least form -/
def Rep (B : Int) (xs : List Int) (v : Int) : Prop := Lim B xs ∧ Nm xs ∧ val B xs = v

theorem val_append (B : Int) : ∀ xs ys : List Int, val B (xs ++ ys) = val B xs + B ^ xs.length * val B ys
  | [], ys => by simp [val]
  | x :: r, ys => by
    simp only [List.cons_append, val, val_append B r ys, List.length_cons, Int.pow_succ]
    grind
theorem getD_lt {xs : List Int} {i : Nat} (h : i < xs.length) : xs.getD i 0 = xs[i] := by simp [List.getD, h]
theorem getD_ge {xs : List Int} {i : Nat} (h : xs.length ≤ i) : xs.getD i 0 = 0 := by simp [List.getD, h]
theorem val_take_succ (B : Int) (xs : List Int) (i : Nat) : val B (xs.take (i + 1)) = val B (xs.take i) + B ^ i * xs.getD i 0 := by
  by_cases h : i < xs.length
  · rw [List.take_add_one, val_append, getD_lt h, List.getElem?_eq_getElem h, List.length_take]
    have e : min i xs.length = i := by omega
    simp [val, e]
  · have h' : xs.length ≤ i := Nat.le_of_not_lt h
    rw [getD_ge h', List.take_of_length_le h', List.take_of_length_le (by omega)]
    simp
theorem Lim.getD {B : Int} {xs : List Int} (h : Lim B xs) (hB : 0 < B) (i : Nat) : 0 ≤ xs.getD i 0 ∧ xs.getD i 0 < B := by
  by_cases hi : i < xs.length
  · rw [getD_lt hi]; exact h _ (List.getElem_mem hi)
  · rw [getD_ge (Nat.le_of_not_lt hi)]; exact ⟨Int.le_refl _, hB⟩
theorem Lim.nil {B : Int} : Lim B [] := fun _ h => nomatch h
theorem Lim.snoc {B : Int} {xs : List Int} {d : Int} (h : Lim B xs) (h0 : 0 ≤ d) (h1 : d < B) : Lim B (xs ++ [d]) := by
  intro x hx
  rcases List.mem_append.mp hx with hx | hx
  · exact h x hx
  · rw [List.mem_singleton.mp hx]; exact ⟨h0, h1⟩
theorem Lim.take {B : Int} {xs : List Int} (h : Lim B xs) (k : Nat) : Lim B (xs.take k) := fun x hx => h x (List.mem_of_mem_take hx)
theorem Lim.drop {B : Int} {xs : List Int} (h : Lim B xs) (k : Nat) : Lim B (xs.drop k) := fun x hx => h x (List.mem_of_mem_drop hx)
theorem Lim.tail {B x : Int} {xs : List Int} (h : Lim B (x :: xs)) : Lim B xs := fun y hy => h y (List.mem_cons_of_mem _ hy)
theorem val_bound {B : Int} (hB : 0 < B) : ∀ {xs : List Int}, Lim B xs → 0 ≤ val B xs ∧ val B xs < B ^ xs.length
  | [], _ => by simp [val]
  | x :: r, h => by
    have hx := h x (List.mem_cons_self)
    have hr := val_bound hB h.tail
    have h1 : 0 ≤ B * val B r := Int.mul_nonneg (by omega) hr.1
    have h2 : B * val B r ≤ B * (B ^ r.length - 1) := Int.mul_le_mul_of_nonneg_left (by omega) (by omega)
    have h3 : B * (B ^ r.length - 1) = B ^ (r.length + 1) - B := by rw [Int.pow_succ]; grind
    simp only [val, List.length_cons]
    omega
theorem pow_pos' {B : Int} (hB : 0 < B) (n : Nat) : 0 < B ^ n := Int.pow_pos hB
theorem Nm.bound {B : Int} (hB : 0 < B) {xs : List Int} (h : Lim B xs) (hn : Nm xs) (hne : xs ≠ []) : B ^ (xs.length - 1) ≤ val B xs := by
  rcases hn with rfl | hn
  · exact absurd rfl hne
  · have hl : 0 < xs.length := by cases xs with | nil => exact absurd rfl hne | cons => simp
    have e := val_take_succ B xs (xs.length - 1)
    rw [List.take_of_length_le (by omega)] at e
    have h1 := (val_bound hB (h.take (xs.length - 1))).1
    have h2 := (h.getD hB (xs.length - 1)).1
    have h3 := pow_pos' hB (xs.length - 1)
    have h4 : B ^ (xs.length - 1) * 1 ≤ B ^ (xs.length - 1) * xs.getD (xs.length - 1) 0 := Int.mul_le_mul_of_nonneg_left (by omega) (by omega)
    omega
theorem Nm.of_bound {B : Int} (hB : 0 < B) {xs : List Int} (h : Lim B xs) (hb : xs ≠ [] → B ^ (xs.length - 1) ≤ val B xs) : Nm xs := by
  by_cases hne : xs = []
  · exact .inl hne
  · refine .inr fun h0 => ?_
    have hl : 0 < xs.length := by cases xs with | nil => exact absurd rfl hne | cons => simp
    have e := val_take_succ B xs (xs.length - 1)
    rw [List.take_of_length_le (by omega), h0] at e
    have h1 := (val_bound hB (h.take (xs.length - 1))).2
    rw [List.length_take, show min (xs.length - 1) xs.length = xs.length - 1 by omega] at h1
    have := hb hne
    simp only [Int.mul_zero, Int.add_zero] at e
    omega
theorem Rep.nonneg {B : Int} (hB : 0 < B) {xs : List Int} {v : Int} (h : Rep B xs v) : 0 ≤ v := h.2.2 ▸ (val_bound hB h.1).1
theorem Rep.unique {B : Int} (hB : 1 < B) : ∀ {xs ys : List Int} {v : Int}, Rep B xs v → Rep B ys v → xs = ys
  | [], [], _, _, _ => rfl
  | [], y :: r, v, h1, h2 => by
    exfalso
    have := Nm.bound (by omega) h2.1 h2.2.1 (by simp)
    have h3 := h1.2.2
    have h4 := h2.2.2
    have h5 := pow_pos' (B := B) (by omega) ((y :: r).length - 1)
    simp only [val] at h3
    omega
  | x :: r, [], v, h1, h2 => by
    exfalso
    have := Nm.bound (by omega) h1.1 h1.2.1 (by simp)
    have h3 := h1.2.2
    have h4 := h2.2.2
    have h5 := pow_pos' (B := B) (by omega) ((x :: r).length - 1)
    simp only [val] at h4
    omega
  | x :: r, y :: q, v, h1, h2 => by
    have hx := h1.1 x (List.mem_cons_self)
    have hy := h2.1 y (List.mem_cons_self)
    have e1 := h1.2.2
    have e2 := h2.2.2
    simp only [val] at e1 e2
    have hxm : v % B = x := by
      rw [← e1, Int.add_mul_emod_self_left]; exact Int.emod_eq_of_lt hx.1 hx.2
    have hym : v % B = y := by
      rw [← e2, Int.add_mul_emod_self_left]; exact Int.emod_eq_of_lt hy.1 hy.2
    have exy : x = y := hxm ▸ hym
    subst exy
    have e3 : val B r = val B q := by
      have : B * val B r = B * val B q := by omega
      exact Int.eq_of_mul_eq_mul_left (by omega) this
    have nm : ∀ {z : Int} {l : List Int}, Nm (z :: l) → Nm l := by
      intro z l h
      cases l with
      | nil => exact .inl rfl
      | cons a l =>
        rcases h with h | h
        · cases h
        · refine .inr ?_
          simpa using h
    rw [Rep.unique hB (xs := r) (ys := q) (v := val B q) ⟨h1.1.tail, nm h1.2.1, e3⟩ ⟨h2.1.tail, nm h2.2.1, rfl⟩]
theorem Rep.len {B : Int} (hB : 1 < B) {xs : List Int} {v : Int} (h : Rep B xs v) (hv : v < 100000) : xs.length < 20 := by
  by_cases hne : xs = []
  · subst hne; simp
  · have h1 := Nm.bound (by omega) h.1 h.2.1 hne
    have h2 := h.2.2
    have h3 : (2 : Int) ^ (xs.length - 1) ≤ B ^ (xs.length - 1) := by
      have : ∀ n : Nat, (2 : Int) ^ n ≤ B ^ n := by
        intro n
        induction n with
        | zero => simp
        | succ n ih =>
          rw [Int.pow_succ, Int.pow_succ]
          have := pow_pos' (B := 2) (by omega) n
          have a : (2 : Int) ^ n * 2 ≤ B ^ n * 2 := by omega
          have b : B ^ n * 2 ≤ B ^ n * B := Int.mul_le_mul_of_nonneg_left (by omega) (by have := pow_pos' (B := B) (by omega) n; omega)
          omega
      exact this _
    by_cases hl : xs.length < 20
    · exact hl
    · exfalso
      have : (2 : Int) ^ 19 ≤ 2 ^ (xs.length - 1) := by
        have e : xs.length - 1 = 19 + (xs.length - 20) := by omega
        rw [e, Int.pow_add]
        have := pow_pos' (B := 2) (by omega) (xs.length - 20)
        have a : (2 : Int) ^ 19 * 1 ≤ 2 ^ 19 * 2 ^ (xs.length - 20) := Int.mul_le_mul_of_nonneg_left (by omega) (by decide)
        omega
      have : (2 : Int) ^ 19 = 524288 := by decide
      omega
theorem Rep.nil {B : Int} : Rep B [] 0 := ⟨Lim.nil, .inl rfl, rfl⟩
theorem Rep.one {B c : Int} (h0 : 0 < c) (h1 : c < B) : Rep B [c] c := by
  refine ⟨fun x hx => ?_, .inr ?_, by simp [val]⟩
  · rw [List.mem_singleton.mp hx]; omega
  · simp; omega
theorem Rep.empty_iff {B : Int} (hB : 1 < B) {xs : List Int} {v : Int} (h : Rep B xs v) : xs = [] ↔ v = 0 := by
  constructor
  · rintro rfl; exact h.2.2.symm
  · rintro rfl; exact Rep.unique hB h Rep.nil

-- the base
theorem base_of {e : Int} (h1 : 3 ≤ e) (h2 : e ≤ 7) : (8 : Int) ≤ 2 ^ e.toNat ∧ (2 : Int) ^ e.toNat ≤ 128 := by
  have he : e = 3 ∨ e = 4 ∨ e = 5 ∨ e = 6 ∨ e = 7 := by omega
  rcases he with rfl | rfl | rfl | rfl | rfl <;> decide
theorem maskE (x : Int) (k : Nat) : Builtin.bitAnd x (1 * 2 ^ k - 1) = x % 2 ^ k := by rw [Int.one_mul, PySem.W.kbt_mask]
theorem divE (x : Int) {B : Int} (h : 0 < B) : x.fdiv B = x / B := by rw [Int.fdiv_eq_ediv_of_nonneg _ (by omega)]
theorem modE (x : Int) {B : Int} (h : 0 < B) : x.fmod B = x % B := by rw [Int.fmod_eq_emod_of_nonneg _ (by omega)]

-- normal
theorem normal_rep {B : Int} {xs : List Int} {k : Int} (hL : Lim B xs) (h0 : 0 ≤ k) (h1 : k ≤ xs.length)
    (hz : ∀ j : Int, k < j → j ≤ xs.length → xs.getD (j - 1).toNat 0 = 0) (hk : 0 < k → xs.getD (k - 1).toNat 0 ≠ 0) : Rep B (xs.take k.toNat) (val B xs) := by
  refine ⟨hL.take _, ?_, ?_⟩
  · by_cases hk0 : k = 0
    · left; rw [hk0]; simp
    · right
      have := hk (by omega)
      rw [List.length_take, show min k.toNat xs.length - 1 = (k - 1).toNat by omega]
      have hlt : (k - 1).toNat < xs.length := by omega
      rw [getD_lt hlt] at this
      rw [getD_lt (by rw [List.length_take]; omega), List.getElem_take]
      exact this
  · have : ∀ n : Nat, k.toNat + n ≤ xs.length → val B (xs.take (k.toNat + n)) = val B (xs.take k.toNat) := by
      intro n
      induction n with
      | zero => intro _; rfl
      | succ n ih =>
        intro hn
        have e := val_take_succ B xs (k.toNat + n)
        have z := hz (k + n + 1) (by omega) (by omega)
        rw [show (k + n + 1 - 1).toNat = k.toNat + n by omega] at z
        rw [z, Int.mul_zero, Int.add_zero, ih (by omega)] at e
        exact e
    have e := this (xs.length - k.toNat) (by omega)
    rw [List.take_of_length_le (by omega)] at e
    exact e.symm

-- add
def AddI (B : Int) (xs ys : List Int) (i : Nat) (c : Int) (f : List Int) : Prop :=
  f.length = i ∧ Lim B f ∧ 0 ≤ c ∧ c ≤ 1 ∧ val B f + B ^ i * c = val B (xs.take i) + val B (ys.take i)
theorem AddI.start {B : Int} {xs ys : List Int} : AddI B xs ys 0 0 [] := ⟨rfl, Lim.nil, Int.le_refl _, by omega, by simp [val]⟩
theorem AddI.step {B : Int} (hB : 2 ≤ B) {xs ys : List Int} {i : Nat} {c t : Int} {f : List Int} (hx : Lim B xs) (hy : Lim B ys) (h : AddI B xs ys i c f) (ht : t = c + (xs.getD i 0 + ys.getD i 0)) :
    AddI B xs ys (i + 1) (t / B) (f ++ [t % B]) := by
  obtain ⟨h1, h2, h3, h4, h5⟩ := h
  have bx := hx.getD (by omega) i
  have bY := hy.getD (by omega) i
  have hm := Int.emod_nonneg t (b := B) (by omega)
  have hm2 := Int.emod_lt_of_pos t (b := B) (by omega)
  have hdm := Int.mul_ediv_add_emod t B
  refine ⟨by simp [h1], h2.snoc hm hm2, Int.ediv_nonneg (by omega) (by omega), ?_, ?_⟩
  · have : t / B < 2 := Int.ediv_lt_of_lt_mul (by omega) (by omega)
    omega
  · rw [val_append, val_take_succ, val_take_succ, h1, Int.pow_succ]
    simp only [val, Int.mul_zero, Int.add_zero]
    have e : B ^ i * t = B ^ i * (c + (xs.getD i 0 + ys.getD i 0)) := by rw [ht]
    have e2 : B ^ i * (B * (t / B) + t % B) = B ^ i * t := by rw [hdm]
    grind
theorem AddI.done {B : Int} (hB : 2 ≤ B) {xs ys : List Int} {n : Nat} {c a b : Int} {f : List Int} (hx : Rep B xs a) (hy : Rep B ys b) (h : AddI B xs ys n c f) (hn : n = max xs.length ys.length) :
    Rep B (if 0 < c then f ++ [c] else f) (a + b) := by
  obtain ⟨h1, h2, h3, h4, h5⟩ := h
  rw [List.take_of_length_le (by omega), List.take_of_length_le (by omega), hx.2.2, hy.2.2] at h5
  by_cases hc : 0 < c
  · rw [if_pos hc]
    have hc1 : c = 1 := by omega
    subst hc1
    refine ⟨h2.snoc (by omega) (by omega), .inr (by simp), ?_⟩
    rw [val_append, h1]; simp only [val]; omega
  · rw [if_neg hc]
    have hc0 : c = 0 := by omega
    subst hc0
    simp only [Int.mul_zero, Int.add_zero] at h5
    refine ⟨h2, Nm.of_bound (by omega) h2 fun hne => ?_, h5⟩
    rw [h1, h5]
    have ha := hx.nonneg (by omega)
    have hb := hy.nonneg (by omega)
    have hl : 0 < f.length := by cases f with | nil => exact absurd rfl hne | cons => simp
    by_cases hl2 : ys.length ≤ xs.length
    · have hxe : xs ≠ [] := by intro hxe; subst hxe; simp only [List.length_nil] at hl2 hn; omega
      have := Nm.bound (by omega) hx.1 hx.2.1 hxe
      rw [hx.2.2] at this
      rw [show n - 1 = xs.length - 1 by omega]; omega
    · have hye : ys ≠ [] := by intro hye; subst hye; simp at hl2
      have := Nm.bound (by omega) hy.1 hy.2.1 hye
      rw [hy.2.2] at this
      rw [show n - 1 = ys.length - 1 by omega]; omega

-- compare
theorem cmp_len {B : Int} (hB : 1 < B) {xs ys : List Int} {a b : Int} (hx : Rep B xs a) (hy : Rep B ys b) (h : xs.length < ys.length) : a < b := by
  have h1 := (val_bound (by omega) hx.1).2
  have h2 := Nm.bound (by omega) hy.1 hy.2.1 (by intro e; subst e; simp at h)
  rw [hx.2.2] at h1
  rw [hy.2.2] at h2
  have e : ys.length - 1 = xs.length + (ys.length - 1 - xs.length) := by omega
  rw [e, Int.pow_add] at h2
  have h3 := pow_pos' (B := B) (by omega) xs.length
  have h4 := pow_pos' (B := B) (by omega) (ys.length - 1 - xs.length)
  have h5 : B ^ xs.length * 1 ≤ B ^ xs.length * B ^ (ys.length - 1 - xs.length) := Int.mul_le_mul_of_nonneg_left (by omega) (by omega)
  omega
theorem cmp_at {B : Int} (hB : 1 < B) {xs ys : List Int} {k : Nat} (hx : Lim B xs) (hy : Lim B ys) (hl : xs.length = ys.length)
    (he : ∀ j, k < j → xs.getD j 0 = ys.getD j 0) (h : xs.getD k 0 < ys.getD k 0) : val B xs < val B ys := by
  have ed : xs.drop (k + 1) = ys.drop (k + 1) := by
    refine List.ext_getElem (by simp [hl]) fun i h1 h2 => ?_
    rw [List.length_drop] at h1 h2
    have := he (k + 1 + i) (by omega)
    rw [getD_lt (by omega), getD_lt (by omega)] at this
    rw [List.getElem_drop, List.getElem_drop]; exact this
  have hk : k < xs.length := by
    by_cases hk : k < xs.length
    · exact hk
    · rw [getD_ge (by omega), getD_ge (by omega)] at h; omega
  have e1 : val B xs = val B (xs.take (k + 1)) + B ^ (k + 1) * val B (xs.drop (k + 1)) := by
    have := val_append B (xs.take (k + 1)) (xs.drop (k + 1))
    rw [List.take_append_drop, List.length_take, show min (k + 1) xs.length = k + 1 by omega] at this
    exact this
  have e2 : val B ys = val B (ys.take (k + 1)) + B ^ (k + 1) * val B (ys.drop (k + 1)) := by
    have := val_append B (ys.take (k + 1)) (ys.drop (k + 1))
    rw [List.take_append_drop, List.length_take, show min (k + 1) ys.length = k + 1 by omega] at this
    exact this
  rw [e1, e2, ed, val_take_succ, val_take_succ]
  have h1 := (val_bound (by omega) (hx.take k)).2
  rw [List.length_take, show min k xs.length = k by omega] at h1
  have h2 := (val_bound (by omega) (hy.take k)).1
  have h3 : B ^ k * (xs.getD k 0 + 1) ≤ B ^ k * ys.getD k 0 := Int.mul_le_mul_of_nonneg_left (by omega) (Int.le_of_lt (pow_pos' (by omega) k))
  rw [Int.mul_add, Int.mul_one] at h3
  omega
theorem cmp_eq {xs ys : List Int} (hl : xs.length = ys.length) (he : ∀ j, xs.getD j 0 = ys.getD j 0) : xs = ys := by
  refine List.ext_getElem hl fun i h1 h2 => ?_
  have := he i
  rwa [getD_lt h1, getD_lt h2] at this

-- sub
def SubI (B : Int) (xs ys : List Int) (i : Nat) (c : Int) (f : List Int) : Prop :=
  f.length = i ∧ Lim B f ∧ 0 ≤ c ∧ c ≤ 1 ∧ val B f = val B (xs.take i) - val B (ys.take i) + B ^ i * c
theorem SubI.start {B : Int} {xs ys : List Int} : SubI B xs ys 0 0 [] := ⟨rfl, Lim.nil, Int.le_refl _, by omega, by simp [val]⟩
theorem SubI.step {B : Int} (hB : 2 ≤ B) {xs ys : List Int} {i : Nat} {c t d c' : Int} {f : List Int} (hx : Lim B xs) (hy : Lim B ys) (h : SubI B xs ys i c f) (ht : t = xs.getD i 0 - c - ys.getD i 0)
    (hd : (t < 0 ∧ d = t + B ∧ c' = 1) ∨ (0 ≤ t ∧ d = t ∧ c' = 0)) : SubI B xs ys (i + 1) c' (f ++ [d]) := by
  obtain ⟨h1, h2, h3, h4, h5⟩ := h
  have bx := hx.getD (by omega) i
  have bY := hy.getD (by omega) i
  refine ⟨by simp [h1], h2.snoc ?_ ?_, by omega, by omega, ?_⟩
  · omega
  · omega
  · rw [val_append, val_take_succ, val_take_succ, h1, Int.pow_succ]
    simp only [val, Int.mul_zero, Int.add_zero]
    have e : d = xs.getD i 0 - c - ys.getD i 0 + B * c' := by
      rcases hd with ⟨_, rfl, rfl⟩ | ⟨_, rfl, rfl⟩ <;> omega
    rw [e, h5]
    grind
theorem SubI.done {B : Int} (hB : 2 ≤ B) {xs ys : List Int} {n : Nat} {c a b : Int} {f : List Int} (hx : val B xs = a) (hy : val B ys = b) (h : SubI B xs ys n c f) (hn : n = xs.length) (hl : ys.length ≤ xs.length) (hab : b ≤ a) : Lim B f ∧ val B f = a - b := by
  obtain ⟨h1, h2, h3, h4, h5⟩ := h
  rw [List.take_of_length_le (by omega), List.take_of_length_le (by omega), hx, hy] at h5
  refine ⟨h2, ?_⟩
  have hc : c = 0 ∨ c = 1 := by omega
  rcases hc with rfl | rfl
  · simpa using h5
  · have := (val_bound (by omega) h2).2
    rw [h1] at this
    omega

-- shift_right by one
theorem bitOr_add {x y : Int} {k : Nat} (hx : 0 ≤ x) (hx2 : x < 2 ^ k) (hy : 0 ≤ y) : Builtin.bitOr x (y * 2 ^ k) = x + y * 2 ^ k := by
  obtain ⟨a, rfl⟩ := Int.eq_ofNat_of_zero_le hx
  obtain ⟨b, rfl⟩ := Int.eq_ofNat_of_zero_le hy
  have e : ((b : Int) * 2 ^ k) = ((b * 2 ^ k : Nat) : Int) := by simp [Int.natCast_mul, Int.natCast_pow]
  have e' : (a : Int) < ((2 ^ k : Nat) : Int) := by simpa [Int.natCast_pow] using hx2
  rw [e]
  have key : ∀ m n : Nat, Builtin.bitOr (m : Int) (n : Int) = ((m ||| n : Nat) : Int) := by
    intro m n
    have hm : ¬ ((0 : Int) ≤ Builtin.bitNot (m : Int)) := by unfold Builtin.bitNot; omega
    have hn : ¬ ((0 : Int) ≤ Builtin.bitNot (n : Int)) := by unfold Builtin.bitNot; omega
    unfold Builtin.bitOr Builtin.bitAnd
    rw [decide_eq_false hm, decide_eq_false hn]
    unfold Builtin.bitNot
    have em : (-(-(m : Int) - 1) - 1).toNat = m := by omega
    have en : (-(-(n : Int) - 1) - 1).toNat = n := by omega
    simp only [em, en]; omega
  rw [key]
  have := Nat.two_pow_add_eq_or_of_lt (i := k) (b := a) (by exact_mod_cast e') b
  rw [Nat.or_comm, Nat.mul_comm b, ← this]
  push_cast
  omega
def ShI (B : Int) (xs : List Int) (i : Nat) (f : List Int) : Prop :=
  f.length = i ∧ Lim B f ∧ 2 * val B f + xs.getD 0 0 % 2 = val B (xs.take i) + B ^ i * (xs.getD i 0 % 2)
theorem ShI.start {B : Int} {xs : List Int} : ShI B xs 0 [] := ⟨rfl, Lim.nil, by simp [val]⟩
theorem sh_digit {e x y : Int} (he1 : 3 ≤ e) (hf : Int.fmod 1 e = 1) (hx : 0 ≤ x) (hx2 : x < 2 ^ e.toNat) (hy : 0 ≤ y) :
    Builtin.bitAnd (Builtin.bitOr (x.fdiv (2 ^ (Int.fmod 1 e).toNat)) (y * 2 ^ (e - Int.fmod 1 e).toNat)) (1 * 2 ^ e.toNat - 1) = x / 2 + (y % 2) * 2 ^ (e.toNat - 1) := by
  rw [maskE, hf, show (e - 1).toNat = e.toNat - 1 by omega]
  have e1 : (2 : Int) ^ e.toNat = 2 * 2 ^ (e.toNat - 1) := by
    have : e.toNat = (e.toNat - 1) + 1 := by omega
    rw [this, Int.pow_succ, Nat.add_sub_cancel]; omega
  have hp := pow_pos' (B := 2) (by omega) (e.toNat - 1)
  rw [show ((2 : Int) ^ (1 : Int).toNat) = 2 by decide, divE _ (by omega), bitOr_add (by omega) (by omega) hy, e1]
  generalize (2 : Int) ^ (e.toNat - 1) = H at *
  have hy2 := Int.emod_nonneg y (b := 2) (by omega)
  have hy3 := Int.emod_lt_of_pos y (b := 2) (by omega)
  have ey : y = 2 * (y / 2) + y % 2 := (Int.mul_ediv_add_emod y 2).symm
  have e2 : x / 2 + y * H = (x / 2 + (y % 2) * H) + 2 * H * (y / 2) := by
    conv => lhs; rw [ey]
    grind
  rw [e2, Int.add_mul_emod_self_left]
  have h3 : 0 ≤ (y % 2) * H := Int.mul_nonneg hy2 (by omega)
  have h4 : (y % 2) * H ≤ 1 * H := Int.mul_le_mul_of_nonneg_right (by omega) (by omega)
  exact Int.emod_eq_of_lt (by omega) (by omega)
theorem ShI.step {B H : Int} (hB : B = 2 * H) (hH : 0 < H) {xs : List Int} {i : Nat} {f : List Int} {d : Int} (hx : Lim B xs) (h : ShI B xs i f) (hd : d = xs.getD i 0 / 2 + (xs.getD (i + 1) 0 % 2) * H) :
    ShI B xs (i + 1) (f ++ [d]) := by
  obtain ⟨h1, h2, h3⟩ := h
  have bx := hx.getD (by omega) i
  have hy2 := Int.emod_nonneg (xs.getD (i + 1) 0) (b := 2) (by omega)
  have hy3 := Int.emod_lt_of_pos (xs.getD (i + 1) 0) (b := 2) (by omega)
  have k3 : 0 ≤ (xs.getD (i + 1) 0 % 2) * H := Int.mul_nonneg hy2 (by omega)
  have k4 : (xs.getD (i + 1) 0 % 2) * H ≤ 1 * H := Int.mul_le_mul_of_nonneg_right (by omega) (by omega)
  refine ⟨by simp [h1], h2.snoc (by omega) (by omega), ?_⟩
  rw [val_append, val_take_succ, h1, Int.pow_succ]
  simp only [val, Int.mul_zero, Int.add_zero]
  have ex : xs.getD i 0 = 2 * (xs.getD i 0 / 2) + xs.getD i 0 % 2 := (Int.mul_ediv_add_emod _ 2).symm
  have e1 : 2 * (val B f + B ^ i * d) + xs.getD 0 0 % 2 = (2 * val B f + xs.getD 0 0 % 2) + B ^ i * (2 * d) := by grind
  rw [e1, h3, hd]
  have e2 : B ^ i * xs.getD i 0 = B ^ i * (2 * (xs.getD i 0 / 2) + xs.getD i 0 % 2) := by rw [← ex]
  rw [e2, hB]
  grind
theorem ShI.done {B : Int} (hB : 0 < B) {xs : List Int} {n : Nat} {v : Int} {f : List Int} (hx : val B xs = v) (h : ShI B xs n f) (hn : n = xs.length) : Lim B f ∧ val B f = v / 2 := by
  obtain ⟨h1, h2, h3⟩ := h
  rw [List.take_of_length_le (by omega), getD_ge (xs := xs) (i := n) (by omega), hx] at h3
  refine ⟨h2, ?_⟩
  simp only [Int.zero_emod, Int.mul_zero, Int.add_zero] at h3
  omega
theorem even_iff {B H : Int} (hB : B = 2 * H) {xs : List Int} {v : Int} (h : val B xs = v) : xs.getD 0 0 % 2 = v % 2 := by
  cases xs with
  | nil => simp only [val] at h; subst h; rfl
  | cons x r =>
    simp only [val] at h
    subst h
    rw [hB, Int.mul_assoc, Int.add_mul_emod_self_left]
    rfl

-- mul_school with one limb ahead
def MulI (B c : Int) (ys : List Int) (i : Nat) (k : Int) (f : List Int) : Prop :=
  f.length = ys.length + 1 ∧ Lim B f ∧ 0 ≤ k ∧ k ≤ 7 ∧ (∀ j, i ≤ j → f.getD j 0 = 0) ∧ val B (f.take i) + B ^ i * k = c * val B (ys.take i)
theorem getD_set {f : List Int} {i j : Nat} {d : Int} (h : i < f.length) : (f.set i d).getD j 0 = if j = i then d else f.getD j 0 := by
  simp only [List.getD, List.getElem?_set]
  by_cases e : i = j
  · subst e; simp [h]
  · rw [if_neg e, if_neg (fun q => e q.symm)]
theorem Lim.set {B : Int} {f : List Int} {i : Nat} {d : Int} (h : Lim B f) (h0 : 0 ≤ d) (h1 : d < B) : Lim B (f.set i d) := by
  intro x hx
  rcases List.mem_or_eq_of_mem_set hx with hx | rfl
  · exact h x hx
  · exact ⟨h0, h1⟩
theorem MulI.start {B c : Int} (hB : 0 < B) {ys f : List Int} (hf : f = List.replicate (ys.length + 1) 0) : MulI B c ys 0 0 f := by
  subst hf
  refine ⟨by simp, fun x hx => ?_, Int.le_refl _, by omega, fun j _ => ?_, by simp [val]⟩
  · rw [(List.mem_replicate.mp hx).2]; exact ⟨Int.le_refl _, hB⟩
  · simp only [List.getD, List.getElem?_replicate]; split <;> rfl
theorem MulI.step {B c : Int} (hB : 8 ≤ B) (hc0 : 1 ≤ c) (hc : c ≤ 7) {ys : List Int} {i : Nat} {k t : Int} {f : List Int} (hy : Lim B ys) (hi : i < ys.length) (h : MulI B c ys i k f) (ht : t = k + (f.getD i 0 + c * ys.getD i 0)) :
    MulI B c ys (i + 1) (t / B) (f.set i (t % B)) := by
  obtain ⟨h1, h2, h3, h4, h5, h6⟩ := h
  have bY := hy.getD (by omega) i
  have hm := Int.emod_nonneg t (b := B) (by omega)
  have hm2 := Int.emod_lt_of_pos t (b := B) (by omega)
  have hdm := Int.mul_ediv_add_emod t B
  have hif : i < f.length := by omega
  rw [h5 i (Nat.le_refl _), Int.zero_add] at ht
  have b1 : 0 ≤ c * ys.getD i 0 := Int.mul_nonneg (by omega) bY.1
  have b2 : c * ys.getD i 0 ≤ 7 * ys.getD i 0 := Int.mul_le_mul_of_nonneg_right hc bY.1
  refine ⟨by simp [h1], h2.set hm hm2, Int.ediv_nonneg (by omega) (by omega), ?_, fun j hj => ?_, ?_⟩
  · have : t / B < 8 := Int.ediv_lt_of_lt_mul (by omega) (by omega)
    omega
  · rw [getD_set hif, if_neg (by omega)]; exact h5 j (by omega)
  · rw [val_take_succ, val_take_succ, getD_set hif, if_pos rfl, List.take_set_of_le (Nat.le_refl _), Int.pow_succ]
    have e : B ^ i * (B * (t / B) + t % B) = B ^ i * t := by rw [hdm]
    rw [Int.mul_add c, ← h6, ht] at *
    grind
theorem MulI.done {B c : Int} (hB : 8 ≤ B) {ys : List Int} {n : Nat} {k v : Int} {f : List Int} (hn : n = ys.length) (hv : val B ys = v) (h : MulI B c ys n k f) : Lim B (f.set n k) ∧ val B (f.set n k) = c * v := by
  obtain ⟨h1, h2, h3, h4, h5, h6⟩ := h
  have hif : n < f.length := by omega
  refine ⟨h2.set h3 (by omega), ?_⟩
  have e := val_take_succ B (f.set n k) n
  rw [List.take_of_length_le (by simp; omega), getD_set hif, if_pos rfl, List.take_set_of_le (Nat.le_refl _), h6, List.take_of_length_le (by omega), hv] at e
  exact e

-- _law_limbs
def LmbI (B v n : Int) (f : List Int) : Prop := Lim B f ∧ 0 ≤ n ∧ val B f + B ^ f.length * n = v ∧ (n = 0 → Nm f) ∧ f.length + n ≤ v
theorem LmbI.start {B v : Int} (h : 0 ≤ v) : LmbI B v v [] := ⟨Lim.nil, h, by simp [val], fun _ => .inl rfl, by simp⟩
theorem div_lt {B n : Int} (hB : 2 ≤ B) (hn : 0 < n) : 0 ≤ n / B ∧ n / B < n := by
  refine ⟨Int.ediv_nonneg (by omega) (by omega), ?_⟩
  refine Int.ediv_lt_of_lt_mul (by omega) ?_
  have : n * 2 ≤ n * B := Int.mul_le_mul_of_nonneg_left hB (by omega)
  omega
theorem LmbI.step {B v n : Int} (hB : 2 ≤ B) {f : List Int} (h : LmbI B v n f) (hn : 0 < n) : LmbI B v (n / B) (f ++ [n % B]) := by
  obtain ⟨h1, h2, h3, h4, h5⟩ := h
  have hm := Int.emod_nonneg n (b := B) (by omega)
  have hm2 := Int.emod_lt_of_pos n (b := B) (by omega)
  have hdm := Int.mul_ediv_add_emod n B
  have hd := div_lt hB hn
  refine ⟨h1.snoc hm hm2, hd.1, ?_, fun h0 => .inr ?_, ?_⟩
  · rw [val_append, List.length_append, List.length_singleton, Int.pow_succ]
    simp only [val, Int.mul_zero, Int.add_zero]
    have e : B ^ f.length * (B * (n / B) + n % B) = B ^ f.length * n := by rw [hdm]
    grind
  · rw [h0, Int.mul_zero, Int.zero_add] at hdm
    simp; omega
  · simp only [List.length_append, List.length_singleton, Int.natCast_add, Int.natCast_one]; omega
theorem LmbI.done {B v n : Int} {f : List Int} (h : LmbI B v n f) (hn : ¬ 0 < n) : Rep B f v := by
  obtain ⟨h1, h2, h3, h4, h5⟩ := h
  have : n = 0 := by omega
  subst this
  exact ⟨h1, h4 rfl, by simpa using h3⟩

-- _law_plain
def PlnI (B v : Int) (pre : List Int) (n : Int) : Prop := n = val B pre.reverse ∧ 0 ≤ n ∧ n ≤ v
theorem PlnI.start {B v : Int} (h : 0 ≤ v) : PlnI B v [] 0 := ⟨rfl, Int.le_refl _, h⟩
theorem PlnI.step {B v n x : Int} {xs pre post : List Int} (hB : 0 < B) (hx : Rep B xs v) (e : xs.reverse = pre ++ x :: post) (h : PlnI B v pre n) : PlnI B v (pre ++ [x]) (n * B + x) := by
  obtain ⟨h1, h2, h3⟩ := h
  have e2 : xs = post.reverse ++ (x :: pre.reverse) := by
    have := congrArg List.reverse e
    simpa using this
  have hxl : x ∈ xs := by rw [e2]; simp
  have hb := hx.1 x hxl
  have hv := hx.2.2
  rw [e2, val_append] at hv
  have hp : Lim B post.reverse := fun y hy => hx.1 y (by rw [e2]; simp at hy ⊢; exact .inl hy)
  have hq := (val_bound hB hp).1
  have hn : n * B + x = val B (x :: pre.reverse) := by simp only [val]; rw [h1, Int.mul_comm]; omega
  have h0 : 0 ≤ n * B := Int.mul_nonneg h2 (by omega)
  refine ⟨by rw [hn]; simp, by omega, ?_⟩
  rw [hn]
  rw [hn] at *
  have hpos := pow_pos' hB post.reverse.length
  have : 1 * val B (x :: pre.reverse) ≤ B ^ post.reverse.length * val B (x :: pre.reverse) := Int.mul_le_mul_of_nonneg_right (by omega) (by simp only [val]; rw [← h1, Int.mul_comm]; omega)
  omega
theorem PlnI.done {B v n : Int} {xs : List Int} (hx : Rep B xs v) (h : PlnI B v xs.reverse n) : n = v := by
  rw [h.1, List.reverse_reverse, hx.2.2]
theorem add_turn {e : Int} {xs ys f f₀ pre : List Int} {k c t : Int} (hB : (8 : Int) ≤ 2 ^ e.toNat) (hx : Lim (2 ^ e.toNat) xs) (hy : Lim (2 ^ e.toNat) ys)
    (h1 : f.length = pre.length + f₀.length) (h : AddI (2 ^ e.toNat) xs ys f.length c f) (hk : k.toNat = f.length) (hl : f.length < 1000) (ht : t = c + (xs.getD k.toNat 0 + ys.getD k.toNat 0)) :
    (f ++ [Builtin.bitAnd t (1 * 2 ^ e.toNat - 1)]).length = (pre ++ [k]).length + f₀.length ∧ (f ++ [Builtin.bitAnd t (1 * 2 ^ e.toNat - 1)]).length ≤ 1000 ∧
      AddI (2 ^ e.toNat) xs ys (f ++ [Builtin.bitAnd t (1 * 2 ^ e.toNat - 1)]).length (t.fdiv (2 ^ e.toNat)) (f ++ [Builtin.bitAnd t (1 * 2 ^ e.toNat - 1)]) := by
  rw [maskE, divE _ (by omega)]
  refine ⟨by simp; omega, by simp; omega, ?_⟩
  rw [List.length_append, List.length_singleton]
  exact AddI.step (by omega) hx hy h (by rw [ht, hk])
theorem add_start {B : Int} {xs ys : List Int} : ([] : List Int).length = ([] : List Int).length + ([] : List Int).length ∧ ([] : List Int).length ≤ 1000 ∧ AddI B xs ys ([] : List Int).length 0 [] :=
  ⟨rfl, Nat.zero_le _, AddI.start⟩
theorem add_start2 {B c : Int} {xs ys f : List Int} (h1 : f.length ≤ 1000) (h : AddI B xs ys f.length c f) : f.length = ([] : List Int).length + f.length ∧ f.length ≤ 1000 ∧ AddI B xs ys f.length c f :=
  ⟨(Nat.zero_add _).symm, h1, h⟩
theorem SubI.lim {B : Int} {xs ys : List Int} {i : Nat} {c : Int} {f : List Int} (h : SubI B xs ys i c f) : Lim B f := h.2.1
theorem ShI.lim {B : Int} {xs : List Int} {i : Nat} {f : List Int} (h : ShI B xs i f) : Lim B f := h.2.1
theorem sub_turn {e : Int} {xs ys f f₀ pre : List Int} {k c t d c' : Int} (hB : (8 : Int) ≤ 2 ^ e.toNat) (hx : Lim (2 ^ e.toNat) xs) (hy : Lim (2 ^ e.toNat) ys)
    (h1 : f.length = pre.length + f₀.length) (h : SubI (2 ^ e.toNat) xs ys f.length c f) (hk : k.toNat = f.length) (hl : f.length < 900) (ht : t = xs.getD k.toNat 0 - c - ys.getD k.toNat 0)
    (hd : (t < 0 ∧ d = t + 1 * 2 ^ e.toNat ∧ c' = 1) ∨ (0 ≤ t ∧ d = t ∧ c' = 0)) :
    (f ++ [d]).length = (pre ++ [k]).length + f₀.length ∧ (f ++ [d]).length ≤ 900 ∧ SubI (2 ^ e.toNat) xs ys (f ++ [d]).length c' (f ++ [d]) := by
  refine ⟨by simp; omega, by simp; omega, ?_⟩
  rw [List.length_append, List.length_singleton]
  exact SubI.step (t := t) (by omega) hx hy h (by rw [← hk]; exact ht) (by rw [Int.one_mul] at hd; exact hd)
theorem sub_start {B : Int} {xs ys : List Int} : ([] : List Int).length = ([] : List Int).length + ([] : List Int).length ∧ ([] : List Int).length ≤ 900 ∧ SubI B xs ys ([] : List Int).length 0 [] :=
  ⟨rfl, Nat.zero_le _, SubI.start⟩
theorem sh_turn {e : Int} {xs f f₀ pre : List Int} {k y : Int} (he1 : 3 ≤ e) (hf : Int.fmod 1 e = 1) (hx : Lim (2 ^ e.toNat) xs)
    (h1 : f.length = pre.length + f₀.length) (h : ShI (2 ^ e.toNat) xs f.length f) (hk : k.toNat = f.length) (hl : f.length < 900) (hy : y = xs.getD (f.length + 1) 0) :
    (f ++ [Builtin.bitAnd (Builtin.bitOr ((xs.getD k.toNat 0).fdiv (2 ^ (Int.fmod 1 e).toNat)) (y * 2 ^ (e - Int.fmod 1 e).toNat)) (1 * 2 ^ e.toNat - 1)]).length = (pre ++ [k]).length + f₀.length ∧
    (f ++ [Builtin.bitAnd (Builtin.bitOr ((xs.getD k.toNat 0).fdiv (2 ^ (Int.fmod 1 e).toNat)) (y * 2 ^ (e - Int.fmod 1 e).toNat)) (1 * 2 ^ e.toNat - 1)]).length ≤ 900 ∧
    ShI (2 ^ e.toNat) xs (f ++ [Builtin.bitAnd (Builtin.bitOr ((xs.getD k.toNat 0).fdiv (2 ^ (Int.fmod 1 e).toNat)) (y * 2 ^ (e - Int.fmod 1 e).toNat)) (1 * 2 ^ e.toNat - 1)]).length
      (f ++ [Builtin.bitAnd (Builtin.bitOr ((xs.getD k.toNat 0).fdiv (2 ^ (Int.fmod 1 e).toNat)) (y * 2 ^ (e - Int.fmod 1 e).toNat)) (1 * 2 ^ e.toNat - 1)]) := by
  have hp := pow_pos' (B := 2) (by omega) e.toNat
  have bx := hx.getD hp k.toNat
  have bY := hx.getD hp (f.length + 1)
  rw [sh_digit he1 hf bx.1 bx.2 (by omega)]
  refine ⟨by simp; omega, by simp; omega, ?_⟩
  rw [List.length_append, List.length_singleton]
  have e1 : (2 : Int) ^ e.toNat = 2 * 2 ^ (e.toNat - 1) := by
    have : e.toNat = (e.toNat - 1) + 1 := by omega
    rw [this, Int.pow_succ, Nat.add_sub_cancel]; omega
  exact ShI.step e1 (pow_pos' (by omega) _) hx h (by rw [hk, hy])
theorem sh_start {B : Int} {xs : List Int} : ([] : List Int).length = ([] : List Int).length + ([] : List Int).length ∧ ([] : List Int).length ≤ 900 ∧ ShI B xs ([] : List Int).length [] :=
  ⟨rfl, Nat.zero_le _, ShI.start⟩
theorem getD_congr {xs : List Int} {i j : Nat} (h : i = j) : xs.getD i 0 = xs.getD j 0 := h ▸ rfl
theorem Rep.lim {B : Int} {xs : List Int} {v : Int} (h : Rep B xs v) : Lim B xs := h.1
theorem Rep.is {B : Int} {xs : List Int} {v : Int} (h : Rep B xs v) : val B xs = v := h.2.2
theorem lmb_start {B v : Int} (h : 0 ≤ v) : (([] : List Int).length : Int) + v ≤ v ∧ 0 ≤ v ∧ v ≤ v ∧ LmbI B v v [] := ⟨by simp, h, Int.le_refl _, LmbI.start h⟩
theorem lmb_turn {B v n : Int} {f : List Int} (hB : 2 ≤ B) (h : LmbI B v n f) (hn : 0 < n) : ((f ++ [n.fmod B]).length : Int) + n.fdiv B ≤ v ∧ 0 ≤ n.fdiv B ∧ n.fdiv B ≤ v ∧ LmbI B v (n.fdiv B) (f ++ [n.fmod B]) := by
  rw [divE _ (by omega), modE _ (by omega)]
  have s := LmbI.step hB h hn
  refine ⟨s.2.2.2.2, s.2.1, ?_, s⟩
  have := s.2.2.2.2
  omega
theorem lmb_less {B n : Int} (hB : 2 ≤ B) (hn : 0 < n) : (n.fdiv B).toNat < n.toNat := by
  rw [divE _ (by omega)]
  have := div_lt hB hn
  omega
theorem pln_turn {B v n x : Int} {xs pre post : List Int} (hB : 0 < B) (hv : v < 100000) (hx : Rep B xs v) (e : xs.reverse = pre ++ x :: post) (h : PlnI B v pre n) :
    0 ≤ n * B + x ∧ n * B + x ≤ 100000 ∧ PlnI B v (pre ++ [x]) (n * B + x) := by
  have s := PlnI.step hB hx e h
  exact ⟨s.2.1, by have := s.2.2; omega, s⟩
theorem len_small {B v : Int} {xs : List Int} (h : Rep B xs v) (hB : 1 < B) (hv : v < 100000) : xs.length < 900 := Nat.lt_trans (h.len hB hv) (by decide)
/-- a def's contract: from any frame, over any ledger; `post` hands the end on -/
abbrev Ctr (w : World) (f : Addr) (asks : Prop) (vs : List Value) (news : List (Addr × Obj)) (fr cu : Nat) (post : (Value → List (Addr × Obj) → Prop) → Prop) : Prop :=
  ∀ (mean : ExcName → Option Value) (mg mb : Str → Option Value) (dp un : Nat) (gd : Option (List Code)) (cn : Str) (cs : Scope) (a : Addr) (ccd : Value) (cl : List (Str × Addr)) (outer : List Env) (A₀ : Around) (base h₀ : Heap) (L : Addr) (m : Str → Option Value) (s : Shared) (Q E : Value → Shared → Prop),
    Below A₀ base outer h₀ → Fr h₀ L s.heap m → (hd.heap_39 w.params).In h₀ → News h₀ L s.heap news → Top hd.view_39 (looseW hd.view_39 []) mean mg mb h₀ → cs.kind = .function →
    asks → dp + fr < recursionLimit → un + cu < cLine →
    post (fun v led => ∀ (h' : Heap) (tk' : Nat), Fr h₀ L h' m → News h₀ L h' led → Q v { s with heap := h', toks := tk' }) →
      wpAny (model PySem.Challenge.rw_xm0436_01.row.prog w) (ktrTop dp un gd cn cs L a ccd cl outer) (call (.ref f) vs) Q E s
theorem Ctr.use {w : World} {f : Addr} {asks : Prop} {vs : List Value} {news : List (Addr × Obj)} {fr cu : Nat} {post : (Value → List (Addr × Obj) → Prop) → Prop} (C : Ctr w f asks vs news fr cu post)
    {mean : ExcName → Option Value} {mg mb : Str → Option Value} {dp un : Nat} {gd : Option (List Code)} {cn : Str} {cs : Scope} {a : Addr} {ccd : Value} {cl : List (Str × Addr)} {outer : List Env} {A₀ : Around} {base h₀ : Heap} {L : Addr} {m : Str → Option Value} {s : Shared} {Q E : Value → Shared → Prop}
    (B : Below A₀ base outer h₀) (F : Fr h₀ L s.heap m) (X : (hd.heap_39 w.params).In h₀) (N : News h₀ L s.heap news) (T : Top hd.view_39 (looseW hd.view_39 []) mean mg mb h₀) (hk : cs.kind = .function)
    (ha : asks) (hd : dp + fr < recursionLimit) (hu : un + cu < cLine)
    (hret : post (fun v led => ∀ (h' : Heap) (tk' : Nat), Fr h₀ L h' m → News h₀ L h' led → Q v { s with heap := h', toks := tk' })) :
    wpAny (model PySem.Challenge.rw_xm0436_01.row.prog w) (ktrTop dp un gd cn cs L a ccd cl outer) (call (.ref f) vs) Q E s :=
  C _ _ _ _ _ _ _ _ _ _ _ _ _ _ _ _ _ _ _ _ B F X N T hk ha hd hu hret
theorem isListN {h₀ h : Heap} {L a : Addr} {vs : List Value} {n : Nat} {news : List (Addr × Obj)} (N : News h₀ L h news) (hm : (a, listOf vs.toArray n) ∈ news) : h.IsList a vs.toArray := News.isList N hm
theorem all_ne {d : Nat} : ∀ {l : List (Addr × Obj)}, AllLt d l → ∀ p ∈ l, p.1 ≠ d
  | [], _, _, hp => (nomatch hp)
  | q :: r, h, p, hp => by
    rcases List.mem_cons.mp hp with rfl | hp
    · exact Nat.ne_of_lt h.1
    · exact all_ne h.2 p hp
theorem limN {B : Int} {xs : List Int} (h : Lim B xs) (hB : 0 < B) (hB2 : B ≤ 128) (i : Nat) : (xs.getD i 0).natAbs < 2 ^ 64 := by
  have h9 : 0 ≤ xs.getD i 0 ∧ xs.getD i 0 < B := by
    by_cases hi : i < xs.length
    · have e : xs.getD i 0 = xs[i] := by simp [List.getD, hi]
      rw [e]; exact h _ (List.getElem_mem hi)
    · have e : xs.getD i 0 = 0 := by simp [List.getD, Nat.le_of_not_lt hi]
      rw [e]; exact ⟨Int.le_refl _, hB⟩
  omega
theorem newsL {h₀ h : Heap} {L : Addr} {l₁ l₂ : List (Addr × Obj)} (N : News h₀ L h (l₁ ++ l₂)) : News h₀ L h l₁ := fun p hp => N p (List.mem_append_left _ hp)
theorem newsTo {h₀ h : Heap} {L : Addr} {l₁ l₂ : List (Addr × Obj)} (N : News h₀ L h l₁) (hs : ∀ p ∈ l₂, p ∈ l₁) : News h₀ L h l₂ := fun p hp => N p (hs p hp)
theorem newsPick {h₀ h : Heap} {L d : Addr} {o : Obj} {l₁ l₂ : List (Addr × Obj)} (N : News h₀ L h l₁) (hm : (d, o) ∈ l₁) (hs : ∀ p ∈ l₂, p ∈ l₁) : News h₀ L h ((d, o) :: l₂) := fun p hp => by
  rcases List.mem_cons.mp hp with rfl | hp
  · exact N _ hm
  · exact N p (hs p hp)

open PySem PyProof.Rows
/-- a number with a sign: the sign, and the size's limbs -/
def Sg (B : Int) (b : Bool) (xs : List Int) (v : Int) : Prop := b = decide (v < 0) ∧ Rep B xs (if v < 0 then -v else v)
theorem Sg.len {B v : Int} {b : Bool} {xs : List Int} (h : Sg B b xs v) (hB : 1 < B) (h1 : -100000 < v) (h2 : v < 100000) : xs.length < 900 :=
  len_small h.2 hB (by split <;> omega)
theorem Sg.half {B v : Int} {b : Bool} {xs zs : List Int} (h : Sg B b xs v) (hB : 1 < B) (hv : v % 2 = 0) (hz : Rep B zs ((if v < 0 then -v else v) / 2)) : Sg B (b && decide (zs ≠ [])) zs (v / 2) := by
  have e := hz.empty_iff hB
  refine ⟨?_, ?_⟩
  · rw [h.1, Bool.eq_iff_iff]
    simp only [Bool.and_eq_true, decide_eq_true_eq, ne_eq, e]
    split <;> omega
  · have e2 : (if v / 2 < 0 then -(v / 2) else v / 2) = (if v < 0 then -v else v) / 2 := by split <;> split <;> omega
    rw [e2]; exact hz
theorem Sg.mul {B u v : Int} {b c : Bool} {xs ys zs : List Int} (h : Sg B b xs u) (h' : Sg B c ys v) (hB : 1 < B) (hu : 0 < u) (hz : Rep B zs (u * (if v < 0 then -v else v))) : Sg B ((b != c) && decide (zs ≠ [])) zs (u * v) := by
  have e := hz.empty_iff hB
  have hb : b = false := by rw [h.1]; simp; omega
  have e3 : (u * v < 0) ↔ v < 0 := by
    constructor
    · intro q
      by_cases hv : v < 0
      · exact hv
      · exact absurd (Int.mul_nonneg (Int.le_of_lt hu) (Int.not_lt.mp hv)) (by omega)
    · intro q
      have := Int.mul_pos hu (by omega : 0 < -v)
      rw [Int.mul_neg] at this
      omega
  refine ⟨?_, ?_⟩
  · rw [hb, h'.1, Bool.eq_iff_iff]
    have e4 : (u * (if v < 0 then -v else v) = 0) ↔ v = 0 := by
      rw [Int.mul_eq_zero]
      split <;> omega
    by_cases hv : v < 0
    · simp [hv, e3, e]
      omega
    · simp [hv, e3]
  · have e2 : (if u * v < 0 then -(u * v) else u * v) = u * (if v < 0 then -v else v) := by
      by_cases hv : v < 0
      · rw [if_pos (e3.mpr hv), if_pos hv, Int.mul_neg]
      · rw [if_neg (fun q => hv (e3.mp q)), if_neg hv]
    rw [e2]; exact hz
theorem Sg.add_same {B u v : Int} {b c : Bool} {xs ys zs : List Int} (h : Sg B b xs u) (h' : Sg B c ys v) (hB : 1 < B) (hbc : b = c) (hz : Rep B zs ((if u < 0 then -u else u) + (if v < 0 then -v else v))) : Sg B (b && decide (zs ≠ [])) zs (u + v) := by
  have e := hz.empty_iff hB
  have hh : (u < 0) ↔ (v < 0) := by
    have := h.1.symm.trans (hbc.trans h'.1)
    simpa using this
  refine ⟨?_, ?_⟩
  · rw [h.1, Bool.eq_iff_iff]
    simp only [Bool.and_eq_true, decide_eq_true_eq, ne_eq, e]
    split <;> split <;> omega
  · have e2 : (if u + v < 0 then -(u + v) else u + v) = (if u < 0 then -u else u) + (if v < 0 then -v else v) := by split <;> split <;> split <;> omega
    rw [e2]; exact hz
theorem Sg.add_less {B u v : Int} {b c : Bool} {xs ys zs : List Int} (h : Sg B b xs u) (h' : Sg B c ys v) (hB : 1 < B) (hbc : b ≠ c) (hz : Rep B zs ((if v < 0 then -v else v) - (if u < 0 then -u else u))) : Sg B (c && decide (zs ≠ [])) zs (u + v) := by
  have e := hz.empty_iff hB
  have hnn := hz.nonneg (by omega)
  have hh : ¬ ((u < 0) ↔ (v < 0)) := by
    intro q
    exact hbc (by rw [h.1, h'.1]; simpa using q)
  refine ⟨?_, ?_⟩
  · rw [h'.1, Bool.eq_iff_iff]
    simp only [Bool.and_eq_true, decide_eq_true_eq, ne_eq, e]
    (repeat' split at hnn) <;> (repeat' split) <;> omega
  · have e2 : (if u + v < 0 then -(u + v) else u + v) = (if v < 0 then -v else v) - (if u < 0 then -u else u) := by
      (repeat' split at hnn) <;> (repeat' split) <;> omega
    rw [e2]; exact hz
theorem Sg.add_more {B u v : Int} {b c : Bool} {xs ys zs : List Int} (h : Sg B b xs u) (h' : Sg B c ys v) (hB : 1 < B) (hbc : b ≠ c) (hz : Rep B zs ((if u < 0 then -u else u) - (if v < 0 then -v else v))) : Sg B (b && decide (zs ≠ [])) zs (u + v) := by
  rw [Int.add_comm]
  exact Sg.add_less h' h hB hbc.symm hz
theorem Sg.unique {B v : Int} {b c : Bool} {xs ys : List Int} (h : Sg B b xs v) (h' : Sg B c ys v) (hB : 1 < B) : b = c ∧ xs = ys :=
  ⟨h.1.trans h'.1.symm, Rep.unique hB h.2 h'.2⟩
theorem ints_item {vs : List Value} {ns : List Int} {i : Nat} {v : Value} (hi : IntsAre vs ns) (h : vs[i]? = some v) : i < ns.length ∧ ∃ t, v = .int (ns.getD i 0) t := by
  have hl : i < vs.length := by
    by_cases q : i < vs.length
    · exact q
    · rw [List.getElem?_eq_none (by omega)] at h; cases h
  have hl2 : i < ns.length := by rw [← hi.length]; exact hl
  obtain ⟨t, hx⟩ := hi.get i ns[i] (by simp [hl2])
  rw [hx] at h
  exact ⟨hl2, t, by rw [getD_lt hl2]; exact (Option.some.inj h).symm⟩
theorem ints_one {vs : List Value} {c : Int} (hi : IntsAre vs [c]) : ∃ t, vs = [.int c t] := by
  cases hi with
  | cons n t h => cases h; exact ⟨t, rfl⟩
theorem rep_one {B c : Int} {xs : List Int} (hB : 1 < B) (h : Rep B xs c) (h0 : 0 < c) (h1 : c < B) : xs = [c] := Rep.unique hB h (Rep.one h0 h1)
theorem rep_flat (n : Nat) (a : Int) : (List.replicate n [a]).flatten = List.replicate n a := by
  induction n with
  | zero => rfl
  | succ n ih => rw [List.replicate_succ, List.flatten_cons, ih, List.replicate_succ]; rfl
theorem rep_eq (ys : List Int) : (List.replicate (1 + (ys.length : Int)).toNat [(0 : Int)]).flatten = List.replicate (ys.length + 1) 0 := by
  rw [rep_flat, show (1 + (ys.length : Int)).toNat = ys.length + 1 by omega]
theorem rep_len (ys : List Int) : (List.replicate (1 + (ys.length : Int)).toNat [(0 : Int)]).flatten.length = ys.length + 1 := by
  rw [rep_eq, List.length_replicate]
theorem mul_turn {e c k t z : Int} {j : Nat} {pre ys f : List Int} (hB : (8 : Int) ≤ 2 ^ e.toNat) (hc0 : 1 ≤ c) (hc : c ≤ 7) (hy : Lim (2 ^ e.toNat) ys) (hi : pre.length < ys.length) (h : MulI (2 ^ e.toNat) c ys pre.length k f) (hj : j = pre.length)
    (ht : t = k + (f.getD j 0 + c * ys.getD pre.length 0)) : MulI (2 ^ e.toNat) c ys (pre ++ [z]).length (t.fdiv (2 ^ e.toNat)) (f.set j (Builtin.bitAnd t (1 * 2 ^ e.toNat - 1))) := by
  rw [maskE, divE _ (by omega), List.length_append, List.length_singleton, hj]
  exact MulI.step hB hc0 hc hy hi h (by rw [ht, hj])
theorem mul_last {e c k v z : Int} {j : Nat} {pre ys f : List Int} (hB : (8 : Int) ≤ 2 ^ e.toNat) (hy : val (2 ^ e.toNat) ys = v) (hi : pre.length = ys.length) (h : MulI (2 ^ e.toNat) c ys pre.length k f) (hj : j = ys.length) :
    (f.set j k).length = ys.length + 1 ∧ ((([] : List Int) ++ [z] = [] ∧ f.set j k = List.replicate (ys.length + 1) 0) ∨ ((([] : List Int) ++ [z]).length = 1 ∧ Lim (2 ^ e.toNat) (f.set j k) ∧ val (2 ^ e.toNat) (f.set j k) = c * v)) := by
  rw [hi] at h
  rw [hj]
  have d := MulI.done hB rfl hy h
  refine ⟨by rw [List.length_set]; exact h.1, .inr ⟨rfl, d.1, d.2⟩⟩
def RgEnd (h₀ : Heap) (L I : Addr) (o : Obj) (J : (Str → Option Value) → List (Addr × Obj) → Prop) (s₁ s₂ : Shared) : Prop :=
  ∃ h' tk m' nx, s₂ = { s₁ with heap := h', toks := tk } ∧ Fr h₀ L h' m' ∧ News h₀ L h' ((I, o) :: nx) ∧ (∀ p ∈ nx, p.1 ≠ I) ∧ J m' nx
def RgPost (h₀ : Heap) (L I : Addr) (o : Obj) (J : (Str → Option Value) → List (Addr × Obj) → Prop) (s₁ : Shared) (Q : Flow → Shared → Prop) (f : Flow) (s₂ : Shared) : Prop :=
  match f with
  | .ret v => Q (.ret v) s₂
  | .brk => Q .next s₂
  | _ => RgEnd h₀ L I o J s₁ s₂
def RgS {σ : Type} (Led : σ → List (Addr × Obj)) (ps : Nat → σ → List (Str × Value)) (Facts : Nat → σ → Prop) (stored : List Str) (m₀ : Str → Option Value) (i : Nat) (m : Str → Option Value) (nx : List (Addr × Obj)) : Prop :=
  ∃ c : σ, nx = Led c ∧ Facts i c ∧ (∀ p ∈ ps i c, m p.1 = some p.2) ∧ (∀ z, (∀ p ∈ ps i c, z ≠ p.1) → stored.contains z = false → m z = m₀ z)
section
variable {prog : Program} {w : World} {A : Around} {E : Value → Shared → Prop} {s : Shared} {env : Env} {h₀ : Heap} {body : List Stmt} {Q : Flow → Shared → Prop}

theorem items_range {y : Str} {pos : Pos} {I : Addr} {n : Nat} (J : Nat → (Str → Option Value) → List (Addr × Obj) → Prop)
    (turn : ∀ i t m₁ nx h tk o, i < n → J i m₁ nx → (∀ p ∈ nx, p.1 ≠ I) → o.cls = .type "range_iterator" → Fr h₀ env.locals h m₁ → News h₀ env.locals h ((I, o) :: nx) →
      wpAny (model prog w) A (assign (.Name y pos) env (.int (i : Int) t)) (fun _ s₂ => wpAny (model prog w) A (execs body env) (RgPost h₀ env.locals I o (J (i + 1)) { s with heap := h, toks := tk } Q) E s₂) E { s with heap := h, toks := tk })
    (done : ∀ m₁ nx h tk, J n m₁ nx → Fr h₀ env.locals h m₁ → News h₀ env.locals h nx → Q .next { s with heap := h, toks := tk }) :
    ∀ (k i : Nat) (m : Str → Option Value) (nx : List (Addr × Obj)), i + k = n → (∀ p ∈ nx, p.1 ≠ I) → J i m nx →
      ItemsRest prog w A E h₀ env (.Name y pos) body Q s [(I, "range_iterator")] [] ((List.range' i k).map fun (j : Nat) => Itm.tok fun t => .int (j : Int) t) m nx := by
  intro k
  induction k with
  | zero =>
    intro i m nx hi _ hJ
    have e : i = n := by omega
    subst e
    exact ItemsRest.zero fun h tk F N => done m nx h tk hJ F N
  | succ k ih =>
    intro i m nx hi hne hJ
    rw [List.range'_succ]
    refine ItemsRest.tok fun t h tk F => ?_
    intro o ho N
    refine wpAny_mono (turn i t m nx h tk o (by omega) hJ hne ho F N) (fun _ s₂ h₂ => wpAny_mono h₂ (fun f s₃ p => ?_) fun _ _ e => e) fun _ _ e => e
    have fin : RgEnd h₀ env.locals I o (J (i + 1)) { s with heap := h, toks := tk } s₃ →
        UnrEndW h₀ env.locals { s with heap := h, toks := tk } [(I, o)] (fun m' n' => SubL [] n' ∧ ItemsRest prog w A E h₀ env (.Name y pos) body Q s [(I, "range_iterator")] [] ((List.range' (i + 1) k).map fun (j : Nat) => Itm.tok fun t => .int (j : Int) t) m' n') s₃ := by
      rintro ⟨h', tk', m', nx', e, F', N', hne', hS⟩
      refine ⟨h', tk', m', nx', e, F', N', fun p hp q hq => ?_, trivial, ih (i + 1) m' nx' (by omega) hne' hS⟩
      rw [List.mem_singleton.mp hq]
      exact hne' p hp
    cases f with
    | ret v => exact p
    | brk => exact p
    | next => exact fin p
    | cont => exact fin p

theorem range_inv {σ : Type} {y : Str} {pos : Pos} {r : Addr} {n : Nat} {t₀ u₀ v₀ : Tok} {m₀ : Str → Option Value} (Led : σ → List (Addr × Obj)) (ps : Nat → σ → List (Str × Value)) (Facts : Nat → σ → Prop) (stored : List Str) (c₀ : σ)
    (hh : A.handled = none) (hr : IsRange s.heap r 0 (n : Int) 1 t₀ u₀ v₀) (hsmall : Builtin.Range.small 0 (n : Int) 1 = true) (F : Fr h₀ env.locals s.heap m₀) (N : News h₀ env.locals s.heap (Led c₀)) (hf : Facts 0 c₀) (hk : ∀ p ∈ ps 0 c₀, m₀ p.1 = some p.2)
    (turn : ∀ (c : σ) i t (u : Str → Option Value) h tk I o, i < n → Facts i c → (∀ p ∈ Led c, p.1 ≠ I) → o.cls = .type "range_iterator" → Fr h₀ env.locals h (kstB (fun z => if stored.contains z then u z else m₀ z) (ps i c)) → News h₀ env.locals h ((I, o) :: Led c) →
      wpAny (model prog w) A (assign (.Name y pos) env (.int (i : Int) t)) (fun _ s₂ => wpAny (model prog w) A (execs body env) (RgPost h₀ env.locals I o (RgS Led ps Facts stored m₀ (i + 1)) { s with heap := h, toks := tk } Q) E s₂) E { s with heap := h, toks := tk })
    (done : ∀ (c : σ) (u : Str → Option Value) h tk, Facts n c → Fr h₀ env.locals h (kstB (fun z => if stored.contains z then u z else m₀ z) (ps n c)) → News h₀ env.locals h (Led c) → Q .next { s with heap := h, toks := tk }) :
    wpAny (model prog w) A (pyIter (.ref r)) (fun it s₂ => TurnsAt prog w A h₀ env (.Name y pos) body Q E it s₂) E s := by
  have hn : Builtin.Range.rangeSize 0 (n : Int) 1 = (n : Int) := by rw [rangeSize_nat]; omega
  refine wpAny_pyIter_range hr hsmall ?_
  refine ktu_core (tk0 := s.toks) (keep := []) (n := n) (ws := [(s.heap.objs.size, "range_iterator")]) (xs := (List.range' 0 n).map fun (j : Nat) => Itm.tok fun t => .int (j : Int) t) (KTurns.ofWalks (Walks.range hh s.heap.objs.size 0 1 n).bound fun i v s Q E st q => wpAny_pure q) (by simp) ?_ ?_ ?_ ?_ ?_ ?_ ?_ ?_ (F.push _) (fun p hp => ⟨Heap.get?_push_of_some _ (N p hp).1, (N p hp).2⟩) trivial
    (items_range (n := n) (J := fun i m nx => RgS Led ps Facts stored m₀ i m nx) ?_ ?_ n 0 m₀ (Led c₀) (by omega) ?_ ⟨c₀, rfl, hf, hk, fun _ _ _ => rfl⟩)
  · rintro i v h ⟨hi, t, rfl⟩
    refine ⟨Itm.tok fun t => .int (i : Int) t, by simp [hi], t, ?_⟩
    rw [show (0 : Int) + (i : Int) * 1 = (i : Int) by omega]
  · intro i h st
    exact ⟨[(s.heap.objs.size, _)], ⟨⟨rfl, rfl⟩, trivial⟩, fun p hp => by rw [List.mem_singleton.mp hp]; exact st⟩
  · intro b hb
    have hb' : b = s.heap.objs.size := by simpa using hb
    rw [hb']
    exact ⟨List.mem_cons_self .., next_is_new F⟩
  · intro b hb
    simpa using hb
  · intro b hb
    exact .inl (by simpa using hb)
  · intro hI
    exact absurd F.ns.lt ((List.mem_singleton.mp hI) ▸ Nat.lt_irrefl _)
  · intro p hp hI
    exact absurd (Heap.lt_size (N p hp).1) ((List.mem_singleton.mp hI) ▸ Nat.lt_irrefl _)
  · show IsRangeIter _ _ _ _ _
    rw [hn]; simpa using Heap.get?_push_size _ rfl
  · rintro i t m₁ nx h tk o hi ⟨c, rfl, hf', h1, h2⟩ hne ho F₁ N₁
    exact turn c i t m₁ h tk _ o hi hf' hne ho (ksw_fr h1 h2 F₁) N₁
  · rintro m₁ nx h tk ⟨c, rfl, hf', h1, h2⟩ F₁ N₁
    exact done c m₁ h tk hf' (ksw_fr h1 h2 F₁) N₁
  · intro p hp e
    exact absurd (Heap.lt_size (N p hp).1) (e ▸ Nat.lt_irrefl _)
theorem ne_of_cls {h : Heap} {L a I : Addr} {o₁ o : Obj} {led : List (Addr × Obj)} (N : News h₀ L h led) (h1 : (a, o₁) ∈ led) (h2 : (I, o) ∈ led) (hc : o₁.cls ≠ o.cls) : a ≠ I := by
  intro e
  subst e
  have e1 := (N _ h1).1
  have e2 := (N _ h2).1
  exact hc (congrArg Obj.cls (Option.some.inj (e1.symm.trans e2)))
end
open PySem PySem.W PyProof.Rows
/-- one step: an even number is halved, an odd one taken o times, m added, and halved -/
def stp (o m x : Int) : Int := if x % 2 = 1 then (o * x + m) / 2 else x / 2
def itr (o m f : Int) : Nat → Int
  | 0 => f
  | i + 1 => stp o m (itr o m f i)
def scl (o m f : Int) : Nat → Int
  | 0 => 1
  | i + 1 => if itr o m f i % 2 = 1 then o * scl o m f i else scl o m f i
def bhd (o m f : Int) : Nat → Int
  | 0 => 0
  | i + 1 => if itr o m f i % 2 = 1 then o * bhd o m f i + m * 2 ^ i else bhd o m f i
def shw (o m f : Int) : Nat → List Int
  | 0 => []
  | i + 1 => shw o m f i ++ [itr o m f i % 2]
theorem itr_law {o m f : Int} (ho : o % 2 = 1) (hm : m % 2 = 1) : ∀ i, itr o m f i * 2 ^ i = scl o m f i * f + bhd o m f i
  | 0 => by simp [itr, scl, bhd]
  | i + 1 => by
    have ih := itr_law (f := f) ho hm i
    simp only [itr, scl, bhd, stp]
    generalize itr o m f i = x at *
    rw [Int.pow_succ]
    by_cases hx : x % 2 = 1
    · simp only [hx, if_true]
      have hp : (o * x + m) % 2 = 0 := by
        have : (o * x) % 2 = 1 := by rw [Int.mul_emod, ho, hx]; rfl
        omega
      have e : (o * x + m) / 2 * 2 = o * x + m := by omega
      have e2 : (o * x + m) / 2 * (2 ^ i * 2) = ((o * x + m) / 2 * 2) * 2 ^ i := by grind
      rw [e2, e]
      grind
    · simp only [hx, if_false]
      have e : x / 2 * 2 = x := by omega
      have e2 : x / 2 * (2 ^ i * 2) = (x / 2 * 2) * 2 ^ i := by grind
      rw [e2, e, ih]
theorem mulb {o x K : Int} (ho : 1 ≤ o) (ho2 : o ≤ 7) (h1 : -K ≤ x) (h2 : x ≤ K) (hK : 0 ≤ K) : -(7 * K) ≤ o * x ∧ o * x ≤ 7 * K := by
  have ho' : o = 1 ∨ o = 2 ∨ o = 3 ∨ o = 4 ∨ o = 5 ∨ o = 6 ∨ o = 7 := by omega
  rcases ho' with rfl | rfl | rfl | rfl | rfl | rfl | rfl <;> omega
theorem stp_bound {o m x K : Int} (ho : 1 ≤ o) (ho2 : o ≤ 7) (hm : -3 ≤ m) (hm2 : m ≤ 3) (h1 : -K ≤ x) (h2 : x ≤ K) (hK : 0 ≤ K) : -(4 * K + 2) ≤ stp o m x ∧ stp o m x ≤ 4 * K + 2 := by
  have := mulb ho ho2 h1 h2 hK
  unfold stp
  split <;> omega
theorem itr_bound {o m f : Int} (ho : 1 ≤ o) (ho2 : o ≤ 7) (hm : -3 ≤ m) (hm2 : m ≤ 3) (h1 : -70 ≤ f) (h2 : f ≤ 70) {i : Nat} (hi : i ≤ 3) : -5000 ≤ itr o m f i ∧ itr o m f i ≤ 5000 ∧ (i < 3 → -1200 ≤ itr o m f i ∧ itr o m f i ≤ 1200) := by
  have b1 := stp_bound (x := f) ho ho2 hm hm2 h1 h2 (by omega)
  have b2 := stp_bound (x := stp o m f) (K := 282) ho ho2 hm hm2 (by omega) (by omega) (by omega)
  have b3 := stp_bound (x := stp o m (stp o m f)) (K := 1130) ho ho2 hm hm2 (by omega) (by omega) (by omega)
  have hi' : i = 0 ∨ i = 1 ∨ i = 2 ∨ i = 3 := by omega
  rcases hi' with rfl | rfl | rfl | rfl
  · simp only [itr]; omega
  · simp only [itr]; omega
  · simp only [itr]; omega
  · simp only [itr]; omega
theorem scl_bound {o m f : Int} (ho : 1 ≤ o) (ho2 : o ≤ 7) {i : Nat} (hi : i ≤ 3) : -343 ≤ scl o m f i ∧ scl o m f i ≤ 343 := by
  have step : ∀ (c : Prop) [Decidable c] (x K : Int), -K ≤ x → x ≤ K → 0 ≤ K → -(7 * K) ≤ (if c then o * x else x) ∧ (if c then o * x else x) ≤ 7 * K := by
    intro c _ x K a b d
    have := mulb ho ho2 a b d
    split <;> omega
  have hi' : i = 0 ∨ i = 1 ∨ i = 2 ∨ i = 3 := by omega
  have s1 := step (itr o m f 0 % 2 = 1) 1 1 (by omega) (by omega) (by omega)
  have s2 := step (itr o m f 1 % 2 = 1) _ 7 s1.1 s1.2 (by omega)
  have s3 := step (itr o m f 2 % 2 = 1) _ 49 s2.1 s2.2 (by omega)
  rcases hi' with rfl | rfl | rfl | rfl
  · simp only [scl]; omega
  · simp only [scl]; omega
  · simp only [scl]; omega
  · simp only [scl]; omega
theorem bhd_bound {o m f : Int} (ho : 1 ≤ o) (ho2 : o ≤ 7) (hm : -3 ≤ m) (hm2 : m ≤ 3) {i : Nat} (hi : i ≤ 3) : -300 ≤ bhd o m f i ∧ bhd o m f i ≤ 300 := by
  have step : ∀ (c : Prop) [Decidable c] (x K a : Int), -K ≤ x → x ≤ K → 0 ≤ K → -12 ≤ a → a ≤ 12 → -(7 * K + 12) ≤ (if c then o * x + a else x) ∧ (if c then o * x + a else x) ≤ 7 * K + 12 := by
    intro c _ x K a b d e g1 g2
    have := mulb ho ho2 b d e
    split <;> omega
  have hi' : i = 0 ∨ i = 1 ∨ i = 2 ∨ i = 3 := by omega
  have s1 : -3 ≤ (if itr o m f 0 % 2 = 1 then o * 0 + m * 2 ^ 0 else 0) ∧ (if itr o m f 0 % 2 = 1 then o * 0 + m * 2 ^ 0 else 0) ≤ 3 := by simp; split <;> omega
  have s2 : -27 ≤ (if itr o m f 1 % 2 = 1 then o * (if itr o m f 0 % 2 = 1 then o * 0 + m * 2 ^ 0 else 0) + m * 2 ^ 1 else (if itr o m f 0 % 2 = 1 then o * 0 + m * 2 ^ 0 else 0)) ∧ (if itr o m f 1 % 2 = 1 then o * (if itr o m f 0 % 2 = 1 then o * 0 + m * 2 ^ 0 else 0) + m * 2 ^ 1 else (if itr o m f 0 % 2 = 1 then o * 0 + m * 2 ^ 0 else 0)) ≤ 27 := by
    generalize (if itr o m f 0 % 2 = 1 then o * 0 + m * 2 ^ 0 else 0) = z at *
    have := mulb ho ho2 s1.1 s1.2 (by omega)
    split <;> omega
  have s3 := step (itr o m f 2 % 2 = 1) _ 27 (m * 2 ^ 2) s2.1 s2.2 (by omega) (by omega) (by omega)
  rcases hi' with rfl | rfl | rfl | rfl
  · simp only [bhd]; omega
  · simp only [bhd]; omega
  · simp only [bhd]; omega
  · simp only [bhd]; omega
/-- the state between the turns of _law_row -/
structure RowSt where
  t : Addr
  l : Addr
  cc : Nat
  n : Nat
  us : List Value
  b : Bool
  xs : List Int
  kh : Tok
  ks : Tok
  kb : Tok
  sv : List Value
  sn : Nat
def RowLed (S : Addr) (R : List (Addr × Obj)) (c : RowSt) : List (Addr × Obj) :=
  (c.t, { cls := .type "tuple", data := .seq #[.bool c.b, .ref c.l] c.cc }) :: (c.l, listOf c.us.toArray c.n) :: (S, listOf c.sv.toArray c.sn) :: R
def RowPs (o m f : Int) (i : Nat) (c : RowSt) : List (Str × Value) :=
  [(Str.ofString "x", .ref c.t), (Str.ofString "here", .int (itr o m f i) c.kh), (Str.ofString "scale", .int (scl o m f i) c.ks), (Str.ofString "behind", .int (bhd o m f i) c.kb)]
def RowFacts (S : Addr) (B o m f : Int) (i : Nat) (c : RowSt) : Prop := IntsAre c.us c.xs ∧ Sg B c.b c.xs (itr o m f i) ∧ IntsAre c.sv (shw o m f i) ∧ c.t ≠ S ∧ c.l ≠ S
section
variable {prog : Program} {w : World} {A : Around} {E : Value → Shared → Prop} {s : Shared} {env : Env} {h₀ : Heap} {body : List Stmt} {Q : Flow → Shared → Prop}
theorem row_range {B o m f : Int} {y : Str} {pos : Pos} {r S : Addr} {t₀ u₀ v₀ : Tok} {m₀ : Str → Option Value} {led : List (Addr × Obj)} (R : List (Addr × Obj)) (stored : List Str) {t l : Addr} {cc n : Nat} {us : List Value} {b : Bool} {xs : List Int} {kh ks kb : Tok} {sn : Nat}
    (hh : A.handled = none) (hr : IsRange s.heap r 0 3 1 t₀ u₀ v₀) (F : Fr h₀ env.locals s.heap m₀) (N : News h₀ env.locals s.heap led)
    (hx : m₀ (Str.ofString "x") = some (.ref t)) (hhe : m₀ (Str.ofString "here") = some (.int f kh)) (hsc : m₀ (Str.ofString "scale") = some (.int 1 ks)) (hbe : m₀ (Str.ofString "behind") = some (.int 0 kb)) (_hsh : m₀ (Str.ofString "shown") = some (.ref S))
    (hm1 : (t, ({ cls := .type "tuple", data := .seq #[.bool b, .ref l] cc } : Obj)) ∈ led) (hm2 : (l, listOf us.toArray n) ∈ led) (hm3 : (S, listOf #[] sn) ∈ led) (hR : ∀ p ∈ R, p ∈ led) (hi : IntsAre us xs) (hg : Sg B b xs f) (htS : t ≠ S) (hlS : l ≠ S)
    (turn : ∀ (i : Nat) (t l : Addr) (cc n : Nat) (us : List Value) (b : Bool) (xs : List Int) (kh ks kb : Tok) (sv : List Value) (sn : Nat) tk' (u : Str → Option Value) h tk I ob, i < 3 → IntsAre us xs → Sg B b xs (itr o m f i) → IntsAre sv (shw o m f i) →
      @Ne Nat t S → @Ne Nat l S → @Ne Nat t I → @Ne Nat l I → @Ne Nat S I → (∀ p ∈ R, p.1 ≠ I) → ob.cls = .type "range_iterator" →
      Fr h₀ env.locals h (fun z => if z = Str.ofString "x" then some (.ref t) else if z = Str.ofString "here" then some (.int (itr o m f i) kh) else if z = Str.ofString "scale" then some (.int (scl o m f i) ks) else if z = Str.ofString "behind" then some (.int (bhd o m f i) kb) else if stored.contains z then u z else m₀ z) →
      News h₀ env.locals h ((I, ob) :: (t, { cls := .type "tuple", data := .seq #[.bool b, .ref l] cc }) :: (l, listOf us.toArray n) :: (S, listOf sv.toArray sn) :: R) →
      wpAny (model prog w) A (assign (.Name y pos) env (.int (i : Int) tk')) (fun _ s₂ => wpAny (model prog w) A (execs body env) (RgPost h₀ env.locals I ob (RgS (RowLed S R) (RowPs o m f) (RowFacts S B o m f) stored m₀ (i + 1)) { s with heap := h, toks := tk } Q) E s₂) E { s with heap := h, toks := tk })
    (done : ∀ (t l : Addr) (cc n : Nat) (us : List Value) (b : Bool) (xs : List Int) (kh ks kb : Tok) (sv : List Value) (sn : Nat) (u : Str → Option Value) h tk, IntsAre us xs → Sg B b xs (itr o m f 3) → IntsAre sv (shw o m f 3) →
      Fr h₀ env.locals h (fun z => if z = Str.ofString "x" then some (.ref t) else if z = Str.ofString "here" then some (.int (itr o m f 3) kh) else if z = Str.ofString "scale" then some (.int (scl o m f 3) ks) else if z = Str.ofString "behind" then some (.int (bhd o m f 3) kb) else if stored.contains z then u z else m₀ z) →
      News h₀ env.locals h ((t, { cls := .type "tuple", data := .seq #[.bool b, .ref l] cc }) :: (l, listOf us.toArray n) :: (S, listOf sv.toArray sn) :: R) → Q .next { s with heap := h, toks := tk }) :
    wpAny (model prog w) A (pyIter (.ref r)) (fun it s₂ => TurnsAt prog w A h₀ env (.Name y pos) body Q E it s₂) E s := by
  refine range_inv (n := 3) (RowLed S R) (RowPs o m f) (RowFacts S B o m f) stored ⟨t, l, cc, n, us, b, xs, kh, ks, kb, [], sn⟩ hh hr (by decide) F ?_ ⟨hi, hg, .nil, htS, hlS⟩ ?_ ?_ ?_
  · exact newsPick N hm1 fun p hp => by
      rcases List.mem_cons.mp hp with rfl | hp
      · exact hm2
      · rcases List.mem_cons.mp hp with rfl | hp
        · exact hm3
        · exact hR p hp
  · intro p hp
    simp only [RowPs, List.mem_cons, List.not_mem_nil, or_false] at hp
    rcases hp with rfl | rfl | rfl | rfl
    · exact hx
    · exact hhe
    · exact hsc
    · exact hbe
  · rintro ⟨t, l, cc, n, us, b, xs, kh, ks, kb, sv, sn⟩ i tk' u h tk I ob hi ⟨h1, h2, h3, h4, h5⟩ hne ho F₁ N₁
    exact turn i t l cc n us b xs kh ks kb sv sn tk' u h tk I ob hi h1 h2 h3 h4 h5 (hne _ (.head _)) (hne _ (.tail _ (.head _))) (hne _ (.tail _ (.tail _ (.head _)))) (fun p hp => hne p (.tail _ (.tail _ (.tail _ hp)))) ho F₁ N₁
  · rintro ⟨t, l, cc, n, us, b, xs, kh, ks, kb, sv, sn⟩ u h tk ⟨h1, h2, h3, _⟩ F₁ N₁
    exact done t l cc n us b xs kh ks kb sv sn u h tk h1 h2 h3 F₁ N₁
theorem row_end {B o m f : Int} {S I L : Addr} {R led : List (Addr × Obj)} {stored : List Str} {m₀ m' : Str → Option Value} {s₁ : Shared} {h' : Heap} {i tk : Nat} {ob : Obj} {t l : Addr} {cc n : Nat} {us : List Value} {b : Bool} {xs : List Int} {kh ks kb : Tok} {sv : List Value} {sn : Nat}
    (F : Fr h₀ L h' m') (N : News h₀ L h' led) (hI : (I, ob) ∈ led) (ho : ob.cls = .type "range_iterator") (hSI : S ≠ I) (hRI : ∀ p ∈ R, p.1 ≠ I)
    (hm1 : (t, ({ cls := .type "tuple", data := .seq #[.bool b, .ref l] cc } : Obj)) ∈ led) (hm2 : (l, listOf us.toArray n) ∈ led) (hm3 : (S, listOf sv.toArray sn) ∈ led) (hR : ∀ p ∈ R, p ∈ led)
    (hx : m' (Str.ofString "x") = some (.ref t)) (hhe : m' (Str.ofString "here") = some (.int (itr o m f (i + 1)) kh)) (hsc : m' (Str.ofString "scale") = some (.int (scl o m f (i + 1)) ks)) (hbe : m' (Str.ofString "behind") = some (.int (bhd o m f (i + 1)) kb))
    (hr : ∀ z, z ≠ Str.ofString "x" → z ≠ Str.ofString "here" → z ≠ Str.ofString "scale" → z ≠ Str.ofString "behind" → stored.contains z = false → m' z = m₀ z)
    (hi : IntsAre us xs) (hg : Sg B b xs (itr o m f (i + 1))) (hs : IntsAre sv (shw o m f (i + 1))) (htS : t ≠ S) (hlS : l ≠ S) :
    RgPost h₀ L I ob (RgS (RowLed S R) (RowPs o m f) (RowFacts S B o m f) stored m₀ (i + 1)) s₁ Q .next { s₁ with heap := h', toks := tk } := by
  refine ⟨h', tk, m', RowLed S R ⟨t, l, cc, n, us, b, xs, kh, ks, kb, sv, sn⟩, rfl, F, ?_, ?_, ⟨t, l, cc, n, us, b, xs, kh, ks, kb, sv, sn⟩, rfl, ⟨hi, hg, hs, htS, hlS⟩, ?_, ?_⟩
  · refine newsPick N hI (fun p hp => ?_)
    rcases List.mem_cons.mp hp with rfl | hp
    · exact hm1
    · rcases List.mem_cons.mp hp with rfl | hp
      · exact hm2
      · rcases List.mem_cons.mp hp with rfl | hp
        · exact hm3
        · exact hR p hp
  · intro p hp
    rcases List.mem_cons.mp hp with rfl | hp
    · exact ne_of_cls N hm1 hI (by rw [ho]; show Value.type "tuple" ≠ Value.type "range_iterator"; decide)
    · rcases List.mem_cons.mp hp with rfl | hp
      · exact ne_of_cls N hm2 hI (by rw [ho]; show Value.type "list" ≠ Value.type "range_iterator"; decide)
      · rcases List.mem_cons.mp hp with rfl | hp
        · exact hSI
        · exact hRI p hp
  · intro p hp
    simp only [RowPs, List.mem_cons, List.not_mem_nil, or_false] at hp
    rcases hp with rfl | rfl | rfl | rfl
    · exact hx
    · exact hhe
    · exact hsc
    · exact hbe
  · intro z h1 h2
    have q : ∀ p ∈ RowPs o m f (i + 1) ⟨t, l, cc, n, us, b, xs, kh, ks, kb, sv, sn⟩, z ≠ p.1 := h1
    simp only [RowPs, List.forall_mem_cons] at q
    exact hr z q.1 q.2.1 q.2.2.1 q.2.2.2.1 h2
end
theorem Sg.par {B H v : Int} {b : Bool} {xs : List Int} (hB : B = 2 * H) (h : Sg B b xs v) : xs.getD 0 0 % 2 = v % 2 := by
  rw [even_iff hB h.2.2.2]; split <;> omega
theorem Sg.plain {B v : Int} {b : Bool} {xs : List Int} (h : Sg B b xs v) : (if b = true then 0 - (if v < 0 then -v else v) else (if v < 0 then -v else v)) = v := by
  rw [h.1]
  by_cases hv : v < 0 <;> simp [hv]
theorem base_even {e : Int} (h : 3 ≤ e) : (2 : Int) ^ e.toNat = 2 * 2 ^ (e.toNat - 1) := by
  have : e.toNat = (e.toNat - 1) + 1 := by omega
  rw [this, Int.pow_succ, Nat.add_sub_cancel]; omega
theorem par_of {B H v : Int} {b : Bool} {xs : List Int} (hB : B = 2 * H) (h : Sg B b xs v) :
    ((if ((xs.getD (Int.toNat 0) 0).fmod 2 == 1) = true then (1 : Int) else 0) = v % 2) ∧ (¬ (0 : Int) < xs.length → v % 2 = 0) := by
  have e := h.par hB
  have h1 := Int.emod_nonneg v (b := 2) (by omega)
  have h2 := Int.emod_lt_of_pos v (b := 2) (by omega)
  refine ⟨?_, fun q => ?_⟩
  · rw [modE _ (by omega)]
    show (if (xs.getD 0 0 % 2 == 1) = true then (1 : Int) else 0) = v % 2
    rw [e]
    by_cases q : v % 2 = 1
    · rw [q]; rfl
    · have : v % 2 = 0 := by omega
      rw [this]; rfl
  · have : xs = [] := List.eq_nil_of_length_eq_zero (by omega)
    subst this
    simpa using e.symm
theorem odd_sum {o m x : Int} (ho : o % 2 = 1) (hm : m % 2 = 1) (hx : x % 2 = 1) : (o * x + m) % 2 = 0 := by
  have : (o * x) % 2 = 1 := by rw [Int.mul_emod, ho, hx]; rfl
  omega
theorem Sg.rep {B v : Int} {b : Bool} {xs : List Int} (h : Sg B b xs v) : Rep B xs (if v < 0 then -v else v) := h.2
theorem shw_length (o m f : Int) : ∀ i, (shw o m f i).length = i
  | 0 => rfl
  | i + 1 => by rw [shw, List.length_append, shw_length o m f i]; rfl
section
variable {prog : Program} {w : World} {A : Around} {E : Value → Shared → Prop} {s : Shared} {h₀ : Heap} {L : Addr}
theorem reads_sg {t l : Addr} {c n : Nat} {b : Bool} {us : List Value} {xs : List Int} {led : List (Addr × Obj)} (N : News h₀ L s.heap led) (h1 : (t, ({ cls := .type "tuple", data := .seq #[.bool b, .ref l] c } : Obj)) ∈ led) (h2 : (l, listOf us.toArray n) ∈ led) (hi : IntsAre us xs) :
    Reads s.heap (.ref t) (.tuple [.bool b, .list (xs.map PyData.int)]) [l] :=
  reads_tuple_at (N.get h1) rfl rfl (ReadsAll.cons (Reads.bool _) (ReadsAll.cons (reads_newData (News.isList N h2) (ke_carried hi)) ReadsAll.nil))
theorem shaped_sg (b : Bool) (xs : List Int) : PySem.SeqAt.shaped (.tuple [.bool b, .list (xs.map PyData.int)]) = true := by
  simp [SeqAt.shaped, PyData.canLay0, PyData.canLayAll0, PyData.depth, PyData.depthAll, ke_canLayAll0, ke_depthAll]
theorem ne_sg {B v v' : Int} {t l t' l' : Addr} {c n c' n' : Nat} {b b' : Bool} {us us' : List Value} {xs xs' : List Int} {led : List (Addr × Obj)} {Q : Value → Shared → Prop} (N : News h₀ L s.heap led)
    (h1 : (t, ({ cls := .type "tuple", data := .seq #[.bool b, .ref l] c } : Obj)) ∈ led) (h2 : (l, listOf us.toArray n) ∈ led) (h3 : (t', ({ cls := .type "tuple", data := .seq #[.bool b', .ref l'] c' } : Obj)) ∈ led) (h4 : (l', listOf us'.toArray n') ∈ led)
    (hi : IntsAre us xs) (hi' : IntsAre us' xs') (hg : Sg B b xs v) (hg' : Sg B b' xs' v') (hB : 1 < B) (hv : v = v') (hu : A.units + 64 < cLine) (h : Q (.bool false) s) : wpAny (model prog w) A (compareOp .NotEq (.ref t) (.ref t')) Q E s := by
  subst hv
  obtain ⟨rfl, rfl⟩ := hg.unique hg' hB
  refine ne_dataH (reads_sg N h1 h2 hi) (reads_sg N h3 h4 hi') (shaped_sg b xs) (shaped_sg b xs) hu ?_
  have e : PyData.eqv (.tuple [.bool b, .list (xs.map PyData.int)]) (.tuple [.bool b, .list (xs.map PyData.int)]) = true := by
    simp [PyData.eqv, PyData.eqvAll, ked_eqvAll]
  rw [e]
  exact h
end
theorem fdiv2 (x : Int) : x.fdiv 2 = x / 2 := by rw [Int.fdiv_eq_ediv_of_nonneg _ (by decide)]
theorem row_odd {o m f : Int} {i : Nat} (h : itr o m f i % 2 = 1) : itr o m f (i + 1) = (o * itr o m f i + m).fdiv 2 ∧ scl o m f (i + 1) = o * scl o m f i ∧ bhd o m f (i + 1) = o * bhd o m f i + m * 2 ^ i := by
  rw [fdiv2]
  simp only [itr, scl, bhd, stp, h, if_true, and_self]
theorem row_even {o m f : Int} {i : Nat} (h : itr o m f i % 2 = 0) : itr o m f (i + 1) = (itr o m f i).fdiv 2 ∧ scl o m f (i + 1) = scl o m f i ∧ bhd o m f (i + 1) = bhd o m f i := by
  rw [fdiv2]
  have h' : ¬ itr o m f i % 2 = 1 := by omega
  simp only [itr, scl, bhd, stp, h', if_false, and_self]
theorem row_lawO {o m f : Int} {i : Nat} (ho : o % 2 = 1) (hm : m % 2 = 1) (h : itr o m f i % 2 = 1) : (o * itr o m f i + m).fdiv 2 * 2 ^ ((i : Int) + 1).toNat = o * scl o m f i * f + (o * bhd o m f i + m * 2 ^ (i : Int).toNat) := by
  have e := itr_law (f := f) ho hm (i + 1)
  obtain ⟨e1, e2, e3⟩ := row_odd h
  rw [e1, e2, e3] at e
  exact e
theorem row_lawE {o m f : Int} {i : Nat} (ho : o % 2 = 1) (hm : m % 2 = 1) (h : itr o m f i % 2 = 0) : (itr o m f i).fdiv 2 * 2 ^ ((i : Int) + 1).toNat = scl o m f i * f + bhd o m f i := by
  have e := itr_law (f := f) ho hm (i + 1)
  obtain ⟨e1, e2, e3⟩ := row_even h
  rw [e1, e2, e3] at e
  exact e
section
variable {prog : Program} {w : World} {A : Around} {E : Value → Shared → Prop} {s : Shared} {env : Env} {h₀ : Heap} {x : Str} {body : List Stmt} {Q : Flow → Shared → Prop}

theorem items_inv {elts : List Expr} {k : Nat} {pos : Pos} {I : Addr} {l : Addr} {lo : Obj} {adr : List Addr}
    (J : List Int → (Str → Option Value) → List (Addr × Obj) → Prop) (hadr : ∀ b ∈ adr, b < I) (hkeep : ∀ pre m nx, J pre m nx → (l, lo) ∈ nx) (vs : List Value)
    (turn : ∀ (pre : List Int) (v : Value) m₁ nx h tk T t its, vs[pre.length]? = some v → nx.map (·.1) = adr → OwnOff its adr → J pre m₁ nx → IsTup h T #[.int (pre.length : Int) t, v] → Fr h₀ env.locals h m₁ → News h₀ env.locals h (nx ++ its) →
      wpAny (model prog w) A (assign (.Tuple elts k pos) env (.ref T)) (fun _ s₂ => wpAny (model prog w) A (execs body env) (InvPostN h₀ env.locals (J (pre ++ [(pre.length : Int)])) its adr { s with heap := h, toks := tk } Q) E s₂) E { s with heap := h, toks := tk })
    (done : ∀ pre m₁ nx h tk, pre.length = vs.length → J pre m₁ nx → Fr h₀ env.locals h m₁ → News h₀ env.locals h nx → Q .next { s with heap := h, toks := tk }) :
    ∀ (n : Nat) (pre : List Int) (m : Str → Option Value) (nx : List (Addr × Obj)), pre.length + n = vs.length → nx.map (·.1) = adr → J pre m nx →
      ItemsRest prog w A E h₀ env (.Tuple elts k pos) body Q s [(I + 1, "enumerate"), (I, "list_iterator")] [(l, lo)] (enumItems pre.length (vs.drop pre.length)) m nx := by
  intro n
  induction n with
  | zero =>
    intro pre m nx hn _ hJ
    rw [List.drop_eq_nil_of_le (by omega)]
    exact ItemsRest.zero fun h tk F N => done pre m nx h tk (by omega) hJ F N
  | succ n ih =>
    intro pre m nx hn ha hJ
    have hlt : pre.length < vs.length := by omega
    rw [List.drop_eq_getElem_cons hlt]
    refine ItemsRest.pair fun T t h tk hT F => ?_
    intro oE hE oI hI N
    have hoff : OwnOff [(I + 1, oE), (I, oI)] adr := by
      intro p hp b hb
      have := hadr b hb
      rcases List.mem_cons.mp hp with rfl | hp
      · exact Nat.ne_of_gt (Nat.lt_succ_of_lt this)
      · rw [List.mem_singleton.mp hp]; exact Nat.ne_of_gt this
    have N₂ : News h₀ env.locals h (nx ++ [(I + 1, oE), (I, oI)]) := fun p hp => N p ((List.mem_append.mp hp).elim (fun q => List.mem_append.mpr (.inr q)) fun q => List.mem_append.mpr (.inl q))
    refine wpAny_mono (turn pre _ m nx h tk T t _ (List.getElem?_eq_getElem hlt) ha hoff hJ hT F N₂) (fun _ s₂ h₂ => wpAny_mono h₂ (fun f s₃ p => ?_) fun _ _ e => e) fun _ _ e => e
    have fin : InvEndN h₀ env.locals (J (pre ++ [(pre.length : Int)])) [(I + 1, oE), (I, oI)] adr { s with heap := h, toks := tk } s₃ →
        UnrEndW h₀ env.locals { s with heap := h, toks := tk } [(I + 1, oE), (I, oI)] (fun m' n' => SubL [(l, lo)] n' ∧ ItemsRest prog w A E h₀ env (.Tuple elts k pos) body Q s [(I + 1, "enumerate"), (I, "list_iterator")] [(l, lo)] (enumItems (pre.length + 1) (vs.drop (pre.length + 1))) m' n') s₃ := by
      rintro ⟨h', tk', m', news', nx', e, F', N', hn', ho', ha', hS⟩
      refine ⟨h', tk', m', nx', e, F', fun p hp => N' p ((List.mem_append.mp hp).elim (ho' p) (hn' p)), fun p hp q hq e => ?_, ⟨hkeep _ _ _ hS, trivial⟩, ?_⟩
      · exact hoff q hq p.1 (by rw [← ha']; exact List.mem_map.mpr ⟨p, hp, rfl⟩) e.symm
      · have := ih (pre ++ [(pre.length : Int)]) m' nx' (by simp; omega) ha' hS
        rw [List.length_append, List.length_singleton] at this
        exact this
    cases f with
    | ret v => exact p
    | brk => exact p
    | next => exact fin p
    | cont => exact fin p

theorem enum_inv {σ : Type} {elts : List Expr} {k : Nat} {pos : Pos} {l : Addr} {vs : List Value} {nn : Nat} {m₀ : Str → Option Value} (Led : σ → List (Addr × Obj)) (ps : σ → List (Str × Value)) (Facts : σ → Prop) (stored : List Str) (P : List Int → σ → Prop) (c₀ : σ)
    (hh : A.handled = none) (hl : ∀ c : σ, (l, listOf vs.toArray nn) ∈ Led c) (F : Fr h₀ env.locals s.heap m₀) (N : News h₀ env.locals s.heap (Led c₀)) (hf : Facts c₀) (hk : ∀ p ∈ ps c₀, m₀ p.1 = some p.2) (hp : P [] c₀)
    (turn : ∀ (c : σ) (pre : List Int) (v : Value) (u : Str → Option Value) h tk T t its, vs[pre.length]? = some v → OwnOff its ((Led c₀).map (·.1)) → Facts c → P pre c → IsTup h T #[.int (pre.length : Int) t, v] →
      Fr h₀ env.locals h (fun y => if y = x then u y else kstB (fun z => if stored.contains z then u z else m₀ z) (ps c) y) → News h₀ env.locals h (Led c ++ its) →
      wpAny (model prog w) A (assign (.Tuple elts k pos) env (.ref T)) (fun _ s₂ => wpAny (model prog w) A (execs body env) (InvPostN h₀ env.locals (KstS Led ps Facts x stored m₀ P (pre ++ [(pre.length : Int)])) its ((Led c₀).map (·.1)) { s with heap := h, toks := tk } Q) E s₂) E { s with heap := h, toks := tk })
    (done : ∀ (c : σ) (pre : List Int) (u : Str → Option Value) h tk, pre.length = vs.length → Facts c → P pre c → Fr h₀ env.locals h (fun y => if y = x then u y else kstB (fun z => if stored.contains z then u z else m₀ z) (ps c) y) → News h₀ env.locals h (Led c) → Q .next { s with heap := h, toks := tk }) :
    wpAny (model prog w) A (call (.type "enumerate") [.ref l]) (fun xv s₁ => wpAny (model prog w) A (pyIter xv) (fun it s₂ => TurnsAt prog w A h₀ env (.Tuple elts k pos) body Q E it s₂) E s₁) E s := by
  refine ktu_enum (lo := listOf vs.toArray nn) (vs := vs) hh F N (hl c₀) rfl rfl rfl fun I hI => ?_
  refine items_inv (J := fun pre m nx => KstS Led ps Facts x stored m₀ P pre m nx) (adr := (Led c₀).map (·.1)) (fun b hb => ?_) ?_ vs ?_ ?_ vs.length [] m₀ (Led c₀) (by simp) rfl ⟨c₀, rfl, hf, hk, fun _ _ _ _ => rfl, hp⟩
  · obtain ⟨q, hq, rfl⟩ := List.mem_map.mp hb
    exact hI q hq
  · rintro pre m nx ⟨c, rfl, _⟩
    exact hl c
  · rintro pre v m₁ nx h tk T t its hv _ hoff ⟨c, rfl, hf', h1, h2, hp'⟩ hT F₁ N₁
    exact turn c pre v m₁ h tk T t its hv hoff hf' hp' hT (kst_frOut h1 h2 F₁) N₁
  · rintro pre m₁ nx h tk hlen ⟨c, rfl, hf', h1, h2, hp'⟩ F₁ N₁
    exact done c pre m₁ h tk hlen hf' hp' (kst_frOut h1 h2 F₁) N₁
end
section
variable {prog : Program} {w : World} {A : Around} {E : Value → Shared → Prop} {s : Shared} {env : Env} {h₀ : Heap} {x : Str} {body : List Stmt} {Q : Flow → Shared → Prop}
abbrev LedF (D : Addr) (R : List (Addr × Obj)) (s : List Value × List Int × Nat) : List (Addr × Obj) := (D, listOf s.1.toArray s.2.2) :: R
abbrev LedG (D : Addr) (R : List (Addr × Obj)) (s : (Int × Tok) × List Value × List Int × Nat) : List (Addr × Obj) := (D, listOf s.2.1.toArray s.2.2.2) :: R
theorem enum_out {elts : List Expr} {k : Nat} {pos : Pos} {l D : Addr} {vs vs₀ : List Value} {ns₀ : List Int} {nn n₀ : Nat} {m₀ : Str → Option Value} {led : List (Addr × Obj)} (R : List (Addr × Obj)) (stored : List Str) (P : List Int → List Int → Prop)
    (hh : A.handled = none) (F : Fr h₀ env.locals s.heap m₀) (N : News h₀ env.locals s.heap led) (_hfd : m₀ (Str.ofString "found") = some (.ref D)) (hD : (D, listOf vs₀.toArray n₀) ∈ led) (hs : ∀ p ∈ R, p ∈ led) (hl : (l, listOf vs.toArray nn) ∈ R)
    (hi : IntsAre vs₀ ns₀) (hp : P [] ns₀)
    (turn : ∀ (fv : List Value) (fs : List Int) (fn : Nat) (pre : List Int) (v : Value) (u : Str → Option Value) h tk T t its, vs[pre.length]? = some v → OwnOff its (D :: R.map (·.1)) → IntsAre fv fs → P pre fs → IsTup h T #[.int (pre.length : Int) t, v] →
      Fr h₀ env.locals h (fun y => if y = x then u y else if stored.contains y then u y else m₀ y) → News h₀ env.locals h ((D, listOf fv.toArray fn) :: (R ++ its)) →
      wpAny (model prog w) A (assign (.Tuple elts k pos) env (.ref T)) (fun _ s₂ => wpAny (model prog w) A (execs body env) (InvPostN h₀ env.locals (KstS (LedF D R) (fun _ => []) (fun s => IntsAre s.1 s.2.1) x stored m₀ (fun pre s => P pre s.2.1) (pre ++ [(pre.length : Int)])) its (D :: R.map (·.1)) { s with heap := h, toks := tk } Q) E s₂) E { s with heap := h, toks := tk })
    (done : ∀ (fv : List Value) (fs : List Int) (fn : Nat) (pre : List Int) (u : Str → Option Value) h tk, pre.length = vs.length → IntsAre fv fs → P pre fs → Fr h₀ env.locals h (fun y => if y = x then u y else if stored.contains y then u y else m₀ y) → News h₀ env.locals h ((D, listOf fv.toArray fn) :: R) → Q .next { s with heap := h, toks := tk }) :
    wpAny (model prog w) A (call (.type "enumerate") [.ref l]) (fun xv s₁ => wpAny (model prog w) A (pyIter xv) (fun it s₂ => TurnsAt prog w A h₀ env (.Tuple elts k pos) body Q E it s₂) E s₁) E s :=
  enum_inv (x := x) (LedF D R) (fun _ => []) (fun s => IntsAre s.1 s.2.1) stored (fun pre s => P pre s.2.1) (vs₀, ns₀, n₀) hh (fun _ => List.mem_cons_of_mem _ hl) F (newsPick N hD hs) hi (List.forall_mem_nil _) hp
    (fun c pre v u h tk T t its hv hoff hf hP hT F₁ N₁ => turn c.1 c.2.1 c.2.2 pre v u h tk T t its hv hoff hf hP hT F₁ N₁) (fun c pre u h tk hl hf hP F₁ N₁ => done c.1 c.2.1 c.2.2 pre u h tk hl hf hP F₁ N₁)
theorem enum_in {elts : List Expr} {k : Nat} {pos : Pos} {l D : Addr} {vs vs₀ : List Value} {ns₀ : List Int} {nn n₀ : Nat} {c₀ : Int} {t₀ : Tok} {m₀ : Str → Option Value} {led : List (Addr × Obj)} (R : List (Addr × Obj)) (stored : List Str) (P : List Int → Int → List Int → Prop)
    (hh : A.handled = none) (F : Fr h₀ env.locals s.heap m₀) (N : News h₀ env.locals s.heap led) (_hfd : m₀ (Str.ofString "found") = some (.ref D)) (hcar : m₀ (Str.ofString "carry") = some (.int c₀ t₀)) (hD : (D, listOf vs₀.toArray n₀) ∈ led) (hs : ∀ p ∈ R, p ∈ led) (hl : (l, listOf vs.toArray nn) ∈ R)
    (hi : IntsAre vs₀ ns₀) (hp : P [] c₀ ns₀)
    (turn : ∀ (c : Int) (ct : Tok) (fv : List Value) (fs : List Int) (fn : Nat) (pre : List Int) (v : Value) (u : Str → Option Value) h tk T t its, vs[pre.length]? = some v → OwnOff its (D :: R.map (·.1)) → IntsAre fv fs → P pre c fs → IsTup h T #[.int (pre.length : Int) t, v] →
      Fr h₀ env.locals h (fun y => if y = x then u y else if y = Str.ofString "carry" then some (.int c ct) else if stored.contains y then u y else m₀ y) → News h₀ env.locals h ((D, listOf fv.toArray fn) :: (R ++ its)) →
      wpAny (model prog w) A (assign (.Tuple elts k pos) env (.ref T)) (fun _ s₂ => wpAny (model prog w) A (execs body env) (InvPostN h₀ env.locals (KstS (LedG D R) (fun s => [(Str.ofString "carry", .int s.1.1 s.1.2)]) (fun s => IntsAre s.2.1 s.2.2.1) x stored m₀ (fun pre s => P pre s.1.1 s.2.2.1) (pre ++ [(pre.length : Int)])) its (D :: R.map (·.1)) { s with heap := h, toks := tk } Q) E s₂) E { s with heap := h, toks := tk })
    (done : ∀ (c : Int) (ct : Tok) (fv : List Value) (fs : List Int) (fn : Nat) (pre : List Int) (u : Str → Option Value) h tk, pre.length = vs.length → IntsAre fv fs → P pre c fs → Fr h₀ env.locals h (fun y => if y = x then u y else if y = Str.ofString "carry" then some (.int c ct) else if stored.contains y then u y else m₀ y) → News h₀ env.locals h ((D, listOf fv.toArray fn) :: R) → Q .next { s with heap := h, toks := tk }) :
    wpAny (model prog w) A (call (.type "enumerate") [.ref l]) (fun xv s₁ => wpAny (model prog w) A (pyIter xv) (fun it s₂ => TurnsAt prog w A h₀ env (.Tuple elts k pos) body Q E it s₂) E s₁) E s :=
  enum_inv (x := x) (LedG D R) (fun s => [(Str.ofString "carry", .int s.1.1 s.1.2)]) (fun s => IntsAre s.2.1 s.2.2.1) stored (fun pre s => P pre s.1.1 s.2.2.1) ((c₀, t₀), vs₀, ns₀, n₀) hh (fun _ => List.mem_cons_of_mem _ hl) F (newsPick N hD hs) hi
    (fun p hp => by rw [List.mem_singleton.mp hp]; exact hcar) hp
    (fun c pre v u h tk T t its hv hoff hf hP hT F₁ N₁ => turn c.1.1 c.1.2 c.2.1 c.2.2.1 c.2.2.2 pre v u h tk T t its hv hoff hf hP hT F₁ N₁) (fun c pre u h tk hl hf hP F₁ N₁ => done c.1.1 c.1.2 c.2.1 c.2.2.1 c.2.2.2 pre u h tk hl hf hP F₁ N₁)
theorem enum_out_end {D L : Addr} {R own led : List (Addr × Obj)} {stored : List Str} {P : List Int → List Int → Prop} {pre : List Int} {m₀ m' : Str → Option Value} {s₁ : Shared} {h' : Heap} {tk : Nat} {fv : List Value} {fs : List Int} {fn : Nat}
    (F : Fr h₀ L h' m') (N : News h₀ L h' led) (hD : (D, listOf fv.toArray fn) ∈ led) (hi : IntsAre fv fs) (hs : ∀ p ∈ R ++ own, p ∈ led) (hr : ∀ z, z ≠ x → stored.contains z = false → m' z = m₀ z) (hp : P pre fs) :
    InvEndN h₀ L (KstS (LedF D R) (fun _ => []) (fun s => IntsAre s.1 s.2.1) x stored m₀ (fun pre s => P pre s.2.1) pre) own (D :: R.map (·.1)) s₁ { s₁ with heap := h', toks := tk } :=
  kst_end (Led := LedF D R) (fv, fs, fn) F N (fun p hp => by
    rcases List.mem_cons.mp hp with rfl | hp
    · exact hD
    · exact hs p (List.mem_append_left _ hp)) (fun p hp => hs p (List.mem_append_right _ hp)) rfl hi (List.forall_mem_nil _) (fun z h1 _ h2 => hr z h1 h2) hp
theorem enum_in_end {D L : Addr} {R own led : List (Addr × Obj)} {stored : List Str} {P : List Int → Int → List Int → Prop} {pre : List Int} {m₀ m' : Str → Option Value} {s₁ : Shared} {h' : Heap} {tk : Nat} {c : Int} {ct : Tok} {fv : List Value} {fs : List Int} {fn : Nat}
    (F : Fr h₀ L h' m') (N : News h₀ L h' led) (hD : (D, listOf fv.toArray fn) ∈ led) (hi : IntsAre fv fs) (hs : ∀ p ∈ R ++ own, p ∈ led) (hc : m' (Str.ofString "carry") = some (.int c ct)) (hr : ∀ z, z ≠ x → z ≠ Str.ofString "carry" → stored.contains z = false → m' z = m₀ z) (hp : P pre c fs) :
    InvEndN h₀ L (KstS (LedG D R) (fun s => [(Str.ofString "carry", .int s.1.1 s.1.2)]) (fun s => IntsAre s.2.1 s.2.2.1) x stored m₀ (fun pre s => P pre s.1.1 s.2.2.1) pre) own (D :: R.map (·.1)) s₁ { s₁ with heap := h', toks := tk } :=
  kst_end (Led := LedG D R) ((c, ct), fv, fs, fn) F N (fun p hp => by
    rcases List.mem_cons.mp hp with rfl | hp
    · exact hD
    · exact hs p (List.mem_append_left _ hp)) (fun p hp => hs p (List.mem_append_right _ hp)) rfl hi (fun p hp => by rw [List.mem_singleton.mp hp]; exact hc) (fun z h1 h2 h3 => hr z h1 (h2 _ (List.mem_singleton.mpr rfl)) h3) hp
end
theorem roomA {a b c l : Nat} (h : a + c < l) (hb : b ≤ c) : a + b < l := Nat.lt_of_le_of_lt (Nat.add_le_add_left hb a) h
theorem roomB {a b d c l : Nat} (h : a + c < l) (hb : d + b ≤ c) : a + d + b < l := by rw [Nat.add_assoc]; exact roomA h hb
theorem room0 {a c l : Nat} (h : a + c < l) : a < l := Nat.lt_of_le_of_lt (Nat.le_add_right a c) h
theorem nltU {a b c : Nat} (h : a < b) (hb : b ≤ c) : a < c := Nat.lt_of_lt_of_le h hb
theorem nleU {a b c : Nat} (h : a ≤ b) (hb : b ≤ c) : a ≤ c := Nat.le_trans h hb
theorem nltLe {a b c : Nat} (h : a < b) (hb : b ≤ c + 1) : a ≤ c := Nat.le_of_lt_succ (Nat.lt_of_lt_of_le h hb)
theorem iltU {a b c : Int} (h : a < b) (hb : b ≤ c) : a < c := Int.lt_of_lt_of_le h hb
theorem ileLt {a b c : Int} (h : a ≤ b) (hb : b < c) : a < c := Int.lt_of_le_of_lt h hb
theorem ileU {a b c : Int} (h : a ≤ b) (hb : b ≤ c) : a ≤ c := Int.le_trans h hb
theorem igtD {a b c : Int} (h : b < a) (hb : c ≤ b) : c < a := Int.lt_of_le_of_lt hb h
theorem igeLt {a b c : Int} (h : b ≤ a) (hb : c < b) : c < a := Int.lt_of_lt_of_le hb h
theorem igeD {a b c : Int} (h : b ≤ a) (hb : c ≤ b) : c ≤ a := Int.le_trans hb h
theorem igtGe {a b c : Int} (h : b < a) (hb : c ≤ b) : c ≤ a := Int.le_trans hb (Int.le_of_lt h)
theorem inat {n : Nat} {c : Int} (hc : c ≤ 0) : c ≤ (n : Int) := Int.le_trans hc (Int.natCast_nonneg n)
theorem inltU {a b : Nat} {c : Int} (h : a < b) (hb : (b : Int) ≤ c) : (a : Int) < c := Int.lt_of_lt_of_le (Int.ofNat_lt.mpr h) hb
local macro_rules | `(tactic| walk_at $s:str) => `(tactic| k_extra $s)
local macro_rules | `(tactic| k_mem) => `(tactic| k_extra "m_k_mem")
local macro_rules | `(tactic| is_list) => `(tactic| k_extra "m_is_list")
local macro_rules | `(tactic| k_all) => `(tactic| k_extra "m_k_all")
local macro_rules | `(tactic| kst_facts1) => `(tactic| k_extra "m_kst_facts1")
local macro_rules | `(tactic| omega) => `(tactic| first | k_extra "cheap" | omega (config := {}))
local macro_rules | `(tactic| ktr_room) => `(tactic| k_extra "room")
local macro_rules | `(tactic| ktr_units) => `(tactic| k_extra "room")
local macro_rules | `(tactic| k_ne) => `(tactic| (refine neN ?_; (try dsimp only); first | k_extra "ne" | omega (config := {})))
theorem c_signed (w : World) (b : Bool) (l : Addr) (us : List Value) (n : Nat) (xs : List Int) (news : List (Addr × Obj)) :
   Ctr w 100 ((l, listOf us.toArray n) ∈ news ∧ IntsAre us xs ∧ xs.length < 1000) [.bool b, .ref l] news 1 8
     (fun k => ∀ (d : Addr) (n : Nat), AllLt d news → k (.ref d) ((d, { cls := .type "tuple", data := .seq #[.bool (b && decide (xs ≠ [])), .ref l] n }) :: news)) := by
  k_with_none
  w_top off
  (k_with "cheap" => first
    | with_reducible assumption
    | exact nltU (by with_reducible assumption) (by decide)
    | exact nleU (by with_reducible assumption) (by decide)
    | exact nltLe (by with_reducible assumption) (by decide)
    | exact iltU (by with_reducible assumption) (by decide)
    | exact igtD (by with_reducible assumption) (by decide)
    | exact igeLt (by with_reducible assumption) (by decide)
    | exact ileLt (by with_reducible assumption) (by decide)
    | exact igeD (by with_reducible assumption) (by decide)
    | exact igtGe (by with_reducible assumption) (by decide)
    | exact ileU (by with_reducible assumption) (by decide)
    | exact inat (by decide)
    | exact inltU (by with_reducible assumption) (by decide)
    | exact roomA (by with_reducible assumption) (by decide)
    | exact roomB (by with_reducible assumption) (by decide)
    | exact room0 (by with_reducible assumption))
  (k_with "ne" => first
    | with_reducible assumption
    | exact Ne.symm (by with_reducible assumption)
    | exact Nat.ne_of_lt (by with_reducible assumption)
    | exact Nat.ne_of_gt (by with_reducible assumption)
    | exact Nat.ne_of_lt (And.left (by with_reducible assumption))
    | exact Nat.ne_of_gt (And.left (by with_reducible assumption))
    | exact Nat.ne_of_lt (And.left (And.right (by with_reducible assumption)))
    | exact Nat.ne_of_lt (And.right (by with_reducible assumption))
    | exact Nat.ne_of_gt (And.left (And.right (by with_reducible assumption)))
    | exact Nat.ne_of_gt (And.right (by with_reducible assumption))
    | exact Nat.ne_of_lt (And.left (And.right (And.right (by with_reducible assumption))))
    | exact Nat.ne_of_lt (And.right (And.right (by with_reducible assumption)))
    | exact Nat.ne_of_gt (And.left (And.right (And.right (by with_reducible assumption))))
    | exact Nat.ne_of_gt (And.right (And.right (by with_reducible assumption)))
    | exact Nat.ne_of_lt (And.left (And.right (And.right (And.right (by with_reducible assumption)))))
    | exact Nat.ne_of_lt (And.right (And.right (And.right (by with_reducible assumption))))
    | exact Nat.ne_of_gt (And.left (And.right (And.right (And.right (by with_reducible assumption)))))
    | exact Nat.ne_of_gt (And.right (And.right (And.right (by with_reducible assumption))))
    | exact Nat.ne_of_lt (And.left (And.right (And.right (And.right (And.right (by with_reducible assumption))))))
    | exact Nat.ne_of_lt (And.right (And.right (And.right (And.right (by with_reducible assumption)))))
    | exact Nat.ne_of_gt (And.left (And.right (And.right (And.right (And.right (by with_reducible assumption))))))
    | exact Nat.ne_of_gt (And.right (And.right (And.right (And.right (by with_reducible assumption)))))
    | exact Nat.ne_of_lt (And.left (And.right (And.right (And.right (And.right (And.right (by with_reducible assumption)))))))
    | exact Nat.ne_of_lt (And.right (And.right (And.right (And.right (And.right (by with_reducible assumption))))))
    | exact Nat.ne_of_gt (And.left (And.right (And.right (And.right (And.right (And.right (by with_reducible assumption)))))))
    | exact Nat.ne_of_gt (And.right (And.right (And.right (And.right (And.right (by with_reducible assumption))))))
    | exact Nat.ne_of_lt (And.left (And.right (And.right (And.right (And.right (And.right (And.right (by with_reducible assumption))))))))
    | exact Nat.ne_of_lt (And.right (And.right (And.right (And.right (And.right (And.right (by with_reducible assumption)))))))
    | exact Nat.ne_of_gt (And.left (And.right (And.right (And.right (And.right (And.right (And.right (by with_reducible assumption))))))))
    | exact Nat.ne_of_gt (And.right (And.right (And.right (And.right (And.right (And.right (by with_reducible assumption)))))))
    | exact Nat.ne_of_lt (And.left (And.right (And.right (And.right (And.right (And.right (And.right (And.right (by with_reducible assumption)))))))))
    | exact Nat.ne_of_lt (And.right (And.right (And.right (And.right (And.right (And.right (And.right (by with_reducible assumption))))))))
    | exact Nat.ne_of_gt (And.left (And.right (And.right (And.right (And.right (And.right (And.right (And.right (by with_reducible assumption)))))))))
    | exact Nat.ne_of_gt (And.right (And.right (And.right (And.right (And.right (And.right (And.right (by with_reducible assumption))))))))
    | exact Nat.ne_of_lt (And.left (And.right (And.right (And.right (And.right (And.right (And.right (And.right (And.right (by with_reducible assumption))))))))))
    | exact Nat.ne_of_lt (And.right (And.right (And.right (And.right (And.right (And.right (And.right (And.right (by with_reducible assumption)))))))))
    | exact Nat.ne_of_gt (And.left (And.right (And.right (And.right (And.right (And.right (And.right (And.right (And.right (by with_reducible assumption))))))))))
    | exact Nat.ne_of_gt (And.right (And.right (And.right (And.right (And.right (And.right (And.right (And.right (by with_reducible assumption)))))))))
    | exact Nat.ne_of_lt (And.left (And.right (And.right (And.right (And.right (And.right (And.right (And.right (And.right (And.right (by with_reducible assumption)))))))))))
    | exact Nat.ne_of_lt (And.right (And.right (And.right (And.right (And.right (And.right (And.right (And.right (And.right (by with_reducible assumption))))))))))
    | exact Nat.ne_of_gt (And.left (And.right (And.right (And.right (And.right (And.right (And.right (And.right (And.right (And.right (by with_reducible assumption)))))))))))
    | exact Nat.ne_of_gt (And.right (And.right (And.right (And.right (And.right (And.right (And.right (And.right (And.right (by with_reducible assumption))))))))))
    | exact Nat.ne_of_lt (And.left (And.right (And.right (And.right (And.right (And.right (And.right (And.right (And.right (And.right (And.right (by with_reducible assumption))))))))))))
    | exact Nat.ne_of_lt (And.right (And.right (And.right (And.right (And.right (And.right (And.right (And.right (And.right (And.right (by with_reducible assumption)))))))))))
    | exact Nat.ne_of_gt (And.left (And.right (And.right (And.right (And.right (And.right (And.right (And.right (And.right (And.right (And.right (by with_reducible assumption))))))))))))
    | exact Nat.ne_of_gt (And.right (And.right (And.right (And.right (And.right (And.right (And.right (And.right (And.right (And.right (by with_reducible assumption))))))))))))
  (k_with "room" => first
    | exact roomA (by with_reducible assumption) (by decide)
    | exact roomB (by with_reducible assumption) (by decide)
    | exact room0 (by with_reducible assumption))
  (k_with "m_k_mem" => first | with_reducible assumption | assumption | exact List.mem_cons_self | (refine' List.mem_cons_of_mem _ ?_; k_mem))
  (k_with "m_is_list" => (refine' isListN ?N9 ?M9; (case N9 => k_asm); (case M9 => k_mem)))
  (k_with "m_k_all" => first | exact all_ne (by assumption) | exact all_ne (And.right (by assumption)) | exact all_ne (And.right (And.right (by assumption))) | exact all_ne (And.right (And.right (And.right (by assumption)))))
  (k_with "m_kst_facts1" => first | exact IntsAre.nil | assumption | exact IntsAre.append (by assumption) (IntsAre.cons _ _ IntsAre.nil))
  (k_with "binaryOp LShift int int" => (k_here; (with_unfolding_all refine' lshift_int_small ?k1 ?k2 ?k3 ?_; (case k1 => omega); (case k2 => omega); (case k3 => first | omega | exact limN (by assumption) (by assumption) (by assumption) _))))
  unfold Ctr
  k_fill
  intro mean mg mb dp un gd cn cs a ccd cl outer A₀ base h₀ L m s Q E B F X N T hk hasks hd hu hret
  obtain ⟨hm, hi, hlen⟩ := hasks
  refine wpAny_call ?_
  k_dflt cell_enter
  k_steps
  · rename b = true => hb
    subst hb
    have e : (true && decide (xs ≠ [])) = decide ((0 : Int) < (xs.length : Int)) := by
      cases xs <;> simp <;> omega
    rw [e] at hret
    exact hret _ _ (allLt_of (by assumption)) _ _ (by k_asm) (by k_asm)
  · rename b = false => hb
    subst hb
    exact hret _ _ (allLt_of (by assumption)) _ _ (by k_asm) (by k_asm)

theorem c_is_even (w : World) (l : Addr) (us : List Value) (n : Nat) (xs : List Int) (news : List (Addr × Obj)) :
   Ctr w 65 ((l, listOf us.toArray n) ∈ news ∧ IntsAre us xs ∧ xs.length < 1000) [.ref l] news 1 8
     (fun k => k (.bool (decide (xs.getD 0 0 % 2 = 0))) news) := by
  k_with_none
  (k_with "cheap" => first
    | with_reducible assumption
    | exact nltU (by with_reducible assumption) (by decide)
    | exact nleU (by with_reducible assumption) (by decide)
    | exact nltLe (by with_reducible assumption) (by decide)
    | exact iltU (by with_reducible assumption) (by decide)
    | exact igtD (by with_reducible assumption) (by decide)
    | exact igeLt (by with_reducible assumption) (by decide)
    | exact ileLt (by with_reducible assumption) (by decide)
    | exact igeD (by with_reducible assumption) (by decide)
    | exact igtGe (by with_reducible assumption) (by decide)
    | exact ileU (by with_reducible assumption) (by decide)
    | exact inat (by decide)
    | exact inltU (by with_reducible assumption) (by decide)
    | exact roomA (by with_reducible assumption) (by decide)
    | exact roomB (by with_reducible assumption) (by decide)
    | exact room0 (by with_reducible assumption))
  (k_with "ne" => first
    | with_reducible assumption
    | exact Ne.symm (by with_reducible assumption)
    | exact Nat.ne_of_lt (by with_reducible assumption)
    | exact Nat.ne_of_gt (by with_reducible assumption)
    | exact Nat.ne_of_lt (And.left (by with_reducible assumption))
    | exact Nat.ne_of_gt (And.left (by with_reducible assumption))
    | exact Nat.ne_of_lt (And.left (And.right (by with_reducible assumption)))
    | exact Nat.ne_of_lt (And.right (by with_reducible assumption))
    | exact Nat.ne_of_gt (And.left (And.right (by with_reducible assumption)))
    | exact Nat.ne_of_gt (And.right (by with_reducible assumption))
    | exact Nat.ne_of_lt (And.left (And.right (And.right (by with_reducible assumption))))
    | exact Nat.ne_of_lt (And.right (And.right (by with_reducible assumption)))
    | exact Nat.ne_of_gt (And.left (And.right (And.right (by with_reducible assumption))))
    | exact Nat.ne_of_gt (And.right (And.right (by with_reducible assumption)))
    | exact Nat.ne_of_lt (And.left (And.right (And.right (And.right (by with_reducible assumption)))))
    | exact Nat.ne_of_lt (And.right (And.right (And.right (by with_reducible assumption))))
    | exact Nat.ne_of_gt (And.left (And.right (And.right (And.right (by with_reducible assumption)))))
    | exact Nat.ne_of_gt (And.right (And.right (And.right (by with_reducible assumption))))
    | exact Nat.ne_of_lt (And.left (And.right (And.right (And.right (And.right (by with_reducible assumption))))))
    | exact Nat.ne_of_lt (And.right (And.right (And.right (And.right (by with_reducible assumption)))))
    | exact Nat.ne_of_gt (And.left (And.right (And.right (And.right (And.right (by with_reducible assumption))))))
    | exact Nat.ne_of_gt (And.right (And.right (And.right (And.right (by with_reducible assumption)))))
    | exact Nat.ne_of_lt (And.left (And.right (And.right (And.right (And.right (And.right (by with_reducible assumption)))))))
    | exact Nat.ne_of_lt (And.right (And.right (And.right (And.right (And.right (by with_reducible assumption))))))
    | exact Nat.ne_of_gt (And.left (And.right (And.right (And.right (And.right (And.right (by with_reducible assumption)))))))
    | exact Nat.ne_of_gt (And.right (And.right (And.right (And.right (And.right (by with_reducible assumption))))))
    | exact Nat.ne_of_lt (And.left (And.right (And.right (And.right (And.right (And.right (And.right (by with_reducible assumption))))))))
    | exact Nat.ne_of_lt (And.right (And.right (And.right (And.right (And.right (And.right (by with_reducible assumption)))))))
    | exact Nat.ne_of_gt (And.left (And.right (And.right (And.right (And.right (And.right (And.right (by with_reducible assumption))))))))
    | exact Nat.ne_of_gt (And.right (And.right (And.right (And.right (And.right (And.right (by with_reducible assumption)))))))
    | exact Nat.ne_of_lt (And.left (And.right (And.right (And.right (And.right (And.right (And.right (And.right (by with_reducible assumption)))))))))
    | exact Nat.ne_of_lt (And.right (And.right (And.right (And.right (And.right (And.right (And.right (by with_reducible assumption))))))))
    | exact Nat.ne_of_gt (And.left (And.right (And.right (And.right (And.right (And.right (And.right (And.right (by with_reducible assumption)))))))))
    | exact Nat.ne_of_gt (And.right (And.right (And.right (And.right (And.right (And.right (And.right (by with_reducible assumption))))))))
    | exact Nat.ne_of_lt (And.left (And.right (And.right (And.right (And.right (And.right (And.right (And.right (And.right (by with_reducible assumption))))))))))
    | exact Nat.ne_of_lt (And.right (And.right (And.right (And.right (And.right (And.right (And.right (And.right (by with_reducible assumption)))))))))
    | exact Nat.ne_of_gt (And.left (And.right (And.right (And.right (And.right (And.right (And.right (And.right (And.right (by with_reducible assumption))))))))))
    | exact Nat.ne_of_gt (And.right (And.right (And.right (And.right (And.right (And.right (And.right (And.right (by with_reducible assumption)))))))))
    | exact Nat.ne_of_lt (And.left (And.right (And.right (And.right (And.right (And.right (And.right (And.right (And.right (And.right (by with_reducible assumption)))))))))))
    | exact Nat.ne_of_lt (And.right (And.right (And.right (And.right (And.right (And.right (And.right (And.right (And.right (by with_reducible assumption))))))))))
    | exact Nat.ne_of_gt (And.left (And.right (And.right (And.right (And.right (And.right (And.right (And.right (And.right (And.right (by with_reducible assumption)))))))))))
    | exact Nat.ne_of_gt (And.right (And.right (And.right (And.right (And.right (And.right (And.right (And.right (And.right (by with_reducible assumption))))))))))
    | exact Nat.ne_of_lt (And.left (And.right (And.right (And.right (And.right (And.right (And.right (And.right (And.right (And.right (And.right (by with_reducible assumption))))))))))))
    | exact Nat.ne_of_lt (And.right (And.right (And.right (And.right (And.right (And.right (And.right (And.right (And.right (And.right (by with_reducible assumption)))))))))))
    | exact Nat.ne_of_gt (And.left (And.right (And.right (And.right (And.right (And.right (And.right (And.right (And.right (And.right (And.right (by with_reducible assumption))))))))))))
    | exact Nat.ne_of_gt (And.right (And.right (And.right (And.right (And.right (And.right (And.right (And.right (And.right (And.right (by with_reducible assumption))))))))))))
  (k_with "room" => first
    | exact roomA (by with_reducible assumption) (by decide)
    | exact roomB (by with_reducible assumption) (by decide)
    | exact room0 (by with_reducible assumption))
  (k_with "m_k_mem" => first | with_reducible assumption | assumption | exact List.mem_cons_self | (refine' List.mem_cons_of_mem _ ?_; k_mem))
  (k_with "m_is_list" => (refine' isListN ?N9 ?M9; (case N9 => k_asm); (case M9 => k_mem)))
  (k_with "m_k_all" => first | exact all_ne (by assumption) | exact all_ne (And.right (by assumption)) | exact all_ne (And.right (And.right (by assumption))) | exact all_ne (And.right (And.right (And.right (by assumption)))))
  (k_with "m_kst_facts1" => first | exact IntsAre.nil | assumption | exact IntsAre.append (by assumption) (IntsAre.cons _ _ IntsAre.nil))
  (k_with "binaryOp LShift int int" => (k_here; (with_unfolding_all refine' lshift_int_small ?k1 ?k2 ?k3 ?_; (case k1 => omega); (case k2 => omega); (case k3 => first | omega | exact limN (by assumption) (by assumption) (by assumption) _))))
  unfold Ctr
  k_fill
  intro mean mg mb dp un gd cn cs a ccd cl outer A₀ base h₀ L m s Q E B F X N T hk hasks hd hu hret
  obtain ⟨hm, hi, hlen⟩ := hasks
  refine wpAny_call ?_
  k_dflt cell_enter
  k_steps
  · have e : (decide (xs.getD 0 0 % 2 = 0)) = ((xs.length : Int) == 0) := by
      have : xs = [] := List.eq_nil_of_length_eq_zero (by omega)
      subst this; rfl
    rw [← e]
    exact hret _ _ (by k_asm) (by k_asm)
  · have e : (decide (xs.getD 0 0 % 2 = 0)) = (Builtin.bitAnd (xs.getD (Int.toNat 0) 0) 1 == 0) := by
      rw [PyProof.Rows.bitAnd_m1]; rfl
    rw [← e]
    exact hret _ _ (by k_asm) (by k_asm)

theorem c_normal (w : World) (B : Int) (l : Addr) (us : List Value) (n : Nat) (xs : List Int) (news : List (Addr × Obj)) :
   Ctr w 58 ((l, listOf us.toArray n) ∈ news ∧ IntsAre us xs ∧ xs.length < 1000 ∧ Lim B xs) [.ref l] news 1 8
     (fun k => ∀ (d : Addr) (vs : List Value) (n : Nat) (ys : List Int), AllLt d news → IntsAre vs ys → Rep B ys (val B xs) → k (.ref d) ((d, listOf vs.toArray n) :: news)) := by
  k_with_none
  (k_with "cheap" => first
    | with_reducible assumption
    | exact nltU (by with_reducible assumption) (by decide)
    | exact nleU (by with_reducible assumption) (by decide)
    | exact nltLe (by with_reducible assumption) (by decide)
    | exact iltU (by with_reducible assumption) (by decide)
    | exact igtD (by with_reducible assumption) (by decide)
    | exact igeLt (by with_reducible assumption) (by decide)
    | exact ileLt (by with_reducible assumption) (by decide)
    | exact igeD (by with_reducible assumption) (by decide)
    | exact igtGe (by with_reducible assumption) (by decide)
    | exact ileU (by with_reducible assumption) (by decide)
    | exact inat (by decide)
    | exact inltU (by with_reducible assumption) (by decide)
    | exact roomA (by with_reducible assumption) (by decide)
    | exact roomB (by with_reducible assumption) (by decide)
    | exact room0 (by with_reducible assumption))
  (k_with "ne" => first
    | with_reducible assumption
    | exact Ne.symm (by with_reducible assumption)
    | exact Nat.ne_of_lt (by with_reducible assumption)
    | exact Nat.ne_of_gt (by with_reducible assumption)
    | exact Nat.ne_of_lt (And.left (by with_reducible assumption))
    | exact Nat.ne_of_gt (And.left (by with_reducible assumption))
    | exact Nat.ne_of_lt (And.left (And.right (by with_reducible assumption)))
    | exact Nat.ne_of_lt (And.right (by with_reducible assumption))
    | exact Nat.ne_of_gt (And.left (And.right (by with_reducible assumption)))
    | exact Nat.ne_of_gt (And.right (by with_reducible assumption))
    | exact Nat.ne_of_lt (And.left (And.right (And.right (by with_reducible assumption))))
    | exact Nat.ne_of_lt (And.right (And.right (by with_reducible assumption)))
    | exact Nat.ne_of_gt (And.left (And.right (And.right (by with_reducible assumption))))
    | exact Nat.ne_of_gt (And.right (And.right (by with_reducible assumption)))
    | exact Nat.ne_of_lt (And.left (And.right (And.right (And.right (by with_reducible assumption)))))
    | exact Nat.ne_of_lt (And.right (And.right (And.right (by with_reducible assumption))))
    | exact Nat.ne_of_gt (And.left (And.right (And.right (And.right (by with_reducible assumption)))))
    | exact Nat.ne_of_gt (And.right (And.right (And.right (by with_reducible assumption))))
    | exact Nat.ne_of_lt (And.left (And.right (And.right (And.right (And.right (by with_reducible assumption))))))
    | exact Nat.ne_of_lt (And.right (And.right (And.right (And.right (by with_reducible assumption)))))
    | exact Nat.ne_of_gt (And.left (And.right (And.right (And.right (And.right (by with_reducible assumption))))))
    | exact Nat.ne_of_gt (And.right (And.right (And.right (And.right (by with_reducible assumption)))))
    | exact Nat.ne_of_lt (And.left (And.right (And.right (And.right (And.right (And.right (by with_reducible assumption)))))))
    | exact Nat.ne_of_lt (And.right (And.right (And.right (And.right (And.right (by with_reducible assumption))))))
    | exact Nat.ne_of_gt (And.left (And.right (And.right (And.right (And.right (And.right (by with_reducible assumption)))))))
    | exact Nat.ne_of_gt (And.right (And.right (And.right (And.right (And.right (by with_reducible assumption))))))
    | exact Nat.ne_of_lt (And.left (And.right (And.right (And.right (And.right (And.right (And.right (by with_reducible assumption))))))))
    | exact Nat.ne_of_lt (And.right (And.right (And.right (And.right (And.right (And.right (by with_reducible assumption)))))))
    | exact Nat.ne_of_gt (And.left (And.right (And.right (And.right (And.right (And.right (And.right (by with_reducible assumption))))))))
    | exact Nat.ne_of_gt (And.right (And.right (And.right (And.right (And.right (And.right (by with_reducible assumption)))))))
    | exact Nat.ne_of_lt (And.left (And.right (And.right (And.right (And.right (And.right (And.right (And.right (by with_reducible assumption)))))))))
    | exact Nat.ne_of_lt (And.right (And.right (And.right (And.right (And.right (And.right (And.right (by with_reducible assumption))))))))
    | exact Nat.ne_of_gt (And.left (And.right (And.right (And.right (And.right (And.right (And.right (And.right (by with_reducible assumption)))))))))
    | exact Nat.ne_of_gt (And.right (And.right (And.right (And.right (And.right (And.right (And.right (by with_reducible assumption))))))))
    | exact Nat.ne_of_lt (And.left (And.right (And.right (And.right (And.right (And.right (And.right (And.right (And.right (by with_reducible assumption))))))))))
    | exact Nat.ne_of_lt (And.right (And.right (And.right (And.right (And.right (And.right (And.right (And.right (by with_reducible assumption)))))))))
    | exact Nat.ne_of_gt (And.left (And.right (And.right (And.right (And.right (And.right (And.right (And.right (And.right (by with_reducible assumption))))))))))
    | exact Nat.ne_of_gt (And.right (And.right (And.right (And.right (And.right (And.right (And.right (And.right (by with_reducible assumption)))))))))
    | exact Nat.ne_of_lt (And.left (And.right (And.right (And.right (And.right (And.right (And.right (And.right (And.right (And.right (by with_reducible assumption)))))))))))
    | exact Nat.ne_of_lt (And.right (And.right (And.right (And.right (And.right (And.right (And.right (And.right (And.right (by with_reducible assumption))))))))))
    | exact Nat.ne_of_gt (And.left (And.right (And.right (And.right (And.right (And.right (And.right (And.right (And.right (And.right (by with_reducible assumption)))))))))))
    | exact Nat.ne_of_gt (And.right (And.right (And.right (And.right (And.right (And.right (And.right (And.right (And.right (by with_reducible assumption))))))))))
    | exact Nat.ne_of_lt (And.left (And.right (And.right (And.right (And.right (And.right (And.right (And.right (And.right (And.right (And.right (by with_reducible assumption))))))))))))
    | exact Nat.ne_of_lt (And.right (And.right (And.right (And.right (And.right (And.right (And.right (And.right (And.right (And.right (by with_reducible assumption)))))))))))
    | exact Nat.ne_of_gt (And.left (And.right (And.right (And.right (And.right (And.right (And.right (And.right (And.right (And.right (And.right (by with_reducible assumption))))))))))))
    | exact Nat.ne_of_gt (And.right (And.right (And.right (And.right (And.right (And.right (And.right (And.right (And.right (And.right (by with_reducible assumption))))))))))))
  (k_with "room" => first
    | exact roomA (by with_reducible assumption) (by decide)
    | exact roomB (by with_reducible assumption) (by decide)
    | exact room0 (by with_reducible assumption))
  (k_with "m_k_mem" => first | with_reducible assumption | assumption | exact List.mem_cons_self | (refine' List.mem_cons_of_mem _ ?_; k_mem))
  (k_with "m_is_list" => (refine' isListN ?N9 ?M9; (case N9 => k_asm); (case M9 => k_mem)))
  (k_with "m_k_all" => first | exact all_ne (by assumption) | exact all_ne (And.right (by assumption)) | exact all_ne (And.right (And.right (by assumption))) | exact all_ne (And.right (And.right (And.right (by assumption)))))
  (k_with "m_kst_facts1" => first | exact IntsAre.nil | assumption | exact IntsAre.append (by assumption) (IntsAre.cons _ _ IntsAre.nil))
  (k_with "binaryOp LShift int int" => (k_here; (with_unfolding_all refine' lshift_int_small ?k1 ?k2 ?k3 ?_; (case k1 => omega); (case k2 => omega); (case k3 => first | omega | exact limN (by assumption) (by assumption) (by assumption) _))))
  unfold Ctr
  k_fill
  intro mean mg mb dp un gd cn cs a ccd cl outer A₀ base h₀ L m s Q E B F X N T hk hasks hd hu hret
  obtain ⟨hm, hi, hlen, hL⟩ := hasks
  refine wpAny_call ?_
  k_dflt cell_enter
  k_steps
  rename (∀ j : Int, _ → _ → _ = true) => hz
  rename (ite _ _ _) = false => hq
  rename IntsAre _ (List.take _ xs) => hI
  rename (_ : Int) ≤ (xs.length : Int) => h1
  rename min _ _ ≤ _ => h2
  refine' hret _ _ _ _ ?ha hI ?hc _ _ ?hF ?hN
  case hN => k_asm
  case hF => k_asm
  case ha => exact allLt_of (by assumption)
  case hc =>
    refine normal_rep hL (by omega) h1 (fun j hj hj2 => ?_) (fun hk => ?_)
    · have q := hz j hj hj2
      rw [if_pos (by omega)] at q
      simpa using q
    · rw [if_pos hk] at hq
      simpa using hq

theorem c_compare (w : World) (B : Int) (hB : 1 < B) (la lb : Addr) (ua ub : List Value) (na nb : Nat) (xs ys : List Int) (va vb : Int) (news : List (Addr × Obj)) :
   Ctr w 72 ((la, listOf ua.toArray na) ∈ news ∧ IntsAre ua xs ∧ (lb, listOf ub.toArray nb) ∈ news ∧ IntsAre ub ys ∧ Rep B xs va ∧ Rep B ys vb ∧ xs.length < 1000 ∧ ys.length < 1000) [.ref la, .ref lb] news 1 8
     (fun k => ∀ c t, (c < 0 ↔ va < vb) → k (.int c t) news) := by
  k_with_none
  (k_with "cheap" => first
    | with_reducible assumption
    | exact nltU (by with_reducible assumption) (by decide)
    | exact nleU (by with_reducible assumption) (by decide)
    | exact nltLe (by with_reducible assumption) (by decide)
    | exact iltU (by with_reducible assumption) (by decide)
    | exact igtD (by with_reducible assumption) (by decide)
    | exact igeLt (by with_reducible assumption) (by decide)
    | exact ileLt (by with_reducible assumption) (by decide)
    | exact igeD (by with_reducible assumption) (by decide)
    | exact igtGe (by with_reducible assumption) (by decide)
    | exact ileU (by with_reducible assumption) (by decide)
    | exact inat (by decide)
    | exact inltU (by with_reducible assumption) (by decide)
    | exact roomA (by with_reducible assumption) (by decide)
    | exact roomB (by with_reducible assumption) (by decide)
    | exact room0 (by with_reducible assumption))
  (k_with "ne" => first
    | with_reducible assumption
    | exact Ne.symm (by with_reducible assumption)
    | exact Nat.ne_of_lt (by with_reducible assumption)
    | exact Nat.ne_of_gt (by with_reducible assumption)
    | exact Nat.ne_of_lt (And.left (by with_reducible assumption))
    | exact Nat.ne_of_gt (And.left (by with_reducible assumption))
    | exact Nat.ne_of_lt (And.left (And.right (by with_reducible assumption)))
    | exact Nat.ne_of_lt (And.right (by with_reducible assumption))
    | exact Nat.ne_of_gt (And.left (And.right (by with_reducible assumption)))
    | exact Nat.ne_of_gt (And.right (by with_reducible assumption))
    | exact Nat.ne_of_lt (And.left (And.right (And.right (by with_reducible assumption))))
    | exact Nat.ne_of_lt (And.right (And.right (by with_reducible assumption)))
    | exact Nat.ne_of_gt (And.left (And.right (And.right (by with_reducible assumption))))
    | exact Nat.ne_of_gt (And.right (And.right (by with_reducible assumption)))
    | exact Nat.ne_of_lt (And.left (And.right (And.right (And.right (by with_reducible assumption)))))
    | exact Nat.ne_of_lt (And.right (And.right (And.right (by with_reducible assumption))))
    | exact Nat.ne_of_gt (And.left (And.right (And.right (And.right (by with_reducible assumption)))))
    | exact Nat.ne_of_gt (And.right (And.right (And.right (by with_reducible assumption))))
    | exact Nat.ne_of_lt (And.left (And.right (And.right (And.right (And.right (by with_reducible assumption))))))
    | exact Nat.ne_of_lt (And.right (And.right (And.right (And.right (by with_reducible assumption)))))
    | exact Nat.ne_of_gt (And.left (And.right (And.right (And.right (And.right (by with_reducible assumption))))))
    | exact Nat.ne_of_gt (And.right (And.right (And.right (And.right (by with_reducible assumption)))))
    | exact Nat.ne_of_lt (And.left (And.right (And.right (And.right (And.right (And.right (by with_reducible assumption)))))))
    | exact Nat.ne_of_lt (And.right (And.right (And.right (And.right (And.right (by with_reducible assumption))))))
    | exact Nat.ne_of_gt (And.left (And.right (And.right (And.right (And.right (And.right (by with_reducible assumption)))))))
    | exact Nat.ne_of_gt (And.right (And.right (And.right (And.right (And.right (by with_reducible assumption))))))
    | exact Nat.ne_of_lt (And.left (And.right (And.right (And.right (And.right (And.right (And.right (by with_reducible assumption))))))))
    | exact Nat.ne_of_lt (And.right (And.right (And.right (And.right (And.right (And.right (by with_reducible assumption)))))))
    | exact Nat.ne_of_gt (And.left (And.right (And.right (And.right (And.right (And.right (And.right (by with_reducible assumption))))))))
    | exact Nat.ne_of_gt (And.right (And.right (And.right (And.right (And.right (And.right (by with_reducible assumption)))))))
    | exact Nat.ne_of_lt (And.left (And.right (And.right (And.right (And.right (And.right (And.right (And.right (by with_reducible assumption)))))))))
    | exact Nat.ne_of_lt (And.right (And.right (And.right (And.right (And.right (And.right (And.right (by with_reducible assumption))))))))
    | exact Nat.ne_of_gt (And.left (And.right (And.right (And.right (And.right (And.right (And.right (And.right (by with_reducible assumption)))))))))
    | exact Nat.ne_of_gt (And.right (And.right (And.right (And.right (And.right (And.right (And.right (by with_reducible assumption))))))))
    | exact Nat.ne_of_lt (And.left (And.right (And.right (And.right (And.right (And.right (And.right (And.right (And.right (by with_reducible assumption))))))))))
    | exact Nat.ne_of_lt (And.right (And.right (And.right (And.right (And.right (And.right (And.right (And.right (by with_reducible assumption)))))))))
    | exact Nat.ne_of_gt (And.left (And.right (And.right (And.right (And.right (And.right (And.right (And.right (And.right (by with_reducible assumption))))))))))
    | exact Nat.ne_of_gt (And.right (And.right (And.right (And.right (And.right (And.right (And.right (And.right (by with_reducible assumption)))))))))
    | exact Nat.ne_of_lt (And.left (And.right (And.right (And.right (And.right (And.right (And.right (And.right (And.right (And.right (by with_reducible assumption)))))))))))
    | exact Nat.ne_of_lt (And.right (And.right (And.right (And.right (And.right (And.right (And.right (And.right (And.right (by with_reducible assumption))))))))))
    | exact Nat.ne_of_gt (And.left (And.right (And.right (And.right (And.right (And.right (And.right (And.right (And.right (And.right (by with_reducible assumption)))))))))))
    | exact Nat.ne_of_gt (And.right (And.right (And.right (And.right (And.right (And.right (And.right (And.right (And.right (by with_reducible assumption))))))))))
    | exact Nat.ne_of_lt (And.left (And.right (And.right (And.right (And.right (And.right (And.right (And.right (And.right (And.right (And.right (by with_reducible assumption))))))))))))
    | exact Nat.ne_of_lt (And.right (And.right (And.right (And.right (And.right (And.right (And.right (And.right (And.right (And.right (by with_reducible assumption)))))))))))
    | exact Nat.ne_of_gt (And.left (And.right (And.right (And.right (And.right (And.right (And.right (And.right (And.right (And.right (And.right (by with_reducible assumption))))))))))))
    | exact Nat.ne_of_gt (And.right (And.right (And.right (And.right (And.right (And.right (And.right (And.right (And.right (And.right (by with_reducible assumption))))))))))))
  (k_with "room" => first
    | exact roomA (by with_reducible assumption) (by decide)
    | exact roomB (by with_reducible assumption) (by decide)
    | exact room0 (by with_reducible assumption))
  (k_with "m_k_mem" => first | with_reducible assumption | assumption | exact List.mem_cons_self | (refine' List.mem_cons_of_mem _ ?_; k_mem))
  (k_with "m_is_list" => (refine' isListN ?N9 ?M9; (case N9 => k_asm); (case M9 => k_mem)))
  (k_with "m_k_all" => first | exact all_ne (by assumption) | exact all_ne (And.right (by assumption)) | exact all_ne (And.right (And.right (by assumption))) | exact all_ne (And.right (And.right (And.right (by assumption)))))
  (k_with "m_kst_facts1" => first | exact IntsAre.nil | assumption | exact IntsAre.append (by assumption) (IntsAre.cons _ _ IntsAre.nil))
  (k_with "binaryOp LShift int int" => (k_here; (with_unfolding_all refine' lshift_int_small ?k1 ?k2 ?k3 ?_; (case k1 => omega); (case k2 => omega); (case k3 => first | omega | exact limN (by assumption) (by assumption) (by assumption) _))))
  unfold Ctr
  k_fill
  intro mean mg mb dp un gd cn cs a ccd cl outer A₀ base h₀ L m s Q E B F X N T hk hasks hd hu hret
  obtain ⟨hm, hi, hm', hi', hx, hy, hlen, hlen'⟩ := hasks
  refine wpAny_call ?_
  k_dflt cell_enter
  (k_with "pyIter ref" => (
     ((with_reducible show wpAny _ _ (pyIter (Value.ref _)) (fun it s₂ => LoopAtV _ _ _ _ _ _ _ _ _ it s₂) _ _); k_here;
      (rename Fr _ _ _ _ => lF'); (rename News _ _ _ _ => lN'); (rename IsRange _ _ _ _ _ _ _ _ => rgX);
      (with_unfolding_all refine' kst_rangeD (fun _ : Unit => news) (fun _ => []) (fun _ => True) [] (fun pre _ => ∀ j : Nat, xs.length ≤ j + pre.length → xs.getD j 0 = ys.getD j 0) () ?hh ?hr ?hsm ?hn lF' lN' True.intro (List.forall_mem_nil _) ?kp ?_ ?_);
      (case hh => with_unfolding_all exact rfl);
      (case hr => exact rgX);
      (case hsm => (refine small_down ?s1 ?s2 ?s3 ?s4; (case s1 => omega); (case s2 => omega); (case s3 => omega); (case s4 => omega)));
      (case hn => exact rangeSize_downNat _ _);
      (case kp => intro j9 h9; simp only [List.length_nil, Nat.add_zero] at h9; rw [getD_ge h9, getD_ge (by omega)]);
      (intro kc kPre kN kT kU kH kTk kOwn kEq kLt kOff kFacts kInv kFr kNews; clear lF' lN'; (try k_fold); rotate_left; intro kc kU kH kTk kFacts kInv kFr kNews; clear lF' lN'; (try k_fold); rotate_left))))
  (k_with "state" => fail)
  k_steps
  · refine hret _ _ ⟨fun _ => cmp_len hB hx hy (by omega), fun _ => by decide⟩ _ _ (by k_asm) (by k_asm)
  · refine hret _ _ ⟨fun h => absurd h (by decide), fun h => ?_⟩ _ _ (by k_asm) (by k_asm)
    exact absurd (cmp_len hB hy hx (by omega)) (by omega)
  · rename xs.getD _ _ < ys.getD _ _ => hlt
    refine hret _ _ ⟨fun _ => ?_, fun _ => by decide⟩ _ _ (by k_asm) (by first | k_asm | exact newsL (by k_asm))
    rw [← hx.2.2, ← hy.2.2]
    exact cmp_at (k := kN.toNat) hB hx.1 hy.1 (by omega) (fun j hj => kInv j (by omega)) hlt
  · rename ¬ xs.getD _ _ < ys.getD _ _ => hlt
    rename xs.getD _ _ ≠ ys.getD _ _ => hne
    refine hret _ _ ⟨fun h => absurd h (by decide), fun h => ?_⟩ _ _ (by k_asm) (by first | k_asm | exact newsL (by k_asm))
    rw [← hx.2.2, ← hy.2.2] at h
    exact absurd (cmp_at (k := kN.toNat) hB hy.1 hx.1 (by omega) (fun j hj => (kInv j (by omega)).symm) (by omega)) (by omega)
  · rename xs.getD _ _ = ys.getD _ _ => heq
    refine kst_end () (by k_asm) kNews (fun p hp => List.mem_append_left _ hp) (fun p hp => List.mem_append_right _ hp) rfl True.intro (List.forall_mem_nil _) (fun z h1 _ _ => if_neg h1) ?_
    intro j hj
    rw [List.length_append, List.length_singleton] at hj
    by_cases hj2 : xs.length ≤ j + kPre.length
    · exact kInv j hj2
    · have e : j = kN.toNat := by omega
      rw [e]; exact heq
  · refine hret _ _ ⟨fun h => absurd h (by decide), fun h => ?_⟩ _ _ (by k_asm) (by k_asm)
    have e : xs = ys := cmp_eq (by omega) (fun j => kInv j (by rw [downKs_length]; omega))
    rw [← hx.2.2, ← hy.2.2, e] at h
    exact absurd h (by omega)

theorem c_sub (w : World) (la lb : Addr) (ua ub : List Value) (na nb : Nat) (xs ys : List Int) (va vb : Int) (e : Int) (te : Tok) (news : List (Addr × Obj)) :
   Ctr w 86 ((la, listOf ua.toArray na) ∈ news ∧ IntsAre ua xs ∧ (lb, listOf ub.toArray nb) ∈ news ∧ IntsAre ub ys ∧ Rep (2 ^ e.toNat) xs va ∧ Rep (2 ^ e.toNat) ys vb ∧ xs.length < 900 ∧ ys.length < 900 ∧ 3 ≤ e ∧ e ≤ 7 ∧ vb ≤ va) [.ref la, .ref lb, .int e te] news 2 16
     (fun k => ∀ (d : Addr) (vs : List Value) (n : Nat) (zs : List Int), AllLt d news → IntsAre vs zs → Rep (2 ^ e.toNat) zs (va - vb) → k (.ref d) ((d, listOf vs.toArray n) :: news)) := by
  k_with_none
  w_top off
  (k_with "cheap" => first
    | with_reducible assumption
    | exact nltU (by with_reducible assumption) (by decide)
    | exact nleU (by with_reducible assumption) (by decide)
    | exact nltLe (by with_reducible assumption) (by decide)
    | exact iltU (by with_reducible assumption) (by decide)
    | exact igtD (by with_reducible assumption) (by decide)
    | exact igeLt (by with_reducible assumption) (by decide)
    | exact ileLt (by with_reducible assumption) (by decide)
    | exact igeD (by with_reducible assumption) (by decide)
    | exact igtGe (by with_reducible assumption) (by decide)
    | exact ileU (by with_reducible assumption) (by decide)
    | exact inat (by decide)
    | exact inltU (by with_reducible assumption) (by decide)
    | exact roomA (by with_reducible assumption) (by decide)
    | exact roomB (by with_reducible assumption) (by decide)
    | exact room0 (by with_reducible assumption))
  (k_with "ne" => first
    | with_reducible assumption
    | exact Ne.symm (by with_reducible assumption)
    | exact Nat.ne_of_lt (by with_reducible assumption)
    | exact Nat.ne_of_gt (by with_reducible assumption)
    | exact Nat.ne_of_lt (And.left (by with_reducible assumption))
    | exact Nat.ne_of_gt (And.left (by with_reducible assumption))
    | exact Nat.ne_of_lt (And.left (And.right (by with_reducible assumption)))
    | exact Nat.ne_of_lt (And.right (by with_reducible assumption))
    | exact Nat.ne_of_gt (And.left (And.right (by with_reducible assumption)))
    | exact Nat.ne_of_gt (And.right (by with_reducible assumption))
    | exact Nat.ne_of_lt (And.left (And.right (And.right (by with_reducible assumption))))
    | exact Nat.ne_of_lt (And.right (And.right (by with_reducible assumption)))
    | exact Nat.ne_of_gt (And.left (And.right (And.right (by with_reducible assumption))))
    | exact Nat.ne_of_gt (And.right (And.right (by with_reducible assumption)))
    | exact Nat.ne_of_lt (And.left (And.right (And.right (And.right (by with_reducible assumption)))))
    | exact Nat.ne_of_lt (And.right (And.right (And.right (by with_reducible assumption))))
    | exact Nat.ne_of_gt (And.left (And.right (And.right (And.right (by with_reducible assumption)))))
    | exact Nat.ne_of_gt (And.right (And.right (And.right (by with_reducible assumption))))
    | exact Nat.ne_of_lt (And.left (And.right (And.right (And.right (And.right (by with_reducible assumption))))))
    | exact Nat.ne_of_lt (And.right (And.right (And.right (And.right (by with_reducible assumption)))))
    | exact Nat.ne_of_gt (And.left (And.right (And.right (And.right (And.right (by with_reducible assumption))))))
    | exact Nat.ne_of_gt (And.right (And.right (And.right (And.right (by with_reducible assumption)))))
    | exact Nat.ne_of_lt (And.left (And.right (And.right (And.right (And.right (And.right (by with_reducible assumption)))))))
    | exact Nat.ne_of_lt (And.right (And.right (And.right (And.right (And.right (by with_reducible assumption))))))
    | exact Nat.ne_of_gt (And.left (And.right (And.right (And.right (And.right (And.right (by with_reducible assumption)))))))
    | exact Nat.ne_of_gt (And.right (And.right (And.right (And.right (And.right (by with_reducible assumption))))))
    | exact Nat.ne_of_lt (And.left (And.right (And.right (And.right (And.right (And.right (And.right (by with_reducible assumption))))))))
    | exact Nat.ne_of_lt (And.right (And.right (And.right (And.right (And.right (And.right (by with_reducible assumption)))))))
    | exact Nat.ne_of_gt (And.left (And.right (And.right (And.right (And.right (And.right (And.right (by with_reducible assumption))))))))
    | exact Nat.ne_of_gt (And.right (And.right (And.right (And.right (And.right (And.right (by with_reducible assumption)))))))
    | exact Nat.ne_of_lt (And.left (And.right (And.right (And.right (And.right (And.right (And.right (And.right (by with_reducible assumption)))))))))
    | exact Nat.ne_of_lt (And.right (And.right (And.right (And.right (And.right (And.right (And.right (by with_reducible assumption))))))))
    | exact Nat.ne_of_gt (And.left (And.right (And.right (And.right (And.right (And.right (And.right (And.right (by with_reducible assumption)))))))))
    | exact Nat.ne_of_gt (And.right (And.right (And.right (And.right (And.right (And.right (And.right (by with_reducible assumption))))))))
    | exact Nat.ne_of_lt (And.left (And.right (And.right (And.right (And.right (And.right (And.right (And.right (And.right (by with_reducible assumption))))))))))
    | exact Nat.ne_of_lt (And.right (And.right (And.right (And.right (And.right (And.right (And.right (And.right (by with_reducible assumption)))))))))
    | exact Nat.ne_of_gt (And.left (And.right (And.right (And.right (And.right (And.right (And.right (And.right (And.right (by with_reducible assumption))))))))))
    | exact Nat.ne_of_gt (And.right (And.right (And.right (And.right (And.right (And.right (And.right (And.right (by with_reducible assumption)))))))))
    | exact Nat.ne_of_lt (And.left (And.right (And.right (And.right (And.right (And.right (And.right (And.right (And.right (And.right (by with_reducible assumption)))))))))))
    | exact Nat.ne_of_lt (And.right (And.right (And.right (And.right (And.right (And.right (And.right (And.right (And.right (by with_reducible assumption))))))))))
    | exact Nat.ne_of_gt (And.left (And.right (And.right (And.right (And.right (And.right (And.right (And.right (And.right (And.right (by with_reducible assumption)))))))))))
    | exact Nat.ne_of_gt (And.right (And.right (And.right (And.right (And.right (And.right (And.right (And.right (And.right (by with_reducible assumption))))))))))
    | exact Nat.ne_of_lt (And.left (And.right (And.right (And.right (And.right (And.right (And.right (And.right (And.right (And.right (And.right (by with_reducible assumption))))))))))))
    | exact Nat.ne_of_lt (And.right (And.right (And.right (And.right (And.right (And.right (And.right (And.right (And.right (And.right (by with_reducible assumption)))))))))))
    | exact Nat.ne_of_gt (And.left (And.right (And.right (And.right (And.right (And.right (And.right (And.right (And.right (And.right (And.right (by with_reducible assumption))))))))))))
    | exact Nat.ne_of_gt (And.right (And.right (And.right (And.right (And.right (And.right (And.right (And.right (And.right (And.right (by with_reducible assumption))))))))))))
  (k_with "room" => first
    | exact roomA (by with_reducible assumption) (by decide)
    | exact roomB (by with_reducible assumption) (by decide)
    | exact room0 (by with_reducible assumption))
  (k_with "m_k_mem" => first | with_reducible assumption | assumption | exact List.mem_cons_self | (refine' List.mem_cons_of_mem _ ?_; k_mem))
  (k_with "m_is_list" => (refine' isListN ?N9 ?M9; (case N9 => k_asm); (case M9 => k_mem)))
  (k_with "m_k_all" => first | assumption | exact all_ne (by assumption) | exact all_ne (And.right (by assumption)) | exact all_ne (And.right (And.right (by assumption))) | exact all_ne (And.right (And.right (And.right (by assumption)))))
  (k_with "m_kst_facts1" => first | exact IntsAre.nil | assumption | exact IntsAre.append (by assumption) (IntsAre.cons _ _ IntsAre.nil))
  (k_with "binaryOp LShift int int" => (k_here; (with_unfolding_all refine' lshift_int_small ?k1 ?k2 ?k3 ?_; (case k1 => omega); (case k2 => omega); (case k3 => first | omega | exact limN (by assumption) (by assumption) (by assumption) _))))
  (k_with "call ref" => (
      k_here
      (show wpAny _ _ (call (Value.ref 58) _) _ _ _)
      k_dflt (
        refine' Ctr.use (c_normal _ _ _ _ _ _ _) ?k1 ?k2 ?k3 ?k4 ?k5 ?kK ?ka ?kd ?ku ?_
        (case k1 => k_asm)
        (case k2 => k_asm)
        (case k3 => first | k_asm | k_in)
        (case k4 => k_asm)
        (case k5 => k_asm)
        (case kK => first | exact rfl | assumption)
        (case ka => (refine' And.intro ?a1 (And.intro ?a2 (And.intro ?a3 ?a4)); (case a1 => k_mem); (case a2 => assumption); (case a3 => omega); (case a4 => first | assumption | exact SubI.lim (by assumption) | exact ShI.lim (by assumption) | exact And.left (by assumption))))
        (case kd => ktr_room)
        (case ku => ktr_units))
      intro d9 vs9 n9 ys9 hA9 hI9 hR9 h9 tk9 F9 N9
      (try k_sweep); (try dsimp only); (try k_fold)))
  (k_with "call ref" => (
      k_here
      (show wpAny _ _ (call (Value.ref 72) _) _ _ _)
      k_dflt (
        refine' Ctr.use (c_compare _ _ ?hB _ _ _ _ _ _ _ _ _ _ _) ?k1 ?k2 ?k3 ?k4 ?k5 ?kK ?ka ?kd ?ku ?_
        (case k1 => k_asm)
        (case k2 => k_asm)
        (case k3 => first | k_asm | k_in)
        (case k4 => k_asm)
        (case k5 => k_asm)
        (case kK => first | exact rfl | assumption)
        (case ka => (refine' And.intro ?a1 (And.intro ?a2 (And.intro ?a3 (And.intro ?a4 (And.intro ?a5 (And.intro ?a6 (And.intro ?a7 ?a8)))))); (case a1 => k_mem); (case a2 => assumption); (case a3 => k_mem); (case a4 => assumption); (case a5 => assumption); (case a6 => assumption); (case a7 => omega); (case a8 => omega)))
        (case kd => ktr_room)
        (case ku => ktr_units)
        (case hB => omega))
      intro c9 t9 hC9 h9 tk9 F9 N9
      (try k_sweep); (try dsimp only); (try k_fold)))
  unfold Ctr
  k_fill
  intro mean mg mb dp un gd cn cs a ccd cl outer A₀ base h₀ L m s Q E B F X N T hk hasks hd hu hret
  obtain ⟨hm, hi, hm', hi', hx, hy, hlen, hlen', he1, he2, hle⟩ := hasks
  have hb := base_of he1 he2
  have hb1 := hb.1
  have hb2 := hb.2
  clear hb
  refine wpAny_call ?_
  k_dflt cell_enter
  (k_with "pyIter ref" => k_state_given ["found!"] (fun f₀ pre borrow found => found.length = pre.length + f₀.length ∧ found.length ≤ 900 ∧ SubI (2 ^ e.toNat) xs ys found.length borrow found) "borrow" "found")
  (k_with "state" => first
    | exact sub_start
    | (refine sub_turn (t := xs.getD kN.toNat 0 - _ - ys.getD kN.toNat 0) hb1 hx.1 hy.1 (by assumption) (by assumption) (by (try simp only [List.length_nil] at *); omega) (by (try simp only [List.length_nil] at *); omega) rfl ?_; first | exact Or.inl ⟨by omega, by omega, rfl⟩ | exact Or.inr ⟨by omega, by omega, rfl⟩)
    | (have hz9 := getD_ge (xs := ys) (i := kN.toNat) (by omega); refine sub_turn (t := xs.getD kN.toNat 0 - _ - ys.getD kN.toNat 0) hb1 hx.1 hy.1 (by assumption) (by assumption) (by (try simp only [List.length_nil] at *); omega) (by (try simp only [List.length_nil] at *); omega) rfl ?_; first | exact Or.inl ⟨by omega, by omega, rfl⟩ | exact Or.inr ⟨by omega, by omega, rfl⟩))
  k_steps
  · rename _ ↔ _ => hC
    exact absurd (hC.mp (by assumption)) (by omega)
  rename _ = List.length (rangeKs _ _) + List.length [] => hq1
  rw [rangeKs_length, List.length_nil] at hq1
  rename SubI _ xs _ _ _ _ => hS
  rename Rep _ _ (val _ _) => hR
  have hyl : ys.length ≤ xs.length := by
    by_cases h : ys.length ≤ xs.length
    · exact h
    · exact absurd (cmp_len (by omega) hx hy (by omega)) (by omega)
  rw [(SubI.done (by omega) hx.2.2 hy.2.2 hS (by omega) hyl hle).2] at hR
  rename News h₀ L _ _ => hN
  refine' hret _ _ _ _ ?ha ?hb hR _ _ ?hF ?hN
  case hF => k_asm
  case hb => assumption
  case hN =>
    refine' newsPick hN ?m1 ?m2
    case m1 => k_mem
    case m2 => intro p hp; simp only [List.mem_cons, hp, or_true]
  case ha =>
    rename AllLt _ (_ :: _) => hA
    simp only [AllLt] at hA
    first | exact hA.2 | exact hA.2.2 | exact hA.2.2.2

theorem c_shift (w : World) (la : Addr) (ua : List Value) (na : Nat) (xs : List Int) (va : Int) (e : Int) (te t1 : Tok) (news : List (Addr × Obj)) :
   Ctr w 93 ((la, listOf ua.toArray na) ∈ news ∧ IntsAre ua xs ∧ xs.length < 900 ∧ 3 ≤ e ∧ e ≤ 7 ∧ Lim (2 ^ e.toNat) xs ∧ val (2 ^ e.toNat) xs = va) [.ref la, .int 1 t1, .int e te] news 2 16
     (fun k => ∀ (d : Addr) (vs : List Value) (n : Nat) (zs : List Int), AllLt d news → IntsAre vs zs → Rep (2 ^ e.toNat) zs (va / 2) → k (.ref d) ((d, listOf vs.toArray n) :: news)) := by
  k_with_none
  w_top off
  (k_with "cheap" => first
    | with_reducible assumption
    | exact nltU (by with_reducible assumption) (by decide)
    | exact nleU (by with_reducible assumption) (by decide)
    | exact nltLe (by with_reducible assumption) (by decide)
    | exact iltU (by with_reducible assumption) (by decide)
    | exact igtD (by with_reducible assumption) (by decide)
    | exact igeLt (by with_reducible assumption) (by decide)
    | exact ileLt (by with_reducible assumption) (by decide)
    | exact igeD (by with_reducible assumption) (by decide)
    | exact igtGe (by with_reducible assumption) (by decide)
    | exact ileU (by with_reducible assumption) (by decide)
    | exact inat (by decide)
    | exact inltU (by with_reducible assumption) (by decide)
    | exact roomA (by with_reducible assumption) (by decide)
    | exact roomB (by with_reducible assumption) (by decide)
    | exact room0 (by with_reducible assumption))
  (k_with "ne" => first
    | with_reducible assumption
    | exact Ne.symm (by with_reducible assumption)
    | exact Nat.ne_of_lt (by with_reducible assumption)
    | exact Nat.ne_of_gt (by with_reducible assumption)
    | exact Nat.ne_of_lt (And.left (by with_reducible assumption))
    | exact Nat.ne_of_gt (And.left (by with_reducible assumption))
    | exact Nat.ne_of_lt (And.left (And.right (by with_reducible assumption)))
    | exact Nat.ne_of_lt (And.right (by with_reducible assumption))
    | exact Nat.ne_of_gt (And.left (And.right (by with_reducible assumption)))
    | exact Nat.ne_of_gt (And.right (by with_reducible assumption))
    | exact Nat.ne_of_lt (And.left (And.right (And.right (by with_reducible assumption))))
    | exact Nat.ne_of_lt (And.right (And.right (by with_reducible assumption)))
    | exact Nat.ne_of_gt (And.left (And.right (And.right (by with_reducible assumption))))
    | exact Nat.ne_of_gt (And.right (And.right (by with_reducible assumption)))
    | exact Nat.ne_of_lt (And.left (And.right (And.right (And.right (by with_reducible assumption)))))
    | exact Nat.ne_of_lt (And.right (And.right (And.right (by with_reducible assumption))))
    | exact Nat.ne_of_gt (And.left (And.right (And.right (And.right (by with_reducible assumption)))))
    | exact Nat.ne_of_gt (And.right (And.right (And.right (by with_reducible assumption))))
    | exact Nat.ne_of_lt (And.left (And.right (And.right (And.right (And.right (by with_reducible assumption))))))
    | exact Nat.ne_of_lt (And.right (And.right (And.right (And.right (by with_reducible assumption)))))
    | exact Nat.ne_of_gt (And.left (And.right (And.right (And.right (And.right (by with_reducible assumption))))))
    | exact Nat.ne_of_gt (And.right (And.right (And.right (And.right (by with_reducible assumption)))))
    | exact Nat.ne_of_lt (And.left (And.right (And.right (And.right (And.right (And.right (by with_reducible assumption)))))))
    | exact Nat.ne_of_lt (And.right (And.right (And.right (And.right (And.right (by with_reducible assumption))))))
    | exact Nat.ne_of_gt (And.left (And.right (And.right (And.right (And.right (And.right (by with_reducible assumption)))))))
    | exact Nat.ne_of_gt (And.right (And.right (And.right (And.right (And.right (by with_reducible assumption))))))
    | exact Nat.ne_of_lt (And.left (And.right (And.right (And.right (And.right (And.right (And.right (by with_reducible assumption))))))))
    | exact Nat.ne_of_lt (And.right (And.right (And.right (And.right (And.right (And.right (by with_reducible assumption)))))))
    | exact Nat.ne_of_gt (And.left (And.right (And.right (And.right (And.right (And.right (And.right (by with_reducible assumption))))))))
    | exact Nat.ne_of_gt (And.right (And.right (And.right (And.right (And.right (And.right (by with_reducible assumption)))))))
    | exact Nat.ne_of_lt (And.left (And.right (And.right (And.right (And.right (And.right (And.right (And.right (by with_reducible assumption)))))))))
    | exact Nat.ne_of_lt (And.right (And.right (And.right (And.right (And.right (And.right (And.right (by with_reducible assumption))))))))
    | exact Nat.ne_of_gt (And.left (And.right (And.right (And.right (And.right (And.right (And.right (And.right (by with_reducible assumption)))))))))
    | exact Nat.ne_of_gt (And.right (And.right (And.right (And.right (And.right (And.right (And.right (by with_reducible assumption))))))))
    | exact Nat.ne_of_lt (And.left (And.right (And.right (And.right (And.right (And.right (And.right (And.right (And.right (by with_reducible assumption))))))))))
    | exact Nat.ne_of_lt (And.right (And.right (And.right (And.right (And.right (And.right (And.right (And.right (by with_reducible assumption)))))))))
    | exact Nat.ne_of_gt (And.left (And.right (And.right (And.right (And.right (And.right (And.right (And.right (And.right (by with_reducible assumption))))))))))
    | exact Nat.ne_of_gt (And.right (And.right (And.right (And.right (And.right (And.right (And.right (And.right (by with_reducible assumption)))))))))
    | exact Nat.ne_of_lt (And.left (And.right (And.right (And.right (And.right (And.right (And.right (And.right (And.right (And.right (by with_reducible assumption)))))))))))
    | exact Nat.ne_of_lt (And.right (And.right (And.right (And.right (And.right (And.right (And.right (And.right (And.right (by with_reducible assumption))))))))))
    | exact Nat.ne_of_gt (And.left (And.right (And.right (And.right (And.right (And.right (And.right (And.right (And.right (And.right (by with_reducible assumption)))))))))))
    | exact Nat.ne_of_gt (And.right (And.right (And.right (And.right (And.right (And.right (And.right (And.right (And.right (by with_reducible assumption))))))))))
    | exact Nat.ne_of_lt (And.left (And.right (And.right (And.right (And.right (And.right (And.right (And.right (And.right (And.right (And.right (by with_reducible assumption))))))))))))
    | exact Nat.ne_of_lt (And.right (And.right (And.right (And.right (And.right (And.right (And.right (And.right (And.right (And.right (by with_reducible assumption)))))))))))
    | exact Nat.ne_of_gt (And.left (And.right (And.right (And.right (And.right (And.right (And.right (And.right (And.right (And.right (And.right (by with_reducible assumption))))))))))))
    | exact Nat.ne_of_gt (And.right (And.right (And.right (And.right (And.right (And.right (And.right (And.right (And.right (And.right (by with_reducible assumption))))))))))))
  (k_with "room" => first
    | exact roomA (by with_reducible assumption) (by decide)
    | exact roomB (by with_reducible assumption) (by decide)
    | exact room0 (by with_reducible assumption))
  (k_with "m_k_mem" => first | with_reducible assumption | assumption | exact List.mem_cons_self | (refine' List.mem_cons_of_mem _ ?_; k_mem))
  (k_with "m_is_list" => (refine' isListN ?N9 ?M9; (case N9 => k_asm); (case M9 => k_mem)))
  (k_with "m_k_all" => first | assumption | exact all_ne (by assumption) | exact all_ne (And.right (by assumption)) | exact all_ne (And.right (And.right (by assumption))) | exact all_ne (And.right (And.right (And.right (by assumption)))))
  (k_with "m_kst_facts1" => first | exact IntsAre.nil | assumption | exact IntsAre.append (by assumption) (IntsAre.cons _ _ IntsAre.nil))
  (k_with "binaryOp LShift int int" => (k_here; (with_unfolding_all refine' lshift_int_small ?k1 ?k2 ?k3 ?_; (case k1 => omega); (case k2 => omega); (case k3 => first | omega | exact limN (by assumption) (by assumption) (by assumption) _))))
  (k_with "call ref" => (
      k_here
      (show wpAny _ _ (call (Value.ref 58) _) _ _ _)
      k_dflt (
        refine' Ctr.use (c_normal _ _ _ _ _ _ _) ?k1 ?k2 ?k3 ?k4 ?k5 ?kK ?ka ?kd ?ku ?_
        (case k1 => k_asm)
        (case k2 => k_asm)
        (case k3 => first | k_asm | k_in)
        (case k4 => k_asm)
        (case k5 => k_asm)
        (case kK => first | exact rfl | assumption)
        (case ka => (refine' And.intro ?a1 (And.intro ?a2 (And.intro ?a3 ?a4)); (case a1 => k_mem); (case a2 => assumption); (case a3 => omega); (case a4 => first | assumption | exact SubI.lim (by assumption) | exact ShI.lim (by assumption) | exact And.left (by assumption))))
        (case kd => ktr_room)
        (case ku => ktr_units))
      intro d9 vs9 n9 ys9 hA9 hI9 hR9 h9 tk9 F9 N9
      (try k_sweep); (try dsimp only); (try k_fold)))
  unfold Ctr
  k_fill
  intro mean mg mb dp un gd cn cs a ccd cl outer A₀ base h₀ L m s Q E B F X N T hk hasks hd hu hret
  obtain ⟨hm, hi, hlen, he1, he2, hl, hv⟩ := hasks
  have hf1 : Int.fdiv 1 e = 0 := by
    have he : e = 3 ∨ e = 4 ∨ e = 5 ∨ e = 6 ∨ e = 7 := by omega
    rcases he with rfl | rfl | rfl | rfl | rfl <;> decide
  have hf2 : Int.fmod 1 e = 1 := by
    have he : e = 3 ∨ e = 4 ∨ e = 5 ∨ e = 6 ∨ e = 7 := by omega
    rcases he with rfl | rfl | rfl | rfl | rfl <;> decide
  have hb := base_of he1 he2
  have hb0 : (0 : Int) < 2 ^ e.toNat := by omega
  have hb1 := hb.1
  have hb2 := hb.2
  clear hb
  refine wpAny_call ?_
  k_dflt cell_enter
  (k_with "pyIter ref" => k_state_given ["found!"] (fun f₀ pre found => found.length = pre.length + f₀.length ∧ found.length ≤ 900 ∧ ShI (2 ^ e.toNat) xs found.length found) "found")
  (k_with "state" => first
    | exact sh_start
    | (refine sh_turn he1 hf2 hl (by assumption) (by assumption) (by (try simp only [List.length_nil] at *); omega) (by (try simp only [List.length_nil] at *); omega) ?_; first | (refine getD_congr ?_; (try simp only [List.length_nil] at *); omega) | (exact (getD_ge (by omega)).symm)))
  k_steps
  rename _ = List.length (rangeKs _ _) + List.length [] => hq1
  rw [rangeKs_length, List.length_nil] at hq1
  rename ShI _ xs _ _ => hS
  rename Rep _ _ _ => hR
  rw [(ShI.done hb0 hv hS (by omega)).2] at hR
  rename News h₀ L _ _ => hN
  refine' hret _ _ _ _ ?ha ?hb hR _ _ ?hF ?hN
  case hF => k_asm
  case hb => assumption
  case hN =>
    refine' newsPick hN ?m1 ?m2
    case m1 => k_mem
    case m2 => intro p hp; simp only [List.mem_cons, hp, or_true]
  case ha =>
    rename AllLt _ (_ :: _) => hA
    simp only [AllLt] at hA
    first | exact hA.2 | exact hA.2.2 | exact hA.2.2.2

theorem c_limbs (w : World) (v e : Int) (tv te : Tok) (news : List (Addr × Obj)) :
   Ctr w 142 (0 ≤ v ∧ v < 100000 ∧ 3 ≤ e ∧ e ≤ 7) [.int v tv, .int e te] news 1 8
     (fun k => ∀ (d : Addr) (vs : List Value) (n : Nat) (xs : List Int), AllLt d news → IntsAre vs xs → Rep (2 ^ e.toNat) xs v → k (.ref d) ((d, listOf vs.toArray n) :: news)) := by
  k_with_none
  (k_with "cheap" => first
    | with_reducible assumption
    | exact nltU (by with_reducible assumption) (by decide)
    | exact nleU (by with_reducible assumption) (by decide)
    | exact nltLe (by with_reducible assumption) (by decide)
    | exact iltU (by with_reducible assumption) (by decide)
    | exact igtD (by with_reducible assumption) (by decide)
    | exact igeLt (by with_reducible assumption) (by decide)
    | exact ileLt (by with_reducible assumption) (by decide)
    | exact igeD (by with_reducible assumption) (by decide)
    | exact igtGe (by with_reducible assumption) (by decide)
    | exact ileU (by with_reducible assumption) (by decide)
    | exact inat (by decide)
    | exact inltU (by with_reducible assumption) (by decide)
    | exact roomA (by with_reducible assumption) (by decide)
    | exact roomB (by with_reducible assumption) (by decide)
    | exact room0 (by with_reducible assumption))
  (k_with "ne" => first
    | with_reducible assumption
    | exact Ne.symm (by with_reducible assumption)
    | exact Nat.ne_of_lt (by with_reducible assumption)
    | exact Nat.ne_of_gt (by with_reducible assumption)
    | exact Nat.ne_of_lt (And.left (by with_reducible assumption))
    | exact Nat.ne_of_gt (And.left (by with_reducible assumption))
    | exact Nat.ne_of_lt (And.left (And.right (by with_reducible assumption)))
    | exact Nat.ne_of_lt (And.right (by with_reducible assumption))
    | exact Nat.ne_of_gt (And.left (And.right (by with_reducible assumption)))
    | exact Nat.ne_of_gt (And.right (by with_reducible assumption))
    | exact Nat.ne_of_lt (And.left (And.right (And.right (by with_reducible assumption))))
    | exact Nat.ne_of_lt (And.right (And.right (by with_reducible assumption)))
    | exact Nat.ne_of_gt (And.left (And.right (And.right (by with_reducible assumption))))
    | exact Nat.ne_of_gt (And.right (And.right (by with_reducible assumption)))
    | exact Nat.ne_of_lt (And.left (And.right (And.right (And.right (by with_reducible assumption)))))
    | exact Nat.ne_of_lt (And.right (And.right (And.right (by with_reducible assumption))))
    | exact Nat.ne_of_gt (And.left (And.right (And.right (And.right (by with_reducible assumption)))))
    | exact Nat.ne_of_gt (And.right (And.right (And.right (by with_reducible assumption))))
    | exact Nat.ne_of_lt (And.left (And.right (And.right (And.right (And.right (by with_reducible assumption))))))
    | exact Nat.ne_of_lt (And.right (And.right (And.right (And.right (by with_reducible assumption)))))
    | exact Nat.ne_of_gt (And.left (And.right (And.right (And.right (And.right (by with_reducible assumption))))))
    | exact Nat.ne_of_gt (And.right (And.right (And.right (And.right (by with_reducible assumption)))))
    | exact Nat.ne_of_lt (And.left (And.right (And.right (And.right (And.right (And.right (by with_reducible assumption)))))))
    | exact Nat.ne_of_lt (And.right (And.right (And.right (And.right (And.right (by with_reducible assumption))))))
    | exact Nat.ne_of_gt (And.left (And.right (And.right (And.right (And.right (And.right (by with_reducible assumption)))))))
    | exact Nat.ne_of_gt (And.right (And.right (And.right (And.right (And.right (by with_reducible assumption))))))
    | exact Nat.ne_of_lt (And.left (And.right (And.right (And.right (And.right (And.right (And.right (by with_reducible assumption))))))))
    | exact Nat.ne_of_lt (And.right (And.right (And.right (And.right (And.right (And.right (by with_reducible assumption)))))))
    | exact Nat.ne_of_gt (And.left (And.right (And.right (And.right (And.right (And.right (And.right (by with_reducible assumption))))))))
    | exact Nat.ne_of_gt (And.right (And.right (And.right (And.right (And.right (And.right (by with_reducible assumption)))))))
    | exact Nat.ne_of_lt (And.left (And.right (And.right (And.right (And.right (And.right (And.right (And.right (by with_reducible assumption)))))))))
    | exact Nat.ne_of_lt (And.right (And.right (And.right (And.right (And.right (And.right (And.right (by with_reducible assumption))))))))
    | exact Nat.ne_of_gt (And.left (And.right (And.right (And.right (And.right (And.right (And.right (And.right (by with_reducible assumption)))))))))
    | exact Nat.ne_of_gt (And.right (And.right (And.right (And.right (And.right (And.right (And.right (by with_reducible assumption))))))))
    | exact Nat.ne_of_lt (And.left (And.right (And.right (And.right (And.right (And.right (And.right (And.right (And.right (by with_reducible assumption))))))))))
    | exact Nat.ne_of_lt (And.right (And.right (And.right (And.right (And.right (And.right (And.right (And.right (by with_reducible assumption)))))))))
    | exact Nat.ne_of_gt (And.left (And.right (And.right (And.right (And.right (And.right (And.right (And.right (And.right (by with_reducible assumption))))))))))
    | exact Nat.ne_of_gt (And.right (And.right (And.right (And.right (And.right (And.right (And.right (And.right (by with_reducible assumption)))))))))
    | exact Nat.ne_of_lt (And.left (And.right (And.right (And.right (And.right (And.right (And.right (And.right (And.right (And.right (by with_reducible assumption)))))))))))
    | exact Nat.ne_of_lt (And.right (And.right (And.right (And.right (And.right (And.right (And.right (And.right (And.right (by with_reducible assumption))))))))))
    | exact Nat.ne_of_gt (And.left (And.right (And.right (And.right (And.right (And.right (And.right (And.right (And.right (And.right (by with_reducible assumption)))))))))))
    | exact Nat.ne_of_gt (And.right (And.right (And.right (And.right (And.right (And.right (And.right (And.right (And.right (by with_reducible assumption))))))))))
    | exact Nat.ne_of_lt (And.left (And.right (And.right (And.right (And.right (And.right (And.right (And.right (And.right (And.right (And.right (by with_reducible assumption))))))))))))
    | exact Nat.ne_of_lt (And.right (And.right (And.right (And.right (And.right (And.right (And.right (And.right (And.right (And.right (by with_reducible assumption)))))))))))
    | exact Nat.ne_of_gt (And.left (And.right (And.right (And.right (And.right (And.right (And.right (And.right (And.right (And.right (And.right (by with_reducible assumption))))))))))))
    | exact Nat.ne_of_gt (And.right (And.right (And.right (And.right (And.right (And.right (And.right (And.right (And.right (And.right (by with_reducible assumption))))))))))))
  (k_with "room" => first
    | exact roomA (by with_reducible assumption) (by decide)
    | exact roomB (by with_reducible assumption) (by decide)
    | exact room0 (by with_reducible assumption))
  (k_with "m_k_mem" => first | with_reducible assumption | assumption | exact List.mem_cons_self | (refine' List.mem_cons_of_mem _ ?_; k_mem))
  (k_with "m_is_list" => (refine' isListN ?N9 ?M9; (case N9 => k_asm); (case M9 => k_mem)))
  (k_with "m_k_all" => first | assumption | exact all_ne (by assumption) | exact all_ne (And.right (by assumption)) | exact all_ne (And.right (And.right (by assumption))) | exact all_ne (And.right (And.right (And.right (by assumption)))))
  (k_with "m_kst_facts1" => first | exact IntsAre.nil | assumption | exact IntsAre.append (by assumption) (IntsAre.cons _ _ IntsAre.nil))
  (k_with "binaryOp LShift int int" => (k_here; (with_unfolding_all refine' lshift_int_small ?k1 ?k2 ?k3 ?_; (case k1 => omega); (case k2 => omega); (case k3 => first | omega | exact limN (by assumption) (by assumption) (by assumption) _))))
  (k_with "call ref" => (
      k_here
      (show wpAny _ _ (call (Value.ref 58) _) _ _ _)
      k_dflt (
        refine' Ctr.use (c_normal _ _ _ _ _ _ _) ?k1 ?k2 ?k3 ?k4 ?k5 ?kK ?ka ?kd ?ku ?_
        (case k1 => k_asm)
        (case k2 => k_asm)
        (case k3 => first | k_asm | k_in)
        (case k4 => k_asm)
        (case k5 => k_asm)
        (case kK => first | exact rfl | assumption)
        (case ka => (refine' And.intro ?a1 (And.intro ?a2 (And.intro ?a3 ?a4)); (case a1 => k_mem); (case a2 => assumption); (case a3 => omega); (case a4 => first | assumption | exact SubI.lim (by assumption) | exact ShI.lim (by assumption) | exact And.left (by assumption))))
        (case kd => ktr_room)
        (case ku => ktr_units))
      intro d9 vs9 n9 ys9 hA9 hI9 hR9 h9 tk9 F9 N9
      (try k_sweep); (try dsimp only); (try k_fold)))
  unfold Ctr
  k_fill
  intro mean mg mb dp un gd cn cs a ccd cl outer A₀ base h₀ L m s Q E B F X N T hk hasks hd hu hret
  obtain ⟨h0, h1, he1, he2⟩ := hasks
  have hb := base_of he1 he2
  have hb0 : (0 : Int) < 2 ^ e.toNat := by omega
  refine wpAny_call ?_
  k_dflt cell_enter
  (k_with "exec While Compare cons nil" => k_while (fun script number found => (found.length : Int) + number ≤ v ∧ 0 ≤ number ∧ number ≤ v ∧ LmbI (2 ^ e.toNat) v number found) (fun script number found => number.toNat) "number" "found")
  (k_with "state" => first | exact lmb_start h0 | exact lmb_turn (by omega) (by assumption) (by assumption))
  (k_with "measure" => first | exact lmb_less (by omega) (by assumption))
  k_steps
  refine' hret _ _ _ _ ?ha ?hb ?hc _ _ ?hF ?hN
  case hF => k_asm
  case hN => k_asm
  case ha => exact allLt_of (by assumption)
  case hb => assumption
  case hc => exact LmbI.done (by assumption) (by assumption)

theorem c_plain (w : World) (t l : Addr) (us : List Value) (n c : Nat) (b : Bool) (xs : List Int) (v : Int) (e : Int) (te : Tok) (news : List (Addr × Obj)) :
   Ctr w 156 ((t, { cls := .type "tuple", data := .seq #[.bool b, .ref l] c }) ∈ news ∧ (l, listOf us.toArray n) ∈ news ∧ IntsAre us xs ∧ xs.length < 1000 ∧ 3 ≤ e ∧ e ≤ 7 ∧ Rep (2 ^ e.toNat) xs v ∧ v < 100000) [.ref t, .int e te] news 1 8
     (fun k => ∀ t, k (.int (if b = true then 0 - v else v) t) news) := by
  k_with_none
  (k_with "cheap" => first
    | with_reducible assumption
    | exact nltU (by with_reducible assumption) (by decide)
    | exact nleU (by with_reducible assumption) (by decide)
    | exact nltLe (by with_reducible assumption) (by decide)
    | exact iltU (by with_reducible assumption) (by decide)
    | exact igtD (by with_reducible assumption) (by decide)
    | exact igeLt (by with_reducible assumption) (by decide)
    | exact ileLt (by with_reducible assumption) (by decide)
    | exact igeD (by with_reducible assumption) (by decide)
    | exact igtGe (by with_reducible assumption) (by decide)
    | exact ileU (by with_reducible assumption) (by decide)
    | exact inat (by decide)
    | exact inltU (by with_reducible assumption) (by decide)
    | exact roomA (by with_reducible assumption) (by decide)
    | exact roomB (by with_reducible assumption) (by decide)
    | exact room0 (by with_reducible assumption))
  (k_with "ne" => first
    | with_reducible assumption
    | exact Ne.symm (by with_reducible assumption)
    | exact Nat.ne_of_lt (by with_reducible assumption)
    | exact Nat.ne_of_gt (by with_reducible assumption)
    | exact Nat.ne_of_lt (And.left (by with_reducible assumption))
    | exact Nat.ne_of_gt (And.left (by with_reducible assumption))
    | exact Nat.ne_of_lt (And.left (And.right (by with_reducible assumption)))
    | exact Nat.ne_of_lt (And.right (by with_reducible assumption))
    | exact Nat.ne_of_gt (And.left (And.right (by with_reducible assumption)))
    | exact Nat.ne_of_gt (And.right (by with_reducible assumption))
    | exact Nat.ne_of_lt (And.left (And.right (And.right (by with_reducible assumption))))
    | exact Nat.ne_of_lt (And.right (And.right (by with_reducible assumption)))
    | exact Nat.ne_of_gt (And.left (And.right (And.right (by with_reducible assumption))))
    | exact Nat.ne_of_gt (And.right (And.right (by with_reducible assumption)))
    | exact Nat.ne_of_lt (And.left (And.right (And.right (And.right (by with_reducible assumption)))))
    | exact Nat.ne_of_lt (And.right (And.right (And.right (by with_reducible assumption))))
    | exact Nat.ne_of_gt (And.left (And.right (And.right (And.right (by with_reducible assumption)))))
    | exact Nat.ne_of_gt (And.right (And.right (And.right (by with_reducible assumption))))
    | exact Nat.ne_of_lt (And.left (And.right (And.right (And.right (And.right (by with_reducible assumption))))))
    | exact Nat.ne_of_lt (And.right (And.right (And.right (And.right (by with_reducible assumption)))))
    | exact Nat.ne_of_gt (And.left (And.right (And.right (And.right (And.right (by with_reducible assumption))))))
    | exact Nat.ne_of_gt (And.right (And.right (And.right (And.right (by with_reducible assumption)))))
    | exact Nat.ne_of_lt (And.left (And.right (And.right (And.right (And.right (And.right (by with_reducible assumption)))))))
    | exact Nat.ne_of_lt (And.right (And.right (And.right (And.right (And.right (by with_reducible assumption))))))
    | exact Nat.ne_of_gt (And.left (And.right (And.right (And.right (And.right (And.right (by with_reducible assumption)))))))
    | exact Nat.ne_of_gt (And.right (And.right (And.right (And.right (And.right (by with_reducible assumption))))))
    | exact Nat.ne_of_lt (And.left (And.right (And.right (And.right (And.right (And.right (And.right (by with_reducible assumption))))))))
    | exact Nat.ne_of_lt (And.right (And.right (And.right (And.right (And.right (And.right (by with_reducible assumption)))))))
    | exact Nat.ne_of_gt (And.left (And.right (And.right (And.right (And.right (And.right (And.right (by with_reducible assumption))))))))
    | exact Nat.ne_of_gt (And.right (And.right (And.right (And.right (And.right (And.right (by with_reducible assumption)))))))
    | exact Nat.ne_of_lt (And.left (And.right (And.right (And.right (And.right (And.right (And.right (And.right (by with_reducible assumption)))))))))
    | exact Nat.ne_of_lt (And.right (And.right (And.right (And.right (And.right (And.right (And.right (by with_reducible assumption))))))))
    | exact Nat.ne_of_gt (And.left (And.right (And.right (And.right (And.right (And.right (And.right (And.right (by with_reducible assumption)))))))))
    | exact Nat.ne_of_gt (And.right (And.right (And.right (And.right (And.right (And.right (And.right (by with_reducible assumption))))))))
    | exact Nat.ne_of_lt (And.left (And.right (And.right (And.right (And.right (And.right (And.right (And.right (And.right (by with_reducible assumption))))))))))
    | exact Nat.ne_of_lt (And.right (And.right (And.right (And.right (And.right (And.right (And.right (And.right (by with_reducible assumption)))))))))
    | exact Nat.ne_of_gt (And.left (And.right (And.right (And.right (And.right (And.right (And.right (And.right (And.right (by with_reducible assumption))))))))))
    | exact Nat.ne_of_gt (And.right (And.right (And.right (And.right (And.right (And.right (And.right (And.right (by with_reducible assumption)))))))))
    | exact Nat.ne_of_lt (And.left (And.right (And.right (And.right (And.right (And.right (And.right (And.right (And.right (And.right (by with_reducible assumption)))))))))))
    | exact Nat.ne_of_lt (And.right (And.right (And.right (And.right (And.right (And.right (And.right (And.right (And.right (by with_reducible assumption))))))))))
    | exact Nat.ne_of_gt (And.left (And.right (And.right (And.right (And.right (And.right (And.right (And.right (And.right (And.right (by with_reducible assumption)))))))))))
    | exact Nat.ne_of_gt (And.right (And.right (And.right (And.right (And.right (And.right (And.right (And.right (And.right (by with_reducible assumption))))))))))
    | exact Nat.ne_of_lt (And.left (And.right (And.right (And.right (And.right (And.right (And.right (And.right (And.right (And.right (And.right (by with_reducible assumption))))))))))))
    | exact Nat.ne_of_lt (And.right (And.right (And.right (And.right (And.right (And.right (And.right (And.right (And.right (And.right (by with_reducible assumption)))))))))))
    | exact Nat.ne_of_gt (And.left (And.right (And.right (And.right (And.right (And.right (And.right (And.right (And.right (And.right (And.right (by with_reducible assumption))))))))))))
    | exact Nat.ne_of_gt (And.right (And.right (And.right (And.right (And.right (And.right (And.right (And.right (And.right (And.right (by with_reducible assumption))))))))))))
  (k_with "room" => first
    | exact roomA (by with_reducible assumption) (by decide)
    | exact roomB (by with_reducible assumption) (by decide)
    | exact room0 (by with_reducible assumption))
  (k_with "m_k_mem" => first | with_reducible assumption | assumption | exact List.mem_cons_self | (refine' List.mem_cons_of_mem _ ?_; k_mem))
  (k_with "m_is_list" => (refine' isListN ?N9 ?M9; (case N9 => k_asm); (case M9 => k_mem)))
  (k_with "m_k_all" => first | assumption | exact all_ne (by assumption) | exact all_ne (And.right (by assumption)) | exact all_ne (And.right (And.right (by assumption))) | exact all_ne (And.right (And.right (And.right (by assumption)))))
  (k_with "m_kst_facts1" => first | exact IntsAre.nil | assumption | exact IntsAre.append (by assumption) (IntsAre.cons _ _ IntsAre.nil))
  (k_with "binaryOp LShift int int" => (k_here; (with_unfolding_all refine' lshift_int_small ?k1 ?k2 ?k3 ?_; (case k1 => omega); (case k2 => omega); (case k3 => first | omega | exact limN (by assumption) (by assumption) (by assumption) _))))
  (k_with "call ref" => (
      k_here
      (show wpAny _ _ (call (Value.ref 58) _) _ _ _)
      k_dflt (
        refine' Ctr.use (c_normal _ _ _ _ _ _ _) ?k1 ?k2 ?k3 ?k4 ?k5 ?kK ?ka ?kd ?ku ?_
        (case k1 => k_asm)
        (case k2 => k_asm)
        (case k3 => first | k_asm | k_in)
        (case k4 => k_asm)
        (case k5 => k_asm)
        (case kK => first | exact rfl | assumption)
        (case ka => (refine' And.intro ?a1 (And.intro ?a2 (And.intro ?a3 ?a4)); (case a1 => k_mem); (case a2 => assumption); (case a3 => omega); (case a4 => first | assumption | exact SubI.lim (by assumption) | exact ShI.lim (by assumption) | exact And.left (by assumption))))
        (case kd => ktr_room)
        (case ku => ktr_units))
      intro d9 vs9 n9 ys9 hA9 hI9 hR9 h9 tk9 F9 N9
      (try k_sweep); (try dsimp only); (try k_fold)))
  unfold Ctr
  k_fill
  intro mean mg mb dp un gd cn cs a ccd cl outer A₀ base h₀ L m s Q E B F X N T hk hasks hd hu hret
  obtain ⟨hm, hm', hi, hlen, he1, he2, hx, hv⟩ := hasks
  have hb := base_of he1 he2
  have hb0 : (0 : Int) < 2 ^ e.toNat := by omega
  have hb1 := hb.1
  have hb2 := hb.2
  clear hb
  have hv0 := hx.nonneg hb0
  refine wpAny_call ?_
  k_dflt cell_enter
  (k_with "pyIter ref" => k_state (fun pre found => 0 ≤ found ∧ found ≤ 100000 ∧ PlnI (2 ^ e.toNat) v pre found) "found")
  (k_with "state" => first
    | exact ⟨Int.le_refl _, by omega, PlnI.start hv0⟩
    | exact pln_turn hb0 hv hx (by assumption) (by assumption))
  k_steps
  all_goals (
    have e1 := PlnI.done hx (by assumption)
    rw [e1]
    rename b = _ => hbb
    rw [hbb] at hret
    simp only [if_true, Bool.false_eq_true, if_false] at hret
    rename News h₀ L _ _ => hN
    exact hret _ _ _ (by k_asm) (newsTo hN fun p hp => List.mem_cons_of_mem _ hp))

theorem c_next (w : World) (y l : Addr) (us : List Value) (n c : Nat) (i : Int) (ti : Tok) (xs : List Int) (k : Int) (tk : Tok) (news : List (Addr × Obj)) :
   Ctr w 135 ((l, listOf us.toArray n) ∈ news ∧ IntsAre us xs ∧ xs.length < 100 ∧ (∀ p ∈ news, p.1 ≠ y) ∧ 0 ≤ i ∧ i ≤ 10 ∧ 1 ≤ k ∧ k ≤ 100) [.ref y, .int k tk] ((y, listOf #[.int i ti, .ref l] c) :: news) 1 8
     (fun kk => ∀ v t t' c', 0 ≤ v → v < k → kk (.int v t) ((y, listOf #[.int (i + 1) t', .ref l] c') :: news)) := by
  k_with_none
  (k_with "cheap" => first
    | with_reducible assumption
    | exact nltU (by with_reducible assumption) (by decide)
    | exact nleU (by with_reducible assumption) (by decide)
    | exact nltLe (by with_reducible assumption) (by decide)
    | exact iltU (by with_reducible assumption) (by decide)
    | exact igtD (by with_reducible assumption) (by decide)
    | exact igeLt (by with_reducible assumption) (by decide)
    | exact ileLt (by with_reducible assumption) (by decide)
    | exact igeD (by with_reducible assumption) (by decide)
    | exact igtGe (by with_reducible assumption) (by decide)
    | exact ileU (by with_reducible assumption) (by decide)
    | exact inat (by decide)
    | exact inltU (by with_reducible assumption) (by decide)
    | exact roomA (by with_reducible assumption) (by decide)
    | exact roomB (by with_reducible assumption) (by decide)
    | exact room0 (by with_reducible assumption))
  (k_with "ne" => first
    | with_reducible assumption
    | exact Ne.symm (by with_reducible assumption)
    | exact Nat.ne_of_lt (by with_reducible assumption)
    | exact Nat.ne_of_gt (by with_reducible assumption)
    | exact Nat.ne_of_lt (And.left (by with_reducible assumption))
    | exact Nat.ne_of_gt (And.left (by with_reducible assumption))
    | exact Nat.ne_of_lt (And.left (And.right (by with_reducible assumption)))
    | exact Nat.ne_of_lt (And.right (by with_reducible assumption))
    | exact Nat.ne_of_gt (And.left (And.right (by with_reducible assumption)))
    | exact Nat.ne_of_gt (And.right (by with_reducible assumption))
    | exact Nat.ne_of_lt (And.left (And.right (And.right (by with_reducible assumption))))
    | exact Nat.ne_of_lt (And.right (And.right (by with_reducible assumption)))
    | exact Nat.ne_of_gt (And.left (And.right (And.right (by with_reducible assumption))))
    | exact Nat.ne_of_gt (And.right (And.right (by with_reducible assumption)))
    | exact Nat.ne_of_lt (And.left (And.right (And.right (And.right (by with_reducible assumption)))))
    | exact Nat.ne_of_lt (And.right (And.right (And.right (by with_reducible assumption))))
    | exact Nat.ne_of_gt (And.left (And.right (And.right (And.right (by with_reducible assumption)))))
    | exact Nat.ne_of_gt (And.right (And.right (And.right (by with_reducible assumption))))
    | exact Nat.ne_of_lt (And.left (And.right (And.right (And.right (And.right (by with_reducible assumption))))))
    | exact Nat.ne_of_lt (And.right (And.right (And.right (And.right (by with_reducible assumption)))))
    | exact Nat.ne_of_gt (And.left (And.right (And.right (And.right (And.right (by with_reducible assumption))))))
    | exact Nat.ne_of_gt (And.right (And.right (And.right (And.right (by with_reducible assumption)))))
    | exact Nat.ne_of_lt (And.left (And.right (And.right (And.right (And.right (And.right (by with_reducible assumption)))))))
    | exact Nat.ne_of_lt (And.right (And.right (And.right (And.right (And.right (by with_reducible assumption))))))
    | exact Nat.ne_of_gt (And.left (And.right (And.right (And.right (And.right (And.right (by with_reducible assumption)))))))
    | exact Nat.ne_of_gt (And.right (And.right (And.right (And.right (And.right (by with_reducible assumption))))))
    | exact Nat.ne_of_lt (And.left (And.right (And.right (And.right (And.right (And.right (And.right (by with_reducible assumption))))))))
    | exact Nat.ne_of_lt (And.right (And.right (And.right (And.right (And.right (And.right (by with_reducible assumption)))))))
    | exact Nat.ne_of_gt (And.left (And.right (And.right (And.right (And.right (And.right (And.right (by with_reducible assumption))))))))
    | exact Nat.ne_of_gt (And.right (And.right (And.right (And.right (And.right (And.right (by with_reducible assumption)))))))
    | exact Nat.ne_of_lt (And.left (And.right (And.right (And.right (And.right (And.right (And.right (And.right (by with_reducible assumption)))))))))
    | exact Nat.ne_of_lt (And.right (And.right (And.right (And.right (And.right (And.right (And.right (by with_reducible assumption))))))))
    | exact Nat.ne_of_gt (And.left (And.right (And.right (And.right (And.right (And.right (And.right (And.right (by with_reducible assumption)))))))))
    | exact Nat.ne_of_gt (And.right (And.right (And.right (And.right (And.right (And.right (And.right (by with_reducible assumption))))))))
    | exact Nat.ne_of_lt (And.left (And.right (And.right (And.right (And.right (And.right (And.right (And.right (And.right (by with_reducible assumption))))))))))
    | exact Nat.ne_of_lt (And.right (And.right (And.right (And.right (And.right (And.right (And.right (And.right (by with_reducible assumption)))))))))
    | exact Nat.ne_of_gt (And.left (And.right (And.right (And.right (And.right (And.right (And.right (And.right (And.right (by with_reducible assumption))))))))))
    | exact Nat.ne_of_gt (And.right (And.right (And.right (And.right (And.right (And.right (And.right (And.right (by with_reducible assumption)))))))))
    | exact Nat.ne_of_lt (And.left (And.right (And.right (And.right (And.right (And.right (And.right (And.right (And.right (And.right (by with_reducible assumption)))))))))))
    | exact Nat.ne_of_lt (And.right (And.right (And.right (And.right (And.right (And.right (And.right (And.right (And.right (by with_reducible assumption))))))))))
    | exact Nat.ne_of_gt (And.left (And.right (And.right (And.right (And.right (And.right (And.right (And.right (And.right (And.right (by with_reducible assumption)))))))))))
    | exact Nat.ne_of_gt (And.right (And.right (And.right (And.right (And.right (And.right (And.right (And.right (And.right (by with_reducible assumption))))))))))
    | exact Nat.ne_of_lt (And.left (And.right (And.right (And.right (And.right (And.right (And.right (And.right (And.right (And.right (And.right (by with_reducible assumption))))))))))))
    | exact Nat.ne_of_lt (And.right (And.right (And.right (And.right (And.right (And.right (And.right (And.right (And.right (And.right (by with_reducible assumption)))))))))))
    | exact Nat.ne_of_gt (And.left (And.right (And.right (And.right (And.right (And.right (And.right (And.right (And.right (And.right (And.right (by with_reducible assumption))))))))))))
    | exact Nat.ne_of_gt (And.right (And.right (And.right (And.right (And.right (And.right (And.right (And.right (And.right (And.right (by with_reducible assumption))))))))))))
  (k_with "room" => first
    | exact roomA (by with_reducible assumption) (by decide)
    | exact roomB (by with_reducible assumption) (by decide)
    | exact room0 (by with_reducible assumption))
  (k_with "m_k_mem" => first | with_reducible assumption | assumption | exact List.mem_cons_self | (refine' List.mem_cons_of_mem _ ?_; k_mem))
  (k_with "m_is_list" => (refine' isListN ?N9 ?M9; (case N9 => k_asm); (case M9 => k_mem)))
  (k_with "m_k_all" => first | assumption | exact all_ne (by assumption) | exact all_ne (And.right (by assumption)) | exact all_ne (And.right (And.right (by assumption))) | exact all_ne (And.right (And.right (And.right (by assumption)))))
  (k_with "m_kst_facts1" => first | exact IntsAre.nil | assumption | exact IntsAre.append (by assumption) (IntsAre.cons _ _ IntsAre.nil))
  (k_with "binaryOp LShift int int" => (k_here; (with_unfolding_all refine' lshift_int_small ?k1 ?k2 ?k3 ?_; (case k1 => omega); (case k2 => omega); (case k3 => first | omega | exact limN (by assumption) (by assumption) (by assumption) _))))
  (k_with "call ref" => (
      k_here
      (show wpAny _ _ (call (Value.ref 58) _) _ _ _)
      k_dflt (
        refine' Ctr.use (c_normal _ _ _ _ _ _ _) ?k1 ?k2 ?k3 ?k4 ?k5 ?kK ?ka ?kd ?ku ?_
        (case k1 => k_asm)
        (case k2 => k_asm)
        (case k3 => first | k_asm | k_in)
        (case k4 => k_asm)
        (case k5 => k_asm)
        (case kK => first | exact rfl | assumption)
        (case ka => (refine' And.intro ?a1 (And.intro ?a2 (And.intro ?a3 ?a4)); (case a1 => k_mem); (case a2 => assumption); (case a3 => omega); (case a4 => first | assumption | exact SubI.lim (by assumption) | exact ShI.lim (by assumption) | exact And.left (by assumption))))
        (case kd => ktr_room)
        (case ku => ktr_units))
      intro d9 vs9 n9 ys9 hA9 hI9 hR9 h9 tk9 F9 N9
      (try k_sweep); (try dsimp only); (try k_fold)))
  unfold Ctr
  k_fill
  intro mean mg mb dp un gd cn cs a ccd cl outer A₀ base h₀ L m s Q E B F X N T hk hasks hd hu hret
  obtain ⟨hm, hi, hlen, hy, hi1, hi2, hk1, hk2⟩ := hasks
  refine wpAny_call ?_
  k_dflt cell_enter
  k_steps
  all_goals (
    refine' hret _ _ _ _ ?h1 ?h2 _ _ ?hF ?hN
    case hF => k_asm
    case hN => k_asm
    case h1 => exact fmod_lo _ (by omega)
    case h2 => exact fmod_hi _ (by omega))

/-- add's first statement: behind it a is no shorter than b, and the sum is the same -/
def SwapEnd (h₀ : Heap) (L : Addr) (m : Str → Option Value) (news : List (Addr × Obj)) (B v : Int) (s : Shared) (f : Flow) (s' : Shared) : Prop :=
  f = .next ∧ ∃ (h' : Heap) (tk : Nat) (la lb : Addr) (ua ub : List Value) (na nb : Nat) (xs ys : List Int) (va vb : Int), s' = { s with heap := h', toks := tk } ∧
    Fr h₀ L h' (fun z => if z = Str.ofString "a" then some (.ref la) else if z = Str.ofString "b" then some (.ref lb) else m z) ∧ News h₀ L h' news ∧ (la, listOf ua.toArray na) ∈ news ∧ IntsAre ua xs ∧ (lb, listOf ub.toArray nb) ∈ news ∧ IntsAre ub ys ∧
    Rep B xs va ∧ Rep B ys vb ∧ va + vb = v ∧ xs.length < 1000 ∧ ys.length < 1000 ∧ ys.length ≤ xs.length
theorem SwapEnd.mk {h₀ h' : Heap} {L : Addr} {m m' : Str → Option Value} {news led : List (Addr × Obj)} {B v : Int} {s : Shared} {tk : Nat} {la lb : Addr} {ua ub : List Value} {na nb : Nat} {xs ys : List Int} {va vb : Int}
    (F : Fr h₀ L h' m') (N : News h₀ L h' led) (hs : ∀ p ∈ news, p ∈ led) (hm : ∀ z, z ≠ Str.ofString "a" → z ≠ Str.ofString "b" → m' z = m z) (ha : m' (Str.ofString "a") = some (.ref la)) (hb : m' (Str.ofString "b") = some (.ref lb))
    (h1 : (la, listOf ua.toArray na) ∈ news) (h2 : IntsAre ua xs) (h3 : (lb, listOf ub.toArray nb) ∈ news) (h4 : IntsAre ub ys) (h5 : Rep B xs va) (h6 : Rep B ys vb) (h7 : va + vb = v) (h8 : xs.length < 1000) (h9 : ys.length < 1000) (h10 : ys.length ≤ xs.length) :
    SwapEnd h₀ L m news B v s .next { s with heap := h', toks := tk } := by
  refine ⟨rfl, h', tk, la, lb, ua, ub, na, nb, xs, ys, va, vb, rfl, ?_, newsTo N hs, h1, h2, h3, h4, h5, h6, h7, h8, h9, h10⟩
  have e : (fun z => if z = Str.ofString "a" then some (.ref la) else if z = Str.ofString "b" then some (.ref lb) else m z) = m' := by
    funext z
    by_cases q1 : z = Str.ofString "a"
    · subst q1; rw [if_pos rfl, ha]
    · rw [if_neg q1]
      by_cases q2 : z = Str.ofString "b"
      · subst q2; rw [if_pos rfl, hb]
      · rw [if_neg q2, hm z q1 q2]
  rw [e]; exact F
theorem cut_swap {M : Model} {A : Around} {E : Value → Shared → Prop} {s : Shared} {st : Stmt} {env : Env} {Q : Flow → Shared → Prop} {h₀ : Heap} {L : Addr} {m : Str → Option Value} {news : List (Addr × Obj)} {B v : Int} (_ : Fr h₀ L s.heap m) (_ : News h₀ L s.heap news)
    (h : wpAny M A (exec st env) (SwapEnd h₀ L m news B v s) E s)
    (k : ∀ (h' : Heap) (tk : Nat) (la lb : Addr) (ua ub : List Value) (na nb : Nat) (xs ys : List Int) (va vb : Int), Fr h₀ L h' (fun z => if z = Str.ofString "a" then some (.ref la) else if z = Str.ofString "b" then some (.ref lb) else m z) → News h₀ L h' news →
      (la, listOf ua.toArray na) ∈ news → IntsAre ua xs → (lb, listOf ub.toArray nb) ∈ news → IntsAre ub ys → Rep B xs va → Rep B ys vb → va + vb = v → xs.length < 1000 → ys.length < 1000 → ys.length ≤ xs.length → Q .next { s with heap := h', toks := tk }) : wpAny M A (exec st env) Q E s :=
  wpAny_mono h (fun f s' hq => by
    obtain ⟨rfl, h', tk, la, lb, ua, ub, na, nb, xs, ys, va, vb, rfl, F, N, h1, h2, h3, h4, h5, h6, h7, h8, h9, h10⟩ := hq
    exact k h' tk la lb ua ub na nb xs ys va vb F N h1 h2 h3 h4 h5 h6 h7 h8 h9 h10) fun _ _ e => e
theorem c_add (w : World) (la lb : Addr) (ua ub : List Value) (na nb : Nat) (xs ys : List Int) (va vb : Int) (e : Int) (te : Tok) (news : List (Addr × Obj)) :
   Ctr w 79 ((la, listOf ua.toArray na) ∈ news ∧ IntsAre ua xs ∧ (lb, listOf ub.toArray nb) ∈ news ∧ IntsAre ub ys ∧ Rep (2 ^ e.toNat) xs va ∧ Rep (2 ^ e.toNat) ys vb ∧ xs.length < 1000 ∧ ys.length < 1000 ∧ 3 ≤ e ∧ e ≤ 7) [.ref la, .ref lb, .int e te] news 1 8
     (fun k => ∀ (d : Addr) (vs : List Value) (n : Nat) (zs : List Int), AllLt d news → IntsAre vs zs → Rep (2 ^ e.toNat) zs (va + vb) → k (.ref d) ((d, listOf vs.toArray n) :: news)) := by
  k_with_none
  w_top off
  (k_with "cheap" => first
    | with_reducible assumption
    | exact nltU (by with_reducible assumption) (by decide)
    | exact nleU (by with_reducible assumption) (by decide)
    | exact nltLe (by with_reducible assumption) (by decide)
    | exact iltU (by with_reducible assumption) (by decide)
    | exact igtD (by with_reducible assumption) (by decide)
    | exact igeLt (by with_reducible assumption) (by decide)
    | exact ileLt (by with_reducible assumption) (by decide)
    | exact igeD (by with_reducible assumption) (by decide)
    | exact igtGe (by with_reducible assumption) (by decide)
    | exact ileU (by with_reducible assumption) (by decide)
    | exact inat (by decide)
    | exact inltU (by with_reducible assumption) (by decide)
    | exact roomA (by with_reducible assumption) (by decide)
    | exact roomB (by with_reducible assumption) (by decide)
    | exact room0 (by with_reducible assumption))
  (k_with "ne" => first
    | with_reducible assumption
    | exact Ne.symm (by with_reducible assumption)
    | exact Nat.ne_of_lt (by with_reducible assumption)
    | exact Nat.ne_of_gt (by with_reducible assumption)
    | exact Nat.ne_of_lt (And.left (by with_reducible assumption))
    | exact Nat.ne_of_gt (And.left (by with_reducible assumption))
    | exact Nat.ne_of_lt (And.left (And.right (by with_reducible assumption)))
    | exact Nat.ne_of_lt (And.right (by with_reducible assumption))
    | exact Nat.ne_of_gt (And.left (And.right (by with_reducible assumption)))
    | exact Nat.ne_of_gt (And.right (by with_reducible assumption))
    | exact Nat.ne_of_lt (And.left (And.right (And.right (by with_reducible assumption))))
    | exact Nat.ne_of_lt (And.right (And.right (by with_reducible assumption)))
    | exact Nat.ne_of_gt (And.left (And.right (And.right (by with_reducible assumption))))
    | exact Nat.ne_of_gt (And.right (And.right (by with_reducible assumption)))
    | exact Nat.ne_of_lt (And.left (And.right (And.right (And.right (by with_reducible assumption)))))
    | exact Nat.ne_of_lt (And.right (And.right (And.right (by with_reducible assumption))))
    | exact Nat.ne_of_gt (And.left (And.right (And.right (And.right (by with_reducible assumption)))))
    | exact Nat.ne_of_gt (And.right (And.right (And.right (by with_reducible assumption))))
    | exact Nat.ne_of_lt (And.left (And.right (And.right (And.right (And.right (by with_reducible assumption))))))
    | exact Nat.ne_of_lt (And.right (And.right (And.right (And.right (by with_reducible assumption)))))
    | exact Nat.ne_of_gt (And.left (And.right (And.right (And.right (And.right (by with_reducible assumption))))))
    | exact Nat.ne_of_gt (And.right (And.right (And.right (And.right (by with_reducible assumption)))))
    | exact Nat.ne_of_lt (And.left (And.right (And.right (And.right (And.right (And.right (by with_reducible assumption)))))))
    | exact Nat.ne_of_lt (And.right (And.right (And.right (And.right (And.right (by with_reducible assumption))))))
    | exact Nat.ne_of_gt (And.left (And.right (And.right (And.right (And.right (And.right (by with_reducible assumption)))))))
    | exact Nat.ne_of_gt (And.right (And.right (And.right (And.right (And.right (by with_reducible assumption))))))
    | exact Nat.ne_of_lt (And.left (And.right (And.right (And.right (And.right (And.right (And.right (by with_reducible assumption))))))))
    | exact Nat.ne_of_lt (And.right (And.right (And.right (And.right (And.right (And.right (by with_reducible assumption)))))))
    | exact Nat.ne_of_gt (And.left (And.right (And.right (And.right (And.right (And.right (And.right (by with_reducible assumption))))))))
    | exact Nat.ne_of_gt (And.right (And.right (And.right (And.right (And.right (And.right (by with_reducible assumption)))))))
    | exact Nat.ne_of_lt (And.left (And.right (And.right (And.right (And.right (And.right (And.right (And.right (by with_reducible assumption)))))))))
    | exact Nat.ne_of_lt (And.right (And.right (And.right (And.right (And.right (And.right (And.right (by with_reducible assumption))))))))
    | exact Nat.ne_of_gt (And.left (And.right (And.right (And.right (And.right (And.right (And.right (And.right (by with_reducible assumption)))))))))
    | exact Nat.ne_of_gt (And.right (And.right (And.right (And.right (And.right (And.right (And.right (by with_reducible assumption))))))))
    | exact Nat.ne_of_lt (And.left (And.right (And.right (And.right (And.right (And.right (And.right (And.right (And.right (by with_reducible assumption))))))))))
    | exact Nat.ne_of_lt (And.right (And.right (And.right (And.right (And.right (And.right (And.right (And.right (by with_reducible assumption)))))))))
    | exact Nat.ne_of_gt (And.left (And.right (And.right (And.right (And.right (And.right (And.right (And.right (And.right (by with_reducible assumption))))))))))
    | exact Nat.ne_of_gt (And.right (And.right (And.right (And.right (And.right (And.right (And.right (And.right (by with_reducible assumption)))))))))
    | exact Nat.ne_of_lt (And.left (And.right (And.right (And.right (And.right (And.right (And.right (And.right (And.right (And.right (by with_reducible assumption)))))))))))
    | exact Nat.ne_of_lt (And.right (And.right (And.right (And.right (And.right (And.right (And.right (And.right (And.right (by with_reducible assumption))))))))))
    | exact Nat.ne_of_gt (And.left (And.right (And.right (And.right (And.right (And.right (And.right (And.right (And.right (And.right (by with_reducible assumption)))))))))))
    | exact Nat.ne_of_gt (And.right (And.right (And.right (And.right (And.right (And.right (And.right (And.right (And.right (by with_reducible assumption))))))))))
    | exact Nat.ne_of_lt (And.left (And.right (And.right (And.right (And.right (And.right (And.right (And.right (And.right (And.right (And.right (by with_reducible assumption))))))))))))
    | exact Nat.ne_of_lt (And.right (And.right (And.right (And.right (And.right (And.right (And.right (And.right (And.right (And.right (by with_reducible assumption)))))))))))
    | exact Nat.ne_of_gt (And.left (And.right (And.right (And.right (And.right (And.right (And.right (And.right (And.right (And.right (And.right (by with_reducible assumption))))))))))))
    | exact Nat.ne_of_gt (And.right (And.right (And.right (And.right (And.right (And.right (And.right (And.right (And.right (And.right (by with_reducible assumption))))))))))))
  (k_with "room" => first
    | exact roomA (by with_reducible assumption) (by decide)
    | exact roomB (by with_reducible assumption) (by decide)
    | exact room0 (by with_reducible assumption))
  (k_with "m_k_mem" => first | with_reducible assumption | assumption | exact List.mem_cons_self | (refine' List.mem_cons_of_mem _ ?_; k_mem))
  (k_with "m_is_list" => (refine' isListN ?N9 ?M9; (case N9 => k_asm); (case M9 => k_mem)))
  (k_with "m_k_all" => first | assumption | exact all_ne (by assumption) | exact all_ne (And.right (by assumption)) | exact all_ne (And.right (And.right (by assumption))) | exact all_ne (And.right (And.right (And.right (by assumption)))) | exact List.forall_mem_append.mpr ⟨by k_all, by k_all⟩)
  (k_with "m_kst_facts1" => first | exact IntsAre.nil | assumption | exact IntsAre.append (by assumption) (IntsAre.cons _ _ IntsAre.nil))
  (k_with "binaryOp LShift int int" => (k_here; (with_unfolding_all refine' lshift_int_small ?k1 ?k2 ?k3 ?_; (case k1 => omega); (case k2 => omega); (case k3 => first | omega | exact limN (by assumption) (by assumption) (by assumption) _))))
  unfold Ctr
  k_fill
  intro mean mg mb dp un gd cn cs a ccd cl outer A₀ base h₀ L m s Q E B F X N T hk hasks hd hu hret
  obtain ⟨hm, hi, hm', hi', hx, hy, hlen, hlen', he1, he2⟩ := hasks
  have hb := base_of he1 he2
  have hb1 := hb.1
  have hb2 := hb.2
  clear hb
  refine wpAny_call ?_
  k_dflt cell_enter
  (k_with "pyIter ref" => k_state_given ["found!"] (fun f₀ pre carry found => found.length = pre.length + f₀.length ∧ found.length ≤ 1000 ∧ AddI (2 ^ e.toNat) xs ys found.length carry found) "carry" "found")
  (k_with "state" => first
    | exact add_start
    | exact add_start2 (by assumption) (by assumption)
    | (refine add_turn hb1 hx.1 hy.1 (by assumption) (by assumption) (by (try simp only [List.length_nil] at *); omega) (by (try simp only [List.length_nil] at *); omega) ?_; first | omega | (rw [getD_ge (xs := xs) (by omega)]; omega) | (rw [getD_ge (xs := ys) (by omega)]; omega))
    | (rename _ = List.length (rangeKs _ _) + List.length [] => hq1; rw [rangeKs_length, List.length_nil] at hq1; refine add_turn hb1 hx.1 hy.1 (by assumption) (by assumption) (by omega) (by omega) ?_; first | omega | (rw [getD_ge (xs := xs) (by omega)]; omega) | (rw [getD_ge (xs := ys) (by omega)]; omega)))
  (k_with "exec If" => (
     (with_reducible show wpAny _ _ (exec (PySem.Stmt.If (PySem.Expr.Compare (PySem.Expr.Call _ _ _ _) _ _ _) _ _ _) _) _ _ _)
     (fail_if_success (with_reducible show wpAny _ _ _ (SwapEnd _ _ _ _ _ _ _) _ _))
     (rename Fr _ _ _ _ => lF')
     (rename News _ _ _ _ => lN')
     (refine' cut_swap (v := va + vb) (B := 2 ^ e.toNat) lF' lN' ?_ ?_)
     (rotate_left)
     (clear hm hi hm' hi' hx hy hlen hlen'
      intro sh stk la lb ua ub na nb xs ys va' vb' sF sN hm hi hm' hi' hx hy hv hlen hlen' hle
      clear lF' lN'
      rotate_left)))
  (k_with "SwapEnd" => first
     | (refine' SwapEnd.mk (la := la) (lb := lb) (va := va) (vb := vb) ?sw1 ?sw2 ?sw3 ?sw4 ?sw5 ?sw6 hm hi hm' hi' hx hy rfl hlen hlen' ?sw7
        (case sw1 => k_asm)
        (case sw2 => k_asm)
        (case sw3 => intro p hp; first | exact hp | simp only [List.mem_cons, hp, or_true])
        (case sw4 => intro z h1 h2; first | rfl | simp [h1, h2])
        (case sw5 => with_unfolding_all exact rfl)
        (case sw6 => with_unfolding_all exact rfl)
        (case sw7 => omega))
     | (refine' SwapEnd.mk (la := lb) (lb := la) (va := vb) (vb := va) ?sw1 ?sw2 ?sw3 ?sw4 ?sw5 ?sw6 hm' hi' hm hi hy hx (Int.add_comm _ _) hlen' hlen ?sw7
        (case sw1 => k_asm)
        (case sw2 => k_asm)
        (case sw3 => intro p hp; first | exact hp | simp only [List.mem_cons, hp, or_true])
        (case sw4 => intro z h1 h2; first | rfl | simp [h1, h2])
        (case sw5 => with_unfolding_all exact rfl)
        (case sw6 => with_unfolding_all exact rfl)
        (case sw7 => omega)))
  k_steps
  all_goals (
    rename _ = List.length (rangeKs _ _) + List.length [] => hq1
    rw [rangeKs_length, List.length_nil] at hq1
    rename _ = List.length (rangeKs _ _) + _ => hq2
    rw [rangeKs_length] at hq2
    rename News h₀ L _ _ => hN
    (try simp only [List.push_toArray] at hN)
    rename AddI _ xs ys _ _ _ => hA
    have hD := AddI.done (by omega) hx hy hA (by omega)
    rw [hv] at hD
    first
      | (rw [if_pos (by assumption)] at hD)
      | (rw [if_neg (by assumption)] at hD)
    refine' hret _ _ _ _ ?ha ?hb hD _ _ ?hF ?hN
    case hF => k_asm
    case hN =>
      refine' newsPick hN ?m1 ?m2
      case m1 => k_mem
      case m2 => intro p hp; simp only [List.mem_cons, hp, or_true]
    case ha => first | exact allLt_of (by assumption) | assumption | exact And.right (by assumption)
    case hb => first | assumption | exact IntsAre.append (by assumption) (.cons _ _ .nil))

theorem c_law_signed (w : World) (v e : Int) (tv te : Tok) (news : List (Addr × Obj)) :
   Ctr w 149 (-100000 < v ∧ v < 100000 ∧ 3 ≤ e ∧ e ≤ 7) [.int v tv, .int e te] news 2 16
     (fun k => ∀ (t l : Addr) (c n : Nat) (us : List Value) (b : Bool) (xs : List Int), AllLt l news → AllLt t news → IntsAre us xs → Sg (2 ^ e.toNat) b xs v →
       k (.ref t) ((t, { cls := .type "tuple", data := .seq #[.bool b, .ref l] c }) :: (l, listOf us.toArray n) :: news)) := by
  k_with_none
  w_top off
  (k_with "cheap" => first
    | with_reducible assumption
    | exact nltU (by with_reducible assumption) (by decide)
    | exact nleU (by with_reducible assumption) (by decide)
    | exact nltLe (by with_reducible assumption) (by decide)
    | exact iltU (by with_reducible assumption) (by decide)
    | exact igtD (by with_reducible assumption) (by decide)
    | exact igeLt (by with_reducible assumption) (by decide)
    | exact ileLt (by with_reducible assumption) (by decide)
    | exact igeD (by with_reducible assumption) (by decide)
    | exact igtGe (by with_reducible assumption) (by decide)
    | exact ileU (by with_reducible assumption) (by decide)
    | exact inat (by decide)
    | exact inltU (by with_reducible assumption) (by decide)
    | exact roomA (by with_reducible assumption) (by decide)
    | exact roomB (by with_reducible assumption) (by decide)
    | exact room0 (by with_reducible assumption))
  (k_with "ne" => first
    | with_reducible assumption
    | exact Ne.symm (by with_reducible assumption)
    | exact Nat.ne_of_lt (by with_reducible assumption)
    | exact Nat.ne_of_gt (by with_reducible assumption)
    | exact Nat.ne_of_lt (And.left (by with_reducible assumption))
    | exact Nat.ne_of_gt (And.left (by with_reducible assumption))
    | exact Nat.ne_of_lt (And.left (And.right (by with_reducible assumption)))
    | exact Nat.ne_of_lt (And.right (by with_reducible assumption))
    | exact Nat.ne_of_gt (And.left (And.right (by with_reducible assumption)))
    | exact Nat.ne_of_gt (And.right (by with_reducible assumption))
    | exact Nat.ne_of_lt (And.left (And.right (And.right (by with_reducible assumption))))
    | exact Nat.ne_of_lt (And.right (And.right (by with_reducible assumption)))
    | exact Nat.ne_of_gt (And.left (And.right (And.right (by with_reducible assumption))))
    | exact Nat.ne_of_gt (And.right (And.right (by with_reducible assumption)))
    | exact Nat.ne_of_lt (And.left (And.right (And.right (And.right (by with_reducible assumption)))))
    | exact Nat.ne_of_lt (And.right (And.right (And.right (by with_reducible assumption))))
    | exact Nat.ne_of_gt (And.left (And.right (And.right (And.right (by with_reducible assumption)))))
    | exact Nat.ne_of_gt (And.right (And.right (And.right (by with_reducible assumption))))
    | exact Nat.ne_of_lt (And.left (And.right (And.right (And.right (And.right (by with_reducible assumption))))))
    | exact Nat.ne_of_lt (And.right (And.right (And.right (And.right (by with_reducible assumption)))))
    | exact Nat.ne_of_gt (And.left (And.right (And.right (And.right (And.right (by with_reducible assumption))))))
    | exact Nat.ne_of_gt (And.right (And.right (And.right (And.right (by with_reducible assumption)))))
    | exact Nat.ne_of_lt (And.left (And.right (And.right (And.right (And.right (And.right (by with_reducible assumption)))))))
    | exact Nat.ne_of_lt (And.right (And.right (And.right (And.right (And.right (by with_reducible assumption))))))
    | exact Nat.ne_of_gt (And.left (And.right (And.right (And.right (And.right (And.right (by with_reducible assumption)))))))
    | exact Nat.ne_of_gt (And.right (And.right (And.right (And.right (And.right (by with_reducible assumption))))))
    | exact Nat.ne_of_lt (And.left (And.right (And.right (And.right (And.right (And.right (And.right (by with_reducible assumption))))))))
    | exact Nat.ne_of_lt (And.right (And.right (And.right (And.right (And.right (And.right (by with_reducible assumption)))))))
    | exact Nat.ne_of_gt (And.left (And.right (And.right (And.right (And.right (And.right (And.right (by with_reducible assumption))))))))
    | exact Nat.ne_of_gt (And.right (And.right (And.right (And.right (And.right (And.right (by with_reducible assumption)))))))
    | exact Nat.ne_of_lt (And.left (And.right (And.right (And.right (And.right (And.right (And.right (And.right (by with_reducible assumption)))))))))
    | exact Nat.ne_of_lt (And.right (And.right (And.right (And.right (And.right (And.right (And.right (by with_reducible assumption))))))))
    | exact Nat.ne_of_gt (And.left (And.right (And.right (And.right (And.right (And.right (And.right (And.right (by with_reducible assumption)))))))))
    | exact Nat.ne_of_gt (And.right (And.right (And.right (And.right (And.right (And.right (And.right (by with_reducible assumption))))))))
    | exact Nat.ne_of_lt (And.left (And.right (And.right (And.right (And.right (And.right (And.right (And.right (And.right (by with_reducible assumption))))))))))
    | exact Nat.ne_of_lt (And.right (And.right (And.right (And.right (And.right (And.right (And.right (And.right (by with_reducible assumption)))))))))
    | exact Nat.ne_of_gt (And.left (And.right (And.right (And.right (And.right (And.right (And.right (And.right (And.right (by with_reducible assumption))))))))))
    | exact Nat.ne_of_gt (And.right (And.right (And.right (And.right (And.right (And.right (And.right (And.right (by with_reducible assumption)))))))))
    | exact Nat.ne_of_lt (And.left (And.right (And.right (And.right (And.right (And.right (And.right (And.right (And.right (And.right (by with_reducible assumption)))))))))))
    | exact Nat.ne_of_lt (And.right (And.right (And.right (And.right (And.right (And.right (And.right (And.right (And.right (by with_reducible assumption))))))))))
    | exact Nat.ne_of_gt (And.left (And.right (And.right (And.right (And.right (And.right (And.right (And.right (And.right (And.right (by with_reducible assumption)))))))))))
    | exact Nat.ne_of_gt (And.right (And.right (And.right (And.right (And.right (And.right (And.right (And.right (And.right (by with_reducible assumption))))))))))
    | exact Nat.ne_of_lt (And.left (And.right (And.right (And.right (And.right (And.right (And.right (And.right (And.right (And.right (And.right (by with_reducible assumption))))))))))))
    | exact Nat.ne_of_lt (And.right (And.right (And.right (And.right (And.right (And.right (And.right (And.right (And.right (And.right (by with_reducible assumption)))))))))))
    | exact Nat.ne_of_gt (And.left (And.right (And.right (And.right (And.right (And.right (And.right (And.right (And.right (And.right (And.right (by with_reducible assumption))))))))))))
    | exact Nat.ne_of_gt (And.right (And.right (And.right (And.right (And.right (And.right (And.right (And.right (And.right (And.right (by with_reducible assumption))))))))))))
  (k_with "room" => first
    | exact roomA (by with_reducible assumption) (by decide)
    | exact roomB (by with_reducible assumption) (by decide)
    | exact room0 (by with_reducible assumption))
  (k_with "m_k_mem" => first | with_reducible assumption | assumption | exact List.mem_cons_self | (refine' List.mem_cons_of_mem _ ?_; k_mem))
  (k_with "m_is_list" => (refine' isListN ?N9 ?M9; (case N9 => k_asm); (case M9 => k_mem)))
  (k_with "m_k_all" => first | assumption | exact all_ne (by assumption) | exact all_ne (And.right (by assumption)) | exact all_ne (And.right (And.right (by assumption))) | exact all_ne (And.right (And.right (And.right (by assumption)))) | exact List.forall_mem_append.mpr ⟨by k_all, by k_all⟩)
  (k_with "m_kst_facts1" => first | exact IntsAre.nil | assumption | exact IntsAre.append (by assumption) (IntsAre.cons _ _ IntsAre.nil))
  (k_with "binaryOp LShift int int" => (k_here; (with_unfolding_all refine' lshift_int_small ?k1 ?k2 ?k3 ?_; (case k1 => omega); (case k2 => omega); (case k3 => first | omega | exact limN (by assumption) (by assumption) (by assumption) _))))
  (k_with "call ref" => (
      k_here
      (show wpAny _ _ (call (Value.ref 142) _) _ _ _)
      k_dflt (
        refine' Ctr.use (c_limbs _ _ _ _ _ _) ?k1 ?k2 ?k3 ?k4 ?k5 ?kK ?ka ?kd ?ku ?_
        (case k1 => k_asm)
        (case k2 => k_asm)
        (case k3 => first | k_asm | k_in)
        (case k4 => k_asm)
        (case k5 => k_asm)
        (case kK => first | exact rfl | assumption)
        (case ka => (refine' And.intro ?a1 (And.intro ?a2 (And.intro ?a3 ?a4)); (case a1 => first | omega | (split <;> omega)); (case a2 => first | omega | (split <;> omega)); (case a3 => omega); (case a4 => omega)))
        (case kd => ktr_room)
        (case ku => ktr_units))
      intro d9 vs9 n9 ys9 hA9 hI9 hR9 h9 tk9 F9 N9
      (try k_sweep); (try dsimp only); (try k_fold)))
  unfold Ctr
  k_fill
  intro mean mg mb dp un gd cn cs a ccd cl outer A₀ base h₀ L m s Q E B F X N T hk hasks hd hu hret
  obtain ⟨h0, h1, he1, he2⟩ := hasks
  refine wpAny_call ?_
  k_dflt cell_enter
  k_steps
  rename _ < _ ∧ AllLt _ _ => hA
  refine' hret _ _ _ _ _ _ _ ?ha hA.2 ?hb ?hc _ _ ?hF ?hN
  case hF => k_asm
  case hN => k_asm
  case ha => assumption
  case hb => assumption
  case hc => exact ⟨rfl, by assumption⟩

theorem c_half (w : World) (t l : Addr) (us : List Value) (n c : Nat) (b : Bool) (xs : List Int) (v : Int) (e : Int) (te : Tok) (news : List (Addr × Obj)) :
   Ctr w 121 ((t, { cls := .type "tuple", data := .seq #[.bool b, .ref l] c }) ∈ news ∧ (l, listOf us.toArray n) ∈ news ∧ IntsAre us xs ∧ 3 ≤ e ∧ e ≤ 7 ∧ Sg (2 ^ e.toNat) b xs v ∧ -100000 < v ∧ v < 100000 ∧ v % 2 = 0) [.ref t, .int e te] news 3 24
     (fun k => ∀ (t l : Addr) (c n : Nat) (us : List Value) (b : Bool) (xs : List Int), AllLt l news → AllLt t news → IntsAre us xs → Sg (2 ^ e.toNat) b xs (v / 2) →
       k (.ref t) ((t, { cls := .type "tuple", data := .seq #[.bool b, .ref l] c }) :: (l, listOf us.toArray n) :: news)) := by
  k_with_none
  (k_with "cheap" => first
    | with_reducible assumption
    | exact nltU (by with_reducible assumption) (by decide)
    | exact nleU (by with_reducible assumption) (by decide)
    | exact nltLe (by with_reducible assumption) (by decide)
    | exact iltU (by with_reducible assumption) (by decide)
    | exact igtD (by with_reducible assumption) (by decide)
    | exact igeLt (by with_reducible assumption) (by decide)
    | exact ileLt (by with_reducible assumption) (by decide)
    | exact igeD (by with_reducible assumption) (by decide)
    | exact igtGe (by with_reducible assumption) (by decide)
    | exact ileU (by with_reducible assumption) (by decide)
    | exact inat (by decide)
    | exact inltU (by with_reducible assumption) (by decide)
    | exact roomA (by with_reducible assumption) (by decide)
    | exact roomB (by with_reducible assumption) (by decide)
    | exact room0 (by with_reducible assumption))
  (k_with "ne" => first
    | with_reducible assumption
    | exact Ne.symm (by with_reducible assumption)
    | exact Nat.ne_of_lt (by with_reducible assumption)
    | exact Nat.ne_of_gt (by with_reducible assumption)
    | exact Nat.ne_of_lt (And.left (by with_reducible assumption))
    | exact Nat.ne_of_gt (And.left (by with_reducible assumption))
    | exact Nat.ne_of_lt (And.left (And.right (by with_reducible assumption)))
    | exact Nat.ne_of_lt (And.right (by with_reducible assumption))
    | exact Nat.ne_of_gt (And.left (And.right (by with_reducible assumption)))
    | exact Nat.ne_of_gt (And.right (by with_reducible assumption))
    | exact Nat.ne_of_lt (And.left (And.right (And.right (by with_reducible assumption))))
    | exact Nat.ne_of_lt (And.right (And.right (by with_reducible assumption)))
    | exact Nat.ne_of_gt (And.left (And.right (And.right (by with_reducible assumption))))
    | exact Nat.ne_of_gt (And.right (And.right (by with_reducible assumption)))
    | exact Nat.ne_of_lt (And.left (And.right (And.right (And.right (by with_reducible assumption)))))
    | exact Nat.ne_of_lt (And.right (And.right (And.right (by with_reducible assumption))))
    | exact Nat.ne_of_gt (And.left (And.right (And.right (And.right (by with_reducible assumption)))))
    | exact Nat.ne_of_gt (And.right (And.right (And.right (by with_reducible assumption))))
    | exact Nat.ne_of_lt (And.left (And.right (And.right (And.right (And.right (by with_reducible assumption))))))
    | exact Nat.ne_of_lt (And.right (And.right (And.right (And.right (by with_reducible assumption)))))
    | exact Nat.ne_of_gt (And.left (And.right (And.right (And.right (And.right (by with_reducible assumption))))))
    | exact Nat.ne_of_gt (And.right (And.right (And.right (And.right (by with_reducible assumption)))))
    | exact Nat.ne_of_lt (And.left (And.right (And.right (And.right (And.right (And.right (by with_reducible assumption)))))))
    | exact Nat.ne_of_lt (And.right (And.right (And.right (And.right (And.right (by with_reducible assumption))))))
    | exact Nat.ne_of_gt (And.left (And.right (And.right (And.right (And.right (And.right (by with_reducible assumption)))))))
    | exact Nat.ne_of_gt (And.right (And.right (And.right (And.right (And.right (by with_reducible assumption))))))
    | exact Nat.ne_of_lt (And.left (And.right (And.right (And.right (And.right (And.right (And.right (by with_reducible assumption))))))))
    | exact Nat.ne_of_lt (And.right (And.right (And.right (And.right (And.right (And.right (by with_reducible assumption)))))))
    | exact Nat.ne_of_gt (And.left (And.right (And.right (And.right (And.right (And.right (And.right (by with_reducible assumption))))))))
    | exact Nat.ne_of_gt (And.right (And.right (And.right (And.right (And.right (And.right (by with_reducible assumption)))))))
    | exact Nat.ne_of_lt (And.left (And.right (And.right (And.right (And.right (And.right (And.right (And.right (by with_reducible assumption)))))))))
    | exact Nat.ne_of_lt (And.right (And.right (And.right (And.right (And.right (And.right (And.right (by with_reducible assumption))))))))
    | exact Nat.ne_of_gt (And.left (And.right (And.right (And.right (And.right (And.right (And.right (And.right (by with_reducible assumption)))))))))
    | exact Nat.ne_of_gt (And.right (And.right (And.right (And.right (And.right (And.right (And.right (by with_reducible assumption))))))))
    | exact Nat.ne_of_lt (And.left (And.right (And.right (And.right (And.right (And.right (And.right (And.right (And.right (by with_reducible assumption))))))))))
    | exact Nat.ne_of_lt (And.right (And.right (And.right (And.right (And.right (And.right (And.right (And.right (by with_reducible assumption)))))))))
    | exact Nat.ne_of_gt (And.left (And.right (And.right (And.right (And.right (And.right (And.right (And.right (And.right (by with_reducible assumption))))))))))
    | exact Nat.ne_of_gt (And.right (And.right (And.right (And.right (And.right (And.right (And.right (And.right (by with_reducible assumption)))))))))
    | exact Nat.ne_of_lt (And.left (And.right (And.right (And.right (And.right (And.right (And.right (And.right (And.right (And.right (by with_reducible assumption)))))))))))
    | exact Nat.ne_of_lt (And.right (And.right (And.right (And.right (And.right (And.right (And.right (And.right (And.right (by with_reducible assumption))))))))))
    | exact Nat.ne_of_gt (And.left (And.right (And.right (And.right (And.right (And.right (And.right (And.right (And.right (And.right (by with_reducible assumption)))))))))))
    | exact Nat.ne_of_gt (And.right (And.right (And.right (And.right (And.right (And.right (And.right (And.right (And.right (by with_reducible assumption))))))))))
    | exact Nat.ne_of_lt (And.left (And.right (And.right (And.right (And.right (And.right (And.right (And.right (And.right (And.right (And.right (by with_reducible assumption))))))))))))
    | exact Nat.ne_of_lt (And.right (And.right (And.right (And.right (And.right (And.right (And.right (And.right (And.right (And.right (by with_reducible assumption)))))))))))
    | exact Nat.ne_of_gt (And.left (And.right (And.right (And.right (And.right (And.right (And.right (And.right (And.right (And.right (And.right (by with_reducible assumption))))))))))))
    | exact Nat.ne_of_gt (And.right (And.right (And.right (And.right (And.right (And.right (And.right (And.right (And.right (And.right (by with_reducible assumption))))))))))))
  (k_with "room" => first
    | exact roomA (by with_reducible assumption) (by decide)
    | exact roomB (by with_reducible assumption) (by decide)
    | exact room0 (by with_reducible assumption))
  (k_with "m_k_mem" => first | with_reducible assumption | assumption | exact List.mem_cons_self | (refine' List.mem_cons_of_mem _ ?_; k_mem))
  (k_with "m_is_list" => (refine' isListN ?N9 ?M9; (case N9 => k_asm); (case M9 => k_mem)))
  (k_with "m_k_all" => first | assumption | exact all_ne (by assumption) | exact all_ne (And.right (by assumption)) | exact all_ne (And.right (And.right (by assumption))) | exact all_ne (And.right (And.right (And.right (by assumption)))) | exact List.forall_mem_append.mpr ⟨by k_all, by k_all⟩)
  (k_with "m_kst_facts1" => first | exact IntsAre.nil | assumption | exact IntsAre.append (by assumption) (IntsAre.cons _ _ IntsAre.nil))
  (k_with "binaryOp LShift int int" => (k_here; (with_unfolding_all refine' lshift_int_small ?k1 ?k2 ?k3 ?_; (case k1 => omega); (case k2 => omega); (case k3 => first | omega | exact limN (by assumption) (by assumption) (by assumption) _))))
  (k_with "call ref" => (
      k_here
      (show wpAny _ _ (call (Value.ref 142) _) _ _ _)
      k_dflt (
        refine' Ctr.use (c_limbs _ _ _ _ _ _) ?k1 ?k2 ?k3 ?k4 ?k5 ?kK ?ka ?kd ?ku ?_
        (case k1 => k_asm)
        (case k2 => k_asm)
        (case k3 => first | k_asm | k_in)
        (case k4 => k_asm)
        (case k5 => k_asm)
        (case kK => first | exact rfl | assumption)
        (case ka => (refine' And.intro ?a1 (And.intro ?a2 (And.intro ?a3 ?a4)); (case a1 => first | omega | (split <;> omega)); (case a2 => first | omega | (split <;> omega)); (case a3 => omega); (case a4 => omega)))
        (case kd => ktr_room)
        (case ku => ktr_units))
      intro d9 vs9 n9 ys9 hA9 hI9 hR9 h9 tk9 F9 N9
      (try k_sweep); (try dsimp only); (try k_fold)))
  (k_with "call ref" => (
      k_here
      (show wpAny _ _ (call (Value.ref 65) _) _ _ _)
      k_dflt (
        refine' Ctr.use (c_is_even _ _ _ _ _ _) ?k1 ?k2 ?k3 ?k4 ?k5 ?kK ?ka ?kd ?ku ?_
        (case k1 => k_asm)
        (case k2 => k_asm)
        (case k3 => first | k_asm | k_in)
        (case k4 => k_asm)
        (case k5 => k_asm)
        (case kK => first | exact rfl | assumption)
        (case ka => (refine' And.intro ?a1 (And.intro ?a2 ?a3); (case a1 => k_mem); (case a2 => assumption); (case a3 => omega)))
        (case kd => ktr_room)
        (case ku => ktr_units))
      intro h9 tk9 F9 N9
      (try k_sweep); (try dsimp only); (try k_fold)))
  (k_with "call ref" => (
      k_here
      (show wpAny _ _ (call (Value.ref 93) _) _ _ _)
      k_dflt (
        refine' Ctr.use (c_shift _ _ _ _ _ _ _ _ _ _) ?k1 ?k2 ?k3 ?k4 ?k5 ?kK ?ka ?kd ?ku ?_
        (case k1 => k_asm)
        (case k2 => k_asm)
        (case k3 => first | k_asm | k_in)
        (case k4 => k_asm)
        (case k5 => k_asm)
        (case kK => first | exact rfl | assumption)
        (case ka => (refine' And.intro ?a1 (And.intro ?a2 (And.intro ?a3 (And.intro ?a4 (And.intro ?a5 (And.intro ?a6 ?a7))))); (case a1 => k_mem); (case a2 => assumption); (case a3 => omega); (case a4 => omega); (case a5 => omega); (case a6 => exact Rep.lim (by assumption)); (case a7 => exact Rep.is (by assumption))))
        (case kd => ktr_room)
        (case ku => ktr_units))
      intro d9 vs9 n9 ys9 hA9 hI9 hR9 h9 tk9 F9 N9
      (try k_sweep); (try dsimp only); (try k_fold)))
  (k_with "call ref" => (
      k_here
      (show wpAny _ _ (call (Value.ref 100) _) _ _ _)
      k_dflt (
        refine' Ctr.use (c_signed _ _ _ _ _ _ _) ?k1 ?k2 ?k3 ?k4 ?k5 ?kK ?ka ?kd ?ku ?_
        (case k1 => k_asm)
        (case k2 => k_asm)
        (case k3 => first | k_asm | k_in)
        (case k4 => k_asm)
        (case k5 => k_asm)
        (case kK => first | exact rfl | assumption)
        (case ka => (refine' And.intro ?a1 (And.intro ?a2 ?a3); (case a1 => k_mem); (case a2 => assumption); (case a3 => first | omega | exact Nat.lt_trans (len_small (by assumption) (by omega) (by omega)) (by omega))))
        (case kd => ktr_room)
        (case ku => ktr_units))
      intro d9 n9 hA9 h9 tk9 F9 N9
      (try k_sweep); (try dsimp only); (try k_fold)))
  unfold Ctr
  k_fill
  intro mean mg mb dp un gd cn cs a ccd cl outer A₀ base h₀ L m s Q E B F X N T hk hasks hd hu hret
  obtain ⟨hm, hm', hi, he1, he2, hx, hv1, hv2, hev⟩ := hasks
  have hb := base_of he1 he2
  have hb0 : (0 : Int) < 2 ^ e.toNat := by omega
  have hb3 : (1 : Int) < 2 ^ e.toNat := by omega
  have e1 : (2 : Int) ^ e.toNat = 2 * 2 ^ (e.toNat - 1) := by
    have : e.toNat = (e.toNat - 1) + 1 := by omega
    rw [this, Int.pow_succ, Nat.add_sub_cancel]; omega
  have hlen := hx.len hb3 hv1 hv2
  have hrep := hx.2
  have hmag : (if v < 0 then -v else v) < 100000 := by split <;> omega
  have hmag0 : 0 ≤ (if v < 0 then -v else v) := by split <;> omega
  have hmag2 : (if v < 0 then -v else v) % 2 = 0 := by split <;> omega
  have hx0 : xs.getD 0 0 % 2 = 0 := by rw [even_iff e1 hrep.2.2]; exact hmag2
  have hhalf : ∀ zs, Rep (2 ^ e.toNat) zs ((if v < 0 then -v else v) / 2) → Sg (2 ^ e.toNat) (b && decide (zs ≠ [])) zs (v / 2) := fun zs hz => hx.half hb3 hev hz
  clear hx
  generalize (if v < 0 then -v else v) = g at *
  refine wpAny_call ?_
  k_dflt cell_enter
  k_steps
  rename AllLt _ (_ :: _) => hA
  simp only [AllLt] at hA
  refine' hret _ _ _ _ _ _ _ ?ha hA.2 ?hb ?hc _ _ ?hF ?hN
  case hF => k_asm
  case hN => k_asm
  case ha => assumption
  case hb => assumption
  case hc => exact hhalf _ (by assumption)

theorem c_s_add (w : World) (t l : Addr) (us : List Value) (n c : Nat) (b : Bool) (xs : List Int) (v : Int) (t' l' : Addr) (us' : List Value) (n' c' : Nat) (b' : Bool) (xs' : List Int) (v' : Int) (e : Int) (te : Tok) (news : List (Addr × Obj)) :
   Ctr w 107 ((t, { cls := .type "tuple", data := .seq #[.bool b, .ref l] c }) ∈ news ∧ (l, listOf us.toArray n) ∈ news ∧ IntsAre us xs ∧ Sg (2 ^ e.toNat) b xs v ∧ -40000 < v ∧ v < 40000 ∧
      (t', { cls := .type "tuple", data := .seq #[.bool b', .ref l'] c' }) ∈ news ∧ (l', listOf us'.toArray n') ∈ news ∧ IntsAre us' xs' ∧ Sg (2 ^ e.toNat) b' xs' v' ∧ -40000 < v' ∧ v' < 40000 ∧ 3 ≤ e ∧ e ≤ 7) [.ref t, .ref t', .int e te] news 4 32
     (fun k => ∀ (t l : Addr) (c n : Nat) (us : List Value) (b : Bool) (xs : List Int), AllLt l news → AllLt t news → IntsAre us xs → Sg (2 ^ e.toNat) b xs (v + v') →
       k (.ref t) ((t, { cls := .type "tuple", data := .seq #[.bool b, .ref l] c }) :: (l, listOf us.toArray n) :: news)) := by
  k_with_none
  (k_with "cheap" => first
    | with_reducible assumption
    | exact nltU (by with_reducible assumption) (by decide)
    | exact nleU (by with_reducible assumption) (by decide)
    | exact nltLe (by with_reducible assumption) (by decide)
    | exact iltU (by with_reducible assumption) (by decide)
    | exact igtD (by with_reducible assumption) (by decide)
    | exact igeLt (by with_reducible assumption) (by decide)
    | exact ileLt (by with_reducible assumption) (by decide)
    | exact igeD (by with_reducible assumption) (by decide)
    | exact igtGe (by with_reducible assumption) (by decide)
    | exact ileU (by with_reducible assumption) (by decide)
    | exact inat (by decide)
    | exact inltU (by with_reducible assumption) (by decide)
    | exact roomA (by with_reducible assumption) (by decide)
    | exact roomB (by with_reducible assumption) (by decide)
    | exact room0 (by with_reducible assumption))
  (k_with "ne" => first
    | with_reducible assumption
    | exact Ne.symm (by with_reducible assumption)
    | exact Nat.ne_of_lt (by with_reducible assumption)
    | exact Nat.ne_of_gt (by with_reducible assumption)
    | exact Nat.ne_of_lt (And.left (by with_reducible assumption))
    | exact Nat.ne_of_gt (And.left (by with_reducible assumption))
    | exact Nat.ne_of_lt (And.left (And.right (by with_reducible assumption)))
    | exact Nat.ne_of_lt (And.right (by with_reducible assumption))
    | exact Nat.ne_of_gt (And.left (And.right (by with_reducible assumption)))
    | exact Nat.ne_of_gt (And.right (by with_reducible assumption))
    | exact Nat.ne_of_lt (And.left (And.right (And.right (by with_reducible assumption))))
    | exact Nat.ne_of_lt (And.right (And.right (by with_reducible assumption)))
    | exact Nat.ne_of_gt (And.left (And.right (And.right (by with_reducible assumption))))
    | exact Nat.ne_of_gt (And.right (And.right (by with_reducible assumption)))
    | exact Nat.ne_of_lt (And.left (And.right (And.right (And.right (by with_reducible assumption)))))
    | exact Nat.ne_of_lt (And.right (And.right (And.right (by with_reducible assumption))))
    | exact Nat.ne_of_gt (And.left (And.right (And.right (And.right (by with_reducible assumption)))))
    | exact Nat.ne_of_gt (And.right (And.right (And.right (by with_reducible assumption))))
    | exact Nat.ne_of_lt (And.left (And.right (And.right (And.right (And.right (by with_reducible assumption))))))
    | exact Nat.ne_of_lt (And.right (And.right (And.right (And.right (by with_reducible assumption)))))
    | exact Nat.ne_of_gt (And.left (And.right (And.right (And.right (And.right (by with_reducible assumption))))))
    | exact Nat.ne_of_gt (And.right (And.right (And.right (And.right (by with_reducible assumption)))))
    | exact Nat.ne_of_lt (And.left (And.right (And.right (And.right (And.right (And.right (by with_reducible assumption)))))))
    | exact Nat.ne_of_lt (And.right (And.right (And.right (And.right (And.right (by with_reducible assumption))))))
    | exact Nat.ne_of_gt (And.left (And.right (And.right (And.right (And.right (And.right (by with_reducible assumption)))))))
    | exact Nat.ne_of_gt (And.right (And.right (And.right (And.right (And.right (by with_reducible assumption))))))
    | exact Nat.ne_of_lt (And.left (And.right (And.right (And.right (And.right (And.right (And.right (by with_reducible assumption))))))))
    | exact Nat.ne_of_lt (And.right (And.right (And.right (And.right (And.right (And.right (by with_reducible assumption)))))))
    | exact Nat.ne_of_gt (And.left (And.right (And.right (And.right (And.right (And.right (And.right (by with_reducible assumption))))))))
    | exact Nat.ne_of_gt (And.right (And.right (And.right (And.right (And.right (And.right (by with_reducible assumption)))))))
    | exact Nat.ne_of_lt (And.left (And.right (And.right (And.right (And.right (And.right (And.right (And.right (by with_reducible assumption)))))))))
    | exact Nat.ne_of_lt (And.right (And.right (And.right (And.right (And.right (And.right (And.right (by with_reducible assumption))))))))
    | exact Nat.ne_of_gt (And.left (And.right (And.right (And.right (And.right (And.right (And.right (And.right (by with_reducible assumption)))))))))
    | exact Nat.ne_of_gt (And.right (And.right (And.right (And.right (And.right (And.right (And.right (by with_reducible assumption))))))))
    | exact Nat.ne_of_lt (And.left (And.right (And.right (And.right (And.right (And.right (And.right (And.right (And.right (by with_reducible assumption))))))))))
    | exact Nat.ne_of_lt (And.right (And.right (And.right (And.right (And.right (And.right (And.right (And.right (by with_reducible assumption)))))))))
    | exact Nat.ne_of_gt (And.left (And.right (And.right (And.right (And.right (And.right (And.right (And.right (And.right (by with_reducible assumption))))))))))
    | exact Nat.ne_of_gt (And.right (And.right (And.right (And.right (And.right (And.right (And.right (And.right (by with_reducible assumption)))))))))
    | exact Nat.ne_of_lt (And.left (And.right (And.right (And.right (And.right (And.right (And.right (And.right (And.right (And.right (by with_reducible assumption)))))))))))
    | exact Nat.ne_of_lt (And.right (And.right (And.right (And.right (And.right (And.right (And.right (And.right (And.right (by with_reducible assumption))))))))))
    | exact Nat.ne_of_gt (And.left (And.right (And.right (And.right (And.right (And.right (And.right (And.right (And.right (And.right (by with_reducible assumption)))))))))))
    | exact Nat.ne_of_gt (And.right (And.right (And.right (And.right (And.right (And.right (And.right (And.right (And.right (by with_reducible assumption))))))))))
    | exact Nat.ne_of_lt (And.left (And.right (And.right (And.right (And.right (And.right (And.right (And.right (And.right (And.right (And.right (by with_reducible assumption))))))))))))
    | exact Nat.ne_of_lt (And.right (And.right (And.right (And.right (And.right (And.right (And.right (And.right (And.right (And.right (by with_reducible assumption)))))))))))
    | exact Nat.ne_of_gt (And.left (And.right (And.right (And.right (And.right (And.right (And.right (And.right (And.right (And.right (And.right (by with_reducible assumption))))))))))))
    | exact Nat.ne_of_gt (And.right (And.right (And.right (And.right (And.right (And.right (And.right (And.right (And.right (And.right (by with_reducible assumption))))))))))))
  (k_with "room" => first
    | exact roomA (by with_reducible assumption) (by decide)
    | exact roomB (by with_reducible assumption) (by decide)
    | exact room0 (by with_reducible assumption))
  (k_with "m_k_mem" => first | with_reducible assumption | assumption | exact List.mem_cons_self | (refine' List.mem_cons_of_mem _ ?_; k_mem))
  (k_with "m_is_list" => (refine' isListN ?N9 ?M9; (case N9 => k_asm); (case M9 => k_mem)))
  (k_with "m_k_all" => first | assumption | exact all_ne (by assumption) | exact all_ne (And.right (by assumption)) | exact all_ne (And.right (And.right (by assumption))) | exact all_ne (And.right (And.right (And.right (by assumption)))) | exact List.forall_mem_append.mpr ⟨by k_all, by k_all⟩)
  (k_with "m_kst_facts1" => first | exact IntsAre.nil | assumption | exact IntsAre.append (by assumption) (IntsAre.cons _ _ IntsAre.nil))
  (k_with "binaryOp LShift int int" => (k_here; (with_unfolding_all refine' lshift_int_small ?k1 ?k2 ?k3 ?_; (case k1 => omega); (case k2 => omega); (case k3 => first | omega | exact limN (by assumption) (by assumption) (by assumption) _))))
  (k_with "call ref" => (
      k_here
      (show wpAny _ _ (call (Value.ref 142) _) _ _ _)
      k_dflt (
        refine' Ctr.use (c_limbs _ _ _ _ _ _) ?k1 ?k2 ?k3 ?k4 ?k5 ?kK ?ka ?kd ?ku ?_
        (case k1 => k_asm)
        (case k2 => k_asm)
        (case k3 => first | k_asm | k_in)
        (case k4 => k_asm)
        (case k5 => k_asm)
        (case kK => first | exact rfl | assumption)
        (case ka => (refine' And.intro ?a1 (And.intro ?a2 (And.intro ?a3 ?a4)); (case a1 => first | omega | (split <;> omega)); (case a2 => first | omega | (split <;> omega)); (case a3 => omega); (case a4 => omega)))
        (case kd => ktr_room)
        (case ku => ktr_units))
      intro d9 vs9 n9 ys9 hA9 hI9 hR9 h9 tk9 F9 N9
      (try k_sweep); (try dsimp only); (try k_fold)))
  (k_with "call ref" => (
      k_here
      (show wpAny _ _ (call (Value.ref 65) _) _ _ _)
      k_dflt (
        refine' Ctr.use (c_is_even _ _ _ _ _ _) ?k1 ?k2 ?k3 ?k4 ?k5 ?kK ?ka ?kd ?ku ?_
        (case k1 => k_asm)
        (case k2 => k_asm)
        (case k3 => first | k_asm | k_in)
        (case k4 => k_asm)
        (case k5 => k_asm)
        (case kK => first | exact rfl | assumption)
        (case ka => (refine' And.intro ?a1 (And.intro ?a2 ?a3); (case a1 => k_mem); (case a2 => assumption); (case a3 => omega)))
        (case kd => ktr_room)
        (case ku => ktr_units))
      intro h9 tk9 F9 N9
      (try k_sweep); (try dsimp only); (try k_fold)))
  (k_with "call ref" => (
      k_here
      (show wpAny _ _ (call (Value.ref 93) _) _ _ _)
      k_dflt (
        refine' Ctr.use (c_shift _ _ _ _ _ _ _ _ _ _) ?k1 ?k2 ?k3 ?k4 ?k5 ?kK ?ka ?kd ?ku ?_
        (case k1 => k_asm)
        (case k2 => k_asm)
        (case k3 => first | k_asm | k_in)
        (case k4 => k_asm)
        (case k5 => k_asm)
        (case kK => first | exact rfl | assumption)
        (case ka => (refine' And.intro ?a1 (And.intro ?a2 (And.intro ?a3 (And.intro ?a4 (And.intro ?a5 (And.intro ?a6 ?a7))))); (case a1 => k_mem); (case a2 => assumption); (case a3 => omega); (case a4 => omega); (case a5 => omega); (case a6 => exact Rep.lim (by assumption)); (case a7 => exact Rep.is (by assumption))))
        (case kd => ktr_room)
        (case ku => ktr_units))
      intro d9 vs9 n9 ys9 hA9 hI9 hR9 h9 tk9 F9 N9
      (try k_sweep); (try dsimp only); (try k_fold)))
  (k_with "call ref" => (
      k_here
      (show wpAny _ _ (call (Value.ref 100) _) _ _ _)
      k_dflt (
        refine' Ctr.use (c_signed _ _ _ _ _ _ _) ?k1 ?k2 ?k3 ?k4 ?k5 ?kK ?ka ?kd ?ku ?_
        (case k1 => k_asm)
        (case k2 => k_asm)
        (case k3 => first | k_asm | k_in)
        (case k4 => k_asm)
        (case k5 => k_asm)
        (case kK => first | exact rfl | assumption)
        (case ka => (refine' And.intro ?a1 (And.intro ?a2 ?a3); (case a1 => k_mem); (case a2 => assumption); (case a3 => first | omega | exact Nat.lt_trans (len_small (by assumption) (by omega) (by omega)) (by omega))))
        (case kd => ktr_room)
        (case ku => ktr_units))
      intro d9 n9 hA9 h9 tk9 F9 N9
      (try k_sweep); (try dsimp only); (try k_fold)))
  (k_with "call ref" => (
      k_here
      (show wpAny _ _ (call (Value.ref 79) _) _ _ _)
      k_dflt (
        refine' Ctr.use (c_add _ _ _ _ _ _ _ _ _ _ _ _ _ _) ?k1 ?k2 ?k3 ?k4 ?k5 ?kK ?ka ?kd ?ku ?_
        (case k1 => k_asm)
        (case k2 => k_asm)
        (case k3 => first | k_asm | k_in)
        (case k4 => k_asm)
        (case k5 => k_asm)
        (case kK => first | exact rfl | assumption)
        (case ka => (refine' And.intro ?a1 (And.intro ?a2 (And.intro ?a3 (And.intro ?a4 (And.intro ?a5 (And.intro ?a6 (And.intro ?a7 (And.intro ?a8 (And.intro ?a9 ?a10)))))))); (case a1 => k_mem); (case a2 => assumption); (case a3 => k_mem); (case a4 => assumption); (case a5 => assumption); (case a6 => assumption); (case a7 => omega); (case a8 => omega); (case a9 => omega); (case a10 => omega)))
        (case kd => ktr_room)
        (case ku => ktr_units))
      intro d9 vs9 n9 ys9 hA9 hI9 hR9 h9 tk9 F9 N9
      (try k_sweep); (try dsimp only); (try k_fold)))
  (k_with "call ref" => (
      k_here
      (show wpAny _ _ (call (Value.ref 86) _) _ _ _)
      k_dflt (
        refine' Ctr.use (c_sub _ _ _ _ _ _ _ _ _ _ _ _ _ _) ?k1 ?k2 ?k3 ?k4 ?k5 ?kK ?ka ?kd ?ku ?_
        (case k1 => k_asm)
        (case k2 => k_asm)
        (case k3 => first | k_asm | k_in)
        (case k4 => k_asm)
        (case k5 => k_asm)
        (case kK => first | exact rfl | assumption)
        (case ka => (refine' And.intro ?a1 (And.intro ?a2 (And.intro ?a3 (And.intro ?a4 (And.intro ?a5 (And.intro ?a6 (And.intro ?a7 (And.intro ?a8 (And.intro ?a9 (And.intro ?a10 ?a11))))))))); (case a1 => k_mem); (case a2 => assumption); (case a3 => k_mem); (case a4 => assumption); (case a5 => assumption); (case a6 => assumption); (case a7 => omega); (case a8 => omega); (case a9 => omega); (case a10 => omega); (case a11 => omega)))
        (case kd => ktr_room)
        (case ku => ktr_units))
      intro d9 vs9 n9 ys9 hA9 hI9 hR9 h9 tk9 F9 N9
      (try k_sweep); (try dsimp only); (try k_fold)))
  (k_with "call ref" => (
      k_here
      (show wpAny _ _ (call (Value.ref 72) _) _ _ _)
      k_dflt (
        refine' Ctr.use (c_compare _ _ ?hB _ _ _ _ _ _ _ _ _ _ _) ?k1 ?k2 ?k3 ?k4 ?k5 ?kK ?ka ?kd ?ku ?_
        (case k1 => k_asm)
        (case k2 => k_asm)
        (case k3 => first | k_asm | k_in)
        (case k4 => k_asm)
        (case k5 => k_asm)
        (case kK => first | exact rfl | assumption)
        (case ka => (refine' And.intro ?a1 (And.intro ?a2 (And.intro ?a3 (And.intro ?a4 (And.intro ?a5 (And.intro ?a6 (And.intro ?a7 ?a8)))))); (case a1 => k_mem); (case a2 => assumption); (case a3 => k_mem); (case a4 => assumption); (case a5 => assumption); (case a6 => assumption); (case a7 => omega); (case a8 => omega)))
        (case kd => ktr_room)
        (case ku => ktr_units)
        (case hB => omega))
      intro c9 t9 hC9 h9 tk9 F9 N9
      (try k_sweep); (try dsimp only); (try k_fold)))
  (k_with "call ref" => (
      k_here
      (show wpAny _ _ (call (Value.ref 100) _) _ _ _)
      k_dflt (
        refine' Ctr.use (c_signed _ _ _ _ _ _ _) ?k1 ?k2 ?k3 ?k4 ?k5 ?kK ?ka ?kd ?ku ?_
        (case k1 => k_asm)
        (case k2 => k_asm)
        (case k3 => first | k_asm | k_in)
        (case k4 => k_asm)
        (case k5 => k_asm)
        (case kK => first | exact rfl | assumption)
        (case ka => (refine' And.intro ?a1 (And.intro ?a2 ?a3); (case a1 => k_mem); (case a2 => assumption); (case a3 => first | omega | exact Nat.lt_trans (len_small (by assumption) (by omega) (by omega)) (by omega))))
        (case kd => ktr_room)
        (case ku => ktr_units))
      intro d9 n9 hA9 h9 tk9 F9 N9
      (try k_sweep); (try dsimp only); (try k_fold)))
  unfold Ctr
  k_fill
  intro mean mg mb dp un gd cn cs a ccd cl outer A₀ base h₀ L m s Q E B F X N T hk hasks hd hu hret
  obtain ⟨hm, hl, hi, hx, hv1, hv2, hm', hl', hi', hx', hv1', hv2', he1, he2⟩ := hasks
  have hb := base_of he1 he2
  have hb3 : (1 : Int) < 2 ^ e.toNat := by omega
  have hlen := hx.len hb3 (by omega) (by omega)
  have hlen' := hx'.len hb3 (by omega) (by omega)
  have hrep := hx.2
  have hrep' := hx'.2
  have hg : (if v < 0 then -v else v) < 40000 := by split <;> omega
  have hg0 : 0 ≤ (if v < 0 then -v else v) := by split <;> omega
  have hg' : (if v' < 0 then -v' else v') < 40000 := by split <;> omega
  have hg0' : 0 ≤ (if v' < 0 then -v' else v') := by split <;> omega
  have hS : (b == b') = true → ∀ zs, Rep (2 ^ e.toNat) zs ((if v < 0 then -v else v) + (if v' < 0 then -v' else v')) → Sg (2 ^ e.toNat) (b && decide (zs ≠ [])) zs (v + v') := fun hbb zs hz => Sg.add_same hx hx' hb3 (beq_iff_eq.mp hbb) hz
  have hL : (b == b') = false → ∀ zs, Rep (2 ^ e.toNat) zs ((if v' < 0 then -v' else v') - (if v < 0 then -v else v)) → Sg (2 ^ e.toNat) (b' && decide (zs ≠ [])) zs (v + v') := fun hbb zs hz => Sg.add_less hx hx' hb3 (beq_eq_false_iff_ne.mp hbb) hz
  have hM : (b == b') = false → ∀ zs, Rep (2 ^ e.toNat) zs ((if v < 0 then -v else v) - (if v' < 0 then -v' else v')) → Sg (2 ^ e.toNat) (b && decide (zs ≠ [])) zs (v + v') := fun hbb zs hz => Sg.add_more hx hx' hb3 (beq_eq_false_iff_ne.mp hbb) hz
  clear hx hx'
  generalize (if v < 0 then -v else v) = g at *
  generalize (if v' < 0 then -v' else v') = g' at *
  refine wpAny_call ?_
  k_dflt cell_enter
  k_steps
  all_goals (
    rename AllLt _ (_ :: _) => hA
    simp only [AllLt] at hA
    refine' hret _ _ _ _ _ _ _ ?ha hA.2 ?hb ?hc _ _ ?hF ?hN
    case hF => k_asm
    case hN => k_asm
    case ha => assumption
    case hb => assumption
    case hc => first | exact hS (by assumption) _ (by assumption) | exact hL (by assumption) _ (by assumption) | exact hM (by assumption) _ (by assumption))

theorem c_mul (w : World) (la lb : Addr) (ua ub : List Value) (na nb : Nat) (xs ys : List Int) (c v : Int) (e : Int) (te : Tok) (news : List (Addr × Obj)) :
   Ctr w 128 ((la, listOf ua.toArray na) ∈ news ∧ IntsAre ua xs ∧ (lb, listOf ub.toArray nb) ∈ news ∧ IntsAre ub ys ∧ Rep (2 ^ e.toNat) xs c ∧ Rep (2 ^ e.toNat) ys v ∧ v < 100000 ∧ 3 ≤ e ∧ e ≤ 7 ∧ 1 ≤ c ∧ c ≤ 7) [.ref la, .ref lb, .int e te] news 2 16
     (fun k => ∀ (d : Addr) (vs : List Value) (n : Nat) (zs : List Int), AllLt d news → IntsAre vs zs → Rep (2 ^ e.toNat) zs (c * v) → k (.ref d) ((d, listOf vs.toArray n) :: news)) := by
  k_with_none
  w_top off
  (k_with "cheap" => first
    | with_reducible assumption
    | exact nltU (by with_reducible assumption) (by decide)
    | exact nleU (by with_reducible assumption) (by decide)
    | exact nltLe (by with_reducible assumption) (by decide)
    | exact iltU (by with_reducible assumption) (by decide)
    | exact igtD (by with_reducible assumption) (by decide)
    | exact igeLt (by with_reducible assumption) (by decide)
    | exact ileLt (by with_reducible assumption) (by decide)
    | exact igeD (by with_reducible assumption) (by decide)
    | exact igtGe (by with_reducible assumption) (by decide)
    | exact ileU (by with_reducible assumption) (by decide)
    | exact inat (by decide)
    | exact inltU (by with_reducible assumption) (by decide)
    | exact roomA (by with_reducible assumption) (by decide)
    | exact roomB (by with_reducible assumption) (by decide)
    | exact room0 (by with_reducible assumption))
  (k_with "ne" => first
    | with_reducible assumption
    | exact Ne.symm (by with_reducible assumption)
    | exact Nat.ne_of_lt (by with_reducible assumption)
    | exact Nat.ne_of_gt (by with_reducible assumption)
    | exact Nat.ne_of_lt (And.left (by with_reducible assumption))
    | exact Nat.ne_of_gt (And.left (by with_reducible assumption))
    | exact Nat.ne_of_lt (And.left (And.right (by with_reducible assumption)))
    | exact Nat.ne_of_lt (And.right (by with_reducible assumption))
    | exact Nat.ne_of_gt (And.left (And.right (by with_reducible assumption)))
    | exact Nat.ne_of_gt (And.right (by with_reducible assumption))
    | exact Nat.ne_of_lt (And.left (And.right (And.right (by with_reducible assumption))))
    | exact Nat.ne_of_lt (And.right (And.right (by with_reducible assumption)))
    | exact Nat.ne_of_gt (And.left (And.right (And.right (by with_reducible assumption))))
    | exact Nat.ne_of_gt (And.right (And.right (by with_reducible assumption)))
    | exact Nat.ne_of_lt (And.left (And.right (And.right (And.right (by with_reducible assumption)))))
    | exact Nat.ne_of_lt (And.right (And.right (And.right (by with_reducible assumption))))
    | exact Nat.ne_of_gt (And.left (And.right (And.right (And.right (by with_reducible assumption)))))
    | exact Nat.ne_of_gt (And.right (And.right (And.right (by with_reducible assumption))))
    | exact Nat.ne_of_lt (And.left (And.right (And.right (And.right (And.right (by with_reducible assumption))))))
    | exact Nat.ne_of_lt (And.right (And.right (And.right (And.right (by with_reducible assumption)))))
    | exact Nat.ne_of_gt (And.left (And.right (And.right (And.right (And.right (by with_reducible assumption))))))
    | exact Nat.ne_of_gt (And.right (And.right (And.right (And.right (by with_reducible assumption)))))
    | exact Nat.ne_of_lt (And.left (And.right (And.right (And.right (And.right (And.right (by with_reducible assumption)))))))
    | exact Nat.ne_of_lt (And.right (And.right (And.right (And.right (And.right (by with_reducible assumption))))))
    | exact Nat.ne_of_gt (And.left (And.right (And.right (And.right (And.right (And.right (by with_reducible assumption)))))))
    | exact Nat.ne_of_gt (And.right (And.right (And.right (And.right (And.right (by with_reducible assumption))))))
    | exact Nat.ne_of_lt (And.left (And.right (And.right (And.right (And.right (And.right (And.right (by with_reducible assumption))))))))
    | exact Nat.ne_of_lt (And.right (And.right (And.right (And.right (And.right (And.right (by with_reducible assumption)))))))
    | exact Nat.ne_of_gt (And.left (And.right (And.right (And.right (And.right (And.right (And.right (by with_reducible assumption))))))))
    | exact Nat.ne_of_gt (And.right (And.right (And.right (And.right (And.right (And.right (by with_reducible assumption)))))))
    | exact Nat.ne_of_lt (And.left (And.right (And.right (And.right (And.right (And.right (And.right (And.right (by with_reducible assumption)))))))))
    | exact Nat.ne_of_lt (And.right (And.right (And.right (And.right (And.right (And.right (And.right (by with_reducible assumption))))))))
    | exact Nat.ne_of_gt (And.left (And.right (And.right (And.right (And.right (And.right (And.right (And.right (by with_reducible assumption)))))))))
    | exact Nat.ne_of_gt (And.right (And.right (And.right (And.right (And.right (And.right (And.right (by with_reducible assumption))))))))
    | exact Nat.ne_of_lt (And.left (And.right (And.right (And.right (And.right (And.right (And.right (And.right (And.right (by with_reducible assumption))))))))))
    | exact Nat.ne_of_lt (And.right (And.right (And.right (And.right (And.right (And.right (And.right (And.right (by with_reducible assumption)))))))))
    | exact Nat.ne_of_gt (And.left (And.right (And.right (And.right (And.right (And.right (And.right (And.right (And.right (by with_reducible assumption))))))))))
    | exact Nat.ne_of_gt (And.right (And.right (And.right (And.right (And.right (And.right (And.right (And.right (by with_reducible assumption)))))))))
    | exact Nat.ne_of_lt (And.left (And.right (And.right (And.right (And.right (And.right (And.right (And.right (And.right (And.right (by with_reducible assumption)))))))))))
    | exact Nat.ne_of_lt (And.right (And.right (And.right (And.right (And.right (And.right (And.right (And.right (And.right (by with_reducible assumption))))))))))
    | exact Nat.ne_of_gt (And.left (And.right (And.right (And.right (And.right (And.right (And.right (And.right (And.right (And.right (by with_reducible assumption)))))))))))
    | exact Nat.ne_of_gt (And.right (And.right (And.right (And.right (And.right (And.right (And.right (And.right (And.right (by with_reducible assumption))))))))))
    | exact Nat.ne_of_lt (And.left (And.right (And.right (And.right (And.right (And.right (And.right (And.right (And.right (And.right (And.right (by with_reducible assumption))))))))))))
    | exact Nat.ne_of_lt (And.right (And.right (And.right (And.right (And.right (And.right (And.right (And.right (And.right (And.right (by with_reducible assumption)))))))))))
    | exact Nat.ne_of_gt (And.left (And.right (And.right (And.right (And.right (And.right (And.right (And.right (And.right (And.right (And.right (by with_reducible assumption))))))))))))
    | exact Nat.ne_of_gt (And.right (And.right (And.right (And.right (And.right (And.right (And.right (And.right (And.right (And.right (by with_reducible assumption))))))))))))
  (k_with "room" => first
    | exact roomA (by with_reducible assumption) (by decide)
    | exact roomB (by with_reducible assumption) (by decide)
    | exact room0 (by with_reducible assumption))
  (k_with "m_k_mem" => first | with_reducible assumption | assumption | exact List.mem_cons_self | (refine' List.mem_cons_of_mem _ ?_; k_mem))
  (k_with "m_is_list" => (refine' isListN ?N9 ?M9; (case N9 => k_asm); (case M9 => k_mem)))
  (k_with "m_k_all" => first | assumption | exact all_ne (by assumption) | exact all_ne (And.right (by assumption)) | exact all_ne (And.right (And.right (by assumption))) | exact all_ne (And.right (And.right (And.right (by assumption)))) | exact List.forall_mem_append.mpr ⟨by k_all, by k_all⟩)
  (k_with "m_kst_facts1" => first | exact IntsAre.nil | assumption | exact IntsAre.append (by assumption) (IntsAre.cons _ _ IntsAre.nil))
  (k_with "binaryOp LShift int int" => (k_here; (with_unfolding_all refine' lshift_int_small ?k1 ?k2 ?k3 ?_; (case k1 => omega); (case k2 => omega); (case k3 => first | omega | exact limN (by assumption) (by assumption) (by assumption) _))))
  (k_with "exec For Tuple Call cons nil" => (k_here; (rename Fr _ _ _ _ => lF'); (with_unfolding_all refine' For_turns lF' ?_); k_whole))
  (k_with "call type:enumerate" => (k_here; (with_reducible show wpAny _ _ (call (Value.type _) [Value.ref _]) (fun xv s₁ => wpAny _ _ (pyIter xv) (fun it s₂ => TurnsAt _ _ _ _ _ _ _ _ _ it s₂) _ s₁) _ _); k_extra "enum"))
  (k_with "call ref" => (
      k_here
      (show wpAny _ _ (call (Value.ref 58) _) _ _ _)
      k_dflt (
        refine' Ctr.use (c_normal _ _ _ _ _ _ _) ?k1 ?k2 ?k3 ?k4 ?k5 ?kK ?ka ?kd ?ku ?_
        (case k1 => k_asm)
        (case k2 => k_asm)
        (case k3 => first | k_asm | k_in)
        (case k4 => k_asm)
        (case k5 => k_asm)
        (case kK => first | exact rfl | assumption)
        (case ka => (refine' And.intro ?a1 (And.intro ?a2 (And.intro ?a3 ?a4)); (case a1 => k_mem); (case a2 => assumption); (case a3 => omega); (case a4 => first | assumption | exact SubI.lim (by assumption) | exact ShI.lim (by assumption) | exact And.left (by assumption))))
        (case kd => ktr_room)
        (case ku => ktr_units))
      intro d9 vs9 n9 ys9 hA9 hI9 hR9 h9 tk9 F9 N9
      (try k_sweep); (try dsimp only); (try k_fold)))
  unfold Ctr
  k_fill
  intro mean mg mb dp un gd cn cs a ccd cl outer A₀ base h₀ L m s Q E B F X N T hk hasks hd hu hret
  obtain ⟨hm, hi, hm', hi', hx, hy, hv, he1, he2, hc1, hc2⟩ := hasks
  have hb := base_of he1 he2
  have hb1 := hb.1
  have hb2 := hb.2
  clear hb
  have hxs := rep_one (by omega) hx (by omega) (by omega)
  subst hxs
  obtain ⟨tc, rfl⟩ := ints_one hi
  have hlen' := len_small hy (by omega) hv
  refine wpAny_call ?_
  k_dflt cell_enter
  (k_with "enum" => first
    | ((with_reducible show wpAny _ _ (call (Value.type _) [Value.ref la]) _ _ _)
       (rename Fr _ _ _ _ => lF')
       (rename News _ _ _ _ => lN')
       (with_unfolding_all refine' enum_out (x := Str.ofString "at") news [Str.ofString "limb", Str.ofString "carry", Str.ofString "spot", Str.ofString "other"] (fun pre fs => fs.length = ys.length + 1 ∧ ((pre = [] ∧ fs = List.replicate (ys.length + 1) 0) ∨ (pre.length = 1 ∧ Lim (2 ^ e.toNat) fs ∧ val (2 ^ e.toNat) fs = c * v))) ?hh lF' lN' ?hfd ?hD ?hs hm ?hi ?hp ?_ ?_)
       (case hh => with_unfolding_all exact rfl)
       (case hfd => with_unfolding_all exact rfl)
       (case hD => k_mem)
       (case hs => intro p hp; simp only [List.mem_cons, hp, or_true])
       (case hi => assumption)
       (case hp => exact ⟨rep_len ys, Or.inl ⟨rfl, rep_eq ys⟩⟩)
       (intro ofv ofs ofn opre ov ou oh otk oT ot oits ohv ohoff ohi ohP ohT oF oN
        obtain ⟨hP1, hP2⟩ := ohP
        clear lF' lN'
        rcases hP2 with ⟨hP2, hP3⟩ | ⟨hP2, _⟩
        rotate_left
        (exfalso; rw [hP2] at ohv; simp at ohv)
        intro ofv ofs ofn opre ou oh otk ohl ohi ohP oF oN
        clear lF' lN'
        obtain ⟨oP1, oP2⟩ := ohP
        rcases oP2 with ⟨oP2, _⟩ | ⟨_, oLim, oVal⟩
        (exfalso; rw [oP2] at ohl; simp at ohl)
        (try k_fold)
        rotate_left
        subst hP2
        have ohv' := (Option.some.inj ohv).symm
        subst ohv'
        (try k_fold)))
    | ((with_reducible show wpAny _ _ (call (Value.type _) [Value.ref lb]) _ _ _)
       (rename Fr _ _ _ _ => lF')
       (rename News _ _ _ _ => lN')
       (with_unfolding_all refine' enum_in (x := Str.ofString "spot") (news ++ oits) [Str.ofString "other"] (fun pre k fs => MulI (2 ^ e.toNat) c ys pre.length k fs) ?hh lF' lN' ?hfd ?hcar ?hD ?hs (List.mem_append_left _ hm') ?hi ?hp ?_ ?_)
       (case hh => with_unfolding_all exact rfl)
       (case hfd => with_unfolding_all exact rfl)
       (case hcar => with_unfolding_all exact rfl)
       (case hD => k_mem)
       (case hs => intro p hp; exact List.mem_cons_of_mem _ hp)
       (case hi => assumption)
       (case hp => exact MulI.start (by omega) hP3)
       (intro ikc ikt ifv ifs ifn ipre iv iu ih itk iT it iits ihv ihoff ihi ihP ihT iF iN
        clear lF' lN'
        obtain ⟨hlt, tv, hiv⟩ := ints_item hi' ihv
        subst hiv
        have hflen := ihP.1
        have hby := hy.1.getD (by omega) ipre.length
        have hk0 := ihP.2.2.1
        have hk1 := ihP.2.2.2.1
        (try k_fold)
        rotate_left
        intro ikc ikt ifv ifs ifn ipre iu ih itk ihl ihi ihP iF iN
        clear lF' lN'
        have hflen := ihP.1
        have hPl : ipre.length = ys.length := by rw [ihl]; exact hi'.length
        (try k_fold)
        rotate_left)))
  k_steps
  · rename News _ _ _ ((_, listOf (List.toArray (List.set ifv _ _)) ifn) :: _) => hN
    rename Fr _ _ _ (fun y => if y = Str.ofString "carry" then _ else _) => hF
    refine' enum_in_end hF hN List.mem_cons_self ?hi (fun p hp => List.mem_cons_of_mem _ hp) ?hc ?hr ?hp
    case hi => assumption
    case hc => with_unfolding_all exact rfl
    case hr =>
      intro z h1 h2 h3
      simp only [List.contains_cons, List.contains_nil, Bool.or_false, beq_eq_false_iff_ne, ne_eq] at h3
      simp [h1, h2, h3]
    case hp => exact mul_turn hb1 hc1 hc2 hy.1 hlt ihP (by simp) rfl
  · rename News _ _ _ ((_, listOf (List.toArray (List.set ifv _ _)) ifn) :: _) => hN
    refine' enum_out_end (P := fun pre fs => fs.length = ys.length + 1 ∧ ((pre = [] ∧ fs = List.replicate (ys.length + 1) 0) ∨ (pre.length = 1 ∧ Lim (2 ^ e.toNat) fs ∧ val (2 ^ e.toNat) fs = c * v))) ?hF hN List.mem_cons_self ?hi (fun p hp => List.mem_cons_of_mem _ hp) ?hr ?hp
    case hF => k_asm
    case hi => assumption
    case hr =>
      intro z h1 h3
      simp only [List.contains_cons, List.contains_nil, Bool.or_false, Bool.or_eq_false_iff, beq_eq_false_iff_ne, ne_eq] at h3
      simp [h1, h3]
    case hp => exact mul_last hb1 hy.2.2 hPl ihP (by simp)
  · rename Rep _ _ (val _ ofs) => hR
    rw [oVal] at hR
    rename News h₀ L _ _ => hN
    rename AllLt _ (_ :: _) => hA
    simp only [AllLt] at hA
    refine' hret _ _ _ _ hA.2 ?hb hR _ _ ?hF ?hN
    case hF => k_asm
    case hb => assumption
    case hN =>
      refine' newsPick hN ?m1 ?m2
      case m1 => k_mem
      case m2 => intro p hp; simp only [List.mem_cons, hp, or_true]

theorem c_s_mul (w : World) (t l : Addr) (us : List Value) (n c : Nat) (b : Bool) (xs : List Int) (v : Int) (t' l' : Addr) (us' : List Value) (n' c' : Nat) (b' : Bool) (xs' : List Int) (v' : Int) (e : Int) (te : Tok) (news : List (Addr × Obj)) :
   Ctr w 114 ((t, { cls := .type "tuple", data := .seq #[.bool b, .ref l] c }) ∈ news ∧ (l, listOf us.toArray n) ∈ news ∧ IntsAre us xs ∧ Sg (2 ^ e.toNat) b xs v ∧ 1 ≤ v ∧ v ≤ 7 ∧
      (t', { cls := .type "tuple", data := .seq #[.bool b', .ref l'] c' }) ∈ news ∧ (l', listOf us'.toArray n') ∈ news ∧ IntsAre us' xs' ∧ Sg (2 ^ e.toNat) b' xs' v' ∧ -10000 < v' ∧ v' < 10000 ∧ 3 ≤ e ∧ e ≤ 7) [.ref t, .ref t', .int e te, .ref 128] news 4 32
     (fun k => ∀ (t l : Addr) (c n : Nat) (us : List Value) (b : Bool) (xs : List Int), AllLt l news → AllLt t news → IntsAre us xs → Sg (2 ^ e.toNat) b xs (v * v') →
       k (.ref t) ((t, { cls := .type "tuple", data := .seq #[.bool b, .ref l] c }) :: (l, listOf us.toArray n) :: news)) := by
  k_with_none
  w_top off
  (k_with "cheap" => first
    | with_reducible assumption
    | exact nltU (by with_reducible assumption) (by decide)
    | exact nleU (by with_reducible assumption) (by decide)
    | exact nltLe (by with_reducible assumption) (by decide)
    | exact iltU (by with_reducible assumption) (by decide)
    | exact igtD (by with_reducible assumption) (by decide)
    | exact igeLt (by with_reducible assumption) (by decide)
    | exact ileLt (by with_reducible assumption) (by decide)
    | exact igeD (by with_reducible assumption) (by decide)
    | exact igtGe (by with_reducible assumption) (by decide)
    | exact ileU (by with_reducible assumption) (by decide)
    | exact inat (by decide)
    | exact inltU (by with_reducible assumption) (by decide)
    | exact roomA (by with_reducible assumption) (by decide)
    | exact roomB (by with_reducible assumption) (by decide)
    | exact room0 (by with_reducible assumption))
  (k_with "ne" => first
    | with_reducible assumption
    | exact Ne.symm (by with_reducible assumption)
    | exact Nat.ne_of_lt (by with_reducible assumption)
    | exact Nat.ne_of_gt (by with_reducible assumption)
    | exact Nat.ne_of_lt (And.left (by with_reducible assumption))
    | exact Nat.ne_of_gt (And.left (by with_reducible assumption))
    | exact Nat.ne_of_lt (And.left (And.right (by with_reducible assumption)))
    | exact Nat.ne_of_lt (And.right (by with_reducible assumption))
    | exact Nat.ne_of_gt (And.left (And.right (by with_reducible assumption)))
    | exact Nat.ne_of_gt (And.right (by with_reducible assumption))
    | exact Nat.ne_of_lt (And.left (And.right (And.right (by with_reducible assumption))))
    | exact Nat.ne_of_lt (And.right (And.right (by with_reducible assumption)))
    | exact Nat.ne_of_gt (And.left (And.right (And.right (by with_reducible assumption))))
    | exact Nat.ne_of_gt (And.right (And.right (by with_reducible assumption)))
    | exact Nat.ne_of_lt (And.left (And.right (And.right (And.right (by with_reducible assumption)))))
    | exact Nat.ne_of_lt (And.right (And.right (And.right (by with_reducible assumption))))
    | exact Nat.ne_of_gt (And.left (And.right (And.right (And.right (by with_reducible assumption)))))
    | exact Nat.ne_of_gt (And.right (And.right (And.right (by with_reducible assumption))))
    | exact Nat.ne_of_lt (And.left (And.right (And.right (And.right (And.right (by with_reducible assumption))))))
    | exact Nat.ne_of_lt (And.right (And.right (And.right (And.right (by with_reducible assumption)))))
    | exact Nat.ne_of_gt (And.left (And.right (And.right (And.right (And.right (by with_reducible assumption))))))
    | exact Nat.ne_of_gt (And.right (And.right (And.right (And.right (by with_reducible assumption)))))
    | exact Nat.ne_of_lt (And.left (And.right (And.right (And.right (And.right (And.right (by with_reducible assumption)))))))
    | exact Nat.ne_of_lt (And.right (And.right (And.right (And.right (And.right (by with_reducible assumption))))))
    | exact Nat.ne_of_gt (And.left (And.right (And.right (And.right (And.right (And.right (by with_reducible assumption)))))))
    | exact Nat.ne_of_gt (And.right (And.right (And.right (And.right (And.right (by with_reducible assumption))))))
    | exact Nat.ne_of_lt (And.left (And.right (And.right (And.right (And.right (And.right (And.right (by with_reducible assumption))))))))
    | exact Nat.ne_of_lt (And.right (And.right (And.right (And.right (And.right (And.right (by with_reducible assumption)))))))
    | exact Nat.ne_of_gt (And.left (And.right (And.right (And.right (And.right (And.right (And.right (by with_reducible assumption))))))))
    | exact Nat.ne_of_gt (And.right (And.right (And.right (And.right (And.right (And.right (by with_reducible assumption)))))))
    | exact Nat.ne_of_lt (And.left (And.right (And.right (And.right (And.right (And.right (And.right (And.right (by with_reducible assumption)))))))))
    | exact Nat.ne_of_lt (And.right (And.right (And.right (And.right (And.right (And.right (And.right (by with_reducible assumption))))))))
    | exact Nat.ne_of_gt (And.left (And.right (And.right (And.right (And.right (And.right (And.right (And.right (by with_reducible assumption)))))))))
    | exact Nat.ne_of_gt (And.right (And.right (And.right (And.right (And.right (And.right (And.right (by with_reducible assumption))))))))
    | exact Nat.ne_of_lt (And.left (And.right (And.right (And.right (And.right (And.right (And.right (And.right (And.right (by with_reducible assumption))))))))))
    | exact Nat.ne_of_lt (And.right (And.right (And.right (And.right (And.right (And.right (And.right (And.right (by with_reducible assumption)))))))))
    | exact Nat.ne_of_gt (And.left (And.right (And.right (And.right (And.right (And.right (And.right (And.right (And.right (by with_reducible assumption))))))))))
    | exact Nat.ne_of_gt (And.right (And.right (And.right (And.right (And.right (And.right (And.right (And.right (by with_reducible assumption)))))))))
    | exact Nat.ne_of_lt (And.left (And.right (And.right (And.right (And.right (And.right (And.right (And.right (And.right (And.right (by with_reducible assumption)))))))))))
    | exact Nat.ne_of_lt (And.right (And.right (And.right (And.right (And.right (And.right (And.right (And.right (And.right (by with_reducible assumption))))))))))
    | exact Nat.ne_of_gt (And.left (And.right (And.right (And.right (And.right (And.right (And.right (And.right (And.right (And.right (by with_reducible assumption)))))))))))
    | exact Nat.ne_of_gt (And.right (And.right (And.right (And.right (And.right (And.right (And.right (And.right (And.right (by with_reducible assumption))))))))))
    | exact Nat.ne_of_lt (And.left (And.right (And.right (And.right (And.right (And.right (And.right (And.right (And.right (And.right (And.right (by with_reducible assumption))))))))))))
    | exact Nat.ne_of_lt (And.right (And.right (And.right (And.right (And.right (And.right (And.right (And.right (And.right (And.right (by with_reducible assumption)))))))))))
    | exact Nat.ne_of_gt (And.left (And.right (And.right (And.right (And.right (And.right (And.right (And.right (And.right (And.right (And.right (by with_reducible assumption))))))))))))
    | exact Nat.ne_of_gt (And.right (And.right (And.right (And.right (And.right (And.right (And.right (And.right (And.right (And.right (by with_reducible assumption))))))))))))
  (k_with "room" => first
    | exact roomA (by with_reducible assumption) (by decide)
    | exact roomB (by with_reducible assumption) (by decide)
    | exact room0 (by with_reducible assumption))
  (k_with "m_k_mem" => first | with_reducible assumption | assumption | exact List.mem_cons_self | (refine' List.mem_cons_of_mem _ ?_; k_mem))
  (k_with "m_is_list" => (refine' isListN ?N9 ?M9; (case N9 => k_asm); (case M9 => k_mem)))
  (k_with "m_k_all" => first | assumption | exact all_ne (by assumption) | exact all_ne (And.right (by assumption)) | exact all_ne (And.right (And.right (by assumption))) | exact all_ne (And.right (And.right (And.right (by assumption)))) | exact List.forall_mem_append.mpr ⟨by k_all, by k_all⟩)
  (k_with "m_kst_facts1" => first | exact IntsAre.nil | assumption | exact IntsAre.append (by assumption) (IntsAre.cons _ _ IntsAre.nil))
  (k_with "binaryOp LShift int int" => (k_here; (with_unfolding_all refine' lshift_int_small ?k1 ?k2 ?k3 ?_; (case k1 => omega); (case k2 => omega); (case k3 => first | omega | exact limN (by assumption) (by assumption) (by assumption) _))))
  (k_with "call ref" => (
      k_here
      (show wpAny _ _ (call (Value.ref 128) _) _ _ _)
      k_dflt (
        refine' Ctr.use (c_mul _ _ _ _ _ _ _ _ _ _ _ _ _ _) ?k1 ?k2 ?k3 ?k4 ?k5 ?kK ?ka ?kd ?ku ?_
        (case k1 => k_asm)
        (case k2 => k_asm)
        (case k3 => first | k_asm | k_in)
        (case k4 => k_asm)
        (case k5 => k_asm)
        (case kK => first | exact rfl | assumption)
        (case ka => (refine' And.intro ?a1 (And.intro ?a2 (And.intro ?a3 (And.intro ?a4 (And.intro ?a5 (And.intro ?a6 (And.intro ?a7 (And.intro ?a8 (And.intro ?a9 (And.intro ?a10 ?a11))))))))); (case a1 => k_mem); (case a2 => assumption); (case a3 => k_mem); (case a4 => assumption); (case a5 => assumption); (case a6 => assumption); (case a7 => omega); (case a8 => omega); (case a9 => omega); (case a10 => omega); (case a11 => omega)))
        (case kd => ktr_room)
        (case ku => ktr_units))
      intro d9 vs9 n9 ys9 hA9 hI9 hR9 h9 tk9 F9 N9
      (try k_sweep); (try dsimp only); (try k_fold)))
  (k_with "call ref" => (
      k_here
      (show wpAny _ _ (call (Value.ref 100) _) _ _ _)
      k_dflt (
        refine' Ctr.use (c_signed _ _ _ _ _ _ _) ?k1 ?k2 ?k3 ?k4 ?k5 ?kK ?ka ?kd ?ku ?_
        (case k1 => k_asm)
        (case k2 => k_asm)
        (case k3 => first | k_asm | k_in)
        (case k4 => k_asm)
        (case k5 => k_asm)
        (case kK => first | exact rfl | assumption)
        (case ka => (refine' And.intro ?a1 (And.intro ?a2 ?a3); (case a1 => k_mem); (case a2 => assumption); (case a3 => first | omega | exact Nat.lt_trans (len_small (by assumption) (by omega) (by omega)) (by omega))))
        (case kd => ktr_room)
        (case ku => ktr_units))
      intro d9 n9 hA9 h9 tk9 F9 N9
      (try k_sweep); (try dsimp only); (try k_fold)))
  unfold Ctr
  k_fill
  intro mean mg mb dp un gd cn cs a ccd cl outer A₀ base h₀ L m s Q E B F X N T hk hasks hd hu hret
  obtain ⟨hm, hl, hi, hx, hv1, hv2, hm', hl', hi', hx', hv1', hv2', he1, he2⟩ := hasks
  have hb := base_of he1 he2
  have hb3 : (1 : Int) < 2 ^ e.toNat := by omega
  have hrep : Rep (2 ^ e.toNat) xs v := by
    have q := hx.2
    rw [if_neg (by omega)] at q
    exact q
  have hrep' := hx'.2
  have hg' : (if v' < 0 then -v' else v') < 10000 := by split <;> omega
  have hg0' : 0 ≤ (if v' < 0 then -v' else v') := by split <;> omega
  have hS : ∀ zs, Rep (2 ^ e.toNat) zs (v * (if v' < 0 then -v' else v')) → Sg (2 ^ e.toNat) ((b != b') && decide (zs ≠ [])) zs (v * v') := fun zs hz => Sg.mul hx hx' hb3 (by omega) hz
  clear hx hx'
  generalize (if v' < 0 then -v' else v') = g' at *
  have hpr := (mulb hv1 hv2 (by omega : -10000 ≤ g') (by omega) (by omega)).2
  refine wpAny_call ?_
  k_dflt cell_enter
  k_steps
  rename AllLt _ (_ :: _) => hA
  simp only [AllLt] at hA
  refine' hret _ _ _ _ _ _ _ ?ha hA.2 ?hb ?hc _ _ ?hF ?hN
  case hF => k_asm
  case hN => k_asm
  case ha => assumption
  case hb => assumption
  case hc => exact hS _ (by assumption)

/-- the expression's value is this bool, and the heap stays -/
def BoolIs (b : Bool) (s : Shared) (v : Value) (s' : Shared) : Prop := ∃ tk : Nat, v = .bool b ∧ s' = { s with toks := tk }
theorem BoolIs.mk {b b' : Bool} {s : Shared} {tk : Nat} (h : b' = b) : BoolIs b s (.bool b') { s with toks := tk } := ⟨tk, by rw [h], rfl⟩
theorem cut_bool {M : Model} {A : Around} {E : Value → Shared → Prop} {s : Shared} {e : PySem.Expr} {env : Env} {Q : Value → Shared → Prop} (b : Bool) (h : wpAny M A (eval e env) (BoolIs b s) E s) (k : ∀ tk : Nat, Q (.bool b) { s with toks := tk }) : wpAny M A (eval e env) Q E s :=
  wpAny_mono h (fun v s' hq => by obtain ⟨tk, rfl, rfl⟩ := hq; exact k tk) fun _ _ e => e
/-- the limbs' parity is the number's; said so that no arithmetic looks in -/
def ParF (xs : List Int) (v : Int) : Prop := ((if ((xs.getD (Int.toNat 0) 0).fmod 2 == 1) = true then (1 : Int) else 0) = v % 2) ∧ (¬ (0 : Int) < xs.length → v % 2 = 0)
theorem ParF.a {xs : List Int} {v : Int} (h : ParF xs v) : ((xs.getD (Int.toNat 0) 0).fmod 2 == 1) = decide (v % 2 = 1) := by
  have h1 := h.1
  cases hc : ((xs.getD (Int.toNat 0) 0).fmod 2 == 1)
  · rw [hc] at h1
    have : ¬ v % 2 = 1 := by
      intro q; rw [q] at h1; exact absurd h1 (by decide)
    rw [decide_eq_false this]
  · rw [hc] at h1
    have : v % 2 = 1 := h1.symm
    rw [decide_eq_true this]
theorem ParF.b {xs : List Int} {v : Int} (h : ParF xs v) (hq : ¬ (0 : Int) < xs.length) : decide ((0 : Int) < xs.length) = decide (v % 2 = 1) := by
  have h1 := h.2 hq
  have : ¬ v % 2 = 1 := by rw [h1]; decide
  rw [decide_eq_false hq, decide_eq_false this]
def OddF (o m x : Int) : Prop := ((if decide (x % 2 = 1) = true then (1 : Int) else 0) = 1 → x % 2 = 1 ∧ (o * x + m) % 2 = 0) ∧ ((if decide (x % 2 = 1) = true then (1 : Int) else 0) ≠ 1 → x % 2 = 0) ∧ (if decide (x % 2 = 1) = true then (1 : Int) else 0) = x % 2
theorem oddF {o m x : Int} (ho : o % 2 = 1) (hm : m % 2 = 1) : OddF o m x := by
  by_cases h : x % 2 = 1
  · have e : (if decide (x % 2 = 1) = true then (1 : Int) else 0) = 1 := by rw [decide_eq_true h]; rfl
    exact ⟨fun _ => ⟨h, odd_sum ho hm h⟩, fun q => absurd e q, by rw [e, h]⟩
  · have h0 : x % 2 = 0 := by omega
    have e : (if decide (x % 2 = 1) = true then (1 : Int) else 0) = 0 := by rw [decide_eq_false h]; rfl
    exact ⟨fun q => (absurd (e.symm.trans q) (by decide)), fun _ => h0, by rw [e, h0]⟩
theorem int_eqs {a b : Int} {t : Tok} (h : a = b) : IntsAre [Value.int a t] [b] := by subst h; exact .cons _ _ .nil
theorem c_law_row (w : World) (f o m₁ e : Int) (tf to tm te : Tok) (news : List (Addr × Obj)) :
   Ctr w 163 (-70 ≤ f ∧ f ≤ 70 ∧ 1 ≤ o ∧ o ≤ 7 ∧ o % 2 = 1 ∧ -3 ≤ m₁ ∧ m₁ ≤ 3 ∧ m₁ % 2 = 1 ∧ 3 ≤ e ∧ e ≤ 7) [.int f tf, .int o to, .int m₁ tm, .int e te] news 6 200
     (fun k => ∀ (t l : Addr) (c n : Nat) (us : List Value) (tv : Tok), AllLt l news → AllLt t news → IntsAre us (shw o m₁ f 3) →
       k (.ref t) ((t, { cls := .type "tuple", data := .seq #[.ref l, .int (itr o m₁ f 3) tv] c }) :: (l, listOf us.toArray n) :: news)) := by
  k_with_none
  w_top off
  (k_with "cheap" => first
    | with_reducible assumption
    | exact nltU (by with_reducible assumption) (by decide)
    | exact nleU (by with_reducible assumption) (by decide)
    | exact nltLe (by with_reducible assumption) (by decide)
    | exact iltU (by with_reducible assumption) (by decide)
    | exact igtD (by with_reducible assumption) (by decide)
    | exact igeLt (by with_reducible assumption) (by decide)
    | exact ileLt (by with_reducible assumption) (by decide)
    | exact igeD (by with_reducible assumption) (by decide)
    | exact igtGe (by with_reducible assumption) (by decide)
    | exact ileU (by with_reducible assumption) (by decide)
    | exact inat (by decide)
    | exact inltU (by with_reducible assumption) (by decide)
    | exact roomA (by with_reducible assumption) (by decide)
    | exact roomB (by with_reducible assumption) (by decide)
    | exact room0 (by with_reducible assumption))
  (k_with "ne" => first
    | with_reducible assumption
    | exact Ne.symm (by with_reducible assumption)
    | exact Nat.ne_of_lt (by with_reducible assumption)
    | exact Nat.ne_of_gt (by with_reducible assumption)
    | exact Nat.ne_of_lt (And.left (by with_reducible assumption))
    | exact Nat.ne_of_gt (And.left (by with_reducible assumption))
    | exact Nat.ne_of_lt (And.left (And.right (by with_reducible assumption)))
    | exact Nat.ne_of_lt (And.right (by with_reducible assumption))
    | exact Nat.ne_of_gt (And.left (And.right (by with_reducible assumption)))
    | exact Nat.ne_of_gt (And.right (by with_reducible assumption))
    | exact Nat.ne_of_lt (And.left (And.right (And.right (by with_reducible assumption))))
    | exact Nat.ne_of_lt (And.right (And.right (by with_reducible assumption)))
    | exact Nat.ne_of_gt (And.left (And.right (And.right (by with_reducible assumption))))
    | exact Nat.ne_of_gt (And.right (And.right (by with_reducible assumption)))
    | exact Nat.ne_of_lt (And.left (And.right (And.right (And.right (by with_reducible assumption)))))
    | exact Nat.ne_of_lt (And.right (And.right (And.right (by with_reducible assumption))))
    | exact Nat.ne_of_gt (And.left (And.right (And.right (And.right (by with_reducible assumption)))))
    | exact Nat.ne_of_gt (And.right (And.right (And.right (by with_reducible assumption))))
    | exact Nat.ne_of_lt (And.left (And.right (And.right (And.right (And.right (by with_reducible assumption))))))
    | exact Nat.ne_of_lt (And.right (And.right (And.right (And.right (by with_reducible assumption)))))
    | exact Nat.ne_of_gt (And.left (And.right (And.right (And.right (And.right (by with_reducible assumption))))))
    | exact Nat.ne_of_gt (And.right (And.right (And.right (And.right (by with_reducible assumption)))))
    | exact Nat.ne_of_lt (And.left (And.right (And.right (And.right (And.right (And.right (by with_reducible assumption)))))))
    | exact Nat.ne_of_lt (And.right (And.right (And.right (And.right (And.right (by with_reducible assumption))))))
    | exact Nat.ne_of_gt (And.left (And.right (And.right (And.right (And.right (And.right (by with_reducible assumption)))))))
    | exact Nat.ne_of_gt (And.right (And.right (And.right (And.right (And.right (by with_reducible assumption))))))
    | exact Nat.ne_of_lt (And.left (And.right (And.right (And.right (And.right (And.right (And.right (by with_reducible assumption))))))))
    | exact Nat.ne_of_lt (And.right (And.right (And.right (And.right (And.right (And.right (by with_reducible assumption)))))))
    | exact Nat.ne_of_gt (And.left (And.right (And.right (And.right (And.right (And.right (And.right (by with_reducible assumption))))))))
    | exact Nat.ne_of_gt (And.right (And.right (And.right (And.right (And.right (And.right (by with_reducible assumption)))))))
    | exact Nat.ne_of_lt (And.left (And.right (And.right (And.right (And.right (And.right (And.right (And.right (by with_reducible assumption)))))))))
    | exact Nat.ne_of_lt (And.right (And.right (And.right (And.right (And.right (And.right (And.right (by with_reducible assumption))))))))
    | exact Nat.ne_of_gt (And.left (And.right (And.right (And.right (And.right (And.right (And.right (And.right (by with_reducible assumption)))))))))
    | exact Nat.ne_of_gt (And.right (And.right (And.right (And.right (And.right (And.right (And.right (by with_reducible assumption))))))))
    | exact Nat.ne_of_lt (And.left (And.right (And.right (And.right (And.right (And.right (And.right (And.right (And.right (by with_reducible assumption))))))))))
    | exact Nat.ne_of_lt (And.right (And.right (And.right (And.right (And.right (And.right (And.right (And.right (by with_reducible assumption)))))))))
    | exact Nat.ne_of_gt (And.left (And.right (And.right (And.right (And.right (And.right (And.right (And.right (And.right (by with_reducible assumption))))))))))
    | exact Nat.ne_of_gt (And.right (And.right (And.right (And.right (And.right (And.right (And.right (And.right (by with_reducible assumption)))))))))
    | exact Nat.ne_of_lt (And.left (And.right (And.right (And.right (And.right (And.right (And.right (And.right (And.right (And.right (by with_reducible assumption)))))))))))
    | exact Nat.ne_of_lt (And.right (And.right (And.right (And.right (And.right (And.right (And.right (And.right (And.right (by with_reducible assumption))))))))))
    | exact Nat.ne_of_gt (And.left (And.right (And.right (And.right (And.right (And.right (And.right (And.right (And.right (And.right (by with_reducible assumption)))))))))))
    | exact Nat.ne_of_gt (And.right (And.right (And.right (And.right (And.right (And.right (And.right (And.right (And.right (by with_reducible assumption))))))))))
    | exact Nat.ne_of_lt (And.left (And.right (And.right (And.right (And.right (And.right (And.right (And.right (And.right (And.right (And.right (by with_reducible assumption))))))))))))
    | exact Nat.ne_of_lt (And.right (And.right (And.right (And.right (And.right (And.right (And.right (And.right (And.right (And.right (by with_reducible assumption)))))))))))
    | exact Nat.ne_of_gt (And.left (And.right (And.right (And.right (And.right (And.right (And.right (And.right (And.right (And.right (And.right (by with_reducible assumption))))))))))))
    | exact Nat.ne_of_gt (And.right (And.right (And.right (And.right (And.right (And.right (And.right (And.right (And.right (And.right (by with_reducible assumption))))))))))))
  (k_with "room" => first
    | exact roomA (by with_reducible assumption) (by decide)
    | exact roomB (by with_reducible assumption) (by decide)
    | exact room0 (by with_reducible assumption))
  (k_with "m_k_mem" => ((repeat (first | (with_reducible exact List.mem_cons_self) | refine' List.mem_cons_of_mem _ ?_)); (first | done | with_reducible assumption)))
  (k_with "m_is_list" => (refine' isListN ?N9 ?M9; (case N9 => k_asm); (case M9 => k_mem)))
  (k_with "m_k_all" => first | assumption | exact all_ne (by assumption) | exact all_ne (And.right (by assumption)) | exact all_ne (And.right (And.right (by assumption))) | exact all_ne (And.right (And.right (And.right (by assumption)))) | exact List.forall_mem_append.mpr ⟨by k_all, by k_all⟩)
  (k_with "m_kst_facts1" => first | exact IntsAre.nil | assumption | exact IntsAre.append (by assumption) (IntsAre.cons _ _ IntsAre.nil))
  (k_with "binaryOp LShift int int" => (k_here; (with_unfolding_all refine' lshift_int_small ?k1 ?k2 ?k3 ?_; (case k1 => omega); (case k2 => omega); (case k3 => first | omega | exact limN (by assumption) (by assumption) (by assumption) _))))
  (k_with "exec For Name Call cons nil" => (k_here; (rename Fr _ _ _ _ => lF'); (with_unfolding_all refine' For_turns lF' ?_); k_whole))
  (k_with "pyIter ref" => (k_here; (with_reducible show wpAny _ _ (pyIter (Value.ref _)) (fun it s₂ => TurnsAt _ _ _ _ _ _ _ _ _ it s₂) _ _); k_extra "rng"))
  (k_with "call ref" => (
      k_here
      (show wpAny _ _ (call (Value.ref 149) _) _ _ _)
      k_dflt (
        refine' Ctr.use (c_law_signed _ _ _ _ _ _) ?k1 ?k2 ?k3 ?k4 ?k5 ?kK ?ka ?kd ?ku ?_
        (case k1 => k_asm)
        (case k2 => k_asm)
        (case k3 => first | k_asm | k_in)
        (case k4 => k_asm)
        (case k5 => k_asm)
        (case kK => first | exact rfl | assumption)
        (case ka => (refine' And.intro ?a1 (And.intro ?a2 (And.intro ?a3 ?a4)); (case a1 => omega); (case a2 => omega); (case a3 => omega); (case a4 => omega)))
        (case kd => ktr_room)
        (case ku => ktr_units))
      intro d9 l9 c9 n9 vs9 b9 ys9 hA9 hB9 hI9 hR9 h9 tk9 F9 N9
      (try simp only [AllLt] at hA9 hB9); (try k_sweep); (try dsimp only); (try k_fold)))
  (k_with "call ref" => (
      k_here
      (show wpAny _ _ (call (Value.ref 114) _) _ _ _)
      k_dflt (
        refine' Ctr.use (c_s_mul _ _ _ _ _ _ _ _ _ _ _ _ _ _ _ _ _ _ _ _) ?k1 ?k2 ?k3 ?k4 ?k5 ?kK ?ka ?kd ?ku ?_
        (case k1 => k_asm)
        (case k2 => k_asm)
        (case k3 => first | k_asm | k_in)
        (case k4 => k_asm)
        (case k5 => k_asm)
        (case kK => first | exact rfl | assumption)
        (case ka => (refine' And.intro ?a1 (And.intro ?a2 (And.intro ?a3 (And.intro ?a4 (And.intro ?a5 (And.intro ?a6 (And.intro ?a7 (And.intro ?a8 (And.intro ?a9 (And.intro ?a10 (And.intro ?a11 (And.intro ?a12 (And.intro ?a13 ?a14)))))))))))); (case a1 => k_mem); (case a2 => k_mem); (case a3 => assumption); (case a4 => assumption); (case a5 => omega); (case a6 => omega); (case a7 => k_mem); (case a8 => k_mem); (case a9 => assumption); (case a10 => assumption); (case a11 => omega); (case a12 => omega); (case a13 => omega); (case a14 => omega)))
        (case kd => ktr_room)
        (case ku => ktr_units))
      intro d9 l9 c9 n9 vs9 b9 ys9 hA9 hB9 hI9 hR9 h9 tk9 F9 N9
      (try simp only [AllLt] at hA9 hB9); (try k_sweep); (try dsimp only); (try k_fold)))
  (k_with "call ref" => (
      k_here
      (show wpAny _ _ (call (Value.ref 107) _) _ _ _)
      k_dflt (
        refine' Ctr.use (c_s_add _ _ _ _ _ _ _ _ _ _ _ _ _ _ _ _ _ _ _ _) ?k1 ?k2 ?k3 ?k4 ?k5 ?kK ?ka ?kd ?ku ?_
        (case k1 => k_asm)
        (case k2 => k_asm)
        (case k3 => first | k_asm | k_in)
        (case k4 => k_asm)
        (case k5 => k_asm)
        (case kK => first | exact rfl | assumption)
        (case ka => (refine' And.intro ?a1 (And.intro ?a2 (And.intro ?a3 (And.intro ?a4 (And.intro ?a5 (And.intro ?a6 (And.intro ?a7 (And.intro ?a8 (And.intro ?a9 (And.intro ?a10 (And.intro ?a11 (And.intro ?a12 (And.intro ?a13 ?a14)))))))))))); (case a1 => k_mem); (case a2 => k_mem); (case a3 => assumption); (case a4 => assumption); (case a5 => omega); (case a6 => omega); (case a7 => k_mem); (case a8 => k_mem); (case a9 => assumption); (case a10 => assumption); (case a11 => omega); (case a12 => omega); (case a13 => omega); (case a14 => omega)))
        (case kd => ktr_room)
        (case ku => ktr_units))
      intro d9 l9 c9 n9 vs9 b9 ys9 hA9 hB9 hI9 hR9 h9 tk9 F9 N9
      (try simp only [AllLt] at hA9 hB9); (try k_sweep); (try dsimp only); (try k_fold)))
  (k_with "call ref" => (
      k_here
      (show wpAny _ _ (call (Value.ref 121) _) _ _ _)
      k_dflt (
        refine' Ctr.use (c_half _ _ _ _ _ _ _ _ _ _ _ _) ?k1 ?k2 ?k3 ?k4 ?k5 ?kK ?ka ?kd ?ku ?_
        (case k1 => k_asm)
        (case k2 => k_asm)
        (case k3 => first | k_asm | k_in)
        (case k4 => k_asm)
        (case k5 => k_asm)
        (case kK => first | exact rfl | assumption)
        (case ka => (refine' And.intro ?a1 (And.intro ?a2 (And.intro ?a3 (And.intro ?a4 (And.intro ?a5 (And.intro ?a6 (And.intro ?a7 (And.intro ?a8 ?a9))))))); (case a1 => k_mem); (case a2 => k_mem); (case a3 => assumption); (case a4 => omega); (case a5 => omega); (case a6 => assumption); (case a7 => omega); (case a8 => omega); (case a9 => first | omega | k_extra "even")))
        (case kd => ktr_room)
        (case ku => ktr_units))
      intro d9 l9 c9 n9 vs9 b9 ys9 hA9 hB9 hI9 hR9 h9 tk9 F9 N9
      (try simp only [AllLt] at hA9 hB9); (try k_sweep); (try dsimp only); (try k_fold)))
  (k_with "call ref" => (
      k_here
      (show wpAny _ _ (call (Value.ref 156) _) _ _ _)
      k_dflt (
        refine' Ctr.use (c_plain _ _ _ _ _ _ _ _ _ _ _ _) ?k1 ?k2 ?k3 ?k4 ?k5 ?kK ?ka ?kd ?ku ?_
        (case k1 => k_asm)
        (case k2 => k_asm)
        (case k3 => first | k_asm | k_in)
        (case k4 => k_asm)
        (case k5 => k_asm)
        (case kK => first | exact rfl | assumption)
        (case ka => (refine' And.intro ?a1 (And.intro ?a2 (And.intro ?a3 (And.intro ?a4 (And.intro ?a5 (And.intro ?a6 (And.intro ?a7 ?a8)))))); (case a1 => k_mem); (case a2 => k_mem); (case a3 => assumption); (case a4 => omega); (case a5 => omega); (case a6 => omega); (case a7 => assumption); (case a8 => first | assumption | omega)))
        (case kd => ktr_room)
        (case ku => ktr_units))
      intro t9 h9 tk9 F9 N9
      (try k_sweep); (try dsimp only); (try k_fold)))
  (k_with "compareOp NotEq ref ref" => (
      k_here
      k_dflt (
        refine' ne_sg ?k1 ?h1 ?h2 ?h3 ?h4 ?hi ?hj ?hg ?hf ?hB ?hv ?hu ?_
        (case k1 => k_asm)
        (case h1 => k_mem)
        (case h2 => k_mem)
        (case h3 => k_mem)
        (case h4 => k_mem)
        (case hi => assumption)
        (case hj => assumption)
        (case hg => assumption)
        (case hf => assumption)
        (case hB => omega)
        (case hv => first | rfl | assumption | omega)
        (case hu => ktr_units))))
  unfold Ctr
  k_fill
  intro mean mg mb dp un gd cn cs a ccd cl outer A₀ base h₀ L m s Q E B F X N T hk hasks hd hu hret
  obtain ⟨hf1, hf2, ho1, ho2, ho3, hm1, hm2, hm3, he1, he2⟩ := hasks
  have hb := base_of he1 he2
  have hb3 : (1 : Int) < 2 ^ e.toNat := by omega
  refine wpAny_call ?_
  k_dflt cell_enter
  (k_with "rng" => (
     (rename Fr _ _ _ _ => lF')
     (rename News _ _ _ _ => lN')
     (rename IsRange _ _ _ _ _ _ _ _ => rgX)
     (with_unfolding_all refine' row_range (B := 2 ^ e.toNat) (o := o) (m := m₁) (f := f) news [Str.ofString "turn", Str.ofString "odd"] ?hh rgX lF' lN' ?hx ?hhe ?hsc ?hbe ?hsh ?hm1 ?hm2 ?hm3 ?hR ?hi ?hg ?htS ?hlS ?_ ?_)
     (case hh => with_unfolding_all exact rfl)
     (case hx => with_unfolding_all exact rfl)
     (case hhe => with_unfolding_all exact rfl)
     (case hsc => with_unfolding_all exact rfl)
     (case hbe => with_unfolding_all exact rfl)
     (case hsh => with_unfolding_all exact rfl)
     (case hm1 => k_mem)
     (case hm2 => k_mem)
     (case hm3 => k_mem)
     (case hR => intro p hp; simp only [List.mem_cons, hp, or_true])
     (case hi => assumption)
     (case hg => assumption)
     (case htS => k_ne)
     (case hlS => k_ne)
     (intro ri rt rl rcc rn rus rb rxs rkh rks rkb rsv rsn rtk' ru rh rtk rI rob hri hrus hrg hrsv htS hlS htI hlI hSI hRI hrcls rF rN
      clear lF' lN'
      have hB0 := itr_bound (o := o) (m := m₁) (f := f) ho1 ho2 hm1 hm2 hf1 hf2 (i := ri) (by omega)
      have hB1 := hB0.2.2 hri
      have hB2 := scl_bound (o := o) (m := m₁) (f := f) ho1 ho2 (i := ri) (by omega)
      have hB3 := bhd_bound (o := o) (m := m₁) (f := f) ho1 ho2 hm1 hm2 (i := ri) (by omega)
      have hlen := hrg.len hb3 (by omega) (by omega)
      have hB4 := mulb (o := o) (x := itr o m₁ f ri) (K := 1200) ho1 ho2 (by omega) (by omega) (by omega)
      have hPF : ParF rxs (itr o m₁ f ri) := par_of (base_even he1) hrg
      have hOF : OddF o m₁ (itr o m₁ f ri) := oddF ho3 hm3
      have hD1 := divE (o * itr o m₁ f ri + m₁) (B := 2) (by omega)
      have hD2 := divE (itr o m₁ f ri) (B := 2) (by omega)
      have hsl : rsv.length = ri := (IntsAre.length hrsv).trans (shw_length _ _ _ _)
      clear hB0
      (try k_fold)
      rotate_left
      intro rt rl rcc rn rus rb rxs rkh rks rkb rsv rsn ru rh rtk hrus hrg hrsv rF rN
      clear lF' lN'
      have hB0 := itr_bound (o := o) (m := m₁) (f := f) ho1 ho2 hm1 hm2 hf1 hf2 (i := 3) (by omega)
      have hlen := hrg.len hb3 (by omega) (by omega)
      have hrg2 := Sg.rep hrg
      have hmag : (if itr o m₁ f 3 < 0 then -itr o m₁ f 3 else itr o m₁ f 3) < 100000 := by split <;> omega
      (try k_fold)
      rotate_left)))
  (k_with "even" => first | exact (hOF.1 (by assumption)).2 | exact hOF.2.1 (by assumption))
  (k_with "eval BoolOp" => (
     (with_reducible show wpAny _ _ (eval (PySem.Expr.BoolOp BoolOp.And _ _) _) _ _ _)
     (fail_if_success (with_reducible show wpAny _ _ _ (BoolIs _ _) _ _))
     (refine' cut_bool (decide (itr o m₁ f ri % 2 = 1)) ?_ ?_)
     (rotate_left)
     (intro btk
      rotate_left)))
  (k_with "BoolIs" => first | exact BoolIs.mk hPF.a | exact BoolIs.mk (hPF.b (by assumption)))
  k_steps
  · rename (ite _ _ _) = (1 : Int) => hq
    exact absurd (row_lawO ho3 hm3 (hOF.1 hq).1) (by assumption)
  · rename (ite _ _ _) = (1 : Int) => hq
    obtain ⟨e1, e2, e3⟩ := row_odd (o := o) (m := m₁) (f := f) (hOF.1 hq).1
    have hodd := hOF.2.2
    rename News _ _ _ (_ :: _) => hN
    (try simp only [List.push_toArray] at hN)
    refine' row_end ?hF hN ?hI hrcls hSI hRI ?hm1 ?hm2 ?hm3 ?hR ?hx ?hhe ?hsc ?hbe ?hr ?hi ?hg ?hs ?htS ?hlS
    case hF => k_asm
    case hx => with_unfolding_all exact rfl
    case hI => k_mem
    case hm1 => k_mem
    case hm2 => k_mem
    case hm3 => k_mem
    case hR => intro p hp; simp only [List.mem_cons, hp, or_true]
    case hhe => rw [e1]; with_unfolding_all exact rfl
    case hsc => rw [e2]; with_unfolding_all exact rfl
    case hbe => rw [e3]; with_unfolding_all exact rfl
    case hr =>
      intro z z1 z2 z3 z4 z5
      simp only [List.contains_cons, List.contains_nil, Bool.or_false, Bool.or_eq_false_iff, beq_eq_false_iff_ne, ne_eq] at z5
      simp [z1, z2, z3, z4, z5]
    case hi => assumption
    case hg => rw [e1]; first | (rw [hD1]; assumption) | (rw [hD2]; assumption)
    case hs => rw [shw]; exact IntsAre.append hrsv (int_eqs hodd)
    case htS => k_ne
    case hlS => k_ne
  · rename (ite _ _ _) ≠ (1 : Int) => hq
    exact absurd (row_lawE ho3 hm3 (hOF.2.1 hq)) (by assumption)
  · rename (ite _ _ _) ≠ (1 : Int) => hq
    obtain ⟨e1, e2, e3⟩ := row_even (o := o) (m := m₁) (f := f) (hOF.2.1 hq)
    have hodd := hOF.2.2
    rename News _ _ _ (_ :: _) => hN
    (try simp only [List.push_toArray] at hN)
    refine' row_end ?hF hN ?hI hrcls hSI hRI ?hm1 ?hm2 ?hm3 ?hR ?hx ?hhe ?hsc ?hbe ?hr ?hi ?hg ?hs ?htS ?hlS
    case hF => k_asm
    case hx => with_unfolding_all exact rfl
    case hI => k_mem
    case hm1 => k_mem
    case hm2 => k_mem
    case hm3 => k_mem
    case hR => intro p hp; simp only [List.mem_cons, hp, or_true]
    case hhe => rw [e1]; with_unfolding_all exact rfl
    case hsc => rw [e2]; with_unfolding_all exact rfl
    case hbe => rw [e3]; with_unfolding_all exact rfl
    case hr =>
      intro z z1 z2 z3 z4 z5
      simp only [List.contains_cons, List.contains_nil, Bool.or_false, Bool.or_eq_false_iff, beq_eq_false_iff_ne, ne_eq] at z5
      simp [z1, z2, z3, z4, z5]
    case hi => assumption
    case hg => rw [e1]; first | (rw [hD1]; assumption) | (rw [hD2]; assumption)
    case hs => rw [shw]; exact IntsAre.append hrsv (int_eqs hodd)
    case htS => k_ne
    case hlS => k_ne
  · have e9 := Sg.plain hrg
    rename News h₀ L _ _ => hN
    rw [e9] at hN
    refine' hret _ _ _ rsn rsv _ ?hl ?ht hrsv _ _ ?hF ?hN
    case hF => k_asm
    case hN =>
      refine' newsPick hN ?m1 ?m2
      case m1 => k_mem
      case m2 =>
        intro p hp
        rcases List.mem_cons.mp hp with rfl | hp
        · exact List.mem_cons_of_mem _ (List.mem_cons_of_mem _ (List.mem_cons_of_mem _ List.mem_cons_self))
        · simp only [List.mem_cons, hp, or_true]
    case hl => first | exact And.right (And.right (by assumption)) | exact And.right (by assumption)
    case ht => first | exact And.right (And.right (And.right (by assumption)))  | exact And.right (And.right (by assumption))

theorem c_next2 (w : World) (y l : Addr) (us : List Value) (n c : Nat) (i : Int) (ti : Tok) (xs : List Int) (k : Int) (tk : Tok) (news : List (Addr × Obj)) (news' : Tok → Nat → List (Addr × Obj)) :
   Ctr w 135 ((∀ t' c', Upd y (listOf #[.int i ti, .ref l] c) (listOf #[.int (i + 1) t', .ref l] c') news (news' t' c')) ∧ (l, listOf us.toArray n) ∈ news ∧ IntsAre us xs ∧ xs.length < 100 ∧ @Ne Nat l y ∧ 0 ≤ i ∧ i ≤ 10 ∧ 1 ≤ k ∧ k ≤ 100) [.ref y, .int k tk] news 1 8
     (fun kk => ∀ v t t' c', 0 ≤ v → v < k → kk (.int v t) (news' t' c')) := by
  intro mean mg mb dp un gd cn cs a ccd cl outer A₀ base h₀ L m s Q E B F X N T hk hasks hd hu hret
  obtain ⟨hU, hm, hi, hlen, hne, hi1, hi2, hk1, hk2⟩ := hasks
  obtain ⟨pre, post, e1, _, hpre, hpost⟩ := (hU 0 0).split
  have N' : News h₀ L s.heap ((y, listOf #[.int i ti, .ref l] c) :: (pre ++ post)) := newsTo N fun p hp => by
    rw [e1]
    simp only [List.mem_cons, List.mem_append] at hp ⊢
    rcases hp with hp | hp | hp
    · exact .inr (.inl hp)
    · exact .inl hp
    · exact .inr (.inr hp)
  have inR : ∀ p ∈ news, p.1 ≠ y → p ∈ pre ++ post := fun p hp hn => by
    rw [e1] at hp
    rcases List.mem_append.mp hp with hp | hp
    · exact List.mem_append_left _ hp
    · rcases List.mem_cons.mp hp with rfl | hp
      · exact absurd rfl hn
      · exact List.mem_append_right _ hp
  have hall : ∀ p ∈ pre ++ post, p.1 ≠ y := fun p hp => (List.mem_append.mp hp).elim (hpre p) (hpost p)
  refine Ctr.use (c_next w y l us n c i ti xs k tk (pre ++ post)) B F X N' T hk ⟨inR _ hm hne, hi, hlen, hall, hi1, hi2, hk1, hk2⟩ hd hu ?_
  intro v t t' c' h0 h1 h' tk' F' N''
  refine hret v t t' c' h0 h1 h' tk' F' ?_
  obtain ⟨pre', post', f1, f2, hpre', hpost'⟩ := (hU t' c').split
  rw [f2]
  intro p hp
  rcases List.mem_append.mp hp with hp | hp
  · exact N'' p (List.mem_cons_of_mem _ (inR p (by rw [f1]; exact List.mem_append_left _ hp) (hpre' p hp)))
  · rcases List.mem_cons.mp hp with rfl | hp
    · exact N'' _ List.mem_cons_self
    · exact N'' p (List.mem_cons_of_mem _ (inR p (by rw [f1]; exact List.mem_append_right _ (List.mem_cons_of_mem _ hp)) (hpost' p hp)))
theorem menu4 (a b c d : Int) {k : Int} (h0 : 0 ≤ k) (h1 : k < 4) : [a, b, c, d].getD k.toNat 0 = a ∨ [a, b, c, d].getD k.toNat 0 = b ∨ [a, b, c, d].getD k.toNat 0 = c ∨ [a, b, c, d].getD k.toNat 0 = d := by
  have : k = 0 ∨ k = 1 ∨ k = 2 ∨ k = 3 := by omega
  rcases this with rfl | rfl | rfl | rfl
  · exact .inl rfl
  · exact .inr (.inl rfl)
  · exact .inr (.inr (.inl rfl))
  · exact .inr (.inr (.inr rfl))
theorem item_menu4 {prog : Program} {w : World} {A : Around} {E : Value → Shared → Prop} {s : Shared} {value slice : PySem.Expr} {l : Addr} {a b c d : Int} {ta tb tc td u : Tok} {k : Int} {Q : Value → Shared → Prop}
    (hl : s.heap.IsList l [Value.int a ta, .int b tb, .int c tc, .int d td].toArray) (h0 : 0 ≤ k) (h1 : k < 4) (h : ∀ x t, (x = a ∨ x = b ∨ x = c ∨ x = d) → Q (.int x t) s)
    (hs : subscripted slice false (.ref l) (.int k u) = operate [.ref l, .int k u] (getItem (.ref l) (.int k u)) := by with_unfolding_all rfl) :
    wpAny (model prog w) A (subscriptTail value slice (.ref l) (.int k u)) Q E s :=
  item_anyK (ns := [a, b, c, d]) hl (.cons _ _ (.cons _ _ (.cons _ _ (.cons _ _ .nil)))) h0 h1 (by omega) (fun t => h _ t (menu4 a b c d h0 h1)) hs
theorem stp_next {o m x k : Int} (h : x % 2 = 1 ∨ x % 2 = 0) : stp o m (x + 2 * k) = stp o m x + (if x % 2 = 1 then o * k else k) := by
  have e : (x + 2 * k) % 2 = x % 2 := by omega
  unfold stp
  rw [e]
  by_cases q : x % 2 = 1
  · rw [if_pos q, if_pos q, if_pos q, Int.mul_add]
    have : o * (2 * k) = 2 * (o * k) := by grind
    rw [this]; omega
  · rw [if_neg q, if_neg q, if_neg q]; omega
theorem par2 (x : Int) : x % 2 = 1 ∨ x % 2 = 0 := by omega
/-- Terras: what is 8 k further on has the same row, and comes k powers of the factor further -/
theorem far_law (o m a k : Int) : shw o m (a + 8 * k) 3 = shw o m a 3 ∧ itr o m (a + 8 * k) 3 = itr o m a 3 + k * o ^ (shw o m a 3).sum.toNat := by
  have h1 : stp o m (a + 8 * k) = stp o m a + 4 * (if a % 2 = 1 then o * k else k) := by
    have := stp_next (o := o) (m := m) (x := a) (k := 4 * k) (par2 a)
    rw [show a + 2 * (4 * k) = a + 8 * k by omega] at this
    rw [this]; split
    · have : o * (4 * k) = 4 * (o * k) := by grind
      omega
    · rfl
  generalize hk1 : (if a % 2 = 1 then o * k else k) = k1 at *
  have h2 : stp o m (stp o m a + 4 * k1) = stp o m (stp o m a) + 2 * (if stp o m a % 2 = 1 then o * k1 else k1) := by
    have := stp_next (o := o) (m := m) (x := stp o m a) (k := 2 * k1) (par2 _)
    rw [show stp o m a + 2 * (2 * k1) = stp o m a + 4 * k1 by omega] at this
    rw [this]; split
    · have : o * (2 * k1) = 2 * (o * k1) := by grind
      omega
    · rfl
  generalize hk2 : (if stp o m a % 2 = 1 then o * k1 else k1) = k2 at *
  have h3 := stp_next (o := o) (m := m) (x := stp o m (stp o m a)) (k := k2) (par2 _)
  simp only [shw, itr, List.nil_append, List.cons_append]
  rw [h1, h2, h3]
  refine ⟨by rw [show (a + 8 * k) % 2 = a % 2 by omega, show (stp o m a + 4 * k1) % 2 = stp o m a % 2 by omega, show (stp o m (stp o m a) + 2 * k2) % 2 = stp o m (stp o m a) % 2 by omega], ?_⟩
  rcases par2 a with p1 | p1 <;> rcases par2 (stp o m a) with p2 | p2 <;> rcases par2 (stp o m (stp o m a)) with p3 | p3 <;>
    simp only [p1, p2, p3, if_true, List.sum_cons, List.sum_nil] at * <;> subst hk1 <;> subst hk2 <;> simp <;> grind
theorem odd_mul {o k : Int} (ho : o % 2 = 1) : (o * k) % 2 = k % 2 := by
  rw [Int.mul_emod, ho, Int.one_mul, Int.emod_emod]
theorem row_inj {o m a b : Int} (ho : o % 2 = 1) (h : shw o m a 3 = shw o m b 3) : (b - a) % 8 = 0 := by
  simp only [shw, itr, List.nil_append, List.cons_append, List.cons.injEq, and_true] at h
  obtain ⟨e1, e2, e3⟩ := h
  obtain ⟨k, hk⟩ : ∃ k, b = a + 2 * k := ⟨(b - a) / 2, by omega⟩
  subst hk
  have h1 := stp_next (o := o) (m := m) (x := a) (k := k) (par2 a)
  rw [h1] at e2 e3
  have hk2 : k % 2 = 0 := by
    split at e2
    · have := odd_mul (k := k) ho; omega
    · omega
  obtain ⟨j, hj⟩ : ∃ j, k = 2 * j := ⟨k / 2, by omega⟩
  subst hj
  have e4 : (if a % 2 = 1 then o * (2 * j) else 2 * j) = 2 * (if a % 2 = 1 then o * j else j) := by
    split
    · grind
    · rfl
  rw [e4] at e3
  have h2 := stp_next (o := o) (m := m) (x := stp o m a) (k := if a % 2 = 1 then o * j else j) (par2 _)
  rw [h2] at e3
  have e5 : (if a % 2 = 1 then o * j else j) % 2 = j % 2 := by
    split
    · exact odd_mul ho
    · rfl
  have e6 : (if stp o m a % 2 = 1 then o * (if a % 2 = 1 then o * j else j) else (if a % 2 = 1 then o * j else j)) % 2 = j % 2 := by
    split
    · rw [odd_mul ho, e5]
    · exact e5
  have : j % 2 = 0 := by omega
  omega
theorem rows_unlike {o m a i j : Int} (ho : o % 2 = 1) (hi : 0 ≤ i) (hij : i < j) (hj : j ≤ 7) : shw o m (a + j) 3 ≠ shw o m (a + i) 3 := by
  intro h
  have := row_inj ho h
  omega
/-- one row kept: its tuple's place, its list's place, the list's values, the two tail numbers, the number and its token -/
abbrev Rw := Addr × Addr × List Value × Nat × Nat × Int × Tok
def rwT (r : Rw) : Addr := r.1
def rwL (r : Rw) : Addr := r.2.1
def rwU (r : Rw) : List Value := r.2.2.1
def rwV (r : Rw) : Int := r.2.2.2.2.2.1
def rwTup (r : Rw) : Obj := { cls := .type "tuple", data := .seq #[.ref (rwL r), .int (rwV r) r.2.2.2.2.2.2] r.2.2.2.2.1 }
def rwLst (r : Rw) : Obj := listOf (rwU r).toArray r.2.2.2.1
def rwLed : List Rw → List (Addr × Obj)
  | [] => []
  | r :: rs => (rwT r, rwTup r) :: (rwL r, rwLst r) :: rwLed rs
def rwRefs (rs : List Rw) : List Value := rs.map fun r => .ref (rwT r)
def rwLs (rs : List Rw) : List Value := rs.map fun r => .ref (rwL r)
theorem shw_sum (o m f : Int) : 0 ≤ (shw o m f 3).sum ∧ (shw o m f 3).sum ≤ 3 := by
  simp only [shw, List.nil_append, List.cons_append, List.sum_cons, List.sum_nil]
  omega
def RwOK (o m f : Int) (rs : List Rw) : Prop := ∀ (i : Nat) (r : Rw), rs[i]? = some r → rwV r = itr o m (f + (i : Int)) 3 ∧ IntsAre (rwU r) (shw o m (f + (i : Int)) 3)
theorem rwRefs_length (rs : List Rw) : (rwRefs rs).length = rs.length := by simp [rwRefs]
theorem rwLs_length (rs : List Rw) : (rwLs rs).length = rs.length := by simp [rwLs]
theorem rwRefs_at {rs : List Rw} {i : Nat} {r : Rw} (h : rs[i]? = some r) : (rwRefs rs)[i]? = some (.ref (rwT r)) := by simp [rwRefs, h]
theorem rwRefs_take (rs : List Rw) (i : Nat) : (rwRefs rs).take i = rwRefs (rs.take i) := by simp [rwRefs, List.map_take]
theorem rwLed_append : ∀ a b : List Rw, rwLed (a ++ b) = rwLed a ++ rwLed b
  | [], _ => rfl
  | r :: rs, b => by show _ :: _ :: rwLed (rs ++ b) = _; rw [rwLed_append rs b]; rfl
theorem rw_mem : ∀ {rs : List Rw} {r : Rw}, r ∈ rs → (rwT r, rwTup r) ∈ rwLed rs ∧ (rwL r, rwLst r) ∈ rwLed rs
  | [], _, h => nomatch h
  | q :: rs, r, h => by
    rcases List.mem_cons.mp h with rfl | h
    · exact ⟨List.mem_cons_self, List.mem_cons_of_mem _ List.mem_cons_self⟩
    · exact ⟨List.mem_cons_of_mem _ (List.mem_cons_of_mem _ (rw_mem h).1), List.mem_cons_of_mem _ (List.mem_cons_of_mem _ (rw_mem h).2)⟩
theorem rw_get {o m f : Int} {rs : List Rw} (_ : RwOK o m f rs) {i : Nat} (hi : i < rs.length) : ∃ r, rs[i]? = some r ∧ r ∈ rs := ⟨rs[i], List.getElem?_eq_getElem hi, List.getElem_mem hi⟩
theorem allLt_off {I C D : Addr} {a : Addr} {oI oC oD : Obj} {led : List (Addr × Obj)} (h : AllLt a ((I, oI) :: (C, oC) :: (D, oD) :: led)) : (@Ne Nat a I) ∧ (@Ne Nat a C) ∧ (@Ne Nat a D) :=
  ⟨Nat.ne_of_gt h.1, Nat.ne_of_gt h.2.1, Nat.ne_of_gt h.2.2.1⟩
section
variable {prog : Program} {w : World} {A : Around} {E : Value → Shared → Prop} {s : Shared} {h₀ : Heap} {L : Addr} {m : Str → Option Value} {env : Env} {elt : Expr} {x : Str} {scope : Scope} {cl : List (Str × Addr)}
/-- what a turn of the first comprehension is to reach -/
def RwNext (o m₁ f : Int) (base : List (Addr × Obj)) (rs : List Rw) (y : Value) (news' : List (Addr × Obj)) : Prop :=
  ∃ r : Rw, news' = base ++ rwLed (rs ++ [r]) ∧ y = .ref (rwT r) ∧ rwV r = itr o m₁ (f + (rs.length : Int)) 3 ∧ IntsAre (rwU r) (shw o m₁ (f + (rs.length : Int)) 3)
theorem rw_rest {Fin : List Value → List (Addr × Obj) → Prop} {n : Nat} (o m₁ f : Int) (base : List (Addr × Obj))
    (turn : ∀ (rs : List Rw) t I oI C oC D m₂ h tk (E' : Value → Shared → Prop), rs.length < n → LCg.NsObj oC m₂ → m₂ x = some (.int (0 + (rs.length : Int)) t) → Fr h₀ L h m → News h₀ L h ((I, oI) :: (C, oC) :: (D, LCg.lst (rwRefs rs)) :: (base ++ rwLed rs)) → LCg.Off3 I C D (base ++ rwLed rs) → ((@Ne Nat I C) ∧ (@Ne Nat I D) ∧ (@Ne Nat C D)) →
      wpAny (model prog w) A (eval elt (compEnvC scope cl C env)) (LCg.CompEnd h₀ L m { s with heap := h, toks := tk } I oI C oC D (LCg.lst (rwRefs rs)) (fun _ => True) (RwNext o m₁ f base rs)) E' { s with heap := h, toks := tk })
    (fin : ∀ rs : List Rw, rs.length = n → RwOK o m₁ f rs → Fin (rwRefs rs) (base ++ rwLed rs)) :
    LCg.CompRest prog w A h₀ L m env elt x scope cl s (fun _ => True) (fun i v => ∃ t, v = .int (0 + (i : Int)) t) Fin n 0 [] base := by
  have key : ∀ (j i : Nat) (rs : List Rw), i + j = n → rs.length = i → RwOK o m₁ f rs → LCg.CompRest prog w A h₀ L m env elt x scope cl s (fun _ => True) (fun i v => ∃ t, v = .int (0 + (i : Int)) t) Fin j i (rwRefs rs) (base ++ rwLed rs) := by
    intro j
    induction j with
    | zero =>
      intro i rs hi hl hok
      exact LCg.CompRest.zero (fin rs (by omega) hok)
    | succ j ih =>
      intro i rs hi hl hok
      refine LCg.CompRest.succ ?_
      intro v I oI C oC D m₂ h tk E' hv hC hx F N off ne
      obtain ⟨t, rfl⟩ := hv
      refine wpAny_mono (turn rs t I oI C oC D m₂ h tk E' (by omega) hC (by rw [hl]; exact hx) F N off ne) (fun y s₂ hq => ?_) fun _ _ e => e
      obtain ⟨h', tk', nw, e, F', N', off', hS, r, hn, hy, hv, hu⟩ := hq
      refine ⟨h', tk', nw, e, F', N', off', hS, ?_⟩
      have := ih (i + 1) (rs ++ [r]) (by omega) (by simp [hl]) (fun k q hk => by
        by_cases hlt : k < rs.length
        · rw [List.getElem?_append_left hlt] at hk; exact hok k q hk
        · rw [List.getElem?_append_right (by omega)] at hk
          by_cases hk0 : k - rs.length = 0
          · rw [hk0] at hk
            have e1 : r = q := by simpa using hk
            subst e1
            have e2 : k = rs.length := by omega
            subst e2
            exact ⟨hv, hu⟩
          · rw [List.getElem?_eq_none (by simp; omega)] at hk; cases hk)
      rw [hn, hy]
      have e2 : rwRefs (rs ++ [r]) = rwRefs rs ++ [.ref (rwT r)] := by simp [rwRefs]
      rw [e2] at this
      exact this
  have := key n 0 [] (by omega) rfl (fun i r h => by simp at h)
  simpa [rwRefs, rwLed] using this
theorem rw_go {Fin : List Value → List (Addr × Obj) → Prop} {n : Nat} {o m₁ f : Int} {oF : Obj} {tF : Tok} {base : List (Addr × Obj)} (_ : 1 ≤ o ∧ o ≤ 7 ∧ o % 2 = 1) (_ : -3 ≤ m₁ ∧ m₁ ≤ 3 ∧ m₁ % 2 = 1) (_ : oF.data = .cell (some (.int f tF)))
    (turn : ∀ (rs : List Rw) t I oI C oC D m₂ h tk (E' : Value → Shared → Prop), rs.length < n → LCg.NsObj oC m₂ → m₂ x = some (.int (0 + (rs.length : Int)) t) → Fr h₀ L h m → News h₀ L h ((I, oI) :: (C, oC) :: (D, LCg.lst (rwRefs rs)) :: (base ++ rwLed rs)) → LCg.Off3 I C D (base ++ rwLed rs) → ((@Ne Nat I C) ∧ (@Ne Nat I D) ∧ (@Ne Nat C D)) →
      wpAny (model prog w) A (eval elt (compEnvC scope cl C env)) (LCg.CompEnd h₀ L m { s with heap := h, toks := tk } I oI C oC D (LCg.lst (rwRefs rs)) (fun _ => True) (RwNext o m₁ f base rs)) E' { s with heap := h, toks := tk })
    (fin : ∀ rs : List Rw, rs.length = n → RwOK o m₁ f rs → Fin (rwRefs rs) (base ++ rwLed rs)) :
    LCg.CompRest prog w A h₀ L m env elt x scope cl s (fun _ => True) (fun i v => ∃ t, v = .int (0 + (i : Int)) t) Fin n 0 [] base := rw_rest o m₁ f base turn fin
theorem rw_turn_end {o m₁ f a : Int} {base : List (Addr × Obj)} {rs : List Rw} {s₁ : Shared} {h' : Heap} {tk : Nat} {I C D t l : Addr} {oI oC : Obj} {us : List Value} {n c : Nat} {v : Int} {tv : Tok}
    (F : Fr h₀ L h' m) (N : News h₀ L h' ((t, { cls := .type "tuple", data := .seq #[.ref l, .int v tv] c }) :: (l, listOf us.toArray n) :: (I, oI) :: (C, oC) :: (D, LCg.lst (rwRefs rs)) :: (base ++ rwLed rs)))
    (hl : AllLt l ((I, oI) :: (C, oC) :: (D, LCg.lst (rwRefs rs)) :: (base ++ rwLed rs))) (ht : AllLt t ((I, oI) :: (C, oC) :: (D, LCg.lst (rwRefs rs)) :: (base ++ rwLed rs))) (off : LCg.Off3 I C D (base ++ rwLed rs))
    (hv : v = itr o m₁ a 3) (hi : IntsAre us (shw o m₁ a 3)) (ha : a = f + (0 + (rs.length : Int))) :
    LCg.CompEnd h₀ L m s₁ I oI C oC D (LCg.lst (rwRefs rs)) (fun _ => True) (RwNext o m₁ f base rs) (.ref t) { s₁ with heap := h', toks := tk } := by
  have ha' : a = f + (rs.length : Int) := by omega
  subst ha'
  refine LCg.CompEnd.intro F N (base ++ rwLed (rs ++ [(t, l, us, n, c, v, tv)])) ?_ ?_ trivial ⟨(t, l, us, n, c, v, tv), rfl, rfl, hv, hi⟩
  · intro p hp
    rw [rwLed_append] at hp
    simp only [List.mem_cons, List.mem_append] at hp ⊢
    rcases hp with hp | hp | hp | hp | hp | hp
    · exact .inr (.inr (.inl hp))
    · exact .inr (.inr (.inr (.inl hp)))
    · exact .inr (.inr (.inr (.inr (.inl hp))))
    · exact .inr (.inr (.inr (.inr (.inr (.inl hp)))))
    · exact .inr (.inr (.inr (.inr (.inr (.inr hp)))))
    · rcases List.mem_cons.mp hp with hp | hp
      · exact .inl hp
      · rcases List.mem_cons.mp hp with hp | hp
        · exact .inr (.inl hp)
        · nomatch hp
  · refine LCg.Off3.of fun p hp => ?_
    rw [rwLed_append, ← List.append_assoc] at hp
    rcases List.mem_append.mp hp with hp | hp
    · exact off.mem p hp
    · rcases List.mem_cons.mp hp with rfl | hp
      · exact allLt_off ht
      · rcases List.mem_cons.mp hp with rfl | hp
        · exact allLt_off hl
        · nomatch hp
/-- the second comprehension: the lists of some rows -/
theorem rw_rest2 {Fin : List Value → List (Addr × Obj) → Prop} {S : List (Addr × Obj) → Prop} (rs : List Rw) (news : List (Addr × Obj)) (hin : ∀ p ∈ rwLed rs, p ∈ news)
    (turn : ∀ (t l : Addr) (v : Int) (tv : Tok) (c : Nat) I oI C oC D m₂ ys h tk (E' : Value → Shared → Prop), LCg.NsObj oC m₂ → m₂ x = some (.ref t) → Fr h₀ L h m → News h₀ L h ((t, { cls := .type "tuple", data := .seq #[.ref l, .int v tv] c }) :: (I, oI) :: (C, oC) :: (D, LCg.lst ys) :: news) → LCg.Off3 I C D news → ((@Ne Nat I C) ∧ (@Ne Nat I D) ∧ (@Ne Nat C D)) →
      wpAny (model prog w) A (eval elt (compEnvC scope cl C env)) (LCg.CompEnd h₀ L m { s with heap := h, toks := tk } I oI C oC D (LCg.lst ys) S (fun y news' => news' = news ∧ y = .ref l)) E' { s with heap := h, toks := tk })
    (fin : Fin (rwLs rs) news) {its : Array Value} (hits : its = (rwRefs rs).toArray) :
    LCg.CompRest prog w A h₀ L m env elt x scope cl s S (fun i v => its[i]? = some v) Fin its.size 0 [] news := by
  subst hits
  have key : ∀ (j i : Nat), i + j = rs.length → LCg.CompRest prog w A h₀ L m env elt x scope cl s S (fun i v => (rwRefs rs).toArray[i]? = some v) Fin j i (rwLs (rs.take i)) news := by
    intro j
    induction j with
    | zero =>
      intro i hi
      rw [List.take_of_length_le (by omega)]
      exact LCg.CompRest.zero fin
    | succ j ih =>
      intro i hi
      refine LCg.CompRest.succ ?_
      intro v I oI C oC D m₂ h tk E' hv hC hx F N off ne
      have hlt : i < rs.length := by omega
      have e1 : v = .ref (rwT rs[i]) := by
        have : (rwRefs rs)[i]? = some v := by simpa using hv
        rw [rwRefs_at (List.getElem?_eq_getElem hlt)] at this
        exact (Option.some.inj this).symm
      subst e1
      have hm := rw_mem (List.getElem_mem hlt)
      refine wpAny_mono (turn _ (rwL rs[i]) _ _ _ I oI C oC D m₂ _ h tk E' hC hx F (newsPick N (List.mem_cons_of_mem _ (List.mem_cons_of_mem _ (List.mem_cons_of_mem _ (hin _ hm.1)))) fun p hp => hp) off ne) (fun y s₂ hq => ?_) fun _ _ e => e
      obtain ⟨h', tk', nw, e, F', N', off', hS, hn, hy⟩ := hq
      rw [hn] at N' off' hS
      refine ⟨h', tk', news, e, F', N', off', hS, ?_⟩
      rw [hy]
      have := ih (i + 1) (by omega)
      have e2 : rwLs (rs.take (i + 1)) = rwLs (rs.take i) ++ [.ref (rwL rs[i])] := by
        rw [List.take_add_one, List.getElem?_eq_getElem hlt]
        show List.map _ _ = List.map _ _ ++ _
        rw [List.map_append]
        rfl
      rw [e2] at this
      exact this
  have := key rs.length 0 (by omega)
  simpa [rwLs, rwRefs] using this
theorem rw_end2 {s₁ : Shared} {h' : Heap} {tk : Nat} {I C D l : Addr} {oI oC oD : Obj} {S : List (Addr × Obj) → Prop} {news : List (Addr × Obj)} {p : Addr × Obj}
    (F : Fr h₀ L h' m) (N : News h₀ L h' (p :: (I, oI) :: (C, oC) :: (D, oD) :: news)) (off : LCg.Off3 I C D news) (hS : S news) :
    LCg.CompEnd h₀ L m s₁ I oI C oC D oD S (fun y news' => news' = news ∧ y = .ref l) (.ref l) { s₁ with heap := h', toks := tk } :=
  LCg.CompEnd.intro F N news (fun _ hp => List.mem_cons_of_mem _ hp) off hS ⟨rfl, rfl⟩
end
section
variable {prog : Program} {w : World} {A : Around} {E : Value → Shared → Prop} {s : Shared} {h₀ : Heap} {L : Addr}
theorem rw_reads {h : Heap} : ∀ {rs : List Rw}, (∀ p ∈ rwLed rs, h.get? p.1 = some p.2) → (∀ r ∈ rs, ∃ xs, IntsAre (rwU r) xs) → ∃ ds as, ReadsAll h (rwRefs rs) ds as ∧ PyData.canLayAll0 ds = true ∧ (ds.any fun y => PyData.eqv y .none) = false
  | [], _, _ => ⟨[], [], .nil, rfl, rfl⟩
  | r :: rs, hp, hi => by
    obtain ⟨ds, as, h1, h2, h3⟩ := rw_reads (rs := rs) (fun p q => hp p (List.mem_cons_of_mem _ (List.mem_cons_of_mem _ q))) (fun q hq => hi q (List.mem_cons_of_mem _ hq))
    obtain ⟨xs, hx⟩ := hi r List.mem_cons_self
    have e1 := hp (rwT r, rwTup r) List.mem_cons_self
    have e2 := hp (rwL r, rwLst r) (List.mem_cons_of_mem _ List.mem_cons_self)
    refine ⟨.tuple [.list (xs.map PyData.int), .int (rwV r)] :: ds, _, .cons (reads_tuple_at e1 rfl rfl (ReadsAll.cons (reads_newData (ys := rwU r) ⟨_, e2, rfl, _, rfl⟩ (ke_carried hx)) (ReadsAll.cons (Reads.int _ _) ReadsAll.nil))) h1, ?_, ?_⟩
    · simp [PyData.canLay0, PyData.canLayAll0, ke_canLayAll0, h2]
    · simp only [List.any_cons, h3, Bool.or_false]
      simp [PyData.eqv]
theorem rw_reads2 {h : Heap} {x₀ : List Int} : ∀ {rs : List Rw}, (∀ p ∈ rwLed rs, h.get? p.1 = some p.2) → (∀ r ∈ rs, ∃ xs, IntsAre (rwU r) xs ∧ xs ≠ x₀) → ∃ ds as, ReadsAll h (rwLs rs) ds as ∧ PyData.canLayAll0 ds = true ∧ PyData.depthAll ds ≤ 1 ∧ (ds.any fun y => PyData.eqv y (.list (x₀.map PyData.int))) = false
  | [], _, _ => ⟨[], [], .nil, rfl, by decide, rfl⟩
  | r :: rs, hp, hi => by
    obtain ⟨ds, as, h1, h2, h4, h3⟩ := rw_reads2 (rs := rs) (fun p q => hp p (List.mem_cons_of_mem _ (List.mem_cons_of_mem _ q))) (fun q hq => hi q (List.mem_cons_of_mem _ hq))
    obtain ⟨xs, hx, hne⟩ := hi r List.mem_cons_self
    have e2 := hp (rwL r, rwLst r) (List.mem_cons_of_mem _ List.mem_cons_self)
    refine ⟨.list (xs.map PyData.int) :: ds, _, .cons (reads_newData (ys := rwU r) ⟨_, e2, rfl, _, rfl⟩ (ke_carried hx)) h1, ?_, ?_, ?_⟩
    · simp [PyData.canLay0, PyData.canLayAll0, ke_canLayAll0, h2]
    · simp only [PyData.depthAll, PyData.depth, ke_depthAll]; omega
    · simp only [List.any_cons, h3, Bool.or_false]
      simp [PyData.eqv, ked_eqvAll, hne]
theorem rw_none {rs : List Rw} {D : Addr} {n : Nat} {led : List (Addr × Obj)} {o m₁ f : Int} {Q : Value → Shared → Prop} (N : News h₀ L s.heap led) (hD : (D, listOf (rwRefs rs).toArray n) ∈ led) (hs : ∀ p ∈ rwLed rs, p ∈ led) (ok : RwOK o m₁ f rs) (hu : A.units + 65 < cLine) (h : Q (.bool false) s) :
    wpAny (model prog w) A (compareOp .In .none (.ref D)) Q E s := by
  obtain ⟨ds, as, h1, h2, h3⟩ := rw_reads (h := s.heap) (rs := rs) (fun p hp => (N p (hs p hp)).1) (fun r hr => by
    obtain ⟨i, hi, rfl⟩ := List.mem_iff_getElem.mp hr
    exact ⟨_, (ok i _ (List.getElem?_eq_getElem hi)).2⟩)
  refine PySem.SeqAt.in_list_reads (reads_list_at (o := listOf (rwRefs rs).toArray n) (vs := (rwRefs rs).toArray) (n := n) (N _ hD).1 rfl rfl (by simpa using h1)) Reads.none h2 rfl ?_ ?_
  · have : min (PyData.depthAll ds) (PyData.depth .none) ≤ PyData.depth .none := Nat.min_le_right _ _
    have e : PyData.depth .none = 0 := rfl
    omega
  · rw [h3]; exact h
theorem rw_in {rs : List Rw} {D l : Addr} {us : List Value} {x₀ : List Int} {n n' : Nat} {led : List (Addr × Obj)} {Q : Value → Shared → Prop} (N : News h₀ L s.heap led) (hD : (D, listOf (rwLs rs).toArray n) ∈ led) (hl : (l, listOf us.toArray n') ∈ led) (hs : ∀ p ∈ rwLed rs, p ∈ led) (hi : IntsAre us x₀)
    (ok : ∀ r ∈ rs, ∃ xs, IntsAre (rwU r) xs ∧ xs ≠ x₀) (hu : A.units + 65 < cLine) (h : Q (.bool false) s) :
    wpAny (model prog w) A (compareOp .In (.ref l) (.ref D)) Q E s := by
  obtain ⟨ds, as, h1, h2, h4, h3⟩ := rw_reads2 (h := s.heap) (rs := rs) (fun p hp => (N p (hs p hp)).1) ok
  refine PySem.SeqAt.in_list_reads (reads_list_at (o := listOf (rwLs rs).toArray n) (vs := (rwLs rs).toArray) (n := n) (N _ hD).1 rfl rfl (by simpa using h1)) (reads_newData (News.isList N hl) (ke_carried hi)) h2 ?_ ?_ ?_
  · simp [PyData.canLay0, ke_canLayAll0]
  · have : min (PyData.depthAll ds) (PyData.depth (.list (x₀.map PyData.int))) ≤ PyData.depthAll ds := Nat.min_le_left _ _
    omega
  · rw [h3]; exact h
/-- the rows ahead are unlike this one -/
theorem rw_unlike {o m₁ f : Int} {rs : List Rw} {r : Rw} {i : Nat} (ho : o % 2 = 1) (ok : RwOK o m₁ f rs) (hr : rs[i]? = some r) (hlen : rs.length = 8) : ∀ q ∈ rs.take i, ∃ xs, IntsAre (rwU q) xs ∧ xs ≠ shw o m₁ (f + (i : Int)) 3 := by
  intro q hq
  obtain ⟨j, hj, rfl⟩ := List.mem_iff_getElem.mp hq
  have hj1 : j < i := by simp at hj; omega
  have hi8 : i < rs.length := by
    rcases Nat.lt_or_ge i rs.length with h | h
    · exact h
    · rw [List.getElem?_eq_none h] at hr; cases hr
  have e : rs[j]? = some (rs.take i)[j] := by rw [List.getElem_take, List.getElem?_eq_getElem]
  exact ⟨_, (ok j _ e).2, fun e => rows_unlike (i := (j : Int)) (j := (i : Int)) ho (by omega) (by omega) (by omega) e.symm⟩
theorem rw_item {value slice : PySem.Expr} {o m₁ f : Int} {rs : List Rw} {D : Addr} {n : Nat} {led : List (Addr × Obj)} {k : Int} {u : Tok} {Q : Value → Shared → Prop} (N : News h₀ L s.heap led) (hD : (D, listOf (rwRefs rs).toArray n) ∈ led) (hin : ∀ p ∈ rwLed rs, p ∈ led) (h0 : 0 ≤ k) (hk : k < 8) (hlen : rs.length = 8) (ok : RwOK o m₁ f rs)
    (h : ∀ (t l : Addr) (us : List Value) (n c : Nat) (tv : Tok), rs[k.toNat]? = some (t, l, us, n, c, itr o m₁ (f + k) 3, tv) → IntsAre us (shw o m₁ (f + k) 3) → News h₀ L s.heap ((t, { cls := .type "tuple", data := .seq #[.ref l, .int (itr o m₁ (f + k) 3) tv] c }) :: (l, listOf us.toArray n) :: led) → Q (.ref t) s)
    (hs : subscripted slice false (.ref D) (.int k u) = operate [.ref D, .int k u] (getItem (.ref D) (.int k u)) := by with_unfolding_all rfl) :
    wpAny (model prog w) A (subscriptTail value slice (.ref D) (.int k u)) Q E s := by
  have hlt : k.toNat < rs.length := by omega
  have e := List.getElem?_eq_getElem hlt
  have ek : ((k.toNat : Nat) : Int) = k := Int.toNat_of_nonneg h0
  obtain ⟨hv, hu⟩ := ok _ _ e
  have hm := rw_mem (List.getElem_mem hlt)
  rw [ek] at hv hu
  refine item_litK (News.isList N hD) h0 (by omega) (rwRefs_at e) ?_ hs
  generalize rs[k.toNat] = r at *
  obtain ⟨t, l, us, n, c, v, tv⟩ := r
  have hv' : v = itr o m₁ (f + k) 3 := hv
  subst hv'
  exact h t l us n c tv e hu (newsPick N (hin _ hm.1) fun p hp => by
    rcases List.mem_cons.mp hp with rfl | hp
    · exact hin _ hm.2
    · exact hp)
theorem rw_t0 {value slice : PySem.Expr} {t l : Addr} {v : Int} {tv u : Tok} {c : Nat} {led : List (Addr × Obj)} {Q : Value → Shared → Prop} (N : News h₀ L s.heap led) (hm : (t, ({ cls := .type "tuple", data := .seq #[.ref l, .int v tv] c } : Obj)) ∈ led) (h : Q (.ref l) s)
    (hs : subscripted slice false (.ref t) (.int 0 u) = operate [.ref t, .int 0 u] (getItem (.ref t) (.int 0 u))) :
    wpAny (model prog w) A (subscriptTail value slice (.ref t) (.int 0 u)) Q E s :=
  item_tupleT (j := 0) ⟨_, (N _ hm).1, rfl, _, rfl⟩ (by decide) (by decide) (by rfl) (by rfl) h hs
theorem rw_t1 {value slice : PySem.Expr} {t l : Addr} {v : Int} {tv u : Tok} {c : Nat} {led : List (Addr × Obj)} {Q : Value → Shared → Prop} (N : News h₀ L s.heap led) (hm : (t, ({ cls := .type "tuple", data := .seq #[.ref l, .int v tv] c } : Obj)) ∈ led) (h : Q (.int v tv) s)
    (hs : subscripted slice false (.ref t) (.int 1 u) = operate [.ref t, .int 1 u] (getItem (.ref t) (.int 1 u))) :
    wpAny (model prog w) A (subscriptTail value slice (.ref t) (.int 1 u)) Q E s :=
  item_tupleT (j := 1) ⟨_, (N _ hm).1, rfl, _, rfl⟩ (by decide) (by decide) (by rfl) (by rfl) h hs
theorem rw_upto {rs : List Rw} {y : Int} (h : 0 ≤ y) : (slicePick (rwRefs rs).toArray none (some y) none).toList = rwRefs (rs.take y.toNat) := by
  have e : sliceBounds none (some y) none (rwRefs rs).toArray.size = (((0 : Nat) : Int), ((min y.toNat (rwRefs rs).toArray.size : Nat) : Int), 1) := by
    simp only [sliceBounds, Option.getD_none, show (1 : Int) > 0 by decide, if_true, if_neg (show ¬ (y < 0) by omega)]
    congr 1
    congr 1
    omega
  rw [kmk_pick_nat _ e]
  show ((rwRefs rs).drop 0).take (min y.toNat (rwRefs rs).toArray.size - 0) = _
  rw [List.drop_zero, Nat.sub_zero, List.size_toArray, kmk_take_min, rwRefs_take]
theorem rw_size {rs : List Rw} (h : rs.length = 8) : (rwRefs rs).toArray.size ≤ sizeLine := by
  rw [List.size_toArray, rwRefs_length, h]; exact Nat.le_of_ble_eq_true rfl
theorem rw_size2 {rs : List Rw} {k : Nat} (h : rs.length = 8) : (rwRefs (rs.take k)).toArray.size ≤ sizeLine := by
  rw [List.size_toArray, rwRefs_length, List.length_take, h]
  exact Nat.le_trans (Nat.min_le_right _ _) (Nat.le_of_ble_eq_true rfl)
theorem rwLed_take {rs : List Rw} {k : Nat} {p : Addr × Obj} (h : p ∈ rwLed (rs.take k)) : p ∈ rwLed rs := by
  have e := rwLed_append (rs.take k) (rs.drop k)
  rw [List.take_append_drop] at e
  rw [e]
  exact List.mem_append_left _ h
theorem newsDrop {h : Heap} {led : List (Addr × Obj)} (k : Nat) (N : News h₀ L h led) : News h₀ L h (led.drop k) := fun p hp => N p (List.mem_of_mem_drop hp)
end
section
variable {prog : Program} {w : World} {A : Around} {E : Value → Shared → Prop} {s : Shared} {env : Env} {h₀ : Heap} {body : List Stmt} {Q : Flow → Shared → Prop}
theorem rw_range {y : Str} {pos : Pos} {r : Addr} {t₀ u₀ v₀ : Tok} {m₀ : Str → Option Value} {led : List (Addr × Obj)} (stored : List Str)
    (hh : A.handled = none) (hr : IsRange s.heap r 0 8 1 t₀ u₀ v₀) (F : Fr h₀ env.locals s.heap m₀) (N : News h₀ env.locals s.heap led)
    (turn : ∀ (i : Nat) t (u : Str → Option Value) h tk I o, i < 8 → (∀ p ∈ led, p.1 ≠ I) → o.cls = .type "range_iterator" → Fr h₀ env.locals h (fun z => if stored.contains z then u z else m₀ z) → News h₀ env.locals h ((I, o) :: led) →
      wpAny (model prog w) A (assign (.Name y pos) env (.int (i : Int) t)) (fun _ s₂ => wpAny (model prog w) A (execs body env) (RgPost h₀ env.locals I o (RgS (fun _ : Unit => led) (fun _ _ => []) (fun _ _ => True) stored m₀ (i + 1)) { s with heap := h, toks := tk } Q) E s₂) E { s with heap := h, toks := tk })
    (done : ∀ (u : Str → Option Value) h tk, Fr h₀ env.locals h (fun z => if stored.contains z then u z else m₀ z) → News h₀ env.locals h led → Q .next { s with heap := h, toks := tk }) :
    wpAny (model prog w) A (pyIter (.ref r)) (fun it s₂ => TurnsAt prog w A h₀ env (.Name y pos) body Q E it s₂) E s :=
  range_inv (n := 8) (fun _ : Unit => led) (fun _ _ => []) (fun _ _ => True) stored () hh hr (by decide) F N trivial (fun _ hp => nomatch hp)
    (fun _ i t u h tk I o hi _ hne ho F₁ N₁ => turn i t u h tk I o hi hne ho F₁ N₁) (fun _ u h tk _ F₁ N₁ => done u h tk F₁ N₁)
theorem rw_range_end {I L : Addr} {led led' : List (Addr × Obj)} {stored : List Str} {m₀ m' : Str → Option Value} {s₁ : Shared} {h' : Heap} {i tk : Nat} {ob : Obj} (F : Fr h₀ L h' m') (N : News h₀ L h' led') (hI : (I, ob) ∈ led') (hs : ∀ p ∈ led, p ∈ led') (hne : ∀ p ∈ led, p.1 ≠ I)
    (hr : ∀ z, stored.contains z = false → m' z = m₀ z) :
    RgPost h₀ L I ob (RgS (fun _ : Unit => led) (fun _ _ => []) (fun _ _ => True) stored m₀ (i + 1)) s₁ Q .next { s₁ with heap := h', toks := tk } :=
  ⟨h', tk, m', led, rfl, F, newsPick N hI hs, hne, (), rfl, trivial, (fun _ (hp : _ ∈ ([] : List _)) => nomatch hp), fun z _ hz => hr z hz⟩
end
theorem law_holds : PySem.Challenge.rw_xm0436_01.Holds := hd (by
  k_with_none
  w_top off
  (k_with "cheap" => first
    | with_reducible assumption
    | exact nltU (by with_reducible assumption) (by decide)
    | exact nleU (by with_reducible assumption) (by decide)
    | exact nltLe (by with_reducible assumption) (by decide)
    | exact iltU (by with_reducible assumption) (by decide)
    | exact igtD (by with_reducible assumption) (by decide)
    | exact igeLt (by with_reducible assumption) (by decide)
    | exact ileLt (by with_reducible assumption) (by decide)
    | exact igeD (by with_reducible assumption) (by decide)
    | exact igtGe (by with_reducible assumption) (by decide)
    | exact ileU (by with_reducible assumption) (by decide)
    | exact inat (by decide)
    | exact inltU (by with_reducible assumption) (by decide)
    | exact roomA (by with_reducible assumption) (by decide)
    | exact roomB (by with_reducible assumption) (by decide)
    | exact room0 (by with_reducible assumption))
  (k_with "ne" => first
    | with_reducible assumption
    | exact Ne.symm (by with_reducible assumption)
    | exact Nat.ne_of_lt (by with_reducible assumption)
    | exact Nat.ne_of_gt (by with_reducible assumption)
    | exact Nat.ne_of_lt (And.left (by with_reducible assumption))
    | exact Nat.ne_of_gt (And.left (by with_reducible assumption))
    | exact Nat.ne_of_lt (And.left (And.right (by with_reducible assumption)))
    | exact Nat.ne_of_lt (And.right (by with_reducible assumption))
    | exact Nat.ne_of_gt (And.left (And.right (by with_reducible assumption)))
    | exact Nat.ne_of_gt (And.right (by with_reducible assumption))
    | exact Nat.ne_of_lt (And.left (And.right (And.right (by with_reducible assumption))))
    | exact Nat.ne_of_lt (And.right (And.right (by with_reducible assumption)))
    | exact Nat.ne_of_gt (And.left (And.right (And.right (by with_reducible assumption))))
    | exact Nat.ne_of_gt (And.right (And.right (by with_reducible assumption)))
    | exact Nat.ne_of_lt (And.left (And.right (And.right (And.right (by with_reducible assumption)))))
    | exact Nat.ne_of_lt (And.right (And.right (And.right (by with_reducible assumption))))
    | exact Nat.ne_of_gt (And.left (And.right (And.right (And.right (by with_reducible assumption)))))
    | exact Nat.ne_of_gt (And.right (And.right (And.right (by with_reducible assumption))))
    | exact Nat.ne_of_lt (And.left (And.right (And.right (And.right (And.right (by with_reducible assumption))))))
    | exact Nat.ne_of_lt (And.right (And.right (And.right (And.right (by with_reducible assumption)))))
    | exact Nat.ne_of_gt (And.left (And.right (And.right (And.right (And.right (by with_reducible assumption))))))
    | exact Nat.ne_of_gt (And.right (And.right (And.right (And.right (by with_reducible assumption)))))
    | exact Nat.ne_of_lt (And.left (And.right (And.right (And.right (And.right (And.right (by with_reducible assumption)))))))
    | exact Nat.ne_of_lt (And.right (And.right (And.right (And.right (And.right (by with_reducible assumption))))))
    | exact Nat.ne_of_gt (And.left (And.right (And.right (And.right (And.right (And.right (by with_reducible assumption)))))))
    | exact Nat.ne_of_gt (And.right (And.right (And.right (And.right (And.right (by with_reducible assumption))))))
    | exact Nat.ne_of_lt (And.left (And.right (And.right (And.right (And.right (And.right (And.right (by with_reducible assumption))))))))
    | exact Nat.ne_of_lt (And.right (And.right (And.right (And.right (And.right (And.right (by with_reducible assumption)))))))
    | exact Nat.ne_of_gt (And.left (And.right (And.right (And.right (And.right (And.right (And.right (by with_reducible assumption))))))))
    | exact Nat.ne_of_gt (And.right (And.right (And.right (And.right (And.right (And.right (by with_reducible assumption)))))))
    | exact Nat.ne_of_lt (And.left (And.right (And.right (And.right (And.right (And.right (And.right (And.right (by with_reducible assumption)))))))))
    | exact Nat.ne_of_lt (And.right (And.right (And.right (And.right (And.right (And.right (And.right (by with_reducible assumption))))))))
    | exact Nat.ne_of_gt (And.left (And.right (And.right (And.right (And.right (And.right (And.right (And.right (by with_reducible assumption)))))))))
    | exact Nat.ne_of_gt (And.right (And.right (And.right (And.right (And.right (And.right (And.right (by with_reducible assumption))))))))
    | exact Nat.ne_of_lt (And.left (And.right (And.right (And.right (And.right (And.right (And.right (And.right (And.right (by with_reducible assumption))))))))))
    | exact Nat.ne_of_lt (And.right (And.right (And.right (And.right (And.right (And.right (And.right (And.right (by with_reducible assumption)))))))))
    | exact Nat.ne_of_gt (And.left (And.right (And.right (And.right (And.right (And.right (And.right (And.right (And.right (by with_reducible assumption))))))))))
    | exact Nat.ne_of_gt (And.right (And.right (And.right (And.right (And.right (And.right (And.right (And.right (by with_reducible assumption)))))))))
    | exact Nat.ne_of_lt (And.left (And.right (And.right (And.right (And.right (And.right (And.right (And.right (And.right (And.right (by with_reducible assumption)))))))))))
    | exact Nat.ne_of_lt (And.right (And.right (And.right (And.right (And.right (And.right (And.right (And.right (And.right (by with_reducible assumption))))))))))
    | exact Nat.ne_of_gt (And.left (And.right (And.right (And.right (And.right (And.right (And.right (And.right (And.right (And.right (by with_reducible assumption)))))))))))
    | exact Nat.ne_of_gt (And.right (And.right (And.right (And.right (And.right (And.right (And.right (And.right (And.right (by with_reducible assumption))))))))))
    | exact Nat.ne_of_lt (And.left (And.right (And.right (And.right (And.right (And.right (And.right (And.right (And.right (And.right (And.right (by with_reducible assumption))))))))))))
    | exact Nat.ne_of_lt (And.right (And.right (And.right (And.right (And.right (And.right (And.right (And.right (And.right (And.right (by with_reducible assumption)))))))))))
    | exact Nat.ne_of_gt (And.left (And.right (And.right (And.right (And.right (And.right (And.right (And.right (And.right (And.right (And.right (by with_reducible assumption))))))))))))
    | exact Nat.ne_of_gt (And.right (And.right (And.right (And.right (And.right (And.right (And.right (And.right (And.right (And.right (by with_reducible assumption))))))))))))
  (k_with "room" => first
    | exact roomA (by with_reducible assumption) (by decide)
    | exact roomB (by with_reducible assumption) (by decide)
    | exact room0 (by with_reducible assumption))
  (k_with "m_k_mem" => ((repeat (first | (with_reducible exact List.mem_cons_self) | refine' List.mem_cons_of_mem _ ?_)); (first | done | with_reducible assumption)))
  (k_with "m_is_list" => (refine' isListN ?N9 ?M9; (case N9 => k_asm); (case M9 => k_mem)))
  (k_with "m_k_all" => first | assumption | exact all_ne (by assumption) | exact all_ne (And.right (by assumption)) | exact all_ne (And.right (And.right (by assumption))) | exact all_ne (And.right (And.right (And.right (by assumption)))) | exact List.forall_mem_append.mpr ⟨by k_all, by k_all⟩)
  (k_with "m_kst_facts1" => first | exact IntsAre.nil | assumption | exact IntsAre.append (by assumption) (IntsAre.cons _ _ IntsAre.nil))
  (k_with "binaryOp LShift int int" => (k_here; (with_unfolding_all refine' lshift_int_small ?k1 ?k2 ?k3 ?_; (case k1 => omega); (case k2 => omega); (case k3 => first | omega | exact limN (by assumption) (by assumption) (by assumption) _))))
  (k_with "CompSrc" => (k_here; k_dflt (first | k_extra "src1" | k_extra "src2")))
  (k_with "CompEnd" => (k_here; k_dflt (first | k_extra "cend1" | k_extra "cend2")))
  (k_with "subscriptTail Subscript" => (k_here; k_dflt (first | k_extra "t0" | k_extra "t1")))
  (k_with "binaryOp Pow int int" => (k_here; (with_unfolding_all refine' pow_int_small ?pw1 ?pw2 ?pw3 ?_; (case pw1 => exact (shw_sum _ _ _).1); (case pw2 => exact Int.le_trans (shw_sum _ _ _).2 (by decide)); (case pw3 => (law_clear; omega)))))
  (k_with "compareOp In ref ref" => (k_here; k_dflt (k_extra "in2")))
  (k_with "subscriptTail Name Name ref int" => (k_here; k_dflt (k_extra "item")))
  (k_with "subscriptTail Name Constant ref int" => (k_here; k_dflt (first | k_extra "t0" | k_extra "t1")))
  (k_with "subscriptTail" => (k_here; (with_reducible show wpAny _ _ (subscriptTail (PySem.Expr.List _ _) _ (Value.ref _) (Value.int _ _)) _ _ _); (with_unfolding_all refine' item_menu4 ?k1 ?k2 ?k3 ?_ ?k6; (case k1 => is_list); (case k2 => omega); (case k3 => omega); (case k6 => with_unfolding_all rfl)); intro x9 t9 hx9; (first | (have hx8 : 1 ≤ x9 ∧ x9 ≤ 7 ∧ x9 % 2 = 1 := by omega) | (have hx8 : -3 ≤ x9 ∧ x9 ≤ 3 ∧ x9 % 2 = 1 := by omega)); clear hx9))
  (k_with "compareOp In" => (k_here; k_dflt (first | k_extra "in1" | k_extra "in2")))
  (k_with "exec For Name Call cons nil" => (k_here; (rename Fr _ _ _ _ => lF'); (with_unfolding_all refine' For_turns lF' ?_); k_whole))
  (k_with "pyIter ref" => (k_here; (with_reducible show wpAny _ _ (pyIter (Value.ref _)) (fun it s₂ => TurnsAt _ _ _ _ _ _ _ _ _ it s₂) _ _); k_extra "rng"))
  (k_with "subscriptTail Name Slice ref ref" => (k_here; k_dflt (k_extra "slice")))
  (k_with "call ref" => (
      k_here
      (show wpAny _ _ (call (Value.ref 135) _) _ _ _)
      k_dflt (
        refine' Ctr.use (c_next2 _ _ _ _ _ _ _ _ _ _ _ _ _) ?k1 ?k2 ?k3 ?k4 ?k5 ?kK ?ka ?kd ?ku ?_
        (case k1 => k_asm)
        (case k2 => k_asm)
        (case k3 => first | k_asm | k_in)
        (case k4 => k_asm)
        (case k5 => k_asm)
        (case kK => first | exact rfl | assumption)
        (case ka => (refine' And.intro ?a1 (And.intro ?a2 (And.intro ?a3 (And.intro ?a4 (And.intro ?a5 (And.intro ?a6 (And.intro ?a7 (And.intro ?a8 ?a9))))))); (case a1 => (intro t8 c8; k_upd)); (case a2 => k_mem); (case a3 => first | assumption | l_ints); (case a4 => first | omega | ((simp only [List.length_map, List.length_take]); omega) | (simp; omega)); (case a5 => k_ne); (case a6 => omega); (case a7 => omega); (case a8 => omega); (case a9 => omega)))
        (case kd => ktr_room)
        (case ku => ktr_units))
      intro v9 t9 u9 c9 hv9 hw9 h9 tk9 F9 N9
      (try k_sweep); (try dsimp only); (try k_fold)))
  (k_with "call ref" => (
      k_here
      (show wpAny _ _ (call (Value.ref 163) _) _ _ _)
      k_dflt (
        refine' Ctr.use (c_law_row _ _ _ _ _ _ _ _ _ _) ?k1 ?k2 ?k3 ?k4 ?k5 ?kK ?ka ?kd ?ku ?_
        (case k1 => k_asm)
        (case k2 => k_asm)
        (case k3 => first | k_asm | k_in)
        (case k4 => k_asm)
        (case k5 => k_asm)
        (case kK => first | exact rfl | assumption)
        (case ka => (refine' And.intro ?a1 (And.intro ?a2 (And.intro ?a3 (And.intro ?a4 (And.intro ?a5 (And.intro ?a6 (And.intro ?a7 (And.intro ?a8 (And.intro ?a9 ?a10)))))))); (case a1 => (law_clear; omega)); (case a2 => (law_clear; omega)); (case a3 => (law_clear; omega)); (case a4 => (law_clear; omega)); (case a5 => (law_clear; omega)); (case a6 => (law_clear; omega)); (case a7 => (law_clear; omega)); (case a8 => (law_clear; omega)); (case a9 => (law_clear; omega)); (case a10 => (law_clear; omega))))
        (case kd => ktr_room)
        (case ku => ktr_units))
      intro d9 l9 c9 n9 vs9 tv9 hA9 hB9 hI9 h9 tk9 F9 N9
      (try dsimp only)))
  k_go0
  (all_goals try k_fold)
  (k_with "src1" => (
     (rename IsRange _ _ _ _ _ _ _ _ => rgX)
     (rename Fr _ _ _ _ => lF')
     (rename News _ _ _ _ => lN')
     (rename _ = Data.cell (some (Value.int (_ - 20) _)) => hcF)
     (rename 1 ≤ _ ∧ _ ≤ 7 ∧ _ % 2 = 1 => hoO)
     (rename -3 ≤ _ ∧ _ ≤ 3 ∧ _ % 2 = 1 => hmM)
     (have lN2 : News _ _ _ [_, _, _, _] := newsDrop 8 lN')
     (clear lN')
     (refine LCg.CompSrc.range (n := 8) (by rfl) lF' lN2 rgX (by first | decide | rfl) (by first | rfl | decide) (by exact Nat.le_of_ble_eq_true rfl) ?_)
     (intro g')
     (refine' rw_go hoO hmM hcF ?_ ?_)
     (intro rs rt I oI C oC D m₂ rh rtk rE' hlen hC hx rF rN off ne
      dsimp only [List.cons_append, List.nil_append] at rN off
      clear lF' lN2
      rotate_left
      intro rs hlen hok
      clear lF' lN2
      rotate_left)))
  (k_with "cend1" => (
     (refine' rw_turn_end (a := _) ?k1 ?k2 ?k3 ?k4 ?k5 ?k6 ?k7 ?k8)
     (case k1 => k_asm)
     (case k2 => k_asm)
     (case k3 => assumption)
     (case k4 => assumption)
     (case k5 => assumption)
     (case k6 => rfl)
     (case k7 => assumption)
     (case k8 => first | rfl | omega)))
  (k_with "in1" => (
     (rename News _ _ _ _ => lN')
     (refine' rw_none lN' ?k1 ?k2 (by assumption) ?k3 ?_)
     (case k1 => k_mem)
     (case k2 => intro p hp; simp only [List.mem_cons, hp, or_true])
     (case k3 => ktr_units)))
  (k_with "rng" => (
     (rename Fr _ _ _ _ => lF')
     (rename News _ _ _ _ => lN')
     (rename IsRange _ _ _ _ _ _ _ _ => rgX)
     (with_unfolding_all refine' rw_range [Str.ofString "at"] ?hh rgX lF' lN' ?_ ?_)
     (case hh => with_unfolding_all exact rfl)
     (intro ri rt ru rh rtk rI rob hri hne hrcls rF rN
      clear lF' lN'
      (try k_fold)
      rotate_left
      intro ru rh rtk rF rN
      clear lF' lN'
      (try k_fold)
      rotate_left)))
  (k_with "item" => (
     (rename News _ _ _ _ => lN')
     (refine' rw_item lN' ?k1 ?k2 ?k3 ?k4 (by assumption) (by assumption) ?_ ?k5)
     (case k1 => k_mem)
     (case k2 => intro p hp; simp only [List.mem_cons, hp, or_true])
     (case k3 => omega)
     (case k4 => omega)
     (case k5 => with_unfolding_all rfl)
     (intro it il ius iu ic itv hir hii iN
      clear lN')))
  (k_with "t0" => (
     (rename News _ _ _ _ => lN')
     (with_reducible refine' rw_t0 lN' ?tk1 ?_ ?tk2)
     (case tk1 => k_mem)
     (case tk2 => with_unfolding_all rfl)))
  (k_with "t1" => (
     (rename News _ _ _ _ => lN')
     (with_reducible refine' rw_t1 lN' ?tk1 ?_ ?tk2)
     (case tk1 => k_mem)
     (case tk2 => with_unfolding_all rfl)))
  (k_with "slice" => (
     (rename Fr _ _ _ _ => lF')
     (rename News _ _ _ _ => lN')
     (refine' kmk_slice_lit lF' lN' ?sk1 ?sk2 ?sk3 ?sk4 ?_ ?sk5 ?sk6 ?sk7)
     (case sk1 => exact News.isList lN' (by k_mem))
     (case sk2 => exact IsPart.none)
     (case sk3 => exact IsPart.int _ _)
     (case sk4 => exact rw_upto (by omega))
     (case sk5 => with_unfolding_all rfl)
     (case sk6 => kmk_pure)
     (case sk7 => exact rw_size (by assumption))
     (intro sD sh sF sN sl1
      clear lF' lN' sl1)))
  (k_with "src2" => (
     (rename Fr _ _ _ _ => lF')
     (rename News _ _ _ _ => lN')
     (refine' LCg.CompSrc.ledger (by rfl) lF' lN' ?sm ?ssz ?_)
     (case sm => k_mem)
     (case ssz => exact rw_size2 (by assumption))
     (intro g')
     (refine' rw_rest2 _ _ ?shin ?_ ?_ rfl)
     (case shin => intro p hp; have hp := rwLed_take hp; simp only [List.mem_cons, hp, or_true])
     (intro t₂ l₂ v₂ tv₂ c₂ I oI C oC D m₂ ys rh rtk rE' hC hx rF rN off ne
      clear lF' lN'
      rotate_left
      clear lF' lN'
      rotate_left)))
  (k_with "cend2" => (
     (refine' rw_end2 ?k1 ?k2 ?k3 ?k4)
     (case k1 => k_asm)
     (case k2 => k_asm)
     (case k3 => assumption)
     (case k4 => exact Or.inr ⟨_, by k_mem, rfl, _, rfl⟩)))
  (k_with "in2" => (
     (rename News _ _ _ _ => lN')
     (refine' rw_in lN' ?k1 ?k2 ?k3 ?k4 ?k5 ?k6 ?_)
     (case k1 => k_mem)
     (case k2 => k_mem)
     (case k3 => intro p hp; have hp := rwLed_take hp; simp only [List.mem_cons, hp, or_true])
     (case k4 => assumption)
     (case k5 => exact rw_unlike hoO.2.2 (by assumption) (by assumption) (by assumption))
     (case k6 => ktr_units)))
  k_steps
  · rename News _ _ _ (_ :: _) => hN
    refine' rw_range_end ?hF hN ?hI ?hs hne ?hr
    case hF => k_asm
    case hI => k_mem
    case hs => intro p hp; repeat (first | exact hp | refine' List.mem_cons_of_mem _ ?_)
    case hr =>
      intro z z5
      simp only [List.contains_cons, List.contains_nil, Bool.or_false, beq_eq_false_iff_ne, ne_eq] at z5
      simp [z5]
  · rw [(far_law _ _ _ _).2, beq_self_eq_true]
    k_steps
  · rw [(far_law _ _ _ _).1]
    simp only [decide_true]
    k_steps)

end Mine
theorem PySem.Challenge.cw_xm0436_01_holds : PySem.Challenge.rw_xm0436_01.Holds :=
  Mine.law_holds
