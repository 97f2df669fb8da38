import PyProof.Rows.All
import Wide.All
import OpenK.AllK
import Wide.FinOn
import HandS.ForMost
import HandS.Wide
import HandS.WideBits
import HandS.Gcd
import HandS.Defaults
import HandS.DictComp
import HandS.NoneIn
import HandS.Deep
import HandS.FStr
import PySem.Challenge.RW_sparewatts_k35_whole_why_four_times_is_e
import HandS.SetBool
import HandS.Strs
import HandS.Rev
set_option Elab.async false
set_option linter.all false
/-! cells, prices, certificates (plain Lean) -/
namespace SW

theorem rsq (a : Rat) : 0 ≤ a * a := by
  rcases Rat.le_total (a := 0) (b := a) with h | h
  · exact Rat.mul_nonneg h h
  · have : 0 ≤ (-a) * (-a) := Rat.mul_nonneg (by grind) (by grind)
    grind

/-- the part of the cell [k, k + 1) that lies behind m -/
def cl (m : Rat) (k : Nat) : Rat := if m ≤ (k : Rat) then 1 else if m < (k : Rat) + 1 then (k : Rat) + 1 - m else 0
theorem cl_nonneg (m : Rat) (k : Nat) : 0 ≤ cl m k := by unfold cl; grind
theorem cl_pos {m : Rat} {k : Nat} (h : m < (k : Rat) + 1) : 0 < cl m k := by unfold cl; grind
theorem cl_zero {m : Rat} {k : Nat} (h : (k : Rat) + 1 ≤ m) : cl m k = 0 := by unfold cl; grind

/-- the sum of f over the cells before d -/
def cs (f : Nat → Rat) : Nat → Rat
  | 0 => 0
  | d + 1 => cs f d + f d

/-- what a machine with the prices p as speeds does from m to d -/
def Hs (p : Nat → Rat) (m : Rat) (d : Nat) : Rat := cs (fun k => p k * cl m k) d

theorem cs_le {f g : Nat → Rat} : ∀ {d : Nat}, (∀ k, k < d → f k ≤ g k) → cs f d ≤ cs g d
  | 0, _ => by simp [cs]
  | d + 1, h => by
    have h1 := cs_le (f := f) (g := g) (d := d) fun k hk => h k (by omega)
    have h2 := h d (by omega)
    simp only [cs]; grind
theorem cs_congr {f g : Nat → Rat} {d : Nat} (h : ∀ k, k < d → f k = g k) : cs f d = cs g d := by
  have h1 := cs_le (f := f) (g := g) (d := d) fun k hk => by rw [h k hk]; exact Rat.le_refl
  have h2 := cs_le (f := g) (g := f) (d := d) fun k hk => by rw [h k hk]; exact Rat.le_refl
  grind
theorem cs_nonneg {f : Nat → Rat} {d : Nat} (h : ∀ k, k < d → 0 ≤ f k) : 0 ≤ cs f d := by
  have h1 := cs_le (f := fun _ => 0) (g := f) (d := d) h
  have h2 : ∀ d, cs (fun _ => (0 : Rat)) d = 0 := fun d => by
    induction d with
    | zero => rfl
    | succ d ih => simp only [cs]; grind
  grind
theorem cs_add {f g : Nat → Rat} : ∀ {d : Nat}, cs (fun k => f k + g k) d = cs f d + cs g d
  | 0 => by simp [cs]; grind
  | d + 1 => by have := cs_add (f := f) (g := g) (d := d); simp only [cs]; grind
theorem cs_mul {f : Nat → Rat} {c : Rat} : ∀ {d : Nat}, cs (fun k => c * f k) d = c * cs f d
  | 0 => by simp [cs]
  | d + 1 => by have := cs_mul (f := f) (c := c) (d := d); simp only [cs]; grind
/-- between two places -/
theorem cs_mono_diff {f g : Nat → Rat} {a : Nat} : ∀ {d : Nat}, a ≤ d → (∀ k, a ≤ k → k < d → f k ≤ g k) → cs f d - cs f a ≤ cs g d - cs g a
  | 0, h, _ => by have : a = 0 := by omega
                  subst this; grind
  | d + 1, h, hk => by
    by_cases e : a = d + 1
    · subst e; grind
    · have h1 := cs_mono_diff (f := f) (g := g) (a := a) (d := d) (by omega) fun k h1 h2 => hk k h1 (by omega)
      have h2 := hk d (by omega) (by omega)
      simp only [cs]; grind

/-! sums over lists -/
def ls {α : Type} (f : α → Rat) : List α → Rat
  | [] => 0
  | a :: r => f a + ls f r
section
variable {α : Type} {f g : α → Rat} {c : Rat}
theorem ls_le : ∀ {A : List α}, (∀ a ∈ A, f a ≤ g a) → ls f A ≤ ls g A
  | [], _ => Rat.le_refl
  | a :: r, h => by
    have h1 := ls_le (A := r) fun b hb => h b (List.mem_cons_of_mem _ hb)
    have h2 := h a List.mem_cons_self
    simp only [ls]; grind
theorem ls_congr : ∀ {A : List α}, (∀ a ∈ A, f a = g a) → ls f A = ls g A
  | [], _ => rfl
  | a :: r, h => by
    have h1 := ls_congr (A := r) fun b hb => h b (List.mem_cons_of_mem _ hb)
    have h2 := h a List.mem_cons_self
    simp only [ls]; grind
theorem ls_zero {A : List α} (h : ∀ a ∈ A, f a = 0) : ls f A = 0 := by
  induction A with
  | nil => rfl
  | cons a r ih =>
    have h1 := ih fun b hb => h b (List.mem_cons_of_mem _ hb)
    have h2 := h a List.mem_cons_self
    simp only [ls]; grind
theorem ls_nonneg {A : List α} (h : ∀ a ∈ A, 0 ≤ f a) : 0 ≤ ls f A := by
  have h1 := ls_le (f := fun _ => 0) (g := f) (A := A) h
  have h2 : ls (fun _ : α => (0 : Rat)) A = 0 := ls_zero fun _ _ => rfl
  grind
theorem ls_add : ∀ {A : List α}, ls (fun a => f a + g a) A = ls f A + ls g A
  | [] => by simp [ls]; grind
  | a :: r => by have := ls_add (A := r); simp only [ls]; grind
theorem ls_sub : ∀ {A : List α}, ls (fun a => f a - g a) A = ls f A - ls g A
  | [] => by simp [ls]; grind
  | a :: r => by have := ls_sub (A := r); simp only [ls]; grind
theorem ls_mul : ∀ {A : List α}, ls (fun a => c * f a) A = c * ls f A
  | [] => by simp [ls]
  | a :: r => by have := ls_mul (A := r); simp only [ls]; grind
theorem ls_append : ∀ {A B : List α}, ls f (A ++ B) = ls f A + ls f B
  | [], B => by simp [ls]; grind
  | a :: r, B => by have := ls_append (A := r) (B := B); simp only [List.cons_append, ls]; grind
theorem ls_perm {A B : List α} (h : A.Perm B) : ls f A = ls f B := by
  induction h with
  | nil => rfl
  | cons a _ ih => simp only [ls]; grind
  | swap a b r => simp only [ls]; grind
  | trans _ _ h1 h2 => grind
theorem ls_filter (q : α → Bool) : ∀ (A : List α), ls f (A.filter q) = ls (fun a => if q a = true then f a else 0) A
  | [] => rfl
  | a :: r => by
    have := ls_filter q r
    by_cases h : q a = true
    · rw [List.filter_cons_of_pos h]; simp only [ls]; grind
    · rw [List.filter_cons_of_neg h]; simp only [ls]; grind
theorem ls_map {β : Type} (h : β → α) : ∀ (B : List β), ls f (B.map h) = ls (fun b => f (h b)) B
  | [] => rfl
  | b :: r => by have := ls_map h r; simp only [List.map_cons, ls]; grind
end

/-! jobs, and what a certificate says -/
structure Jb (N : Type) where
  nm : N
  cm : Int
  du : Int
  wk : Rat
section
variable {N : Type}
/-- the work l of the jobs that are due at d or before -/
def Wd (A : List (Jb N)) (l : Jb N → Rat) (d : Nat) : Rat := ls (fun j => if j.du ≤ (d : Int) then l j else 0) A
/-- at m the least prices for the left works l are p -/
structure Cert (m : Rat) (p : Nat → Rat) (A : List (Jb N)) (l : Jb N → Rat) : Prop where
  mono : ∀ k, p (k + 1) ≤ p k
  pos : ∀ k, 0 ≤ p k
  fin : ∃ K, ∀ k, K ≤ k → p k = 0
  lpos : ∀ j ∈ A, 0 ≤ l j
  late : ∀ j ∈ A, (j.du : Rat) ≤ m → l j = 0
  cap : ∀ d : Nat, Wd A l d ≤ Hs p m d
  tight : ∀ d, p (d + 1) < p d → Wd A l (d + 1) = Hs p m (d + 1)

theorem mono_le {p : Nat → Rat} (h : ∀ k, p (k + 1) ≤ p k) {i k : Nat} (hk : i ≤ k) : p k ≤ p i := by
  induction hk with
  | refl => exact Rat.le_refl
  | step _ ih => exact Rat.le_trans (h _) ih
section
variable {m : Rat} {p q : Nat → Rat} {A : List (Jb N)} {l l' : Jb N → Rat}
theorem Wd_zero (C : Cert m p A l) (h0 : 0 ≤ m) : Wd A l 0 = 0 := ls_zero fun j hj => by
  have := C.late j hj
  split
  · rename_i h
    apply this
    have h2 : ((j.du : Int) : Rat) ≤ ((0 : Int) : Rat) := Rat.intCast_le_intCast.mpr (by simpa using h)
    have h3 : ((0 : Int) : Rat) = 0 := rfl
    grind
  · rfl
theorem Cert.low (C : Cert m q A l) (h0 : 0 ≤ m) : ∀ k, ∃ a, a ≤ k ∧ (∀ i, a ≤ i → i ≤ k → q i = q k) ∧ Wd A l a = Hs q m a
  | 0 => ⟨0, Nat.le_refl _, fun i _ h => by have : i = 0 := by omega
                                            subst this; rfl, by rw [Wd_zero C h0]; rfl⟩
  | k + 1 => by
    by_cases e : q (k + 1) = q k
    · obtain ⟨a, h1, h2, h3⟩ := C.low h0 k
      refine ⟨a, by omega, fun i hi hk => ?_, h3⟩
      by_cases ei : i = k + 1
      · rw [ei]
      · rw [h2 i hi (by omega), e]
    · have h := C.mono k
      exact ⟨k + 1, Nat.le_refl _, fun i h1 h2 => by have : i = k + 1 := by omega
                                                     rw [this], C.tight k (by grind)⟩
theorem Cert.high (C : Cert m p A l) : ∀ (n k : Nat), (∀ i, k + n ≤ i → p i = 0) → 0 < p k → ∃ b, k < b ∧ (∀ i, k ≤ i → i < b → p i = p k) ∧ Wd A l b = Hs p m b
  | 0, k, h, hp => by have := h k (by omega); grind
  | n + 1, k, h, hp => by
    by_cases e : p (k + 1) = p k
    · obtain ⟨b, h1, h2, h3⟩ := C.high n (k + 1) (fun i hi => h i (by omega)) (by grind)
      refine ⟨b, by omega, fun i hi hk => ?_, h3⟩
      by_cases ei : i = k
      · rw [ei]
      · rw [h2 i (by omega) (by omega), e]
    · have hm := C.mono k
      exact ⟨k + 1, by omega, fun i h1 h2 => by have : i = k := by omega
                                                rw [this], C.tight k (by grind)⟩
theorem cl_cs_pos {k a b : Nat} (h : m < (k : Rat) + 1) (ha : a ≤ k) (hb : k < b) : 0 < cs (cl m) b - cs (cl m) a := by
  have h1 := cs_mono_diff (f := fun i => if i = k then cl m k else 0) (g := cl m) (a := a) (d := b) (by omega) fun i _ _ => by
    split
    · rename_i e; rw [e]; exact Rat.le_refl
    · exact cl_nonneg m i
  have h2 : ∀ d, cs (fun i => if i = k then cl m k else 0) d = if k < d then cl m k else 0 := fun d => by
    induction d with
    | zero => simp [cs]
    | succ d ih => simp only [cs, ih]; grind
  rw [h2, h2] at h1
  have := cl_pos h
  grind
/-- more work, higher prices -/
theorem Cert.rise (C : Cert m p A l) (D : Cert m q A l') (h0 : 0 ≤ m) (hl : ∀ j ∈ A, l j ≤ l' j) {k : Nat} (hk : m < (k : Rat) + 1) : p k ≤ q k := by
  apply Rat.not_lt.mp
  intro hlt
  have hp : 0 < p k := by have := D.pos k; grind
  obtain ⟨K, hK⟩ := C.fin
  obtain ⟨a, ha, ha2, ha3⟩ := D.low h0 k
  obtain ⟨b, hb, hb2, hb3⟩ := C.high K k (fun i hi => hK i (by omega)) hp
  have c1 := cs_mono_diff (f := fun i => p k * cl m i) (g := fun i => p i * cl m i) (a := a) (d := b) (by omega) fun i h1 h2 => by
    apply Rat.mul_le_mul_of_nonneg_right _ (cl_nonneg m i)
    by_cases e : i ≤ k
    · exact mono_le C.mono e
    · rw [hb2 i (by omega) h2]; exact Rat.le_refl
  have c2 := cs_mono_diff (f := fun i => q i * cl m i) (g := fun i => q k * cl m i) (a := a) (d := b) (by omega) fun i h1 h2 => by
    apply Rat.mul_le_mul_of_nonneg_right _ (cl_nonneg m i)
    by_cases e : i ≤ k
    · rw [ha2 i h1 e]; exact Rat.le_refl
    · exact mono_le D.mono (by omega)
  have c3 := C.cap a
  have c4 := D.cap b
  have c5 : Wd A l b - Wd A l a ≤ Wd A l' b - Wd A l' a := by
    unfold Wd
    rw [← ls_sub, ← ls_sub]
    apply ls_le
    intro j hj
    have := hl j hj
    split <;> split <;> first | grind | (exfalso; omega)
  have c6 := cl_cs_pos (m := m) hk ha hb
  rw [cs_mul, cs_mul] at c1 c2
  unfold Hs at ha3 hb3 c3 c4
  have c7 : p k * (cs (cl m) b - cs (cl m) a) ≤ q k * (cs (cl m) b - cs (cl m) a) := by grind
  have c8 : 0 < (p k - q k) * (cs (cl m) b - cs (cl m) a) := Rat.mul_pos (by grind) c6
  grind
end
end
end SW

set_option Elab.async false
set_option linter.all false
/-! the energy and the potential -/
namespace SW
section
variable {N : Type} {m : Rat} {p q : Nat → Rat} {A : List (Jb N)} {l l' : Jb N → Rat}
/-- the price at a job's due time -/
def pd (p : Nat → Rat) (j : Jb N) : Rat := p (j.du.toNat - 1)

theorem abel_one {q : Nat → Rat} {c : Rat} {du : Int} (h1 : 1 ≤ du) : ∀ {K : Nat},
    cs (fun k => q k * ((if du ≤ ((k + 1 : Nat) : Int) then c else 0) - (if du ≤ (k : Int) then c else 0))) K = if du ≤ (K : Int) then q (du.toNat - 1) * c else 0
  | 0 => by simp only [cs]; rw [if_neg (by omega)]
  | K + 1 => by
    have ih := abel_one (q := q) (c := c) h1 (K := K)
    simp only [cs, ih]
    by_cases e : du ≤ (K : Int)
    · have e2 : du ≤ ((K + 1 : Nat) : Int) := by omega
      rw [if_pos e, if_pos e2]; grind
    · by_cases e2 : du ≤ ((K + 1 : Nat) : Int)
      · have e3 : du.toNat - 1 = K := by omega
        rw [if_neg e, if_pos e2, e3]; grind
      · rw [if_neg e, if_neg e2]; grind
theorem abel_eq {q : Nat → Rat} {K : Nat} : ∀ {A : List (Jb N)}, (∀ j ∈ A, 1 ≤ j.du ∧ j.du ≤ (K : Int)) →
    ls (fun j => pd q j * l j) A = cs (fun k => q k * (Wd A l (k + 1) - Wd A l k)) K
  | [], _ => by
    have : ∀ K, cs (fun k => q k * (Wd ([] : List (Jb N)) l (k + 1) - Wd [] l k)) K = 0 := fun K => by
      induction K with
      | zero => rfl
      | succ K ih =>
        have e : ∀ d, Wd ([] : List (Jb N)) l d = 0 := fun d => rfl
        rw [cs, ih, e, e]; grind
    rw [this]; rfl
  | j :: r, h => by
    have ih := abel_eq (q := q) (A := r) fun b hb => h b (List.mem_cons_of_mem _ hb)
    obtain ⟨h1, h2⟩ := h j List.mem_cons_self
    have e1 := abel_one (q := q) (c := l j) h1 (K := K)
    rw [if_pos h2] at e1
    have e2 : cs (fun k => q k * (Wd (j :: r) l (k + 1) - Wd (j :: r) l k)) K = cs (fun k => q k * ((if j.du ≤ ((k + 1 : Nat) : Int) then l j else 0) - (if j.du ≤ (k : Int) then l j else 0)) + q k * (Wd r l (k + 1) - Wd r l k)) K :=
      cs_congr fun k _ => by simp only [Wd, ls]; grind
    rw [e2, cs_add, e1, ← ih]
    simp only [ls, pd]
theorem abel_le (C : Cert m p A l) (h0 : 0 ≤ m) (hq : ∀ k, q (k + 1) ≤ q k) (hq0 : ∀ k, 0 ≤ q k) : ∀ K, q K * (Hs p m (K + 1) - Wd A l (K + 1)) ≤ cs (fun k => q k * (p k * cl m k) - q k * (Wd A l (k + 1) - Wd A l k)) (K + 1)
  | 0 => by
    have h := Wd_zero C h0
    simp only [cs, Hs, Nat.zero_add]
    rw [h]; grind
  | K + 1 => by
    have ih := abel_le C h0 hq hq0 K
    have h1 := C.cap (K + 1)
    have h2 : (q (K + 1)) * (Hs p m (K + 1) - Wd A l (K + 1)) ≤ q K * (Hs p m (K + 1) - Wd A l (K + 1)) := Rat.mul_le_mul_of_nonneg_right (hq K) (by grind)
    have h3 : Hs p m (K + 1 + 1) = Hs p m (K + 1) + p (K + 1) * cl m (K + 1) := rfl
    have h4 : ∀ f : Nat → Rat, cs f (K + 1 + 1) = cs f (K + 1) + f (K + 1) := fun f => rfl
    rw [h4, h3]; grind
theorem abel_tight (C : Cert m p A l) (h0 : 0 ≤ m) : ∀ K, p K * (Hs p m (K + 1) - Wd A l (K + 1)) = cs (fun k => p k * (p k * cl m k) - p k * (Wd A l (k + 1) - Wd A l k)) (K + 1)
  | 0 => by
    have h := Wd_zero C h0
    simp only [cs, Hs, Nat.zero_add]
    rw [h]; grind
  | K + 1 => by
    have ih := abel_tight C h0 K
    have h2 : (p (K + 1)) * (Hs p m (K + 1) - Wd A l (K + 1)) = p K * (Hs p m (K + 1) - Wd A l (K + 1)) := by
      by_cases e : p (K + 1) = p K
      · rw [e]
      · have := C.tight K (by have := C.mono K; grind)
        grind
    have h3 : Hs p m (K + 1 + 1) = Hs p m (K + 1) + p (K + 1) * cl m (K + 1) := rfl
    have h4 : ∀ f : Nat → Rat, cs f (K + 1 + 1) = cs f (K + 1) + f (K + 1) := fun f => rfl
    rw [h4, h3]; grind
theorem cs_sub {f g : Nat → Rat} : ∀ {d : Nat}, cs (fun k => f k - g k) d = cs f d - cs g d
  | 0 => by simp [cs]; grind
  | d + 1 => by have := cs_sub (f := f) (g := g) (d := d); simp only [cs]; grind
/-- a horizon of both prices and of the due times -/
theorem horizon {K1 K2 : Nat} (A : List (Jb N)) : ∃ K : Nat, K1 ≤ K ∧ K2 ≤ K ∧ ∀ j ∈ A, j.du ≤ ((K + 1 : Nat) : Int) := by
  induction A with
  | nil => exact ⟨K1 + K2, by omega, by omega, fun _ h => nomatch h⟩
  | cons a r ih =>
    obtain ⟨K, h1, h2, h3⟩ := ih
    refine ⟨K + a.du.toNat, by omega, by omega, fun j hj => ?_⟩
    rcases List.mem_cons.mp hj with rfl | hj
    · omega
    · have := h3 j hj; omega
theorem energy_le (C : Cert m p A l) (h0 : 0 ≤ m) (hq : ∀ k, q (k + 1) ≤ q k) (hq0 : ∀ k, 0 ≤ q k) {K : Nat} (hA : ∀ j ∈ A, 1 ≤ j.du ∧ j.du ≤ ((K + 1 : Nat) : Int)) :
    ls (fun j => pd q j * l j) A ≤ cs (fun k => q k * (p k * cl m k)) (K + 1) := by
  have h := abel_le C h0 hq hq0 K
  rw [cs_sub, ← abel_eq hA] at h
  have h1 := C.cap (K + 1)
  have h2 : 0 ≤ q K * (Hs p m (K + 1) - Wd A l (K + 1)) := Rat.mul_nonneg (hq0 K) (by grind)
  grind
theorem energy_eq (C : Cert m p A l) (h0 : 0 ≤ m) {K : Nat} (hK : p K = 0) (hA : ∀ j ∈ A, 1 ≤ j.du ∧ j.du ≤ ((K + 1 : Nat) : Int)) :
    ls (fun j => pd p j * l j) A = cs (fun k => p k * (p k * cl m k)) (K + 1) := by
  have h := abel_tight C h0 K
  rw [cs_sub, ← abel_eq hA, hK] at h
  grind
/-- the energy is convex: its slope at more work -/
theorem energy_slope (C : Cert m p A l) (D : Cert m q A l') (h0 : 0 ≤ m) (hA : ∀ j ∈ A, 1 ≤ j.du) :
    2 * ls (fun j => pd q j * l j) A ≤ ls (fun j => pd p j * l j) A + ls (fun j => pd q j * l' j) A := by
  obtain ⟨K1, k1⟩ := C.fin
  obtain ⟨K2, k2⟩ := D.fin
  obtain ⟨K, a, b, c⟩ := horizon (K1 := K1) (K2 := K2) A
  have hA' : ∀ j ∈ A, 1 ≤ j.du ∧ j.du ≤ ((K + 1 : Nat) : Int) := fun j hj => ⟨hA j hj, c j hj⟩
  have e1 := energy_eq C h0 (k1 K a) hA'
  have e2 := energy_eq D h0 (k2 K b) hA'
  have e3 := energy_le C h0 D.mono D.pos hA'
  have e4 : cs (fun k => 2 * (q k * (p k * cl m k))) (K + 1) ≤ cs (fun k => p k * (p k * cl m k) + q k * (q k * cl m k)) (K + 1) := cs_le fun k _ => by
    have h1 := cl_nonneg m k
    have h2 := Rat.mul_nonneg (rsq (p k - q k)) h1
    grind
  rw [cs_mul, cs_add] at e4
  rw [e1, e2]
  grind
/-- behind jobs that come the potential has not grown -/
theorem arrive {X : Jb N → Rat} {old : Jb N → Bool} (C : Cert m p A l) (D : Cert m q A l') (h0 : 0 ≤ m) (hA : ∀ j ∈ A, 1 ≤ j.du)
    (ho : ∀ j ∈ A, old j = true → l j = l' j) (hn : ∀ j ∈ A, old j = false → l j = 0 ∧ X j = l' j) (hX : ∀ j ∈ A, 0 ≤ X j) (hX0 : ∀ j ∈ A, (j.du : Rat) ≤ m → X j = 0) :
    ls (fun j => pd q j * (l' j - 2 * X j)) A ≤ ls (fun j => if old j = true then pd p j * (l j - 2 * X j) else 0) A := by
  have hl : ∀ j ∈ A, l j ≤ l' j := fun j hj => by
    cases e : old j with
    | true => rw [ho j hj e]; exact Rat.le_refl
    | false => rw [(hn j hj e).1]; exact D.lpos j hj
  have s1 := energy_slope C D h0 hA
  have s2 : ls (fun j => pd q j * (l' j - 2 * X j)) A - ls (fun j => if old j = true then pd p j * (l j - 2 * X j) else 0) A ≤ ls (fun j => 2 * (pd q j * l j) - pd p j * l j - pd q j * l' j) A := by
    rw [← ls_sub]
    apply ls_le
    intro j hj
    cases e : old j with
    | true =>
      have e1 := ho j hj e
      have e2 : pd p j * X j ≤ pd q j * X j := by
        by_cases e3 : (j.du : Rat) ≤ m
        · rw [hX0 j hj e3]; grind
        · apply Rat.mul_le_mul_of_nonneg_right _ (hX j hj)
          unfold pd
          apply C.rise D h0 hl
          have := hA j hj
          have e4 : (((j.du.toNat - 1 : Nat) : Rat)) + 1 = (j.du : Rat) := by
            have : j.du = ((j.du.toNat - 1 : Nat) : Int) + 1 := by omega
            rw [this]
            simp only [Rat.intCast_add, Rat.intCast_natCast]
            rfl
          rw [e4]
          exact Rat.not_le.mp e3
      simp only [if_true]
      rw [e1]
      grind
    | false =>
      obtain ⟨e1, e2⟩ := hn j hj e
      rw [e1, e2]
      simp only [Bool.false_eq_true, if_false]
      grind
  have s3 : ls (fun j => 2 * (pd q j * l j) - pd p j * l j - pd q j * l' j) A = 2 * ls (fun j => pd q j * l j) A - ls (fun j => pd p j * l j) A - ls (fun j => pd q j * l' j) A := by
    rw [ls_sub, ls_sub, ls_mul]
  grind
end
end SW

set_option Elab.async false
set_option linter.all false
/-! plans as lists of pieces: the mirror and what a plan has done until a time -/
namespace SW
def rmin (a b : Rat) : Rat := if b < a then b else a
def rmax (a b : Rat) : Rat := if a < b then b else a
structure Pc (N : Type) where
  st : Rat
  en : Rat
  nm : N
  sp : Rat
section
variable {N : Type}
/-- the mirror of stretches -/
def strStep (b e : Rat) (s : List (Pc (Option N)) × Rat) (p : Pc N) : List (Pc (Option N)) × Rat :=
  if rmax p.st b < rmin p.en e then ((if s.2 < rmax p.st b then s.1 ++ [⟨s.2, rmax p.st b, none, 0⟩] else s.1) ++ [⟨rmax p.st b, rmin p.en e, some p.nm, p.sp⟩], rmin p.en e) else s
def strEnd (e : Rat) (s : List (Pc (Option N)) × Rat) : List (Pc (Option N)) := if s.2 < e then s.1 ++ [⟨s.2, e, none, 0⟩] else s.1
def stretches (ps : List (Pc N)) (b e : Rat) : List (Pc (Option N)) := strEnd e (ps.foldl (strStep b e) ([], b))
/-- a piece between two times -/
def clip (b e : Rat) (p : Pc N) : Option (Pc N) := if rmax p.st b < rmin p.en e then some ⟨rmax p.st b, rmin p.en e, p.nm, p.sp⟩ else none
def named (q : Pc (Option N)) : Option (Pc N) := match q.nm with
  | none => none
  | some n => some ⟨q.st, q.en, n, q.sp⟩
theorem str_named_go (b e : Rat) : ∀ (ps : List (Pc N)) (s : List (Pc (Option N)) × Rat), (strEnd e (ps.foldl (strStep b e) s)).filterMap named = s.1.filterMap named ++ ps.filterMap (clip b e)
  | [], s => by
    simp only [List.foldl_nil, List.filterMap_nil, List.append_nil]
    unfold strEnd
    by_cases h : s.2 < e
    · rw [if_pos h, List.filterMap_append]
      have : List.filterMap (named (N := N)) [⟨s.2, e, none, 0⟩] = [] := rfl
      rw [this, List.append_nil]
    · rw [if_neg h]
  | p :: r, s => by
    rw [List.foldl_cons, str_named_go b e r]
    unfold strStep
    by_cases h : rmax p.st b < rmin p.en e
    · rw [if_pos h]
      have e1 : List.filterMap (clip b e) (p :: r) = ⟨rmax p.st b, rmin p.en e, p.nm, p.sp⟩ :: List.filterMap (clip b e) r := by
        rw [List.filterMap_cons]
        unfold clip
        rw [if_pos h]
      have e2 : List.filterMap (named (N := N)) [⟨rmax p.st b, rmin p.en e, some p.nm, p.sp⟩] = [⟨rmax p.st b, rmin p.en e, p.nm, p.sp⟩] := rfl
      have e3 : List.filterMap (named (N := N)) [⟨s.2, rmax p.st b, none, 0⟩] = [] := rfl
      rw [e1]
      show List.filterMap named ((if s.2 < rmax p.st b then s.1 ++ [⟨s.2, rmax p.st b, none, 0⟩] else s.1) ++ [⟨rmax p.st b, rmin p.en e, some p.nm, p.sp⟩]) ++ _ = _
      rw [List.filterMap_append, e2]
      split
      · rw [List.filterMap_append, e3]
        simp
      · simp
    · rw [if_neg h]
      have e1 : List.filterMap (clip b e) (p :: r) = List.filterMap (clip b e) r := by
        rw [List.filterMap_cons]
        unfold clip
        rw [if_neg h]
      rw [e1]
theorem str_named (ps : List (Pc N)) (b e : Rat) : (stretches ps b e).filterMap named = ps.filterMap (clip b e) := str_named_go b e ps ([], b)
/-- what lies in the list is idle, or a clipped piece -/
theorem str_idle_go (b e : Rat) : ∀ (ps : List (Pc N)) (s : List (Pc (Option N)) × Rat), (∀ q ∈ s.1, q.nm = none → q.sp = 0) → ∀ q ∈ strEnd e (ps.foldl (strStep b e) s), q.nm = none → q.sp = 0
  | [], s, h => by
    intro q hq
    simp only [List.foldl_nil] at hq
    unfold strEnd at hq
    by_cases hs : s.2 < e
    · rw [if_pos hs] at hq
      rcases List.mem_append.mp hq with hq | hq
      · exact h q hq
      · rw [List.mem_singleton.mp hq]
        intro _
        rfl
    · rw [if_neg hs] at hq
      exact h q hq
  | p :: r, s, h => by
    rw [List.foldl_cons]
    apply str_idle_go b e r
    intro q hq
    unfold strStep at hq
    split at hq
    · simp only at hq
      rcases List.mem_append.mp hq with hq | hq
      · split at hq
        · rcases List.mem_append.mp hq with hq | hq
          · exact h q hq
          · rw [List.mem_singleton.mp hq]
            intro _
            rfl
        · exact h q hq
      · rw [List.mem_singleton.mp hq]
        intro z
        cases z
    · exact h q hq
theorem str_idle (ps : List (Pc N)) (b e : Rat) : ∀ q ∈ stretches ps b e, q.nm = none → q.sp = 0 := str_idle_go b e ps ([], b) fun _ h => nomatch h
theorem ls_named {f : Pc (Option N) → Rat} {g : Pc N → Rat} : ∀ {L : List (Pc (Option N))}, (∀ q ∈ L, q.nm = none → f q = 0) → (∀ q ∈ L, ∀ n, q.nm = some n → f q = g ⟨q.st, q.en, n, q.sp⟩) → ls f L = ls g (L.filterMap named)
  | [], _, _ => rfl
  | q :: r, h1, h2 => by
    have ih := ls_named (f := f) (g := g) (L := r) (fun x hx => h1 x (List.mem_cons_of_mem _ hx)) fun x hx => h2 x (List.mem_cons_of_mem _ hx)
    have k1 := h1 q List.mem_cons_self
    have k2 := h2 q List.mem_cons_self
    rw [List.filterMap_cons]
    cases e : q.nm with
    | none =>
      have : named q = none := by unfold named; rw [e]
      rw [this]
      simp only [ls, ih, k1 e]; grind
    | some n =>
      have : named q = some ⟨q.st, q.en, n, q.sp⟩ := by unfold named; rw [e]
      rw [this]
      simp only [ls, ih, k2 n e]

/-- how long a piece has worked until m -/
def ov (p : Pc N) (m : Rat) : Rat := if m ≤ p.st then 0 else if m ≤ p.en then m - p.st else p.en - p.st
def Sq (ps : List (Pc N)) (m : Rat) : Rat := ls (fun p => p.sp * p.sp * ov p m) ps
theorem clip_ov {p : Pc N} {m : Rat} (h0 : 0 ≤ p.st) (h1 : p.st < p.en) (f : Pc N → Rat) (g : Rat → Rat) (hf : ∀ a b, f ⟨a, b, p.nm, p.sp⟩ = g (b - a)) (hg : g 0 = 0) :
    ls f ((match clip 0 m p with | none => [] | some q => [q])) = g (ov p m) := by
  unfold clip
  by_cases h : rmax p.st 0 < rmin p.en m
  · rw [if_pos h]
    simp only [ls, hf]
    have : rmin p.en m - rmax p.st 0 = ov p m := by unfold rmin rmax ov at *; grind
    rw [this]
    grind
  · rw [if_neg h]
    have : ov p m = 0 := by unfold rmin rmax ov at *; grind
    rw [this, hg]
    rfl
theorem ls_clip {m : Rat} (f : Pc N → Rat) (g : Pc N → Rat → Rat) (hf : ∀ p a b, f ⟨a, b, p.nm, p.sp⟩ = g p (b - a)) (hg : ∀ p, g p 0 = 0) : ∀ {ps : List (Pc N)}, (∀ p ∈ ps, 0 ≤ p.st ∧ p.st < p.en) →
    ls f (ps.filterMap (clip 0 m)) = ls (fun p => g p (ov p m)) ps
  | [], _ => rfl
  | p :: r, h => by
    have ih := ls_clip (m := m) f g hf hg (ps := r) fun x hx => h x (List.mem_cons_of_mem _ hx)
    obtain ⟨h0, h1⟩ := h p List.mem_cons_self
    have e := clip_ov (m := m) h0 h1 f (g p) (hf p) (hg p)
    rw [List.filterMap_cons]
    cases q : clip 0 m p with
    | none =>
      rw [q] at e
      simp only [ls] at e ⊢
      rw [ih, ← e]; grind
    | some x =>
      rw [q] at e
      simp only [ls] at e ⊢
      rw [ih, ← e]; grind
/-- the mirror of spent_until -/
def spentUntil (ps : List (Pc N)) (m : Rat) : Rat := ls (fun q => q.sp * q.sp * (q.en - q.st)) (stretches ps 0 m)
theorem spentUntil_eq {ps : List (Pc N)} {m : Rat} (h : ∀ p ∈ ps, 0 ≤ p.st ∧ p.st < p.en) : spentUntil ps m = Sq ps m := by
  unfold spentUntil
  rw [ls_named (g := fun q => q.sp * q.sp * (q.en - q.st)) (fun q hq e => by rw [str_idle ps 0 m q hq e]; grind) (fun q _ n _ => rfl), str_named]
  exact ls_clip _ (fun p x => p.sp * p.sp * x) (fun _ _ _ => rfl) (fun _ => by grind) h
variable [DecidableEq N]
def Wk (ps : List (Pc N)) (n : N) (m : Rat) : Rat := ls (fun p => if p.nm = n then p.sp * ov p m else 0) ps
/-- the mirror of left_at: the works left, by name -/
def ltStep (lf : N → Rat) (q : Pc (Option N)) : N → Rat := fun n => if q.nm = some n then lf n - q.sp * (q.en - q.st) else lf n
def leftAt (w : N → Rat) (ps : List (Pc N)) (m : Rat) : N → Rat := (stretches ps 0 m).foldl ltStep w
theorem lt_fold : ∀ (L : List (Pc (Option N))) (w : N → Rat) (n : N), L.foldl ltStep w n = w n - ls (fun q => if q.nm = some n then q.sp * (q.en - q.st) else 0) L
  | [], w, n => by simp only [List.foldl_nil, ls]; grind
  | q :: r, w, n => by
    rw [List.foldl_cons, lt_fold r]
    simp only [ls, ltStep]
    split <;> grind
theorem leftAt_eq {w : N → Rat} {ps : List (Pc N)} {m : Rat} (h : ∀ p ∈ ps, 0 ≤ p.st ∧ p.st < p.en) (n : N) : leftAt w ps m n = w n - Wk ps n m := by
  unfold leftAt
  rw [lt_fold, ls_named (g := fun q => if q.nm = n then q.sp * (q.en - q.st) else 0) (fun q _ e => by rw [e, if_neg (by simp)]) (fun q _ n' e => by rw [e]; simp), str_named]
  have := ls_clip (m := m) (fun q : Pc N => if q.nm = n then q.sp * (q.en - q.st) else 0) (fun p x => if p.nm = n then p.sp * x else 0) (fun _ _ _ => rfl) (fun p => by split <;> grind) h
  rw [this]
  rfl
/-- the mirror of tidy -/
def tdStep (acc : List (Pc N)) (p : Pc N) : List (Pc N) := match acc.getLast? with
  | none => acc ++ [p]
  | some q => if q.en = p.st ∧ q.nm = p.nm ∧ q.sp = p.sp then acc.dropLast ++ [⟨q.st, p.en, p.nm, p.sp⟩] else acc ++ [p]
def tidy (ps : List (Pc N)) : List (Pc N) := ps.foldl tdStep []
end
end SW

set_option Elab.async false
set_option linter.all false
/-! tidy; pieces that do not meet -/
namespace SW
section
variable {N : Type}
def Apart (p q : Pc N) : Prop := p.en ≤ q.st ∨ q.en ≤ p.st
def NoOv (ps : List (Pc N)) : Prop := ps.Pairwise Apart
theorem Apart.symm {p q : Pc N} (h : Apart p q) : Apart q p := h.elim .inr .inl
theorem NoOv.perm {ps qs : List (Pc N)} (h : NoOv ps) (e : ps.Perm qs) : NoOv qs := (e.pairwise_iff fun h => h.symm).mp h
def Good (p : Pc N) : Prop := 0 ≤ p.st ∧ p.st < p.en
def CovX (ps : List (Pc N)) (x : Rat) (n : N) (s : Rat) : Prop := ∃ p ∈ ps, p.nm = n ∧ p.sp = s ∧ p.st ≤ x ∧ x < p.en
theorem ov_add {p q : Pc N} {m : Rat} (hq : q.st < q.en) (hp : p.st < p.en) (e : q.en = p.st) (n : N) (s : Rat) : ov ⟨q.st, p.en, n, s⟩ m = ov q m + ov p m := by
  unfold ov; grind
/-- in which interval nothing begins or ends -/
def Still (p : Pc N) (m m' : Rat) : Prop := (p.st ≤ m ∨ m' ≤ p.st) ∧ (p.en ≤ m ∨ m' ≤ p.en)
theorem ov_still {p : Pc N} {m m' : Rat} (h : Still p m m') (hp : p.st < p.en) (hm : m < m') : ov p m' - ov p m = if p.st ≤ m ∧ m' ≤ p.en then m' - m else 0 := by
  unfold Still at h; unfold ov; grind
theorem cover {m m' : Rat} (hm : m < m') : ∀ {ps : List (Pc N)}, NoOv ps → (∀ p ∈ ps, p.st < p.en) → (∀ p ∈ ps, Still p m m') →
    (∃ p ∈ ps, p.st ≤ m ∧ m' ≤ p.en ∧ ∀ g : Pc N → Rat, ls (fun p => g p * (ov p m' - ov p m)) ps = g p * (m' - m)) ∨
    ((∀ p ∈ ps, ¬ (p.st ≤ m ∧ m < p.en)) ∧ ∀ g : Pc N → Rat, ls (fun p => g p * (ov p m' - ov p m)) ps = 0)
  | [], _, _, _ => Or.inr (And.intro (fun p h => (List.not_mem_nil h).elim) (fun g => rfl))
  | p :: r, h1, h2, h3 => by
    obtain ⟨h4, h5⟩ := List.pairwise_cons.mp h1
    have hp := h2 p List.mem_cons_self
    have hs := h3 p List.mem_cons_self
    have e := ov_still hs hp hm
    by_cases hc : p.st ≤ m ∧ m' ≤ p.en
    · refine .inl ⟨p, List.mem_cons_self, hc.1, hc.2, fun g => ?_⟩
      have z : ls (fun p => g p * (ov p m' - ov p m)) r = 0 := ls_zero fun q hq => by
        have hq1 := h2 q (List.mem_cons_of_mem _ hq)
        have hq2 := h3 q (List.mem_cons_of_mem _ hq)
        have a := h4 q hq
        rw [ov_still hq2 hq1 hm, if_neg (by unfold Apart at a; grind)]
        grind
      simp only [ls]
      rw [z, e, if_pos hc]; grind
    · rw [if_neg hc] at e
      rcases cover hm (ps := r) h5 (fun q hq => h2 q (List.mem_cons_of_mem _ hq)) (fun q hq => h3 q (List.mem_cons_of_mem _ hq)) with ⟨q, hq, a, b, c⟩ | ⟨a, b⟩
      · refine .inl ⟨q, List.mem_cons_of_mem _ hq, a, b, fun g => ?_⟩
        simp only [ls]
        rw [c g, e]; grind
      · refine .inr ⟨fun q hq => ?_, fun g => ?_⟩
        · rcases List.mem_cons.mp hq with rfl | hq
          · unfold Still at hs; grind
          · exact a q hq
        · simp only [ls]
          rw [b g, e]; grind
variable [DecidableEq N]
/-- one turn of tidy: either the piece is put behind, or it is melted into the last one -/
theorem td_cases (acc : List (Pc N)) (p : Pc N) : tdStep acc p = acc ++ [p] ∨ ∃ dl q, acc = dl ++ [q] ∧ q.en = p.st ∧ q.nm = p.nm ∧ q.sp = p.sp ∧ tdStep acc p = dl ++ [⟨q.st, p.en, p.nm, p.sp⟩] := by
  unfold tdStep
  cases e : acc.getLast? with
  | none => exact .inl rfl
  | some q =>
    simp only
    have hne : acc ≠ [] := fun z => by rw [z] at e; cases e
    have hd : acc = acc.dropLast ++ [q] := by
      have h1 := List.dropLast_concat_getLast hne
      have h2 : acc.getLast hne = q := by
        rw [List.getLast?_eq_some_getLast hne] at e
        exact Option.some.inj e
      rw [h2] at h1
      exact h1.symm
    by_cases c : q.en = p.st ∧ q.nm = p.nm ∧ q.sp = p.sp
    · rw [if_pos c]
      exact .inr ⟨acc.dropLast, q, hd, c.1, c.2.1, c.2.2, rfl⟩
    · rw [if_neg c]
      exact .inl rfl
/-- what is kept by melting is kept by tidy -/
theorem td_all {φ : Pc N → Prop} (hm : ∀ p q : Pc N, φ p → φ q → q.en = p.st → q.nm = p.nm → q.sp = p.sp → φ ⟨q.st, p.en, p.nm, p.sp⟩) : ∀ (ps acc : List (Pc N)), (∀ p ∈ acc ++ ps, φ p) → ∀ p ∈ ps.foldl tdStep acc, φ p
  | [], acc, h => by simpa using h
  | p :: r, acc, h => by
    rw [List.foldl_cons]
    apply td_all hm r
    rcases td_cases acc p with e | ⟨dl, q, ea, e1, e2, e3, e⟩
    · rw [e]
      simpa using h
    · rw [e]
      intro x hx
      have hq : φ q := h q (by rw [ea]; simp)
      have hp : φ p := h p (by simp)
      simp only [List.append_assoc, List.mem_append, List.mem_singleton] at hx
      rcases hx with hx | hx | hx
      · exact h x (by rw [ea]; simp [hx])
      · rw [hx]; exact hm p q hp hq e1 e2 e3
      · exact h x (by simp [hx])
theorem tidy_all {φ : Pc N → Prop} (hm : ∀ p q : Pc N, φ p → φ q → q.en = p.st → q.nm = p.nm → q.sp = p.sp → φ ⟨q.st, p.en, p.nm, p.sp⟩) {ps : List (Pc N)} (h : ∀ p ∈ ps, φ p) : ∀ p ∈ tidy ps, φ p :=
  td_all hm ps [] (by simpa using h)
theorem td_sum {f : Pc N → Rat} (hf : ∀ p q : Pc N, p.st < p.en → q.st < q.en → q.en = p.st → q.nm = p.nm → q.sp = p.sp → f ⟨q.st, p.en, p.nm, p.sp⟩ = f q + f p) : ∀ (ps acc : List (Pc N)), (∀ p ∈ acc ++ ps, p.st < p.en) → ls f (ps.foldl tdStep acc) = ls f (acc ++ ps)
  | [], acc, _ => by simp
  | p :: r, acc, h => by
    rw [List.foldl_cons]
    have hp : p.st < p.en := h p (by simp)
    rcases td_cases acc p with e | ⟨dl, q, ea, e1, e2, e3, e⟩
    · rw [e, td_sum hf r (acc ++ [p]) (by simpa using h)]
      simp
    · have hq : q.st < q.en := h q (by rw [ea]; simp)
      rw [e, td_sum hf r]
      · rw [ea]
        simp only [ls_append, ls]
        rw [hf p q hp hq e1 e2 e3]; grind
      · intro x hx
        simp only [List.append_assoc, List.mem_append, List.mem_singleton] at hx
        rcases hx with hx | hx | hx
        · exact h x (by rw [ea]; simp [hx])
        · rw [hx]; show q.st < p.en; grind
        · exact h x (by simp [hx])
theorem tidy_Wk {ps : List (Pc N)} (h : ∀ p ∈ ps, p.st < p.en) (n : N) (m : Rat) : Wk (tidy ps) n m = Wk ps n m := by
  have := td_sum (f := fun p => if p.nm = n then p.sp * ov p m else 0) (fun p q hp hq e1 e2 e3 => by
    simp only
    rw [ov_add hq hp e1]
    rw [e2, e3]
    split <;> grind) ps [] (by simpa using h)
  simpa [tidy, Wk] using this
theorem tidy_Sq {ps : List (Pc N)} (h : ∀ p ∈ ps, p.st < p.en) (m : Rat) : Sq (tidy ps) m = Sq ps m := by
  have := td_sum (f := fun p => p.sp * p.sp * ov p m) (fun p q hp hq e1 e2 e3 => by
    simp only
    rw [ov_add hq hp e1]
    rw [e3]
    grind) ps [] (by simpa using h)
  simpa [tidy, Sq] using this
theorem td_cov (x : Rat) (n : N) (s : Rat) : ∀ (ps acc : List (Pc N)), (∀ p ∈ acc ++ ps, p.st < p.en) → (CovX (ps.foldl tdStep acc) x n s ↔ CovX (acc ++ ps) x n s)
  | [], acc, _ => by simp
  | p :: r, acc, h => by
    rw [List.foldl_cons]
    have hp : p.st < p.en := h p (by simp)
    rcases td_cases acc p with e | ⟨dl, q, ea, e1, e2, e3, e⟩
    · rw [e, td_cov x n s r (acc ++ [p]) (by simpa using h)]
      simp
    · have hq : q.st < q.en := h q (by rw [ea]; simp)
      rw [e, td_cov x n s r]
      · rw [ea]
        constructor
        · rintro ⟨y, hy, a, b, c, d⟩
          simp only [List.append_assoc, List.mem_append, List.mem_singleton] at hy
          rcases hy with hy | hy | hy
          · exact ⟨y, by simp [hy], a, b, c, d⟩
          · rw [hy] at a b c d
            simp only at a b c d
            by_cases hx : x < q.en
            · exact ⟨q, by simp, by rw [e2]; exact a, by rw [e3]; exact b, c, hx⟩
            · exact ⟨p, by simp, a, b, by grind, d⟩
          · exact ⟨y, by simp [hy], a, b, c, d⟩
        · rintro ⟨y, hy, a, b, c, d⟩
          simp only [List.append_assoc, List.cons_append, List.nil_append, List.mem_append, List.mem_cons] at hy
          rcases hy with hy | rfl | rfl | hy
          · exact ⟨y, by simp [hy], a, b, c, d⟩
          · exact ⟨⟨y.st, p.en, p.nm, p.sp⟩, by simp, by rw [← a, e2], by rw [← b, e3], c, by show x < p.en; grind⟩
          · exact ⟨⟨q.st, y.en, y.nm, y.sp⟩, by simp, a, b, by show q.st ≤ x; grind, d⟩
          · exact ⟨y, by simp [hy], a, b, c, d⟩
      · intro y hx
        simp only [List.append_assoc, List.mem_append, List.mem_singleton] at hx
        rcases hx with hx | hx | hx
        · exact h y (by rw [ea]; simp [hx])
        · rw [hx]; show q.st < p.en; grind
        · exact h y (by simp [hx])
theorem tidy_cov {ps : List (Pc N)} (h : ∀ p ∈ ps, p.st < p.en) (x : Rat) (n : N) (s : Rat) : CovX (tidy ps) x n s ↔ CovX ps x n s := by
  have := td_cov x n s ps [] (by simpa using h)
  simpa [tidy] using this
theorem td_noov : ∀ (ps acc : List (Pc N)), (∀ p ∈ acc ++ ps, p.st < p.en) → NoOv (acc ++ ps) → NoOv (ps.foldl tdStep acc)
  | [], acc, _, h => by simpa using h
  | p :: r, acc, h, hn => by
    rw [List.foldl_cons]
    have hp : p.st < p.en := h p (by simp)
    rcases td_cases acc p with e | ⟨dl, q, ea, e1, e2, e3, e⟩
    · rw [e]
      exact td_noov r (acc ++ [p]) (by simpa using h) (by simpa using hn)
    · have hq : q.st < q.en := h q (by rw [ea]; simp)
      rw [e]
      apply td_noov r
      · intro y hx
        simp only [List.append_assoc, List.mem_append, List.mem_singleton] at hx
        rcases hx with hx | hx | hx
        · exact h y (by rw [ea]; simp [hx])
        · rw [hx]; show q.st < p.en; grind
        · exact h y (by simp [hx])
      · unfold NoOv at hn ⊢
        rw [ea] at hn
        simp only [List.append_assoc, List.cons_append, List.nil_append, List.pairwise_append, List.pairwise_cons, List.mem_cons] at hn ⊢
        obtain ⟨h1, ⟨h2, h3, h4⟩, h5⟩ := hn
        have melt : ∀ y : Pc N, y.st < y.en → Apart y q → Apart y p → Apart y ⟨q.st, p.en, p.nm, p.sp⟩ := fun y hy a b => by
          unfold Apart at *
          simp only at *
          grind
        refine ⟨h1, ⟨fun y hy => ?_, h4⟩, fun y hy z hz => ?_⟩
        · have hyy : y.st < y.en := h y (by simp [hy])
          exact (melt y hyy (h2 y (.inr hy)).symm (h3 y hy).symm).symm
        · rcases hz with rfl | hz
          · exact melt y (h y (by rw [ea]; simp [hy])) (h5 y hy q (.inl rfl)) (h5 y hy p (.inr (.inl rfl)))
          · exact h5 y hy z (.inr (.inr hz))
theorem tidy_noov {ps : List (Pc N)} (h : ∀ p ∈ ps, p.st < p.en) (hn : NoOv ps) : NoOv (tidy ps) := td_noov ps [] (by simpa using h) (by simpa using hn)
end
end SW

set_option Elab.async false
set_option linter.all false
/-! the potential from row to row -/
namespace SW
section
variable {N : Type} [DecidableEq N]
/-- the jobs that have come at m -/
def At (J : List (Jb N)) (m : Rat) : List (Jb N) := J.filter fun j => decide ((j.cm : Rat) ≤ m)
/-- the left work of a job under a plan -/
def lw (ps : List (Pc N)) (m : Rat) (j : Jb N) : Rat := j.wk - Wk ps j.nm m
structure JobsOk (J : List (Jb N)) : Prop where
  nd : (J.map (·.nm)).Nodup
  cm : ∀ j ∈ J, 0 ≤ j.cm ∧ j.cm < j.du
  wk : ∀ j ∈ J, 0 < j.wk
structure Fits (J : List (Jb N)) (ps : List (Pc N)) : Prop where
  good : ∀ p ∈ ps, Good p
  noov : NoOv ps
  fresh : ∀ j ∈ J, ∀ q ∈ ps, q.nm = j.nm → (j.cm : Rat) ≤ q.st
/-- what the runner has done, seen between two times -/
structure Hist (J : List (Jb N)) (ps : List (Pc N)) : Prop where
  fits : Fits J ps
  hist : ∀ m m' : Rat, 0 ≤ m → m < m' → (∀ j ∈ J, ¬ (m < (j.cm : Rat) ∧ (j.cm : Rat) < m')) → ∃ (p : Nat → Rat) (k : Nat), (k : Rat) ≤ m ∧ m < (k : Rat) + 1 ∧
    Cert m p (At J m) (lw ps m) ∧ Cert m' p (At J m) (lw ps m') ∧
    (∀ q ∈ ps, q.st ≤ m → m < q.en → q.sp = p k ∧ ∃ j ∈ At J m, j.nm = q.nm ∧ pd p j = p k) ∧ ((∀ q ∈ ps, ¬ (q.st ≤ m ∧ m < q.en)) → p k = 0)
structure Rival (J : List (Jb N)) (ps : List (Pc N)) : Prop where
  fits : Fits J ps
  win : ∀ q ∈ ps, 0 ≤ q.sp ∧ ∃ j ∈ J, j.nm = q.nm ∧ q.en ≤ (j.du : Rat)
  work : ∀ j ∈ J, ls (fun q : Pc N => if q.nm = j.nm then q.sp * (q.en - q.st) else 0) ps = j.wk
section
variable {J : List (Jb N)} {ps : List (Pc N)} {m m' : Rat}
theorem nd_eq (hJ : (J.map (·.nm)).Nodup) {i j : Jb N} (hi : i ∈ J) (hj : j ∈ J) (e : i.nm = j.nm) : i = j := by
  induction J with
  | nil => cases hi
  | cons a r ih =>
    rw [List.map_cons, List.nodup_cons] at hJ
    rcases List.mem_cons.mp hi with rfl | hi'
    · rcases List.mem_cons.mp hj with rfl | hj'
      · rfl
      · exact absurd (List.mem_map.mpr ⟨j, hj', e.symm⟩) hJ.1
    · rcases List.mem_cons.mp hj with rfl | hj'
      · exact absurd (List.mem_map.mpr ⟨i, hi', e⟩) hJ.1
      · exact ih hJ.2 hi' hj'
theorem ls_name {g : Jb N → Rat} : ∀ {A : List (Jb N)} {n : N}, (A.map (·.nm)).Nodup → (∃ j ∈ A, j.nm = n ∧ ls (fun j => if n = j.nm then g j else 0) A = g j) ∨ ((∀ j ∈ A, j.nm ≠ n) ∧ ls (fun j => if n = j.nm then g j else 0) A = 0)
  | [], n, _ => Or.inr (And.intro (fun p h => (List.not_mem_nil h).elim) rfl)
  | a :: r, n, h => by
    rw [List.map_cons, List.nodup_cons] at h
    by_cases e : n = a.nm
    · refine .inl ⟨a, List.mem_cons_self, e.symm, ?_⟩
      have z : ls (fun j : Jb N => if n = j.nm then g j else 0) r = 0 := ls_zero fun j hj => by
        rw [if_neg]
        intro z
        exact h.1 (List.mem_map.mpr ⟨j, hj, by rw [← z, e]⟩)
      simp only [ls]
      rw [z, if_pos e]; grind
    · rcases ls_name (g := g) (A := r) (n := n) h.2 with ⟨j, hj, e1, e2⟩ | ⟨e1, e2⟩
      · refine .inl ⟨j, List.mem_cons_of_mem _ hj, e1, ?_⟩
        simp only [ls]
        rw [e2, if_neg e]; grind
      · refine .inr ⟨fun j hj => ?_, ?_⟩
        · rcases List.mem_cons.mp hj with rfl | hj
          · exact fun z => e z.symm
          · exact e1 j hj
        · simp only [ls]
          rw [e2, if_neg e]; grind
theorem at_nd (hJ : (J.map (·.nm)).Nodup) : ((At J m).map (·.nm)).Nodup := by
  unfold At
  exact (List.Sublist.map _ List.filter_sublist).nodup hJ
theorem at_mem {j : Jb N} : j ∈ At J m ↔ j ∈ J ∧ (j.cm : Rat) ≤ m := by
  unfold At
  rw [List.mem_filter]
  simp
theorem ov_le {p : Pc N} (h : p.st < p.en) : ov p m ≤ p.en - p.st := by unfold ov; grind
theorem ov_nonneg {p : Pc N} (h : p.st < p.en) : 0 ≤ ov p m := by unfold ov; grind
theorem ov_before {p : Pc N} (h : m ≤ p.st) : ov p m = 0 := by unfold ov; grind
theorem ov_all {p : Pc N} (h : p.en ≤ m) (h1 : p.st < p.en) : ov p m = p.en - p.st := by unfold ov; grind
theorem lw_before (F : Fits J ps) {j : Jb N} (hj : j ∈ J) (h : m ≤ (j.cm : Rat)) : lw ps m j = j.wk := by
  unfold lw Wk
  rw [ls_zero]
  · grind
  · intro q hq
    split
    · rename_i e
      have := F.fresh j hj q hq e
      rw [ov_before (by grind)]; grind
    · rfl
theorem rival_nonneg (R : Rival J ps) {j : Jb N} (hj : j ∈ J) : 0 ≤ lw ps m j := by
  unfold lw Wk
  have := R.work j hj
  have h2 : ls (fun p => if p.nm = j.nm then p.sp * ov p m else 0) ps ≤ ls (fun q : Pc N => if q.nm = j.nm then q.sp * (q.en - q.st) else 0) ps := ls_le fun q hq => by
    split
    · exact Rat.mul_le_mul_of_nonneg_left (ov_le (R.fits.good q hq).2) (R.win q hq).1
    · exact Rat.le_refl
  grind
theorem rival_late (hJ : JobsOk J) (R : Rival J ps) {j : Jb N} (hj : j ∈ J) (h : (j.du : Rat) ≤ m) : lw ps m j = 0 := by
  unfold lw Wk
  have := R.work j hj
  have h2 : ls (fun p => if p.nm = j.nm then p.sp * ov p m else 0) ps = ls (fun q : Pc N => if q.nm = j.nm then q.sp * (q.en - q.st) else 0) ps := ls_congr fun q hq => by
    split
    · rename_i e
      obtain ⟨_, i, hi, e1, e2⟩ := R.win q hq
      have : i = j := nd_eq hJ.nd hi hj (by rw [e1, e])
      subst this
      rw [ov_all (by grind) (R.fits.good q hq).2]
    · rfl
  grind
/-- the potential at m -/
def Pot (p : Nat → Rat) (A : List (Jb N)) (l X : Jb N → Rat) : Rat := ls (fun j => pd p j * (l j - 2 * X j)) A
theorem pot_same {p q : Nat → Rat} {A : List (Jb N)} {l X : Jb N → Rat} (C : Cert m p A l) (D : Cert m q A l) (h0 : 0 ≤ m) (hA : ∀ j ∈ A, 1 ≤ j.du) (hX0 : ∀ j ∈ A, (j.du : Rat) ≤ m → X j = 0) : Pot p A l X = Pot q A l X := by
  apply ls_congr
  intro j hj
  by_cases e3 : (j.du : Rat) ≤ m
  · rw [hX0 j hj e3, C.late j hj e3]; grind
  · have e : pd p j = pd q j := by
      unfold pd
      have := hA j hj
      have e4 : (((j.du.toNat - 1 : Nat) : Rat)) + 1 = (j.du : Rat) := by
        have : j.du = ((j.du.toNat - 1 : Nat) : Int) + 1 := by omega
        rw [this]
        simp only [Rat.intCast_add, Rat.intCast_natCast]
        rfl
      have hk : m < (((j.du.toNat - 1 : Nat) : Rat)) + 1 := by rw [e4]; exact Rat.not_le.mp e3
      have a := C.rise D h0 (fun _ _ => Rat.le_refl) hk
      have b := D.rise C h0 (fun _ _ => Rat.le_refl) hk
      grind
    rw [e]
theorem wk_diff (n : N) : Wk ps n m' - Wk ps n m = ls (fun q => (if q.nm = n then q.sp else 0) * (ov q m' - ov q m)) ps := by
  unfold Wk
  rw [← ls_sub]
  apply ls_congr
  intro q _
  split <;> grind
theorem sq_diff : Sq ps m' - Sq ps m = ls (fun q => (q.sp * q.sp) * (ov q m' - ov q m)) ps := by
  unfold Sq
  rw [← ls_sub]
  apply ls_congr
  intro q _
  grind
/-- how a plan works between two times in which nothing begins or ends: at one speed, on one job -/
theorem runs_at (F : Fits J ps) (hm : m < m') (hs : ∀ p ∈ ps, Still p m m') :
    (∃ q ∈ ps, q.st ≤ m ∧ m' ≤ q.en ∧ (∀ n, Wk ps n m' - Wk ps n m = if q.nm = n then q.sp * (m' - m) else 0) ∧ Sq ps m' - Sq ps m = q.sp * q.sp * (m' - m)) ∨
    ((∀ q ∈ ps, ¬ (q.st ≤ m ∧ m < q.en)) ∧ (∀ n, Wk ps n m' - Wk ps n m = 0) ∧ Sq ps m' - Sq ps m = 0) := by
  rcases cover hm F.noov (fun p hp => (F.good p hp).2) hs with ⟨q, hq, a, b, c⟩ | ⟨a, b⟩
  · refine .inl ⟨q, hq, a, b, fun n => ?_, ?_⟩
    · rw [wk_diff, c fun q => if q.nm = n then q.sp else 0]
      split <;> grind
    · rw [sq_diff, c fun q => q.sp * q.sp]
  · refine .inr ⟨a, fun n => ?_, ?_⟩
    · rw [wk_diff, b fun q => if q.nm = n then q.sp else 0]
    · rw [sq_diff, b fun q => q.sp * q.sp]
theorem du_cast {j : Jb N} (h : 1 ≤ j.du) : (((j.du.toNat - 1 : Nat) : Rat)) + 1 = (j.du : Rat) := by
  have : j.du = ((j.du.toNat - 1 : Nat) : Int) + 1 := by omega
  rw [this]
  simp only [Rat.intCast_add, Rat.intCast_natCast]
  rfl
theorem nat_le_of_lt {a b : Nat} (h : (a : Rat) < (b : Rat) + 1) : a ≤ b := by
  have h2 : ((a : Int) : Rat) < (((b + 1 : Nat) : Int) : Rat) := by simpa [Rat.intCast_natCast] using h
  have := Rat.intCast_lt_intCast.mp h2
  omega
/-- the sum of the prices times what a plan did on the jobs that have come -/
theorem pd_sum {p : Nat → Rat} {A : List (Jb N)} {q : Pc N} {c : Rat} (hA : (A.map (·.nm)).Nodup) {j : Jb N} (hj : j ∈ A) (e : j.nm = q.nm) : ls (fun j => pd p j * (if q.nm = j.nm then c else 0)) A = pd p j * c := by
  have h1 : ls (fun j => pd p j * (if q.nm = j.nm then c else 0)) A = ls (fun j => if q.nm = j.nm then pd p j * c else 0) A := ls_congr fun i _ => by split <;> grind
  rw [h1]
  rcases ls_name (g := fun j => pd p j * c) (n := q.nm) hA with ⟨i, hi, e1, e2⟩ | ⟨e1, _⟩
  · have : i = j := nd_eq hA hi hj (by rw [e1, e])
    rw [e2, this]
  · exact absurd e (e1 j hj)
theorem pot_run {ds rs : List (Pc N)} (hJ : JobsOk J) (D : Hist J ds) (R : Rival J rs) (hm : m < m') (hd : ∀ q ∈ ds, Still q m m') (hr : ∀ q ∈ rs, Still q m m')
    {p : Nat → Rat} {k : Nat} (hk1 : (k : Rat) ≤ m) (hk2 : m < (k : Rat) + 1) (C : Cert m p (At J m) (lw ds m))
    (hq : ∀ q ∈ ds, q.st ≤ m → m < q.en → q.sp = p k ∧ ∃ j ∈ At J m, j.nm = q.nm ∧ pd p j = p k) (hi : (∀ q ∈ ds, ¬ (q.st ≤ m ∧ m < q.en)) → p k = 0) :
    Sq ds m' + 2 * Pot p (At J m) (lw ds m') (lw rs m') - 4 * Sq rs m' ≤ Sq ds m + 2 * Pot p (At J m) (lw ds m) (lw rs m) - 4 * Sq rs m := by
  have nd := at_nd (m := m) hJ.nd
  -- the runner
  have h1 : Sq ds m' - Sq ds m = p k * p k * (m' - m) ∧ ls (fun j => pd p j * (lw ds m j - lw ds m' j)) (At J m) = p k * p k * (m' - m) := by
    rcases runs_at D.fits hm hd with ⟨q, hq0, a, b, c, d⟩ | ⟨a, c, d⟩
    · obtain ⟨e1, j, hj, e2, e3⟩ := hq q hq0 a (by grind)
      refine ⟨by rw [d, e1], ?_⟩
      have : ls (fun j => pd p j * (lw ds m j - lw ds m' j)) (At J m) = ls (fun j => pd p j * (if q.nm = j.nm then q.sp * (m' - m) else 0)) (At J m) := ls_congr fun i _ => by
        have := c i.nm
        unfold lw
        rw [← this]; grind
      rw [this, pd_sum nd hj e2, e3, e1]; grind
    · have z := hi a
      refine ⟨by rw [d, z]; grind, ?_⟩
      rw [ls_zero fun i _ => by
        have := c i.nm
        have e : lw ds m i - lw ds m' i = 0 := by unfold lw; grind
        rw [e]; grind]
      rw [z]; grind
  -- the rival
  have h2 : ∃ u : Rat, 0 ≤ u ∧ Sq rs m' - Sq rs m = u * u * (m' - m) ∧ ls (fun j => pd p j * (lw rs m j - lw rs m' j)) (At J m) ≤ p k * (u * (m' - m)) := by
    rcases runs_at R.fits hm hr with ⟨q, hq0, a, b, c, d⟩ | ⟨a, c, d⟩
    · obtain ⟨e0, j, hj, e2, e3⟩ := R.win q hq0
      refine ⟨q.sp, e0, d, ?_⟩
      have hjA : j ∈ At J m := at_mem.mpr ⟨hj, by have := R.fits.fresh j hj q hq0 e2.symm; grind⟩
      have : ls (fun j => pd p j * (lw rs m j - lw rs m' j)) (At J m) = ls (fun j => pd p j * (if q.nm = j.nm then q.sp * (m' - m) else 0)) (At J m) := ls_congr fun i _ => by
        have := c i.nm
        unfold lw
        rw [← this]; grind
      rw [this, pd_sum nd hjA e2]
      have h3 : pd p j ≤ p k := by
        unfold pd
        apply mono_le C.mono
        have hc := hJ.cm j hj
        have e4 := du_cast (j := j) (by omega)
        apply nat_le_of_lt
        grind
      have h4 : 0 ≤ q.sp * (m' - m) := Rat.mul_nonneg e0 (by grind)
      exact Rat.mul_le_mul_of_nonneg_right h3 h4
    · refine ⟨0, Rat.le_refl, by rw [d]; grind, ?_⟩
      rw [ls_zero fun i _ => by
        have := c i.nm
        have e : lw rs m i - lw rs m' i = 0 := by unfold lw; grind
        rw [e]; grind]
      grind
  obtain ⟨h3, h4⟩ := h1
  obtain ⟨u, _, h5, h6⟩ := h2
  have h7 : Pot p (At J m) (lw ds m) (lw rs m) - Pot p (At J m) (lw ds m') (lw rs m') = ls (fun j => pd p j * (lw ds m j - lw ds m' j)) (At J m) - 2 * ls (fun j => pd p j * (lw rs m j - lw rs m' j)) (At J m) := by
    unfold Pot
    rw [← ls_mul, ← ls_sub, ← ls_sub]
    apply ls_congr
    intro j _
    grind
  have h8 : 0 ≤ (p k - 2 * u) * (p k - 2 * u) * (m' - m) := Rat.mul_nonneg (rsq _) (by grind)
  grind
theorem pot_arrive {ds rs : List (Pc N)} (hJ : JobsOk J) (D : Hist J ds) (R : Rival J rs) (h0 : 0 ≤ m) (hm : m < m') (hc : ∀ j ∈ J, ¬ (m < (j.cm : Rat) ∧ (j.cm : Rat) < m'))
    {p q : Nat → Rat} (C : Cert m' p (At J m) (lw ds m')) (C' : Cert m' q (At J m') (lw ds m')) : Pot q (At J m') (lw ds m') (lw rs m') ≤ Pot p (At J m) (lw ds m') (lw rs m') := by
  have ef : At J m = (At J m').filter fun j => decide ((j.cm : Rat) ≤ m) := by
    unfold At
    rw [List.filter_filter]
    apply List.filter_congr
    intro j _
    by_cases e : (j.cm : Rat) ≤ m
    · have : (j.cm : Rat) ≤ m' := by grind
      simp [e, this]
    · simp [e]
  have e1 : ∀ f : Jb N → Rat, ls f (At J m) = ls (fun j => if decide ((j.cm : Rat) ≤ m) = true then f j else 0) (At J m') := fun f => by rw [ef, ls_filter]
  have C2 : Cert m' p (At J m') (fun j => if decide ((j.cm : Rat) ≤ m) = true then lw ds m' j else 0) := by
    refine ⟨C.mono, C.pos, C.fin, fun j hj => ?_, fun j hj hl => ?_, fun d => ?_, fun d hd => ?_⟩
    · by_cases e : (j.cm : Rat) ≤ m
      · simp only [e, decide_true, if_true]
        exact C.lpos j (at_mem.mpr ⟨(at_mem.mp hj).1, e⟩)
      · simp [e]
    · by_cases e : (j.cm : Rat) ≤ m
      · simp only [e, decide_true, if_true]
        exact C.late j (at_mem.mpr ⟨(at_mem.mp hj).1, e⟩) hl
      · simp [e]
    · have h1 := C.cap d
      have h2 : Wd (At J m') (fun j => if decide ((j.cm : Rat) ≤ m) = true then lw ds m' j else 0) d = Wd (At J m) (lw ds m') d := by
        unfold Wd
        rw [e1]
        apply ls_congr
        intro j _
        by_cases a : j.du ≤ (d : Int) <;> by_cases b : (j.cm : Rat) ≤ m <;> simp [a, b]
      rw [h2]; exact h1
    · have h1 := C.tight d hd
      have h2 : Wd (At J m') (fun j => if decide ((j.cm : Rat) ≤ m) = true then lw ds m' j else 0) (d + 1) = Wd (At J m) (lw ds m') (d + 1) := by
        unfold Wd
        rw [e1]
        apply ls_congr
        intro j _
        by_cases a : j.du ≤ ((d + 1 : Nat) : Int) <;> by_cases b : (j.cm : Rat) ≤ m <;> simp [a, b]
      rw [h2]; exact h1
  have hA : ∀ j ∈ At J m', 1 ≤ j.du := fun j hj => by have := hJ.cm j (at_mem.mp hj).1; omega
  have h := arrive (X := lw rs m') (old := fun j => decide ((j.cm : Rat) ≤ m)) C2 C' (by grind) hA (fun j _ e => by simp only [e, if_true]) (fun j hj e => by
      have hj' := at_mem.mp hj
      have e2 : ¬ (j.cm : Rat) ≤ m := by simpa using e
      have e3 : (j.cm : Rat) = m' := by
        have := hc j hj'.1
        grind
      refine ⟨by simp only [e]; rfl, ?_⟩
      rw [lw_before R.fits hj'.1 (by grind), lw_before D.fits hj'.1 (by grind)])
    (fun j hj => rival_nonneg R (at_mem.mp hj).1) (fun j hj e => rival_late hJ R (at_mem.mp hj).1 e)
  unfold Pot
  rw [e1]
  have e2 : ls (fun j => if decide ((j.cm : Rat) ≤ m) = true then pd p j * ((if decide ((j.cm : Rat) ≤ m) = true then lw ds m' j else 0) - 2 * lw rs m' j) else 0) (At J m') = ls (fun j => if decide ((j.cm : Rat) ≤ m) = true then pd p j * (lw ds m' j - 2 * lw rs m' j) else 0) (At J m') := by
    apply ls_congr
    intro j _
    by_cases b : (j.cm : Rat) ≤ m <;> simp [b]
  rw [← e2]
  exact h
/-- THE LAW: from row to row the difference does not grow -/
theorem pot_step {ds rs : List (Pc N)} (hJ : JobsOk J) (D : Hist J ds) (R : Rival J rs) (h0 : 0 ≤ m) (hm : m < m') (hc : ∀ j ∈ J, ¬ (m < (j.cm : Rat) ∧ (j.cm : Rat) < m'))
    (hd : ∀ q ∈ ds, Still q m m') (hr : ∀ q ∈ rs, Still q m m') {p q : Nat → Rat} (C : Cert m p (At J m) (lw ds m)) (C' : Cert m' q (At J m') (lw ds m')) :
    Sq ds m' + 2 * Pot q (At J m') (lw ds m') (lw rs m') - 4 * Sq rs m' ≤ Sq ds m + 2 * Pot p (At J m) (lw ds m) (lw rs m) - 4 * Sq rs m := by
  obtain ⟨z, k, k1, k2, c1, c2, c3, c4⟩ := D.hist m m' h0 hm hc
  have a := pot_run hJ D R hm hd hr k1 k2 c1 c3 c4
  have b := pot_arrive hJ D R h0 hm hc c2 C'
  have c := pot_same (X := lw rs m) C c1 h0 (fun j hj => by have := hJ.cm j (at_mem.mp hj).1; omega) fun j hj e => rival_late hJ R (at_mem.mp hj).1 e
  rw [c]; grind
/-- the first row -/
theorem pot_first {ds rs : List (Pc N)} (hJ : JobsOk J) (D : Hist J ds) (R : Rival J rs) {p : Nat → Rat} (C : Cert 0 p (At J 0) (lw ds 0)) :
    Sq ds 0 + 2 * Pot p (At J 0) (lw ds 0) (lw rs 0) - 4 * Sq rs 0 ≤ 0 := by
  have z : ∀ {ps : List (Pc N)}, Fits J ps → Sq ps 0 = 0 := fun F => ls_zero fun q hq => by
    rw [ov_before (F.good q hq).1]; grind
  rw [z D.fits, z R.fits]
  have h : Pot p (At J 0) (lw ds 0) (lw rs 0) ≤ ls (fun _ => 0) (At J 0) := ls_le fun j hj => by
    obtain ⟨h1, h2⟩ := at_mem.mp hj
    have h3 := hJ.cm j h1
    have h4 : (0 : Rat) ≤ (j.cm : Rat) := by
      have := Rat.intCast_le_intCast.mpr h3.1
      simpa using this
    rw [lw_before D.fits h1 h4, lw_before R.fits h1 h4]
    have h5 : 0 ≤ pd p j * j.wk := Rat.mul_nonneg (C.pos _) (by have := hJ.wk j h1; grind)
    grind
  rw [ls_zero fun _ _ => rfl] at h
  grind
end
end
end SW

set_option Elab.async false
set_option linter.all false
/-! the time that is free, and what must fit into it -/
namespace SW
/-- how much of x lies between t and d -/
def rlen (t d : Rat) (x : Rat × Rat) : Rat := if rmax x.1 t < rmin x.2 d then rmin x.2 d - rmax x.1 t else 0
def rem (R : List (Rat × Rat)) (t d : Rat) : Rat := ls (rlen t d) R
theorem rlen_nonneg (t d : Rat) (x : Rat × Rat) : 0 ≤ rlen t d x := by unfold rlen; grind
theorem rem_nonneg (R : List (Rat × Rat)) (t d : Rat) : 0 ≤ rem R t d := ls_nonneg fun x _ => rlen_nonneg t d x
theorem rem_mono {R : List (Rat × Rat)} {t t' d d' : Rat} (h1 : t' ≤ t) (h2 : d ≤ d') : rem R t d ≤ rem R t' d' := ls_le fun x _ => by
  unfold rlen rmax rmin; grind
theorem rem_cons (x : Rat × Rat) (R : List (Rat × Rat)) (t d : Rat) : rem (x :: R) t d = rlen t d x + rem R t d := rfl
/-- nothing before the start -/
theorem rem_early {R : List (Rat × Rat)} {y t d : Rat} (h : ∀ x ∈ R, y ≤ x.1) (ht : t ≤ y) : rem R t d = rem R y d := ls_congr fun x hx => by
  have := h x hx
  unfold rlen rmax rmin; grind
theorem rem_none {R : List (Rat × Rat)} {y t d : Rat} (h : ∀ x ∈ R, y ≤ x.1) (hd : d ≤ y) : rem R t d = 0 := ls_zero fun x hx => by
  have := h x hx
  unfold rlen rmax rmin; grind
section
variable {N : Type} [DecidableEq N]
/-- the works l fit into the time R behind y, in the order of the due times -/
structure Feas (own : List (Jb N)) (s : Rat) (F L : Jb N → Rat) (R : List (Rat × Rat)) (y : Rat) (l : N → Rat) : Prop where
  nn : ∀ j ∈ own, 0 ≤ l j.nm
  all : ∀ d, ls (fun j => if L j ≤ d then l j.nm else 0) own ≤ s * rem R y d
  later : ∀ t d, y ≤ t → ls (fun j => if t ≤ F j ∧ L j ≤ d then l j.nm else 0) own ≤ s * rem R t d
  tot : ∀ d, (∀ x ∈ R, x.2 ≤ d) → ls (fun j => l j.nm) own = s * rem R y d
variable {own : List (Jb N)} {s y f u : Rat} {F L : Jb N → Rat} {rest : List (Rat × Rat)} {l : N → Rat}
theorem ls_pick {A : List (Jb N)} {g : Jb N → Rat} (hg : ∀ j ∈ A, 0 ≤ g j) {j : Jb N} (hj : j ∈ A) : g j ≤ ls g A := by
  induction A with
  | nil => cases hj
  | cons a r ih =>
    have h1 := hg a List.mem_cons_self
    have h2 : 0 ≤ ls g r := ls_nonneg fun b hb => hg b (List.mem_cons_of_mem _ hb)
    rcases List.mem_cons.mp hj with rfl | hj
    · simp only [ls]; grind
    · have := ih (fun b hb => hg b (List.mem_cons_of_mem _ hb)) hj
      simp only [ls]; grind
theorem big (R : List (Rat × Rat)) : ∃ d : Rat, ∀ x ∈ R, x.2 ≤ d := by
  induction R with
  | nil => exact ⟨0, fun _ h => (List.not_mem_nil h).elim⟩
  | cons a r ih =>
    obtain ⟨d, hd⟩ := ih
    refine ⟨rmax d a.2, fun x hx => ?_⟩
    rcases List.mem_cons.mp hx with rfl | hx
    · unfold rmax; grind
    · have := hd x hx
      unfold rmax; grind
/-- what is left of a job that ends at L fits ahead of L -/
theorem Feas.one (Z : Feas own s F L ((y, f) :: rest) y l) {j : Jb N} (hj : j ∈ own) : l j.nm ≤ s * rem ((y, f) :: rest) y (L j) := by
  have h1 := Z.all (L j)
  have h2 := ls_pick (g := fun i => if L i ≤ L j then l i.nm else 0) (fun i hi => by have := Z.nn i hi; grind) hj
  simp only [Rat.le_refl, if_true] at h2
  grind
theorem Feas.over (Z : Feas own s F L ((y, f) :: rest) y l) (hs : 0 < s) (hr : ∀ x ∈ rest, f ≤ x.1) (hyf : y ≤ f) {j : Jb N} (hj : j ∈ own) (h : L j ≤ y) : l j.nm = 0 := by
  have h1 := Z.one hj
  have h2 := Z.nn j hj
  rw [rem_none (y := y) (fun x hx => by
    rcases List.mem_cons.mp hx with rfl | hx
    · exact Rat.le_refl
    · have := hr x hx; grind) h] at h1
  grind
/-- there is work to be done now -/
theorem Feas.some (Z : Feas own s F L ((y, f) :: rest) y l) (hs : 0 < s) (hr : ∀ x ∈ rest, f ≤ x.1 ∧ x.1 ≤ x.2) (hy : y < f) : ∃ j ∈ own, F j ≤ y ∧ y < L j ∧ l j.nm ≠ 0 := by
  apply Classical.byContradiction
  intro hn
  have hF : ∀ j ∈ own, l j.nm ≠ 0 → y < F j := fun j hj h0 => by
    apply Rat.not_le.mp
    intro hle
    apply hn
    refine ⟨j, hj, hle, ?_, h0⟩
    apply Rat.not_le.mp
    intro hL
    exact h0 (Z.over hs (fun x hx => (hr x hx).1) (by grind) hj hL)
  have ht : ∃ t, y < t ∧ ∀ j ∈ own, l j.nm ≠ 0 → t ≤ F j := by
    have : ∀ A : List (Jb N), (∀ j ∈ A, l j.nm ≠ 0 → y < F j) → ∃ t, y < t ∧ ∀ j ∈ A, l j.nm ≠ 0 → t ≤ F j := fun A => by
      induction A with
      | nil => exact fun _ => ⟨y + 1, by grind, fun _ h => (List.not_mem_nil h).elim⟩
      | cons a r ih =>
        intro h
        obtain ⟨t, h1, h2⟩ := ih fun b hb => h b (List.mem_cons_of_mem _ hb)
        by_cases e : l a.nm = 0
        · refine ⟨t, h1, fun j hj h0 => ?_⟩
          rcases List.mem_cons.mp hj with rfl | hj
          · exact absurd e h0
          · exact h2 j hj h0
        · have h3 := h a List.mem_cons_self e
          refine ⟨rmin t (F a), by unfold rmin; grind, fun j hj h0 => ?_⟩
          rcases List.mem_cons.mp hj with rfl | hj
          · unfold rmin; grind
          · have := h2 j hj h0
            unfold rmin; grind
    exact this own hF
  obtain ⟨t, h1, h2⟩ := ht
  obtain ⟨d0, hd0⟩ := big ((y, f) :: rest)
  have hL : ∃ d, d0 ≤ d ∧ ∀ j ∈ own, L j ≤ d := by
    have : ∀ A : List (Jb N), ∃ d, d0 ≤ d ∧ ∀ j ∈ A, L j ≤ d := fun A => by
      induction A with
      | nil => exact ⟨d0, Rat.le_refl, fun _ h => (List.not_mem_nil h).elim⟩
      | cons a r ih =>
        obtain ⟨t, h1, h2⟩ := ih
        refine ⟨rmax t (L a), by unfold rmax; grind, fun j hj => ?_⟩
        rcases List.mem_cons.mp hj with rfl | hj
        · unfold rmax; grind
        · have := h2 j hj
          unfold rmax; grind
    exact this own
  obtain ⟨d, hd1, hd2⟩ := hL
  have h3 := Z.tot d fun x hx => by have := hd0 x hx; grind
  have h4 := Z.later t d (by grind)
  have h5 : ls (fun j => l j.nm) own = ls (fun j => if t ≤ F j ∧ L j ≤ d then l j.nm else 0) own := ls_congr fun j hj => by
    by_cases e : l j.nm = 0
    · rw [e]; split <;> rfl
    · rw [if_pos ⟨h2 j hj e, hd2 j hj⟩]
  have h6 : rem ((y, f) :: rest) t d < rem ((y, f) :: rest) y d := by
    rw [rem_cons, rem_cons]
    have a := rem_mono (R := rest) (t := t) (t' := y) (d := d) (d' := d) (by grind) Rat.le_refl
    have b : rlen t d (y, f) < rlen y d (y, f) := by
      have := hd0 (y, f) List.mem_cons_self
      simp only at this
      unfold rlen rmin rmax
      simp only
      grind
    grind
  have h7 := Rat.mul_lt_mul_of_pos_left h6 hs
  grind
/-- a piece of work: the earliest due job from y to u -/
theorem Feas.step (Z : Feas own s F L ((y, f) :: rest) y l) (hs : 0 < s) (hr : ∀ x ∈ rest, f ≤ x.1 ∧ x.1 ≤ x.2) (nd : (own.map (·.nm)).Nodup)
    {j : Jb N} (hj : j ∈ own) (hmin : ∀ i ∈ own, F i ≤ y → y < L i → l i.nm ≠ 0 → L j ≤ L i) (hyu : y ≤ u) (huf : u ≤ f) (hul : s * (u - y) ≤ l j.nm) (hF : ∀ o ∈ own, F o ≤ y ∨ u ≤ F o) (hjL : y < L j) :
    u ≤ L j ∧ Feas own s F L ((u, f) :: rest) u (fun n => if n = j.nm then l n - s * (u - y) else l n) := by
  have cut : ∀ {R : List (Rat × Rat)} {t d : Rat}, s * (u - y) ≤ s * rem R t d → u - y ≤ rem R t d := fun h => by
    apply Rat.not_lt.mp
    intro hlt
    have := Rat.mul_lt_mul_of_pos_left hlt hs
    grind
  have huL : u ≤ L j := by
    have h1 := cut (Rat.le_trans hul (Z.one hj))
    rw [rem_cons] at h1
    by_cases e : f ≤ L j
    · grind
    · rw [rem_none (y := f) (fun x hx => (hr x hx).1) (by grind)] at h1
      unfold rlen rmin rmax at h1
      simp only at h1
      grind
  have hd : ∀ d, u ≤ d → rem ((u, f) :: rest) u d = rem ((y, f) :: rest) y d - (u - y) := fun d h => by
    rw [rem_cons, rem_cons, rem_early (R := rest) (y := f) (t := u) (fun x hx => (hr x hx).1) huf, rem_early (R := rest) (y := f) (t := y) (fun x hx => (hr x hx).1) (by grind)]
    unfold rlen rmin rmax
    simp only
    grind
  have htd : ∀ t d, u ≤ t → rem ((u, f) :: rest) t d = rem ((y, f) :: rest) t d := fun t d h => by
    rw [rem_cons, rem_cons]
    unfold rlen rmin rmax
    simp only
    grind
  have hsum : ∀ c : Jb N → Prop, [DecidablePred c] → c j → ls (fun i => if c i then (if i.nm = j.nm then l i.nm - s * (u - y) else l i.nm) else 0) own = ls (fun i => if c i then l i.nm else 0) own - s * (u - y) := fun c _ hc => by
    have h1 : ls (fun i => if c i then (if i.nm = j.nm then l i.nm - s * (u - y) else l i.nm) else 0) own = ls (fun i => (if c i then l i.nm else 0) - (if j.nm = i.nm then s * (u - y) else 0)) own := ls_congr fun i hi => by
      by_cases e : i.nm = j.nm
      · have : i = j := nd_eq nd hi hj e
        subst this
        simp [hc]
      · have e' : ¬ j.nm = i.nm := fun z => e z.symm
        simp only [e, e', if_false]
        grind
    rw [h1, ls_sub]
    rcases ls_name (g := fun _ => s * (u - y)) (n := j.nm) nd with ⟨_, _, _, e2⟩ | ⟨e1, _⟩
    · rw [e2]
    · exact absurd rfl (e1 j hj)
  have hle : ∀ i ∈ own, (if i.nm = j.nm then l i.nm - s * (u - y) else l i.nm) ≤ l i.nm := fun i _ => by
    have : 0 ≤ s * (u - y) := Rat.mul_nonneg (by grind) (by grind)
    split <;> grind
  have hnn : ∀ i ∈ own, 0 ≤ (if i.nm = j.nm then l i.nm - s * (u - y) else l i.nm) := fun i hi => by
    have := Z.nn i hi
    split
    · rename_i e; rw [e]; grind
    · exact this
  have hall : ∀ d, ls (fun i => if L i ≤ d then (if i.nm = j.nm then l i.nm - s * (u - y) else l i.nm) else 0) own ≤ s * rem ((u, f) :: rest) u d := fun d => by
    by_cases e : L j ≤ d
    · rw [hsum (fun i => L i ≤ d) e, hd d (by grind)]
      have := Z.all d
      grind
    · have h1 : ls (fun i => if L i ≤ d then (if i.nm = j.nm then l i.nm - s * (u - y) else l i.nm) else 0) own ≤ ls (fun i => if u ≤ F i ∧ L i ≤ d then l i.nm else 0) own := ls_le fun i hi => by
        by_cases e1 : L i ≤ d
        · rw [if_pos e1]
          by_cases e2 : l i.nm = 0
          · have := hle i hi
            have h0 := Z.nn i hi
            grind
          · have e3 : u ≤ F i := by
              rcases hF i hi with a | a
              · exfalso
                by_cases b : y < L i
                · have := hmin i hi a b e2
                  grind
                · exact e2 (Z.over hs (fun x hx => (hr x hx).1) (by grind) hi (by grind))
              · exact a
            have e4 : (if u ≤ F i ∧ L i ≤ d then l i.nm else 0) = l i.nm := if_pos ⟨e3, e1⟩
            rw [e4]
            exact hle i hi
        · have e4 : (if u ≤ F i ∧ L i ≤ d then l i.nm else 0) = 0 := if_neg (fun z => e1 z.2)
          rw [if_neg e1, e4]
          exact Rat.le_refl
      have h2 := Z.later u d hyu
      rw [← htd u d Rat.le_refl] at h2
      grind
  refine ⟨huL, hnn, hall, fun t d ht => ?_, fun d hdd => ?_⟩
  · rw [htd t d ht]
    have h1 : ls (fun i => if t ≤ F i ∧ L i ≤ d then (if i.nm = j.nm then l i.nm - s * (u - y) else l i.nm) else 0) own ≤ ls (fun i => if t ≤ F i ∧ L i ≤ d then l i.nm else 0) own := ls_le fun i hi => by
      have := hle i hi
      split
      · exact this
      · exact Rat.le_refl
    have h2 := Z.later t d (by grind)
    grind
  · have h1 := Z.tot d fun x hx => by
      rcases List.mem_cons.mp hx with rfl | hx
      · exact hdd (u, f) List.mem_cons_self
      · exact hdd x (List.mem_cons_of_mem _ hx)
    have h2 := hsum (fun _ => True) trivial
    simp only [if_true] at h2
    have h3 := hdd (u, f) List.mem_cons_self
    simp only at h3
    rw [h2, h1, hd d (by grind)]
    grind
theorem Feas.next {a b : Rat} (Z : Feas own s F L ((f, f) :: (a, b) :: rest) f l) (h : f ≤ a) (hr : ∀ x ∈ rest, a ≤ x.1) : Feas own s F L ((a, b) :: rest) a l := by
  have h0 : ∀ t d, rlen t d (f, f) = 0 := fun t d => by
    unfold rlen rmin rmax
    simp only
    grind
  have h1 : ∀ d, rem ((f, f) :: (a, b) :: rest) f d = rem ((a, b) :: rest) a d := fun d => by
    rw [rem_cons, h0]
    have := rem_early (R := (a, b) :: rest) (y := a) (t := f) (d := d) (fun x hx => by
      rcases List.mem_cons.mp hx with rfl | hx
      · exact Rat.le_refl
      · exact hr x hx) h
    grind
  refine ⟨Z.nn, fun d => by rw [← h1]; exact Z.all d, fun t d ht => ?_, fun d hd => ?_⟩
  · have := Z.later t d (by grind)
    rw [rem_cons, h0] at this
    grind
  · by_cases e : f ≤ d
    · rw [← h1]
      exact Z.tot d fun x hx => by
        rcases List.mem_cons.mp hx with rfl | hx
        · exact e
        · exact hd x hx
    · have h2 := hd (a, b) List.mem_cons_self
      simp only at h2
      rw [← h1]
      have h3 := Z.tot (rmax d f) fun x hx => by
        rcases List.mem_cons.mp hx with rfl | hx
        · simp only; unfold rmax; grind
        · have := hd x hx
          unfold rmax; grind
      rw [h3, h1, h1]
      rw [show rem ((a, b) :: rest) a (rmax d f) = rem ((a, b) :: rest) a d from ls_congr fun x hx => by
        have := hd x hx
        unfold rlen rmin rmax; grind]
theorem Feas.done (Z : Feas own s F L [(f, f)] f l) {j : Jb N} (hj : j ∈ own) : l j.nm = 0 := by
  have h1 := Z.tot f fun x hx => by rw [List.mem_singleton.mp hx]; exact Rat.le_refl
  have h2 : rem [(f, f)] f f = 0 := ls_zero fun x hx => by
    rw [List.mem_singleton.mp hx]
    unfold rlen rmin rmax
    simp only
    grind
  rw [h2] at h1
  have h3 := ls_pick (g := fun j => l j.nm) Z.nn hj
  have h4 := Z.nn j hj
  grind
end
end SW

set_option Elab.async false
set_option linter.all false
/-! free time in whole numbers, the rounds -/
namespace SW
def freePart (free : List (Int × Int)) (b e : Int) : List (Int × Int) := free.filterMap fun x => if max x.1 b < min x.2 e then some (max x.1 b, min x.2 e) else none
def FreeOk (free : List (Int × Int)) : Prop := free.Pairwise (fun x y => x.2 ≤ y.1) ∧ ∀ x ∈ free, 0 ≤ x.1 ∧ x.1 < x.2
def castP (free : List (Int × Int)) : List (Rat × Rat) := free.map fun x => ((x.1 : Rat), (x.2 : Rat))
def inF (free : List (Int × Int)) (x : Rat) : Prop := ∃ z ∈ free, (z.1 : Rat) ≤ x ∧ x < (z.2 : Rat)
theorem imax_cast (a b : Int) : ((max a b : Int) : Rat) = rmax a b := by
  unfold rmax
  rcases Int.le_total a b with h | h
  · rw [Int.max_eq_right h]
    have := Rat.intCast_le_intCast.mpr h
    grind
  · rw [Int.max_eq_left h]
    have := Rat.intCast_le_intCast.mpr h
    grind
theorem imin_cast (a b : Int) : ((min a b : Int) : Rat) = rmin a b := by
  unfold rmin
  rcases Int.le_total a b with h | h
  · rw [Int.min_eq_left h]
    have := Rat.intCast_le_intCast.mpr h
    grind
  · rw [Int.min_eq_right h]
    have := Rat.intCast_le_intCast.mpr h
    grind
theorem part_mem {free : List (Int × Int)} {b e : Int} {z : Int × Int} : z ∈ freePart free b e ↔ ∃ x ∈ free, max x.1 b < min x.2 e ∧ z = (max x.1 b, min x.2 e) := by
  unfold freePart
  rw [List.mem_filterMap]
  constructor
  · rintro ⟨x, hx, e1⟩
    by_cases h : max x.1 b < min x.2 e
    · rw [if_pos h] at e1
      exact ⟨x, hx, h, (Option.some.inj e1).symm⟩
    · rw [if_neg h] at e1
      cases e1
  · rintro ⟨x, hx, h, rfl⟩
    exact ⟨x, hx, by rw [if_pos h]⟩
theorem part_ok {free : List (Int × Int)} (h : FreeOk free) (b e : Int) : FreeOk (freePart free b e) := by
  refine ⟨?_, fun z hz => ?_⟩
  · unfold freePart
    rw [List.pairwise_filterMap]
    refine h.1.imp ?_
    intro x y hxy z hz w hw
    simp only [Option.ite_none_right_eq_some, Option.some.injEq] at hz hw
    obtain ⟨h1, rfl⟩ := hz
    obtain ⟨h2, rfl⟩ := hw
    simp only
    omega
  · obtain ⟨x, hx, h1, rfl⟩ := part_mem.mp hz
    have := h.2 x hx
    simp only
    omega
theorem inF_part {free : List (Int × Int)} {b e : Int} {x : Rat} : inF (freePart free b e) x ↔ inF free x ∧ (b : Rat) ≤ x ∧ x < (e : Rat) := by
  constructor
  · rintro ⟨z, hz, h1, h2⟩
    obtain ⟨y, hy, h3, rfl⟩ := part_mem.mp hz
    simp only [imax_cast, imin_cast] at h1 h2
    unfold rmax at h1
    unfold rmin at h2
    exact ⟨⟨y, hy, by grind, by grind⟩, by grind, by grind⟩
  · rintro ⟨⟨y, hy, h1, h2⟩, h3, h4⟩
    refine ⟨(max y.1 b, min y.2 e), part_mem.mpr ⟨y, hy, ?_, rfl⟩, ?_, ?_⟩
    · apply Rat.intCast_lt_intCast.mp
      rw [imax_cast, imin_cast]
      unfold rmax rmin
      grind
    · simp only [imax_cast]
      unfold rmax; grind
    · simp only [imin_cast]
      unfold rmin; grind
theorem rem_part (b e : Int) (t d : Rat) : ∀ (free : List (Int × Int)), rem (castP (freePart free b e)) t d = rem (castP free) (rmax b t) (rmin e d)
  | [] => rfl
  | x :: r => by
    have ih := rem_part b e t d r
    unfold freePart at ih ⊢
    rw [List.filterMap_cons]
    by_cases h : max x.1 b < min x.2 e
    · rw [if_pos h]
      have h' : rmax x.1 b < rmin x.2 e := by
        rw [← imax_cast, ← imin_cast]
        exact Rat.intCast_lt_intCast.mpr h
      simp only [castP, List.map_cons, rem_cons] at ih ⊢
      rw [ih]
      have : rlen t d (((max x.1 b : Int) : Rat), ((min x.2 e : Int) : Rat)) = rlen (rmax b t) (rmin e d) ((x.1 : Rat), (x.2 : Rat)) := by
        rw [imax_cast, imin_cast]
        unfold rlen rmax rmin at *
        simp only
        grind
      rw [this]
    · rw [if_neg h]
      have h' : ¬ rmax x.1 b < rmin x.2 e := by
        rw [← imax_cast, ← imin_cast]
        exact fun z => h (Rat.intCast_lt_intCast.mp z)
      simp only [castP, List.map_cons, rem_cons] at ih ⊢
      rw [ih]
      have : rlen (rmax b t) (rmin e d) ((x.1 : Rat), (x.2 : Rat)) = 0 := by
        unfold rlen rmax rmin at *
        simp only
        grind
      rw [this]; grind
/-- first and last of a window -/
def Fi {N : Type} (free : List (Int × Int)) (j : Jb N) : Int := ((freePart free j.cm j.du).head?.getD (0, 0)).1
def La {N : Type} (free : List (Int × Int)) (j : Jb N) : Int := ((freePart free j.cm j.du).getLast?.getD (0, 0)).2
structure Win {N : Type} (free : List (Int × Int)) (j : Jb N) : Prop where
  lo : j.cm ≤ Fi free j
  lt : Fi free j < La free j
  hi : La free j ≤ j.du
  mid : ∀ x : Rat, inF free x → (j.cm : Rat) ≤ x → x < (j.du : Rat) → (Fi free j : Rat) ≤ x ∧ x < (La free j : Rat)
  fst : inF free (Fi free j : Rat)
  lst : inF free ((La free j - 1 : Int) : Rat)
  llo : j.cm ≤ La free j - 1
theorem ends_of {P : List (Int × Int)} (ok : FreeOk P) (hne : P ≠ []) : ∃ h ∈ P, ∃ g ∈ P, P.head?.getD (0, 0) = h ∧ P.getLast?.getD (0, 0) = g ∧ (∀ z ∈ P, h.1 ≤ z.1) ∧ ∀ z ∈ P, z.2 ≤ g.2 := by
  have e2 : P.getLast?.getD (0, 0) = P.getLast hne := by rw [List.getLast?_eq_some_getLast hne]; rfl
  have hl : P.getLast hne ∈ P := List.getLast_mem _
  have h7 : ∀ z ∈ P, z.2 ≤ (P.getLast hne).2 := fun z hz => by
    have hd := List.dropLast_concat_getLast hne
    have hz' := hz
    rw [← hd] at hz'
    rcases List.mem_append.mp hz' with e | e
    · have ok1 := ok.1
      rw [← hd] at ok1
      have := (List.pairwise_append.mp ok1).2.2 z e _ (List.mem_singleton_self _)
      have := ok.2 _ hl
      omega
    · rw [List.mem_singleton.mp e]; exact Int.le_refl _
  refine ⟨P.head hne, List.head_mem hne, P.getLast hne, hl, ?_, e2, fun z hz => ?_, h7⟩
  · cases P with
    | nil => exact absurd rfl hne
    | cons a r => rfl
  · cases P with
    | nil => exact absurd rfl hne
    | cons a r =>
      rcases List.mem_cons.mp hz with e | e
      · rw [e]; exact Int.le_refl _
      · have h1 := (List.pairwise_cons.mp ok.1).1 _ e
        have h2 := ok.2 a List.mem_cons_self
        show a.1 ≤ z.1
        omega
theorem win_of {N : Type} {free : List (Int × Int)} {j : Jb N} (hf : FreeOk free) (hne : freePart free j.cm j.du ≠ []) : Win free j := by
  have ok := part_ok hf j.cm j.du
  have hin : ∀ x : Rat, inF (freePart free j.cm j.du) x ↔ inF free x ∧ (j.cm : Rat) ≤ x ∧ x < (j.du : Rat) := fun x => inF_part
  have hb : ∀ z ∈ freePart free j.cm j.du, j.cm ≤ z.1 ∧ z.2 ≤ j.du := fun z hz => by
    obtain ⟨x, hx, h1, rfl⟩ := part_mem.mp hz
    simp only
    omega
  obtain ⟨h, hh, g, hg, e1, e2, h6, h7⟩ := ends_of ok hne
  have f1 : Fi free j = h.1 := by unfold Fi; rw [e1]
  have f2 : La free j = g.2 := by unfold La; rw [e2]
  have h1 := ok.2 h hh
  have h2 := ok.2 g hg
  have h3 := hb h hh
  have h4 := hb g hg
  have h5 := h6 g hg
  constructor
  · rw [f1]; exact h3.1
  · rw [f1, f2]; omega
  · rw [f2]; exact h4.2
  · intro x a b c
    rw [f1, f2]
    obtain ⟨z, hz, d, e⟩ := (hin x).mpr ⟨a, b, c⟩
    have a1 := Rat.intCast_le_intCast.mpr (h6 z hz)
    have a2 := Rat.intCast_le_intCast.mpr (h7 z hz)
    constructor <;> grind
  · rw [f1]
    exact ((hin (h.1 : Rat)).mp ⟨h, hh, Rat.le_refl, Rat.intCast_lt_intCast.mpr h1.2⟩).1
  · rw [f2]
    exact ((hin ((g.2 - 1 : Int) : Rat)).mp ⟨g, hg, Rat.intCast_le_intCast.mpr (by omega), Rat.intCast_lt_intCast.mpr (by omega)⟩).1
  · rw [f2]; omega
theorem part_ne {free : List (Int × Int)} {b e : Int} {x : Rat} (h : inF free x) (h1 : (b : Rat) ≤ x) (h2 : x < (e : Rat)) : freePart free b e ≠ [] := fun z => by
  obtain ⟨y, hy, _⟩ := inF_part.mpr ⟨h, h1, h2⟩
  rw [z] at hy
  cases hy
theorem int_le_of_lt {a b : Int} (h : (a : Rat) < (b : Rat)) : a + 1 ≤ b := Int.add_one_le_of_lt (Rat.intCast_lt_intCast.mp h)
theorem Win.order {N : Type} {free : List (Int × Int)} {i j : Jb N} (wj : Win free j) (wi : Win free i) (h : j.du ≤ i.du) : La free j ≤ La free i := by
  by_cases e : i.cm ≤ La free j - 1
  · have := (wi.mid _ wj.lst (Rat.intCast_le_intCast.mpr e) (Rat.intCast_lt_intCast.mpr (by have := wj.hi; omega))).2
    have := int_le_of_lt this
    omega
  · have := wi.lo
    have := wi.lt
    omega
/-! the rounds -/
section
variable {N : Type}
def inn (free : List (Int × Int)) (a b : Int) (j : Jb N) : Bool := decide (a ≤ Fi free j ∧ La free j ≤ b)
def loadR (free : List (Int × Int)) (ws : List (Jb N)) (a b : Int) : Rat := ls (fun j => if inn free a b j = true then j.wk else 0) ws
def lenF (free : List (Int × Int)) (a b : Int) : Int := ((freePart free a b).map fun x => x.2 - x.1).sum
structure Dens (free : List (Int × Int)) (ws : List (Jb N)) (a b : Int) : Prop where
  fa : ∃ j ∈ ws, Fi free j = a
  lb : ∃ j ∈ ws, La free j = b
  lt : a < b
  pos : 0 < loadR free ws a b
  best : ∀ i ∈ ws, ∀ j ∈ ws, Fi free i < La free j → 0 < loadR free ws (Fi free i) (La free j) → loadR free ws (Fi free i) (La free j) * (lenF free a b : Rat) ≤ loadR free ws a b * (lenF free (Fi free i) (La free j) : Rat)
def takenAway (free : List (Int × Int)) (a b : Int) : List (Int × Int) := freePart free 0 a ++ freePart free b (free.getLast?.getD (0, 0)).2
structure Rnd (N : Type) where
  sp : Rat
  nms : List N
  gv : List (Int × Int)
  a : Int
  b : Int
inductive Rounds : List (Jb N) → List (Int × Int) → List (Rnd N) → Prop
  | nil (free : List (Int × Int)) : Rounds [] free []
  | cons {ws : List (Jb N)} {free : List (Int × Int)} {a b : Int} {rest : List (Rnd N)} : Dens free ws a b → Rounds (ws.filter fun j => !inn free a b j) (takenAway free a b) rest →
      Rounds ws free (⟨loadR free ws a b / (lenF free a b : Rat), (ws.filter fun j => inn free a b j).map (·.nm), freePart free a b, a, b⟩ :: rest)
theorem lenF_eq (free : List (Int × Int)) (a b : Int) : ((lenF free a b : Int) : Rat) = rem (castP free) a b := by
  have h := rem_part a b a b free
  have e1 : rmax (a : Rat) a = a := by unfold rmax; grind
  have e2 : rmin (b : Rat) b = b := by unfold rmin; grind
  rw [e1, e2] at h
  rw [← h]
  unfold lenF
  have : ∀ P : List (Int × Int), (∀ z ∈ P, a ≤ z.1 ∧ z.1 < z.2 ∧ z.2 ≤ b) → (((P.map fun x => x.2 - x.1).sum : Int) : Rat) = rem (castP P) a b := fun P => by
    induction P with
    | nil => intro _; rfl
    | cons z r ih =>
      intro hz
      have h1 := ih fun w hw => hz w (List.mem_cons_of_mem _ hw)
      obtain ⟨z1, z2, z3⟩ := hz z List.mem_cons_self
      have z1' := Rat.intCast_le_intCast.mpr z1
      have z2' := Rat.intCast_lt_intCast.mpr z2
      have z3' := Rat.intCast_le_intCast.mpr z3
      simp only [List.map_cons, List.sum_cons, castP, rem_cons] at h1 ⊢
      rw [Rat.intCast_add, h1, Rat.intCast_sub]
      have : rlen a b ((z.1 : Rat), (z.2 : Rat)) = z.2 - z.1 := by
        unfold rlen rmin rmax
        simp only
        grind
      rw [this]
  apply this
  intro z hz
  obtain ⟨x, hx, h1, rfl⟩ := part_mem.mp hz
  simp only
  omega
theorem ex_min (f : Jb N → Int) : ∀ {A : List (Jb N)}, A ≠ [] → ∃ i ∈ A, ∀ j ∈ A, f i ≤ f j
  | [a], _ => ⟨a, List.mem_cons_self, fun j hj => by rw [List.mem_singleton.mp hj]; exact Int.le_refl _⟩
  | a :: b :: r, _ => by
    obtain ⟨i, hi, h⟩ := ex_min f (A := b :: r) (by simp)
    by_cases e : f a ≤ f i
    · refine ⟨a, List.mem_cons_self, fun j hj => ?_⟩
      rcases List.mem_cons.mp hj with rfl | hj
      · exact Int.le_refl _
      · have := h j hj; omega
    · refine ⟨i, List.mem_cons_of_mem _ hi, fun j hj => ?_⟩
      rcases List.mem_cons.mp hj with rfl | hj
      · omega
      · exact h j hj
theorem ls_pick' {α : Type} {A : List α} {g : α → Rat} (hg : ∀ j ∈ A, 0 ≤ g j) {j : α} (hj : j ∈ A) : g j ≤ ls g A := by
  induction A with
  | nil => cases hj
  | cons a r ih =>
    have h1 := hg a List.mem_cons_self
    have h2 : 0 ≤ ls g r := ls_nonneg fun b hb => hg b (List.mem_cons_of_mem _ hb)
    rcases List.mem_cons.mp hj with rfl | hj
    · simp only [ls]; grind
    · have := ih (fun b hb => hg b (List.mem_cons_of_mem _ hb)) hj
      simp only [ls]; grind
theorem rem_pos {free : List (Int × Int)} {x : Rat} {a b : Int} (h : inF free x) (h1 : (a : Rat) ≤ x) (h2 : x < (b : Rat)) : 0 < rem (castP free) a b := by
  obtain ⟨z, hz, h3, h4⟩ := h
  have h5 : rlen a b ((z.1 : Rat), (z.2 : Rat)) ≤ rem (castP free) a b := ls_pick' (fun y _ => rlen_nonneg _ _ y) (List.mem_map.mpr ⟨z, hz, rfl⟩)
  have h6 : 0 < rlen a b ((z.1 : Rat), (z.2 : Rat)) := by
    unfold rlen rmin rmax
    simp only
    grind
  grind
variable {free : List (Int × Int)} {ws : List (Jb N)} {a b : Int}
theorem Dens.own (D : Dens free ws a b) : ∃ j ∈ ws, inn free a b j = true := by
  apply Classical.byContradiction
  intro hn
  have : loadR free ws a b = 0 := ls_zero fun j hj => by
    rw [if_neg]
    exact fun z => hn ⟨j, hj, z⟩
  have := D.pos
  grind
theorem Dens.len (D : Dens free ws a b) (hw : ∀ j ∈ ws, Win free j) : (0 : Rat) < (lenF free a b : Rat) := by
  obtain ⟨j, hj, h⟩ := D.own
  have h' := of_decide_eq_true h
  have w := hw j hj
  rw [lenF_eq]
  exact rem_pos w.fst (Rat.intCast_le_intCast.mpr h'.1) (Rat.intCast_lt_intCast.mpr (by have := w.lt; omega))
theorem Dens.speed (D : Dens free ws a b) (hw : ∀ j ∈ ws, Win free j) : 0 < loadR free ws a b / (lenF free a b : Rat) := by
  have h1 := D.len hw
  have h2 := Rat.mul_pos D.pos (Rat.inv_pos.mpr h1)
  rw [Rat.div_def]
  exact h2
theorem div_mul {x y : Rat} (h : 0 < y) : x / y * y = x := by
  rw [Rat.div_def, Rat.mul_assoc, Rat.inv_mul_cancel y (by grind), Rat.mul_one]
/-- the works of a round fit into its time -/
theorem Dens.feas [DecidableEq N] (D : Dens free ws a b) (hf : FreeOk free) (hw : ∀ j ∈ ws, Win free j) (hp : ∀ j ∈ ws, 0 ≤ j.wk) {l : N → Rat} {own : List (Jb N)} (hown : own = ws.filter fun j => inn free a b j) (hl : ∀ j ∈ own, l j.nm = j.wk)
    {x : Int × Int} {rest : List (Int × Int)} (hR : freePart free a b = x :: rest) :
    Feas own (loadR free ws a b / (lenF free a b : Rat)) (fun j => (Fi free j : Rat)) (fun j => (La free j : Rat)) (castP (freePart free a b)) x.1 l := by
  have hlen := D.len hw
  have hs := D.speed hw
  have hsl := div_mul (x := loadR free ws a b) hlen
  generalize hsd : loadR free ws a b / (lenF free a b : Rat) = s at *
  have hok := part_ok hf a b
  rw [hR] at hok
  have hx : ∀ z ∈ castP (freePart free a b), (x.1 : Rat) ≤ z.1 := fun z hz => by
    rw [hR] at hz
    obtain ⟨z', hz', rfl⟩ := List.mem_map.mp hz
    apply Rat.intCast_le_intCast.mpr
    rcases List.mem_cons.mp hz' with e | e
    · rw [e]; exact Int.le_refl _
    · have h1 := (List.pairwise_cons.mp hok.1).1 _ e
      have h2 := hok.2 x List.mem_cons_self
      omega
  have hxa : a ≤ x.1 := by
    obtain ⟨z, _, h1, h2⟩ := part_mem.mp (show x ∈ freePart free a b by rw [hR]; exact List.mem_cons_self)
    rw [h2]
    simp only
    omega
  have hmem : ∀ j ∈ own, j ∈ ws ∧ a ≤ Fi free j ∧ La free j ≤ b := fun j hj => by
    rw [hown] at hj
    obtain ⟨h1, h2⟩ := List.mem_filter.mp hj
    exact ⟨h1, of_decide_eq_true h2⟩
  have key : ∀ t d : Rat, ls (fun j => if t ≤ (Fi free j : Rat) ∧ (La free j : Rat) ≤ d then l j.nm else 0) own ≤ s * rem (castP (freePart free a b)) t d := fun t d => by
    by_cases hS : (own.filter fun j => decide (t ≤ (Fi free j : Rat) ∧ (La free j : Rat) ≤ d)) = []
    · have : ls (fun j => if t ≤ (Fi free j : Rat) ∧ (La free j : Rat) ≤ d then l j.nm else 0) own = 0 := ls_zero fun j hj => by
        rw [if_neg]
        intro z
        have : j ∈ own.filter fun j => decide (t ≤ (Fi free j : Rat) ∧ (La free j : Rat) ≤ d) := List.mem_filter.mpr ⟨hj, decide_eq_true z⟩
        rw [hS] at this
        cases this
      rw [this]
      exact Rat.mul_nonneg (by grind) (rem_nonneg _ _ _)
    · obtain ⟨i, hi, h1⟩ := ex_min (fun j => Fi free j) hS
      obtain ⟨j, hj, h2⟩ := ex_min (fun j => - La free j) hS
      have hi' := List.mem_filter.mp hi
      have hj' := List.mem_filter.mp hj
      have ci := of_decide_eq_true hi'.2
      have cj := of_decide_eq_true hj'.2
      obtain ⟨mi, ai, bi⟩ := hmem i hi'.1
      obtain ⟨mj, aj, bj⟩ := hmem j hj'.1
      have hlt : Fi free i < La free j := by
        have := h1 j hj
        have := (hw j mj).lt
        omega
      have h3 : ls (fun j => if t ≤ (Fi free j : Rat) ∧ (La free j : Rat) ≤ d then l j.nm else 0) own ≤ loadR free ws (Fi free i) (La free j) := by
        unfold loadR
        have e1 : ls (fun j => if t ≤ (Fi free j : Rat) ∧ (La free j : Rat) ≤ d then l j.nm else 0) own = ls (fun j => if inn free a b j = true then (if t ≤ (Fi free j : Rat) ∧ (La free j : Rat) ≤ d then j.wk else 0) else 0) ws := by
          have e2 : ls (fun j => if t ≤ (Fi free j : Rat) ∧ (La free j : Rat) ≤ d then l j.nm else 0) own = ls (fun j => if t ≤ (Fi free j : Rat) ∧ (La free j : Rat) ≤ d then j.wk else 0) own := ls_congr fun k hk => by rw [hl k hk]
          rw [e2, hown, ls_filter]
        rw [e1]
        apply ls_le
        intro k hk
        have hpk := hp k hk
        by_cases c1 : inn free a b k = true
        · by_cases c2 : t ≤ (Fi free k : Rat) ∧ (La free k : Rat) ≤ d
          · have hk' : k ∈ own.filter fun j => decide (t ≤ (Fi free j : Rat) ∧ (La free j : Rat) ≤ d) := List.mem_filter.mpr ⟨by rw [hown]; exact List.mem_filter.mpr ⟨hk, c1⟩, decide_eq_true c2⟩
            have h5 := h1 k hk'
            have h6 := h2 k hk'
            have : inn free (Fi free i) (La free j) k = true := decide_eq_true ⟨h5, by omega⟩
            simp [c1, c2, this, Rat.le_refl]
          · simp only [c1, if_true, if_neg c2]
            split <;> grind
        · simp only [c1]
          split <;> grind
      by_cases hpos : 0 < loadR free ws (Fi free i) (La free j)
      · have h4 := D.best i mi j mj hlt hpos
        have h5 : ((lenF free (Fi free i) (La free j) : Int) : Rat) ≤ rem (castP (freePart free a b)) t d := by
          rw [lenF_eq, rem_part]
          have := Rat.intCast_le_intCast.mpr ai
          have := Rat.intCast_le_intCast.mpr bj
          apply rem_mono
          · unfold rmax; grind
          · unfold rmin; grind
        have h6 : loadR free ws (Fi free i) (La free j) ≤ s * (lenF free (Fi free i) (La free j) : Rat) := by
          apply Rat.not_lt.mp
          intro z
          have h8 := Rat.mul_lt_mul_of_pos_right z hlen
          rw [← hsl] at h4
          have e9 : s * (lenF free (Fi free i) (La free j) : Rat) * (lenF free a b : Rat) = s * (lenF free a b : Rat) * (lenF free (Fi free i) (La free j) : Rat) := by grind
          rw [e9] at h8
          exact Rat.not_le.mpr h8 h4
        have h7 := Rat.mul_le_mul_of_nonneg_left h5 (show 0 ≤ s by grind)
        grind
      · have h4 : 0 ≤ s * rem (castP (freePart free a b)) t d := Rat.mul_nonneg (by grind) (rem_nonneg _ _ _)
        grind
  refine ⟨fun j hj => by rw [hl j hj]; exact hp j (hmem j hj).1, fun d => ?_, fun t d _ => key t d, fun d hd => ?_⟩
  · have h1 := key a d
    rw [rem_early (y := (x.1 : Rat)) hx (Rat.intCast_le_intCast.mpr hxa)] at h1
    have e : ls (fun j => if (La free j : Rat) ≤ d then l j.nm else 0) own = ls (fun j => if (a : Rat) ≤ (Fi free j : Rat) ∧ (La free j : Rat) ≤ d then l j.nm else 0) own := ls_congr fun j hj => by
      have := Rat.intCast_le_intCast.mpr (hmem j hj).2.1
      by_cases c : (La free j : Rat) ≤ d <;> simp [this, c]
    rw [e]
    exact h1
  · have e1 : ls (fun j => l j.nm) own = loadR free ws a b := by
      rw [ls_congr hl, hown, ls_filter]
      rfl
    rw [e1, ← hsl, lenF_eq]
    congr 1
    have e2 : rem (castP free) a b = rem (castP (freePart free a b)) a b := by
      rw [rem_part]
      have e1 : rmax (a : Rat) a = a := by unfold rmax; grind
      have e2 : rmin (b : Rat) b = b := by unfold rmin; grind
      rw [e1, e2]
    rw [e2]
    apply ls_congr
    intro z hz
    have h1 := hx z hz
    have h2 := hd z hz
    obtain ⟨z', hz', rfl⟩ := List.mem_map.mp hz
    obtain ⟨w, _, h3, h4⟩ := part_mem.mp hz'
    have h5 := Rat.intCast_le_intCast.mpr (show a ≤ z'.1 by rw [h4]; simp only; omega)
    have h6 := Rat.intCast_le_intCast.mpr (show z'.2 ≤ b by rw [h4]; simp only; omega)
    have h7 := Rat.intCast_lt_intCast.mpr (show z'.1 < z'.2 by rw [h4]; exact h3)
    simp only at h1 h2
    unfold rlen rmin rmax
    simp only
    grind
end
end SW

set_option Elab.async false
set_option linter.all false
/-! the earliest due first: one turn, a round, the whole plan -/
namespace SW
section
variable {N : Type} [DecidableEq N]
def avail (l : N → Rat) (y : Rat) (j : Jb N) : Prop := y < (j.du : Rat) ∧ ¬ y < (j.cm : Rat) ∧ l j.nm ≠ 0
instance (l : N → Rat) (y : Rat) (j : Jb N) : Decidable (avail l y j) := by unfold avail; infer_instance
/-- the mirror of first_due -/
def fdStep (l : N → Rat) (y : Rat) (c : Option (Jb N)) (j : Jb N) : Option (Jb N) :=
  if avail l y j then (match c with
    | none => some j
    | some c' => if j.du < c'.du then some j else some c') else c
def firstDue (own : List (Jb N)) (l : N → Rat) (y : Rat) : Option (Jb N) := own.foldl (fdStep l y) none
theorem fd_go (l : N → Rat) (y : Rat) : ∀ (own : List (Jb N)) (c : Option (Jb N)), match own.foldl (fdStep l y) c with
    | none => c = none ∧ ∀ j ∈ own, ¬ avail l y j
    | some j => (some j = c ∨ (j ∈ own ∧ avail l y j)) ∧ (∀ i, c = some i → j.du ≤ i.du) ∧ ∀ i ∈ own, avail l y i → j.du ≤ i.du
  | [], c => by
    cases c with
    | none => exact ⟨rfl, fun _ h => (List.not_mem_nil h).elim⟩
    | some j => exact ⟨.inl rfl, fun i e => by cases e; exact Int.le_refl _, fun _ h => (List.not_mem_nil h).elim⟩
  | a :: r, c => by
    rw [List.foldl_cons]
    have ih := fd_go l y r (fdStep l y c a)
    cases e : r.foldl (fdStep l y) (fdStep l y c a) with
    | none =>
      rw [e] at ih
      simp only at ih ⊢
      obtain ⟨h1, h2⟩ := ih
      unfold fdStep at h1
      by_cases ha : avail l y a
      · rw [if_pos ha] at h1
        cases c with
        | none => cases h1
        | some c' =>
          simp only at h1
          split at h1 <;> cases h1
      · rw [if_neg ha] at h1
        refine ⟨h1, fun j hj => ?_⟩
        rcases List.mem_cons.mp hj with rfl | hj
        · exact ha
        · exact h2 j hj
    | some j =>
      rw [e] at ih
      simp only at ih ⊢
      obtain ⟨h1, h2, h3⟩ := ih
      have h4 : (∀ i, c = some i → j.du ≤ i.du) ∧ (avail l y a → j.du ≤ a.du) ∧ (some j = fdStep l y c a → some j = c ∨ (j = a ∧ avail l y a)) := by
        unfold fdStep at h2 ⊢
        by_cases ha : avail l y a
        · rw [if_pos ha] at h2 ⊢
          cases c with
          | none =>
            simp only at h2 ⊢
            refine ⟨fun i z => (by cases z), fun _ => h2 a rfl, fun z => Or.inr ⟨(by cases z; rfl), ha⟩⟩
          | some c' =>
            simp only at h2 ⊢
            by_cases hc : a.du < c'.du
            · rw [if_pos hc] at h2 ⊢
              have := h2 a rfl
              exact ⟨fun i z => (by cases z; omega), fun _ => this, fun z => Or.inr ⟨(by cases z; rfl), ha⟩⟩
            · rw [if_neg hc] at h2 ⊢
              have := h2 c' rfl
              exact ⟨fun i z => (by cases z; omega), fun _ => (by omega), fun z => Or.inl z⟩
        · rw [if_neg ha] at h2 ⊢
          exact ⟨h2, fun z => absurd z ha, fun z => .inl z⟩
      refine ⟨?_, h4.1, fun i hi => ?_⟩
      · rcases h1 with h1 | h1
        · rcases h4.2.2 h1 with z | ⟨z, w⟩
          · exact .inl z
          · exact .inr ⟨by rw [z]; exact List.mem_cons_self, by rw [z]; exact w⟩
        · exact .inr ⟨List.mem_cons_of_mem _ h1.1, h1.2⟩
      · rcases List.mem_cons.mp hi with rfl | hi
        · exact h4.2.1
        · exact h3 i hi
theorem fd_none {own : List (Jb N)} {l : N → Rat} {y : Rat} (h : firstDue own l y = none) : ∀ j ∈ own, ¬ avail l y j := by
  have := fd_go l y own none
  unfold firstDue at h
  rw [h] at this
  exact this.2
theorem fd_some {own : List (Jb N)} {l : N → Rat} {y : Rat} {j : Jb N} (h : firstDue own l y = some j) : j ∈ own ∧ avail l y j ∧ ∀ i ∈ own, avail l y i → j.du ≤ i.du := by
  have := fd_go l y own none
  unfold firstDue at h
  rw [h] at this
  obtain ⟨h1, _, h3⟩ := this
  rcases h1 with h1 | h1
  · cases h1
  · exact ⟨h1.1, h1.2, h3⟩
/-- the mirror of the inner loop of round_pieces -/
def unStep (y : Rat) (u : Rat) (o : Jb N) : Rat := if y < (o.cm : Rat) then rmin u o.cm else u
def untilF (own : List (Jb N)) (y u0 : Rat) : Rat := own.foldl (unStep y) u0
theorem un_spec (y : Rat) : ∀ (own : List (Jb N)) (u0 : Rat), y < u0 → y < untilF own y u0 ∧ untilF own y u0 ≤ u0 ∧ (∀ o ∈ own, y < (o.cm : Rat) → untilF own y u0 ≤ (o.cm : Rat)) ∧ (untilF own y u0 = u0 ∨ ∃ o ∈ own, y < (o.cm : Rat) ∧ untilF own y u0 = (o.cm : Rat))
  | [], u0, h => ⟨h, Rat.le_refl, fun _ h => (List.not_mem_nil h).elim, .inl rfl⟩
  | a :: r, u0, h => by
    have e : untilF (a :: r) y u0 = untilF r y (unStep y u0 a) := rfl
    rw [e]
    have h1 : y < unStep y u0 a := by unfold unStep rmin; grind
    obtain ⟨i1, i2, i3, i4⟩ := un_spec y r (unStep y u0 a) h1
    have h2 : unStep y u0 a ≤ u0 := by unfold unStep rmin; grind
    refine ⟨i1, by grind, fun o ho hy => ?_, ?_⟩
    · rcases List.mem_cons.mp ho with rfl | ho
      · have : unStep y u0 o ≤ (o.cm : Rat) := by unfold unStep rmin; grind
        grind
      · exact i3 o ho hy
    · rcases i4 with i4 | ⟨o, ho, i5, i6⟩
      · by_cases c : y < (a.cm : Rat)
        · by_cases c2 : (a.cm : Rat) < u0
          · exact .inr ⟨a, List.mem_cons_self, c, by rw [i4]; unfold unStep rmin; rw [if_pos c, if_pos c2]⟩
          · exact .inl (by rw [i4]; unfold unStep rmin; rw [if_pos c, if_neg c2])
        · exact .inl (by rw [i4]; unfold unStep; rw [if_neg c])
      · exact .inr ⟨o, List.mem_cons_of_mem _ ho, i5, i6⟩
/-- the works behind a piece -/
def less1 (l : N → Rat) (n : N) (x : Rat) : N → Rat := fun i => if i = n then l i - x else l i
/-- one stretch of time, one piece after the other -/
inductive Run (own : List (Jb N)) (s : Rat) : Rat → Rat → (N → Rat) → List (Pc N) → (N → Rat) → Prop
  | stop {y f : Rat} {l : N → Rat} : ¬ y < f → Run own s y f l [] l
  | go {y f u : Rat} {l l' : N → Rat} {j : Jb N} {ps : List (Pc N)} : y < f → j ∈ own → avail l y j → (∀ i ∈ own, avail l y i → j.du ≤ i.du) → y < u → u ≤ f → u ≤ (j.du : Rat) → s * (u - y) ≤ l j.nm →
      (∀ o ∈ own, y < (o.cm : Rat) → u ≤ (o.cm : Rat)) → Run own s u f (less1 l j.nm (s * (u - y))) ps l' → Run own s y f l (⟨y, u, j.nm, s⟩ :: ps) l'
inductive Runs (own : List (Jb N)) (s : Rat) : List (Int × Int) → (N → Rat) → List (Pc N) → (N → Rat) → Prop
  | nil {l : N → Rat} : Runs own s [] l [] l
  | cons {a b : Int} {l l1 l2 : N → Rat} {ps qs : List (Pc N)} {rest : List (Int × Int)} : Run own s a b l ps l1 → Runs own s rest l1 qs l2 → Runs own s ((a, b) :: rest) l (ps ++ qs) l2
/-- how many turns there may still be -/
def turns (own : List (Jb N)) (l : N → Rat) (y : Rat) : Nat := own.countP (fun j => decide (l j.nm ≠ 0)) + own.countP (fun j => decide (y < (j.cm : Rat)))
structure EdfCx (own : List (Jb N)) (free : List (Int × Int)) (s : Rat) : Prop where
  nd : (own.map (·.nm)).Nodup
  win : ∀ j ∈ own, Win free j
  pos : 0 < s
theorem countP_lt {α : Type} {p q : α → Bool} {A : List α} (h : ∀ a ∈ A, q a = true → p a = true) {b : α} (hb : b ∈ A) (h1 : p b = true) (h2 : q b = false) : A.countP q < A.countP p := by
  induction A with
  | nil => cases hb
  | cons a r ih =>
    have h3 : r.countP q ≤ r.countP p := List.countP_mono_left fun x hx => h x (List.mem_cons_of_mem _ hx)
    rw [List.countP_cons, List.countP_cons]
    rcases List.mem_cons.mp hb with rfl | hb
    · rw [h1, h2]
      simp only [if_true]
      simp
      omega
    · have := ih (fun x hx => h x (List.mem_cons_of_mem _ hx)) hb
      have h4 := h a List.mem_cons_self
      cases e : q a with
      | false => simp; split <;> omega
      | true => rw [h4 e]; simp; omega
section
variable {own : List (Jb N)} {free : List (Int × Int)} {s y f : Rat} {l : N → Rat} {rest : List (Rat × Rat)}
theorem avail_win (w : ∀ j ∈ own, Win free j) (hy : inF free y) {j : Jb N} (hj : j ∈ own) : avail l y j ↔ ((Fi free j : Rat) ≤ y ∧ y < (La free j : Rat) ∧ l j.nm ≠ 0) := by
  have W := w j hj
  have a := Rat.intCast_le_intCast.mpr W.lo
  have b := Rat.intCast_le_intCast.mpr W.hi
  unfold avail
  constructor
  · rintro ⟨h1, h2, h3⟩
    have := W.mid y hy (by grind) h1
    exact ⟨this.1, this.2, h3⟩
  · rintro ⟨h1, h2, h3⟩
    exact ⟨by grind, by grind, h3⟩
/-- ONE TURN of round_pieces: there is a job, and behind its piece the works fit again -/
theorem edf_turn (C : EdfCx own free s) (Z : Feas own s (fun j => (Fi free j : Rat)) (fun j => (La free j : Rat)) ((y, f) :: rest) y l) (hr : ∀ x ∈ rest, f ≤ x.1 ∧ x.1 ≤ x.2) (hy : y < f) (hin : ∀ x, y ≤ x → x < f → inF free x) :
    ∃ j, firstDue own l y = some j ∧ j ∈ own ∧ avail l y j ∧ (∀ i ∈ own, avail l y i → j.du ≤ i.du) ∧
      ∀ u, u = untilF own y (rmin f (y + l j.nm / s)) → y < u ∧ u ≤ f ∧ u ≤ (j.du : Rat) ∧ s * (u - y) ≤ l j.nm ∧ (∀ o ∈ own, y < (o.cm : Rat) → u ≤ (o.cm : Rat)) ∧
        Feas own s (fun j => (Fi free j : Rat)) (fun j => (La free j : Rat)) ((u, f) :: rest) u (less1 l j.nm (s * (u - y))) ∧ (u < f → turns own (less1 l j.nm (s * (u - y))) u < turns own l y) ∧ turns own (less1 l j.nm (s * (u - y))) u ≤ turns own l y := by
  have hs := C.pos
  have hyF := hin y Rat.le_refl hy
  have hav : ∀ {j : Jb N}, j ∈ own → (avail l y j ↔ ((Fi free j : Rat) ≤ y ∧ y < (La free j : Rat) ∧ l j.nm ≠ 0)) := fun hj => avail_win C.win hyF hj
  cases e : firstDue own l y with
  | none =>
    exfalso
    obtain ⟨j, hj, h1, h2, h3⟩ := Z.some hs hr hy
    exact fd_none e j hj ((hav hj).mpr ⟨h1, h2, h3⟩)
  | some j =>
    obtain ⟨hj, hja, hjm⟩ := fd_some e
    refine ⟨j, rfl, hj, hja, hjm, fun u hu => ?_⟩
    obtain ⟨j1, j2, j3⟩ := (hav hj).mp hja
    have hl0 : 0 < l j.nm := by have := Z.nn j hj; grind
    have hd := div_mul (x := l j.nm) hs
    have hdp : 0 < l j.nm / s := by
      rw [Rat.div_def]
      exact Rat.mul_pos hl0 (Rat.inv_pos.mpr hs)
    generalize l j.nm / s = d at *
    have h0 : y < rmin f (y + d) := by unfold rmin; grind
    obtain ⟨u1, u2, u3, u4⟩ := un_spec y own _ h0
    rw [← hu] at u1 u2 u3 u4
    have u5 : u ≤ f := by unfold rmin at u2; grind
    have u6 : u ≤ y + d := by unfold rmin at u2; grind
    have u7 : s * (u - y) ≤ l j.nm := by
      have := Rat.mul_le_mul_of_nonneg_left (show u - y ≤ d by grind) (show 0 ≤ s by grind)
      grind
    have hF : ∀ o ∈ own, (Fi free o : Rat) ≤ y ∨ u ≤ (Fi free o : Rat) := fun o ho => by
      have W := C.win o ho
      have a := Rat.intCast_le_intCast.mpr W.lo
      have b := Rat.intCast_le_intCast.mpr W.hi
      have c := Rat.intCast_lt_intCast.mpr W.lt
      by_cases h1 : y < (o.cm : Rat)
      · have := u3 o ho h1
        right; grind
      · by_cases h2 : y < (o.du : Rat)
        · left
          exact (W.mid y hyF (by grind) h2).1
        · left; grind
    obtain ⟨v1, v2⟩ := Z.step (u := u) hs hr C.nd hj (fun i hi h1 h2 h3 => Rat.intCast_le_intCast.mpr ((C.win j hj).order (C.win i hi) (hjm i hi ((hav hi).mpr ⟨h1, h2, h3⟩)))) (by grind) u5 u7 hF j2
    have v3 : u ≤ (j.du : Rat) := by
      have := Rat.intCast_le_intCast.mpr (C.win j hj).hi
      grind
    have t1 : ∀ o ∈ own, decide (less1 l j.nm (s * (u - y)) o.nm ≠ 0) = true → decide (l o.nm ≠ 0) = true := fun o ho h => by
      have h' := of_decide_eq_true h
      apply decide_eq_true
      unfold less1 at h'
      by_cases c : o.nm = j.nm
      · rw [c]; exact j3
      · rw [if_neg c] at h'; exact h'
    have t2 : ∀ o ∈ own, decide (u < (o.cm : Rat)) = true → decide (y < (o.cm : Rat)) = true := fun o ho h => by
      have h' := of_decide_eq_true h
      apply decide_eq_true
      grind
    have c1 : own.countP (fun o => decide (less1 l j.nm (s * (u - y)) o.nm ≠ 0)) ≤ own.countP (fun o => decide (l o.nm ≠ 0)) := List.countP_mono_left t1
    have c2 : own.countP (fun o => decide (u < (o.cm : Rat))) ≤ own.countP (fun o => decide (y < (o.cm : Rat))) := List.countP_mono_left t2
    refine ⟨u1, u5, v3, u7, u3, v2, fun huf => ?_, by unfold turns; omega⟩
    unfold turns
    rcases u4 with u4 | ⟨o, ho, u8, u9⟩
    · have e1 : u = y + d := by unfold rmin at u4; grind
      have := countP_lt t1 hj (decide_eq_true j3) (decide_eq_false (by
        unfold less1
        rw [if_pos rfl]
        grind))
      omega
    · have := countP_lt t2 ho (decide_eq_true u8) (decide_eq_false (by grind))
      omega
/-! what a run has done -/
theorem run_facts : ∀ {y f : Rat} {l l' : N → Rat} {ps : List (Pc N)}, Run own s y f l ps l' →
    (∀ p ∈ ps, y ≤ p.st ∧ p.st < p.en ∧ p.en ≤ f ∧ p.sp = s ∧ ∃ j ∈ own, j.nm = p.nm ∧ (j.cm : Rat) ≤ p.st ∧ p.en ≤ (j.du : Rat)) ∧ NoOv ps ∧ ∀ n, ls (fun q : Pc N => if q.nm = n then q.sp * (q.en - q.st) else 0) ps = l n - l' n := by
  intro y f l l' ps h
  induction h with
  | stop _ => exact ⟨fun _ h => (List.not_mem_nil h).elim, List.Pairwise.nil, fun n => by simp only [ls]; grind⟩
  | go h1 h2 h3 h4 h5 h6 h7 h8 h9 _ ih =>
    rename_i y f u l l' j ps _
    obtain ⟨i1, i2, i3⟩ := ih
    refine ⟨fun p hp => ?_, List.pairwise_cons.mpr ⟨fun q hq => ?_, i2⟩, fun n => ?_⟩
    · rcases List.mem_cons.mp hp with rfl | hp
      · exact ⟨Rat.le_refl, h5, h6, rfl, j, h2, rfl, by have := h3.2.1; simp only; grind, h7⟩
      · obtain ⟨a, b⟩ := i1 p hp
        exact ⟨by grind, b⟩
    · left
      have := (i1 q hq).1
      simp only; grind
    · simp only [ls]
      rw [i3 n]
      unfold less1
      by_cases e : n = j.nm
      · rw [if_pos e.symm, if_pos e]; grind
      · rw [if_neg (fun z => e z.symm), if_neg e]; grind
theorem runs_facts : ∀ {gv : List (Int × Int)} {l l' : N → Rat} {ps : List (Pc N)}, Runs own s gv l ps l' → FreeOk gv →
    (∀ p ∈ ps, (∃ z ∈ gv, (z.1 : Rat) ≤ p.st ∧ p.en ≤ (z.2 : Rat)) ∧ p.st < p.en ∧ p.sp = s ∧ ∃ j ∈ own, j.nm = p.nm ∧ (j.cm : Rat) ≤ p.st ∧ p.en ≤ (j.du : Rat)) ∧ NoOv ps ∧ ∀ n, ls (fun q : Pc N => if q.nm = n then q.sp * (q.en - q.st) else 0) ps = l n - l' n := by
  intro gv l l' ps h
  induction h with
  | nil => exact fun _ => ⟨fun _ h => (List.not_mem_nil h).elim, List.Pairwise.nil, fun n => by simp only [ls]; grind⟩
  | cons h1 h2 ih =>
    rename_i a b l l1 l2 ps qs rest
    intro ok
    obtain ⟨ok1, ok2⟩ := List.pairwise_cons.mp ok.1
    obtain ⟨i1, i2, i3⟩ := ih ⟨ok2, fun x hx => ok.2 x (List.mem_cons_of_mem _ hx)⟩
    obtain ⟨r1, r2, r3⟩ := run_facts h1
    refine ⟨fun p hp => ?_, List.pairwise_append.mpr ⟨r2, i2, fun p hp q hq => ?_⟩, fun n => ?_⟩
    · rcases List.mem_append.mp hp with hp | hp
      · obtain ⟨c1, c2, c3, c4, c5⟩ := r1 p hp
        exact ⟨⟨(a, b), List.mem_cons_self, c1, c3⟩, c2, c4, c5⟩
      · obtain ⟨⟨z, hz, c1⟩, c2⟩ := i1 p hp
        exact ⟨⟨z, List.mem_cons_of_mem _ hz, c1⟩, c2⟩
    · left
      have c1 := r1 p hp
      obtain ⟨⟨z, hz, c2, _⟩, _⟩ := i1 q hq
      have := Rat.intCast_le_intCast.mpr (ok1 z hz)
      simp only at this
      grind
    · rw [ls_append, r3 n, i3 n]; grind
end
/-! the whole plan -/
def wkOf (jobs : List (Jb N)) (n : N) : Rat := ((jobs.find? fun j => decide (j.nm = n)).map (·.wk)).getD 0
theorem wkOf_eq {jobs : List (Jb N)} (nd : (jobs.map (·.nm)).Nodup) {j : Jb N} (hj : j ∈ jobs) : wkOf jobs j.nm = j.wk := by
  unfold wkOf
  cases e : jobs.find? fun i => decide (i.nm = j.nm) with
  | none =>
    have := List.find?_eq_none.mp e j hj
    simp at this
  | some i =>
    have h1 := List.find?_some e
    have h2 := List.mem_of_find?_eq_some e
    have : i = j := nd_eq nd h2 hj (of_decide_eq_true h1)
    rw [this]
    rfl
inductive PlanOf (jobs : List (Jb N)) : List (Rnd N) → List (Pc N) → Prop
  | nil : PlanOf jobs [] []
  | cons {rd : Rnd N} {rds : List (Rnd N)} {ps qs : List (Pc N)} {l' : N → Rat} : Runs (jobs.filter fun j => decide (j.nm ∈ rd.nms)) rd.sp rd.gv (wkOf jobs) ps l' → PlanOf jobs rds qs → PlanOf jobs (rd :: rds) (ps ++ qs)
end
theorem inF_taken {free : List (Int × Int)} (hf : FreeOk free) {a b : Int} {x : Rat} : inF (takenAway free a b) x ↔ inF free x ∧ (x < (a : Rat) ∨ (b : Rat) ≤ x) := by
  have h1 : ∀ {x : Rat}, inF (takenAway free a b) x ↔ inF (freePart free 0 a) x ∨ inF (freePart free b (free.getLast?.getD (0, 0)).2) x := by
    intro x
    unfold takenAway inF
    constructor
    · rintro ⟨z, hz, h⟩
      rcases List.mem_append.mp hz with hz | hz
      · exact .inl ⟨z, hz, h⟩
      · exact .inr ⟨z, hz, h⟩
    · rintro (⟨z, hz, h⟩ | ⟨z, hz, h⟩)
      · exact ⟨z, List.mem_append.mpr (.inl hz), h⟩
      · exact ⟨z, List.mem_append.mpr (.inr hz), h⟩
  rw [h1, inF_part, inF_part]
  constructor
  · rintro (⟨h, _, c⟩ | ⟨h, c, _⟩)
    · exact ⟨h, .inl c⟩
    · exact ⟨h, .inr c⟩
  · rintro ⟨h, c⟩
    obtain ⟨z, hz, z1, z2⟩ := id h
    rcases c with c | c
    · refine .inl ⟨h, ?_, c⟩
      have := Rat.intCast_le_intCast.mpr (hf.2 z hz).1
      grind
    · refine .inr ⟨h, c, ?_⟩
      obtain ⟨_, _, g, hg, _, e2, _, h7⟩ := ends_of hf (fun e => by rw [e] at hz; cases hz)
      rw [e2]
      have := Rat.intCast_le_intCast.mpr (h7 z hz)
      grind
theorem taken_ok {free : List (Int × Int)} (hf : FreeOk free) {a b : Int} (h : a ≤ b) : FreeOk (takenAway free a b) := by
  have o1 := part_ok hf 0 a
  have o2 := part_ok hf b (free.getLast?.getD (0, 0)).2
  refine ⟨List.pairwise_append.mpr ⟨o1.1, o2.1, fun x hx y hy => ?_⟩, fun x hx => ?_⟩
  · obtain ⟨_, _, _, rfl⟩ := part_mem.mp hx
    obtain ⟨_, _, _, rfl⟩ := part_mem.mp hy
    simp only
    omega
  · rcases List.mem_append.mp hx with hx | hx
    · exact o1.2 x hx
    · exact o2.2 x hx
/-- the jobs that are left behind a round have a window -/
theorem next_win {N : Type} {free : List (Int × Int)} (hf : FreeOk free) {a b : Int} {ws : List (Jb N)} (hw : ∀ j ∈ ws, Win free j) : ∀ j ∈ ws.filter (fun j => !inn free a b j), freePart (takenAway free a b) j.cm j.du ≠ [] := fun j hj => by
  obtain ⟨h1, h2⟩ := List.mem_filter.mp hj
  have W := hw j h1
  have h3 : ¬ (a ≤ Fi free j ∧ La free j ≤ b) := by
    intro z
    have : inn free a b j = true := decide_eq_true z
    rw [this] at h2
    cases h2
  have c1 := W.lo
  have c2 := W.lt
  have c3 := W.hi
  have c4 := W.llo
  by_cases e : a ≤ Fi free j
  · have e2 : b + 1 ≤ La free j := by omega
    exact part_ne (x := ((La free j - 1 : Int) : Rat)) ((inF_taken hf).mpr ⟨W.lst, .inr (Rat.intCast_le_intCast.mpr (by omega))⟩) (Rat.intCast_le_intCast.mpr c4) (Rat.intCast_lt_intCast.mpr (by omega))
  · exact part_ne (x := ((Fi free j : Int) : Rat)) ((inF_taken hf).mpr ⟨W.fst, .inl (Rat.intCast_lt_intCast.mpr (by omega))⟩) (Rat.intCast_le_intCast.mpr c1) (Rat.intCast_lt_intCast.mpr (by omega))
end SW

set_option Elab.async false
set_option linter.all false
/-! the plan does the list; the course of a runner -/
namespace SW
section
variable {N : Type} [DecidableEq N]
section
variable {own : List (Jb N)} {free : List (Int × Int)} {s : Rat}
/-- along a run the works fit at every time -/
theorem run_feas (C : EdfCx own free s) {rest : List (Rat × Rat)} : ∀ {y f : Rat} {l l' : N → Rat} {ps : List (Pc N)}, Run own s y f l ps l' → y ≤ f → (∀ x ∈ rest, f ≤ x.1 ∧ x.1 ≤ x.2) → (∀ x, y ≤ x → x < f → inF free x) →
    Feas own s (fun j => (Fi free j : Rat)) (fun j => (La free j : Rat)) ((y, f) :: rest) y l →
    ∀ x, y ≤ x → x ≤ f → Feas own s (fun j => (Fi free j : Rat)) (fun j => (La free j : Rat)) ((x, f) :: rest) x (fun n => l n - Wk ps n x) ∧ (x < f → ∃ q ∈ ps, q.st ≤ x ∧ x < q.en) := by
  intro y f l l' ps h
  induction h with
  | stop h1 =>
    rename_i y f l
    intro h2 _ _ Z x h3 h4
    have e : x = y := by grind
    subst e
    refine ⟨?_, fun h => by grind⟩
    have e2 : (fun n => l n - Wk ([] : List (Pc N)) n x) = l := by
      funext n
      simp only [Wk, ls]
      grind
    rw [e2]
    exact Z
  | go h1 h2 h3 h4 h5 h6 h7 h8 h9 hrun ih =>
    rename_i y f u l l' j ps
    intro h10 hr hin Z x hx1 hx2
    have hyF := hin y Rat.le_refl h1
    have hav : ∀ {j : Jb N}, j ∈ own → (avail l y j ↔ ((Fi free j : Rat) ≤ y ∧ y < (La free j : Rat) ∧ l j.nm ≠ 0)) := fun hj => avail_win C.win hyF hj
    have rf := (run_facts hrun).1
    have stp : ∀ v, y ≤ v → v ≤ u → Feas own s (fun j => (Fi free j : Rat)) (fun j => (La free j : Rat)) ((v, f) :: rest) v (less1 l j.nm (s * (v - y))) := fun v hv1 hv2 => by
      have hF : ∀ o ∈ own, (Fi free o : Rat) ≤ y ∨ v ≤ (Fi free o : Rat) := fun o ho => by
        have W := C.win o ho
        have a := Rat.intCast_le_intCast.mpr W.lo
        have b := Rat.intCast_le_intCast.mpr W.hi
        have c := Rat.intCast_lt_intCast.mpr W.lt
        by_cases h1 : y < (o.cm : Rat)
        · have := h9 o ho h1
          right; grind
        · by_cases h2 : y < (o.du : Rat)
          · left
            exact (W.mid y hyF (by grind) h2).1
          · left; grind
      have hm : s * (v - y) ≤ l j.nm := by
        have := Rat.mul_le_mul_of_nonneg_left (show v - y ≤ u - y by grind) (show 0 ≤ s by have := C.pos; grind)
        grind
      exact (Z.step (u := v) C.pos hr C.nd h2 (fun i hi a1 a2 a3 => Rat.intCast_le_intCast.mpr ((C.win j h2).order (C.win i hi) (h4 i hi ((hav hi).mpr ⟨a1, a2, a3⟩)))) hv1 (by grind) hm hF ((hav h2).mp h3).2.1).2
    by_cases hc : x ≤ u
    · have Z1 := stp x hx1 hc
      have e : (fun n => l n - Wk (⟨y, u, j.nm, s⟩ :: ps) n x) = less1 l j.nm (s * (x - y)) := by
        funext n
        have z : Wk ps n x = 0 := ls_zero fun q hq => by
          have := (rf q hq).1
          rw [ov_before (by grind)]
          split <;> grind
        have e1 : Wk (⟨y, u, j.nm, s⟩ :: ps) n x = (if j.nm = n then s * ov ⟨y, u, j.nm, s⟩ x else 0) + Wk ps n x := rfl
        rw [e1, z]
        have e2 : ov (⟨y, u, j.nm, s⟩ : Pc N) x = x - y := by
          unfold ov
          simp only
          grind
        rw [e2]
        unfold less1
        by_cases c : n = j.nm
        · rw [if_pos c.symm, if_pos c]; grind
        · rw [if_neg (fun z => c z.symm), if_neg c]; grind
      rw [e]
      refine ⟨Z1, fun hxf => ?_⟩
      by_cases hc2 : x < u
      · exact ⟨_, List.mem_cons_self, hx1, hc2⟩
      · have e3 : x = u := by grind
        obtain ⟨_, i2⟩ := ih h6 hr (fun z h1 h2 => hin z (by grind) h2) (stp u (by grind) Rat.le_refl) x (by grind) hx2
        obtain ⟨q, hq, h⟩ := i2 hxf
        exact ⟨q, List.mem_cons_of_mem _ hq, h⟩
    · obtain ⟨i1, i2⟩ := ih h6 hr (fun z h1 h2 => hin z (by grind) h2) (stp u (by grind) Rat.le_refl) x (by grind) hx2
      have e : (fun n => l n - Wk (⟨y, u, j.nm, s⟩ :: ps) n x) = (fun n => less1 l j.nm (s * (u - y)) n - Wk ps n x) := by
        funext n
        have e1 : Wk (⟨y, u, j.nm, s⟩ :: ps) n x = (if j.nm = n then s * ov ⟨y, u, j.nm, s⟩ x else 0) + Wk ps n x := rfl
        rw [e1]
        have e2 : ov (⟨y, u, j.nm, s⟩ : Pc N) x = u - y := by
          unfold ov
          simp only
          grind
        rw [e2]
        unfold less1
        by_cases c : n = j.nm
        · rw [if_pos c.symm, if_pos c]; grind
        · rw [if_neg (fun z => c z.symm), if_neg c]; grind
      rw [e]
      refine ⟨i1, fun hxf => ?_⟩
      obtain ⟨q, hq, h⟩ := i2 hxf
      exact ⟨q, List.mem_cons_of_mem _ hq, h⟩
theorem run_left {y f : Rat} {l l' : N → Rat} {ps : List (Pc N)} (h : Run own s y f l ps l') (n : N) : l' n = l n - Wk ps n f := by
  obtain ⟨h1, _, h3⟩ := run_facts h
  have := h3 n
  have e : Wk ps n f = ls (fun q : Pc N => if q.nm = n then q.sp * (q.en - q.st) else 0) ps := ls_congr fun q hq => by
    have := h1 q hq
    rw [ov_all (by grind) (by grind)]
  rw [e, this]; grind
/-- at the end of a round nothing is left of its jobs -/
theorem runs_done (C : EdfCx own free s) : ∀ {gv : List (Int × Int)} {l l' : N → Rat} {ps : List (Pc N)}, Runs own s gv l ps l' → FreeOk gv → (∀ x, inF gv x → inF free x) → ∀ {x : Int × Int} {r : List (Int × Int)}, gv = x :: r →
    Feas own s (fun j => (Fi free j : Rat)) (fun j => (La free j : Rat)) (castP gv) x.1 l → ∀ j ∈ own, l' j.nm = 0 := by
  intro gv l l' ps h
  induction h with
  | nil => intro _ _ x r e; cases e
  | cons h1 h2 ih =>
    rename_i a b l l1 l2 ps qs rest
    intro ok hin x r e Z j hj
    cases e
    obtain ⟨ok1, ok2⟩ := List.pairwise_cons.mp ok.1
    have okr : FreeOk rest := ⟨ok2, fun x hx => ok.2 x (List.mem_cons_of_mem _ hx)⟩
    have hab := Rat.intCast_le_intCast.mpr (Int.le_of_lt (ok.2 (a, b) List.mem_cons_self).2)
    have hr : ∀ x ∈ castP rest, (b : Rat) ≤ x.1 ∧ x.1 ≤ x.2 := fun x hx => by
      obtain ⟨z, hz, rfl⟩ := List.mem_map.mp hx
      exact ⟨Rat.intCast_le_intCast.mpr (ok1 z hz), Rat.intCast_le_intCast.mpr (Int.le_of_lt (okr.2 z hz).2)⟩
    have Z1 := (run_feas C h1 hab hr (fun x h1 h2 => hin x ⟨(a, b), List.mem_cons_self, h1, h2⟩) Z b hab Rat.le_refl).1
    have e1 : (fun n => l n - Wk ps n b) = l1 := by
      funext n
      exact (run_left h1 n).symm
    rw [e1] at Z1
    cases rest with
    | nil =>
      cases h2
      exact Z1.done hj
    | cons z r =>
      have oz := ok1 z List.mem_cons_self
      have Z2 := Feas.next (a := (z.1 : Rat)) (b := (z.2 : Rat)) (rest := castP r) Z1 (Rat.intCast_le_intCast.mpr oz) (fun w hw => by
        obtain ⟨v, hv, rfl⟩ := List.mem_map.mp hw
        have a1 := (List.pairwise_cons.mp okr.1).1 v hv
        have a2 := (okr.2 z List.mem_cons_self).2
        exact Rat.intCast_le_intCast.mpr (by omega))
      exact ih okr (fun x ⟨v, hv, hx⟩ => hin x ⟨v, List.mem_cons_of_mem _ hv, hx⟩) rfl Z2 j hj
end
/-! the plan of jobs with any windows -/
theorem own_eq {jobs ws : List (Jb N)} (nd : (jobs.map (·.nm)).Nodup) {q c : Jb N → Bool} (hws : ws = jobs.filter q) : jobs.filter (fun j => decide (j.nm ∈ (ws.filter c).map (·.nm))) = ws.filter c := by
  rw [hws, List.filter_filter]
  apply List.filter_congr
  intro j hj
  by_cases h : (c j && q j) = true
  · rw [h]
    apply decide_eq_true
    exact List.mem_map.mpr ⟨j, List.mem_filter.mpr ⟨hj, h⟩, rfl⟩
  · have h' : (c j && q j) = false := by simpa using h
    rw [h']
    apply decide_eq_false
    intro z
    obtain ⟨i, hi, e⟩ := List.mem_map.mp z
    obtain ⟨h1, h2⟩ := List.mem_filter.mp hi
    have := nd_eq nd h1 hj e
    rw [this] at h2
    exact h h2
theorem filter_nd {jobs : List (Jb N)} (nd : (jobs.map (·.nm)).Nodup) (q : Jb N → Bool) : ((jobs.filter q).map (·.nm)).Nodup := (List.Sublist.map _ List.filter_sublist).nodup nd
theorem plan_facts {jobs : List (Jb N)} (nd : (jobs.map (·.nm)).Nodup) : ∀ {ws : List (Jb N)} {free : List (Int × Int)} {rds : List (Rnd N)}, Rounds ws free rds → ∀ {ps : List (Pc N)}, PlanOf jobs rds ps → FreeOk free →
    (∀ j ∈ ws, Win free j) → (∀ j ∈ ws, 0 ≤ j.wk) → (∃ q, ws = jobs.filter q) →
    (∀ p ∈ ps, p.st < p.en ∧ 0 < p.sp ∧ (∃ j ∈ ws, j.nm = p.nm ∧ (j.cm : Rat) ≤ p.st ∧ p.en ≤ (j.du : Rat)) ∧ ∀ x, p.st ≤ x → x < p.en → inF free x) ∧ NoOv ps ∧
    ∀ j ∈ ws, ls (fun q : Pc N => if q.nm = j.nm then q.sp * (q.en - q.st) else 0) ps = j.wk := by
  intro ws free rds h
  induction h with
  | nil free =>
    intro ps hp _ _ _ _
    cases hp
    exact ⟨fun _ h => (List.not_mem_nil h).elim, List.Pairwise.nil, fun _ h => (List.not_mem_nil h).elim⟩
  | cons D hR ih =>
    rename_i ws free a b rds
    intro ps hp hf hw hwk hq
    cases hp with
    | cons hruns hplan =>
      rename_i ps qs l'
      obtain ⟨q, hq⟩ := hq
      have hw' : ∀ j ∈ ws.filter (fun j => !inn free a b j), Win (takenAway free a b) j := fun j hj => win_of (taken_ok hf (Int.le_of_lt D.lt)) (next_win hf hw j hj)
      obtain ⟨i1, i2, i3⟩ := ih hplan (taken_ok hf (Int.le_of_lt D.lt)) hw' (fun j hj => hwk j (List.mem_filter.mp hj).1) ⟨fun j => !inn free a b j && q j, by rw [hq, List.filter_filter]⟩
      simp only at hruns
      rw [own_eq nd hq] at hruns
      have okg := part_ok hf a b
      obtain ⟨r1, r2, r3⟩ := runs_facts hruns okg
      have hs := D.speed hw
      have hsub : ∀ j ∈ ws, j ∈ jobs := fun j hj => by rw [hq] at hj; exact (List.mem_filter.mp hj).1
      have hown : ∀ j ∈ ws.filter (fun j => inn free a b j), wkOf jobs j.nm = j.wk := fun j hj => wkOf_eq nd (hsub j (List.mem_filter.mp hj).1)
      have ndo : ((ws.filter fun j => inn free a b j).map (·.nm)).Nodup := by
        rw [hq]
        exact filter_nd (filter_nd nd q) _
      have hne : freePart free a b ≠ [] := by
        obtain ⟨j, hj, hjn⟩ := D.own
        have hj' := of_decide_eq_true hjn
        have W := hw j hj
        exact part_ne W.fst (Rat.intCast_le_intCast.mpr hj'.1) (Rat.intCast_lt_intCast.mpr (by have := W.lt; omega))
      have hz : ∀ j ∈ ws.filter (fun j => inn free a b j), l' j.nm = 0 := by
        cases e : freePart free a b with
        | nil => exact absurd e hne
        | cons x r =>
          have Z := D.feas hf hw hwk (l := wkOf jobs) rfl hown e
          rw [e] at Z hruns okg
          exact runs_done ⟨ndo, fun j hj => hw j (List.mem_filter.mp hj).1, hs⟩ hruns okg (fun x hx => (inF_part.mp (by rw [← e] at hx; exact hx)).1) rfl Z
      have names : ∀ {i j : Jb N}, i ∈ ws → j ∈ ws → i.nm = j.nm → i = j := fun hi hj e => nd_eq nd (hsub _ hi) (hsub _ hj) e
      refine ⟨fun p hp => ?_, List.pairwise_append.mpr ⟨r2, i2, fun p hp w hq => ?_⟩, fun j hj => ?_⟩
      · rcases List.mem_append.mp hp with hp | hp
        · obtain ⟨⟨z, hz, c1, c2⟩, c3, c4, j, hj, c5⟩ := r1 p hp
          refine ⟨c3, by rw [c4]; exact hs, ⟨j, (List.mem_filter.mp hj).1, c5⟩, fun x h1 h2 => ?_⟩
          exact (inF_part.mp (show inF (freePart free a b) x from ⟨z, hz, by grind, by grind⟩)).1
        · obtain ⟨c1, c2, ⟨j, hj, c3⟩, c4⟩ := i1 p hp
          exact ⟨c1, c2, ⟨j, (List.mem_filter.mp hj).1, c3⟩, fun x h1 h2 => ((inF_taken hf).mp (c4 x h1 h2)).1⟩
      · obtain ⟨⟨z, hz, c1, c2⟩, c3, _⟩ := r1 p hp
        obtain ⟨d1, _, _, d4⟩ := i1 w hq
        apply Classical.byContradiction
        intro hn
        unfold Apart at hn
        have hx1 : p.st ≤ rmax p.st w.st ∧ w.st ≤ rmax p.st w.st ∧ rmax p.st w.st < p.en ∧ rmax p.st w.st < w.en := by unfold rmax; grind
        have a1 := (inF_part.mp (show inF (freePart free a b) (rmax p.st w.st) from ⟨z, hz, by grind, by grind⟩)).2
        have a2 := ((inF_taken hf).mp (d4 _ hx1.2.1 hx1.2.2.2)).2
        grind
      · rw [ls_append, r3 j.nm]
        by_cases c : inn free a b j = true
        · have hjo : j ∈ ws.filter (fun j => inn free a b j) := List.mem_filter.mpr ⟨hj, c⟩
          rw [hz j hjo, hown j hjo]
          rw [ls_zero fun p hp => by
            obtain ⟨_, _, ⟨i, hi, e, _⟩, _⟩ := i1 p hp
            rw [if_neg]
            intro z
            have := names (List.mem_filter.mp hi).1 hj (by rw [e, z])
            rw [this] at hi
            have := (List.mem_filter.mp hi).2
            rw [c] at this
            cases this]
          grind
        · have hj2 : j ∈ ws.filter (fun j => !inn free a b j) := List.mem_filter.mpr ⟨hj, by simpa using c⟩
          rw [i3 j hj2]
          have e : ls (fun q : Pc N => if q.nm = j.nm then q.sp * (q.en - q.st) else 0) ps = 0 := ls_zero fun p hp => by
            obtain ⟨_, _, _, i, hi, e, _⟩ := r1 p hp
            rw [if_neg]
            intro z
            have := names (List.mem_filter.mp hi).1 hj (by rw [e, z])
            rw [this] at hi
            exact c (List.mem_filter.mp hi).2
          rw [r3 j.nm] at e
          rw [e]; grind
/-- the best plan is a rival that does the list -/
theorem best_rival {jobs ps qs : List (Jb N)} {rds : List (Rnd N)} {pl tl : List (Pc N)} {c e : Int} (hJ : JobsOk jobs) (hc : 0 ≤ c) (hce : ∀ j ∈ jobs, c ≤ j.cm ∧ j.du ≤ e) (hR : Rounds jobs [(c, e)] rds) (hp : PlanOf jobs rds pl) (ht : pl.Perm tl) : Rival jobs (tidy tl) := by
  by_cases hne : jobs = []
  · subst hne
    cases hR with
    | cons D _ => obtain ⟨j, hj, _⟩ := D.fa; cases hj
    | nil =>
      cases hp
      have : tl = [] := by simpa using ht
      subst this
      refine ⟨⟨fun _ h => (List.not_mem_nil h).elim, List.Pairwise.nil, fun _ h => (List.not_mem_nil h).elim⟩, fun _ h => (List.not_mem_nil h).elim, fun _ h => (List.not_mem_nil h).elim⟩
  have hf : FreeOk [(c, e)] := by
    refine ⟨List.pairwise_singleton _ _, fun x hx => ?_⟩
    rw [List.mem_singleton.mp hx]
    cases jobs with
    | nil => exact absurd rfl hne
    | cons a r =>
      have h1 := hce a List.mem_cons_self
      have h2 := hJ.cm a List.mem_cons_self
      simp only
      omega
  have hw : ∀ j ∈ jobs, Win [(c, e)] j := fun j hj => by
    have h1 := hce j hj
    have h2 := hJ.cm j hj
    exact win_of hf (part_ne (x := (j.cm : Rat)) ⟨(c, e), List.mem_cons_self, Rat.intCast_le_intCast.mpr h1.1, Rat.intCast_lt_intCast.mpr (by simp only; omega)⟩ Rat.le_refl (Rat.intCast_lt_intCast.mpr h2.2))
  obtain ⟨f1, f2, f3⟩ := plan_facts hJ.nd hR hp hf hw (fun j hj => by have := hJ.wk j hj; grind) ⟨fun _ => true, (List.filter_eq_self.mpr fun _ _ => rfl).symm⟩
  have g1 : ∀ p ∈ tl, p.st < p.en := fun p hp => (f1 p (ht.mem_iff.mpr hp)).1
  have hall := tidy_all (φ := fun p => p.st < p.en ∧ 0 < p.sp ∧ ∃ j ∈ jobs, j.nm = p.nm ∧ (j.cm : Rat) ≤ p.st ∧ p.en ≤ (j.du : Rat)) (fun p q hp hq e1 e2 e3 => by
    obtain ⟨p1, p2, i, hi, p3, p4, p5⟩ := hp
    obtain ⟨q1, q2, j, hj, q3, q4, q5⟩ := hq
    have : i = j := nd_eq hJ.nd hi hj (by rw [p3, q3, e2])
    subst this
    exact ⟨by simp only; grind, p2, i, hi, p3, q4, p5⟩) (ps := tl) fun p hp => by
      obtain ⟨a, b, c, _⟩ := f1 p (ht.mem_iff.mpr hp)
      exact ⟨a, b, c⟩
  refine ⟨⟨fun p hp => ?_, tidy_noov g1 (f2.perm ht), fun j hj q hq e => ?_⟩, fun q hq => ?_, fun j hj => ?_⟩
  · obtain ⟨a, b, j, hj, _, c, d⟩ := hall p hp
    refine ⟨?_, a⟩
    have := Rat.intCast_le_intCast.mpr (hJ.cm j hj).1
    simp only [Rat.intCast_zero] at this
    grind
  · obtain ⟨a, b, i, hi, e2, c, d⟩ := hall q hq
    have : i = j := nd_eq hJ.nd hi hj (by rw [e2, e])
    rw [← this]
    exact c
  · obtain ⟨a, b, i, hi, e2, c, d⟩ := hall q hq
    exact ⟨by grind, i, hi, e2, d⟩
  · have h1 := td_sum (f := fun q : Pc N => if q.nm = j.nm then q.sp * (q.en - q.st) else 0) (fun p q hp hq e1 e2 e3 => by
      simp only
      rw [e2, e3]
      split <;> grind) tl [] (by simpa using g1)
    simp only [List.nil_append] at h1
    have h2 := ls_perm (f := fun q : Pc N => if q.nm = j.nm then q.sp * (q.en - q.st) else 0) ht
    unfold tidy
    rw [h1, ← h2]
    exact f3 j hj
end
end SW

set_option Elab.async false
set_option linter.all false
/-! the course: what the plan of jobs that all have come does, at every time -/
namespace SW
theorem cs_cl {x : Rat} (h0 : 0 ≤ x) : ∀ d : Nat, cs (cl x) d = if x ≤ (d : Rat) then (d : Rat) - x else 0
  | 0 => by
    simp only [cs]
    have : ((0 : Nat) : Rat) = 0 := rfl
    rw [this]
    grind
  | d + 1 => by
    have ih := cs_cl h0 d
    have e : ((d + 1 : Nat) : Rat) = (d : Rat) + 1 := by simp
    simp only [cs]
    rw [ih, e]
    unfold cl
    grind
theorem Hs_const {p : Nat → Rat} {s x : Rat} (h0 : 0 ≤ x) {d : Nat} (h : ∀ k, k < d → p k = s) : Hs p x d = s * (if x ≤ (d : Rat) then (d : Rat) - x else 0) := by
  unfold Hs
  rw [cs_congr (g := fun k => s * cl x k) fun k hk => by rw [h k hk], cs_mul, cs_cl h0]
theorem nat_le {a b : Nat} (h : a ≤ b) : (a : Rat) ≤ (b : Rat) := by
  have := Rat.intCast_le_intCast.mpr (Int.ofNat_le.mpr h)
  simpa [Rat.intCast_natCast] using this
theorem nat_lt {a b : Nat} (h : a < b) : (a : Rat) + 1 ≤ (b : Rat) := by
  have := nat_le (show a + 1 ≤ b from h)
  simpa using this
theorem Hs_split {p p' : Nat → Rat} {x : Rat} {b : Nat} (hx : x ≤ (b : Rat)) (h : ∀ k, b ≤ k → p k = p' k) : ∀ {d : Nat}, b ≤ d → Hs p x d = Hs p x b + Hs p' b d := by
  have z : ∀ d : Nat, d ≤ b → Hs p' (b : Rat) d = 0 := fun d hd => by
    have : Hs p' (b : Rat) d = cs (fun _ => 0 * 0) d := cs_congr fun k hk => by rw [cl_zero (nat_lt (by omega))]; grind
    rw [this, cs_mul]; grind
  intro d hd
  induction hd with
  | refl => rw [z b (Nat.le_refl _)]; grind
  | step hm ih =>
    rename_i m
    have e1 : Hs p x (m + 1) = Hs p x m + p m * cl x m := rfl
    have e2 : Hs p' (b : Rat) (m + 1) = Hs p' (b : Rat) m + p' m * cl (b : Rat) m := rfl
    have hbm := nat_le hm
    have c1 : cl x m = 1 := by unfold cl; rw [if_pos (by grind)]
    have c2 : cl (b : Rat) m = 1 := by unfold cl; rw [if_pos hbm]
    rw [Nat.succ_eq_add_one, e1, e2, ih, h m hm, c1, c2]
    grind
theorem Hs_late {p p' : Nat → Rat} {x : Rat} {b : Nat} (hx : (b : Rat) ≤ x) (h : ∀ k, b ≤ k → p k = p' k) (d : Nat) : Hs p x d = Hs p' x d := cs_congr fun k _ => by
  by_cases e : b ≤ k
  · rw [h k e]
  · rw [cl_zero (by have := nat_lt (show k < b by omega); grind)]; grind
theorem Hs_zero {p : Nat → Rat} {x : Rat} {d : Nat} (h : (d : Rat) ≤ x) : Hs p x d = 0 := by
  have : Hs p x d = cs (fun _ => 0 * 0) d := cs_congr fun k hk => by rw [cl_zero (by have := nat_lt hk; grind)]; grind
  rw [this, cs_mul]; grind
theorem ls_part {α : Type} (f : α → Rat) (c : α → Bool) : ∀ A : List α, ls f A = ls f (A.filter c) + ls f (A.filter fun a => !c a)
  | [] => by simp [ls]; grind
  | a :: r => by
    have ih := ls_part f c r
    cases e : c a with
    | true =>
      rw [List.filter_cons_of_pos e, List.filter_cons_of_neg (by simp [e])]
      simp only [ls]; grind
    | false =>
      rw [List.filter_cons_of_neg (by simp [e]), List.filter_cons_of_pos (by simp [e])]
      simp only [ls]; grind
section
variable {N : Type} [DecidableEq N]
/-- the speed of the round that x lies in -/
def pr (rds : List (Rnd N)) (x : Int) : Rat := ls (fun rd => if rd.a < x ∧ x ≤ rd.b then rd.sp else 0) rds
def hd (rds : List (Rnd N)) : Rat := match rds with
  | [] => 0
  | r :: _ => r.sp
theorem one_part {b0 E c d : Int} (h1 : c ≤ b0) (h2 : b0 < d) (h3 : d ≤ E) : freePart [(b0, E)] c d = [(b0, d)] := by
  unfold freePart
  have e1 : max b0 c = b0 := Int.max_eq_left h1
  have e2 : min E d = d := Int.min_eq_right h3
  simp only [List.filterMap_cons, List.filterMap_nil, e1, e2]
  rw [if_pos h2]
theorem one_fi {b0 E : Int} {j : Jb N} (h1 : j.cm ≤ b0) (h2 : b0 < j.du) (h3 : j.du ≤ E) : Fi [(b0, E)] j = b0 ∧ La [(b0, E)] j = j.du := by
  unfold Fi La
  rw [one_part h1 h2 h3]
  exact ⟨rfl, rfl⟩
theorem one_len {b0 E a b : Int} (h1 : b0 ≤ a) (h2 : a < b) (h3 : b ≤ E) : lenF [(b0, E)] a b = b - a := by
  unfold lenF freePart
  have e1 : max b0 a = a := Int.max_eq_right h1
  have e2 : min E b = b := Int.min_eq_right h3
  simp only [List.filterMap_cons, List.filterMap_nil, e1, e2]
  rw [if_pos h2]
  simp
theorem one_taken {b0 E b : Int} (h0 : 0 ≤ b0) (h1 : b0 < b) (h3 : b ≤ E) : takenAway [(b0, E)] b0 b = if b < E then [(b, E)] else [] := by
  unfold takenAway freePart
  have e1 : max b0 0 = b0 := Int.max_eq_left h0
  have e2 : min E b0 = b0 := Int.min_eq_right (by omega)
  have e3 : max b0 b = b := Int.max_eq_right (by omega)
  have e4 : min E E = E := Int.min_self E
  simp only [List.filterMap_cons, List.filterMap_nil, List.getLast?_singleton, Option.getD_some, e1, e2, e3, e4]
  rw [if_neg (by omega)]
  by_cases h : b < E
  · rw [if_pos h, if_pos h]; rfl
  · rw [if_neg h, if_neg h]; rfl
theorem Rounds.inv {ws : List (Jb N)} {free : List (Int × Int)} {r : Rnd N} {t : List (Rnd N)} (h : Rounds ws free (r :: t)) : ∃ a b, Dens free ws a b ∧ r.sp = loadR free ws a b / (lenF free a b : Rat) := by
  cases h with
  | cons D _ => exact ⟨_, _, D, rfl⟩
structure Course (ws : List (Jb N)) (ps : List (Pc N)) (b0 : Nat) (p : Nat → Rat) : Prop where
  from_ : ∀ q ∈ ps, (b0 : Rat) ≤ q.st ∧ q.st < q.en
  cert : ∀ x, (b0 : Rat) ≤ x → Cert x p ws (lw ps x)
  works : ∀ x, (b0 : Rat) ≤ x → ∀ k : Nat, (k : Rat) ≤ x → x < (k : Rat) + 1 → (∀ q ∈ ps, q.st ≤ x → x < q.en → q.sp = p k ∧ ∃ j ∈ ws, j.nm = q.nm ∧ pd p j = p k) ∧ ((∀ q ∈ ps, ¬ (q.st ≤ x ∧ x < q.en)) → p k = 0)
theorem wk_append (ps qs : List (Pc N)) (n : N) (x : Rat) : Wk (ps ++ qs) n x = Wk ps n x + Wk qs n x := ls_append
theorem wk_none {ps : List (Pc N)} {n : N} {x : Rat} (h : ∀ q ∈ ps, q.nm = n → x ≤ q.st) : Wk ps n x = 0 := ls_zero fun q hq => by
  split
  · rename_i e
    rw [ov_before (h q hq e)]; grind
  · rfl
theorem wk_not {ps : List (Pc N)} {n : N} {x : Rat} (h : ∀ q ∈ ps, q.nm ≠ n) : Wk ps n x = 0 := ls_zero fun q hq => by
  rw [if_neg (h q hq)]
theorem wk_end {ps : List (Pc N)} {n : N} {x b : Rat} (h : ∀ q ∈ ps, q.st < q.en ∧ q.en ≤ b) (hb : b ≤ x) : Wk ps n x = Wk ps n b := ls_congr fun q hq => by
  obtain ⟨h1, h2⟩ := h q hq
  rw [ov_all (by grind) h1, ov_all h2 h1]
theorem course {jobs : List (Jb N)} (nd : (jobs.map (·.nm)).Nodup) : ∀ {ws : List (Jb N)} {free : List (Int × Int)} {rds : List (Rnd N)}, Rounds ws free rds → ∀ {ps : List (Pc N)}, PlanOf jobs rds ps → (∃ q, ws = jobs.filter q) →
    ∀ (b0 : Nat) (E : Int), (ws = [] ∨ (free = [((b0 : Int), E)] ∧ (b0 : Int) < E)) → (∀ j ∈ ws, j.cm ≤ (b0 : Int) ∧ (b0 : Int) < j.du ∧ j.du ≤ E ∧ 0 < j.wk) →
    ∃ p : Nat → Rat, (∀ k, p k ≤ hd rds) ∧ (∀ rd ∈ rds, (b0 : Int) ≤ rd.a) ∧ (∀ k : Nat, b0 ≤ k → p k = pr rds ((k : Int) + 1)) ∧ Course ws ps b0 p := by
  intro ws free rds h
  induction h with
  | nil free =>
    intro ps hp _ b0 E _ _
    cases hp
    refine ⟨fun _ => 0, fun _ => Rat.le_refl, fun _ h => (List.not_mem_nil h).elim, fun _ _ => rfl, fun _ h => (List.not_mem_nil h).elim, fun x hx => ?_, fun x hx k _ _ => ⟨fun _ h => (List.not_mem_nil h).elim, fun _ => rfl⟩⟩
    have hz : ∀ d, Hs (fun _ => 0) x d = 0 := fun d => by
      have : Hs (fun _ => 0) x d = cs (fun _ => 0 * 0) d := cs_congr fun k hk => by grind
      rw [this, cs_mul]; grind
    exact ⟨fun _ => Rat.le_refl, fun _ => Rat.le_refl, ⟨0, fun _ _ => rfl⟩, fun _ h => (List.not_mem_nil h).elim, fun _ h => (List.not_mem_nil h).elim, fun d => by rw [hz]; exact Rat.le_refl, fun d => by rw [hz]; intro; rfl⟩
  | cons D hR ih =>
    rename_i ws free a b rds
    intro ps hp hq b0 E hfree hj
    rcases hfree with e | ⟨rfl, hE⟩
    · subst e
      obtain ⟨j, hj, _⟩ := D.fa
      cases hj
    have hfl : ∀ j ∈ ws, Fi [((b0 : Int), E)] j = (b0 : Int) ∧ La [((b0 : Int), E)] j = j.du := fun j hjw => one_fi (hj j hjw).1 (hj j hjw).2.1 (hj j hjw).2.2.1
    have ea : a = (b0 : Int) := by
      obtain ⟨j, hjw, e⟩ := D.fa
      rw [← e]
      exact (hfl j hjw).1
    subst ea
    have hbE : b ≤ E := by
      obtain ⟨j, hjw, e⟩ := D.lb
      rw [← e, (hfl j hjw).2]
      exact (hj j hjw).2.2.1
    have hb0 : (b0 : Int) < b := D.lt
    obtain ⟨bn, rfl⟩ : ∃ bn : Nat, b = (bn : Int) := ⟨b.toNat, by omega⟩
    have hb0' : b0 < bn := by omega
    have hinn : ∀ j ∈ ws, inn [((b0 : Int), E)] b0 bn j = decide (j.du ≤ (bn : Int)) := fun j hjw => by
      unfold inn
      rw [(hfl j hjw).1, (hfl j hjw).2]
      simp
    have hf : FreeOk [((b0 : Int), E)] := ⟨List.pairwise_singleton _ _, fun x hx => by rw [List.mem_singleton.mp hx]; simp only; omega⟩
    have hw : ∀ j ∈ ws, Win [((b0 : Int), E)] j := fun j hjw => win_of hf (by rw [one_part (hj j hjw).1 (hj j hjw).2.1 (hj j hjw).2.2.1]; simp)
    have hwk : ∀ j ∈ ws, 0 ≤ j.wk := fun j hjw => by have := (hj j hjw).2.2.2; grind
    have hs := D.speed hw
    have hlen := D.len hw
    have hsl := div_mul (x := loadR [((b0 : Int), E)] ws b0 bn) hlen
    have hlenv : lenF [((b0 : Int), E)] b0 bn = (bn : Int) - (b0 : Int) := one_len (Int.le_refl _) hb0 hbE
    have htak := one_taken (b0 := (b0 : Int)) (b := (bn : Int)) (E := E) (by omega) hb0 hbE
    have hgv : freePart [((b0 : Int), E)] b0 bn = [((b0 : Int), (bn : Int))] := one_part (Int.le_refl _) hb0 hbE
    have hhd : hd rds ≤ loadR [((b0 : Int), E)] ws b0 bn / (lenF [((b0 : Int), E)] b0 bn : Rat) := by
      cases rds with
      | nil =>
        show (0 : Rat) ≤ _
        grind
      | cons r0 t0 =>
        obtain ⟨a2, b2, D2, er⟩ := hR.inv
        show r0.sp ≤ _
        rw [er]
        show loadR (takenAway [((b0 : Int), E)] b0 bn) (ws.filter fun j => !inn [((b0 : Int), E)] b0 bn j) a2 b2 / (lenF (takenAway [((b0 : Int), E)] b0 bn) a2 b2 : Rat) ≤ _
        have hws' : ∀ j ∈ ws.filter (fun j => !inn [((b0 : Int), E)] b0 bn j), j ∈ ws ∧ (bn : Int) < j.du := fun j hjw => by
          obtain ⟨h1, h2⟩ := List.mem_filter.mp hjw
          rw [hinn j h1] at h2
          simp at h2
          exact ⟨h1, by omega⟩
        obtain ⟨j2, hj2, ej2⟩ := D2.lb
        obtain ⟨hj2w, hj2d⟩ := hws' j2 hj2
        have hbE' : (bn : Int) < E := by have := (hj j2 hj2w).2.2.1; omega
        rw [htak, if_pos hbE'] at D2 ej2 ⊢
        have hfl2 : ∀ j ∈ ws, (bn : Int) < j.du → Fi [((bn : Int), E)] j = (bn : Int) ∧ La [((bn : Int), E)] j = j.du := fun j h1 h2 => one_fi (by have := (hj j h1).1; omega) h2 (hj j h1).2.2.1
        have ea2 : a2 = (bn : Int) := by
          obtain ⟨j, hjw, e⟩ := D2.fa
          obtain ⟨h1, h2⟩ := hws' j hjw
          rw [← e]
          exact (hfl2 j h1 h2).1
        have eb2 : b2 = j2.du := by rw [← ej2]; exact (hfl2 j2 hj2w hj2d).2
        subst ea2
        subst eb2
        have hl2 : lenF [((bn : Int), E)] bn j2.du = j2.du - (bn : Int) := one_len (Int.le_refl _) hj2d (hj j2 hj2w).2.2.1
        have hl3 : lenF [((b0 : Int), E)] b0 j2.du = j2.du - (b0 : Int) := one_len (Int.le_refl _) (by omega) (hj j2 hj2w).2.2.1
        have hsum : loadR [((b0 : Int), E)] ws b0 j2.du = loadR [((b0 : Int), E)] ws b0 bn + loadR [((bn : Int), E)] (ws.filter fun j => !inn [((b0 : Int), E)] b0 bn j) bn j2.du := by
          unfold loadR
          rw [ls_part _ (fun j => inn [((b0 : Int), E)] b0 bn j) ws, ls_part _ (fun j => inn [((b0 : Int), E)] b0 bn j) ws]
          have z : ls (fun j => if inn [((b0 : Int), E)] b0 bn j = true then j.wk else 0) (ws.filter fun j => !inn [((b0 : Int), E)] b0 bn j) = 0 := ls_zero fun j hjw => by
            have := (List.mem_filter.mp hjw).2
            rw [if_neg]
            simpa using this
          rw [z]
          have e1 : ls (fun j => if inn [((b0 : Int), E)] b0 j2.du j = true then j.wk else 0) (ws.filter fun j => inn [((b0 : Int), E)] b0 bn j) = ls (fun j => if inn [((b0 : Int), E)] b0 bn j = true then j.wk else 0) (ws.filter fun j => inn [((b0 : Int), E)] b0 bn j) := ls_congr fun j hjw => by
            obtain ⟨h1, h2⟩ := List.mem_filter.mp hjw
            rw [if_pos h2]
            rw [hinn j h1] at h2
            have h3 := of_decide_eq_true h2
            rw [if_pos]
            unfold inn
            rw [(hfl j h1).1, (hfl j h1).2]
            exact decide_eq_true ⟨Int.le_refl _, by omega⟩
          have e2 : ls (fun j => if inn [((b0 : Int), E)] b0 j2.du j = true then j.wk else 0) (ws.filter fun j => !inn [((b0 : Int), E)] b0 bn j) = ls (fun j => if inn [((bn : Int), E)] bn j2.du j = true then j.wk else 0) (ws.filter fun j => !inn [((b0 : Int), E)] b0 bn j) := ls_congr fun j hjw => by
            obtain ⟨h1, h2⟩ := hws' j hjw
            unfold inn
            rw [(hfl j h1).1, (hfl j h1).2, (hfl2 j h1 h2).1, (hfl2 j h1 h2).2]
            simp
          rw [e1, e2]
          grind
        have hpos2 := D2.pos
        obtain ⟨i, hiw, _⟩ := D.fa
        have hbest := D.best i hiw j2 hj2w (by rw [(hfl i hiw).1, (hfl j2 hj2w).2]; omega) (by rw [(hfl i hiw).1, (hfl j2 hj2w).2, hsum]; have := D.pos; grind)
        rw [(hfl i hiw).1, (hfl j2 hj2w).2, hl3, hsum] at hbest
        rw [hl2]
        clear hp ih hR er hpos2
        generalize loadR [((b0 : Int), E)] ws b0 bn / (lenF [((b0 : Int), E)] b0 bn : Rat) = s at *
        generalize loadR [((bn : Int), E)] (ws.filter fun j => !inn [((b0 : Int), E)] b0 bn j) bn j2.du = v at *
        rw [← hsl, hlenv] at hbest
        simp only [Rat.intCast_sub, Rat.intCast_natCast] at hbest ⊢
        have d1 : (0 : Rat) < (j2.du : Rat) - (bn : Rat) := by
          have := Rat.intCast_lt_intCast.mpr hj2d
          simp only [Rat.intCast_natCast] at this
          grind
        have d2 : (0 : Rat) < (bn : Rat) - (b0 : Rat) := by
          have := nat_lt hb0'
          grind
        have d3 : v * ((bn : Rat) - (b0 : Rat)) ≤ s * ((j2.du : Rat) - (bn : Rat)) * ((bn : Rat) - (b0 : Rat)) := by grind
        have d4 : v ≤ s * ((j2.du : Rat) - (bn : Rat)) := by
          apply Rat.not_lt.mp
          intro z
          have := Rat.mul_lt_mul_of_pos_right z d2
          grind
        have d5 := div_mul (x := v) d1
        apply Rat.not_lt.mp
        intro z
        have := Rat.mul_lt_mul_of_pos_right z d1
        grind
    cases hp with
    | cons hruns hplan =>
      rename_i ps qs l'
      obtain ⟨q, hq⟩ := hq
      have hfree' : (ws.filter fun j => !inn [((b0 : Int), E)] b0 bn j) = [] ∨ (takenAway [((b0 : Int), E)] b0 bn = [((bn : Int), E)] ∧ (bn : Int) < E) := by
        by_cases hlt : (bn : Int) < E
        · right
          rw [htak, if_pos hlt]
          exact ⟨rfl, hlt⟩
        · left
          rw [List.filter_eq_nil_iff]
          intro j hjw
          rw [hinn j hjw]
          have := (hj j hjw).2.2.1
          simp
          omega
      have hws' : ∀ j ∈ ws.filter (fun j => !inn [((b0 : Int), E)] b0 bn j), j ∈ ws ∧ (bn : Int) < j.du := fun j hjw => by
        obtain ⟨h1, h2⟩ := List.mem_filter.mp hjw
        rw [hinn j h1] at h2
        simp at h2
        exact ⟨h1, by omega⟩
      have hown' : ∀ j ∈ ws.filter (fun j => inn [((b0 : Int), E)] b0 bn j), j ∈ ws ∧ j.du ≤ (bn : Int) := fun j hjw => by
        obtain ⟨h1, h2⟩ := List.mem_filter.mp hjw
        rw [hinn j h1] at h2
        exact ⟨h1, of_decide_eq_true h2⟩
      have hq' : ∃ q', (ws.filter fun j => !inn [((b0 : Int), E)] b0 bn j) = jobs.filter q' := ⟨fun j => !inn [((b0 : Int), E)] b0 bn j && q j, by rw [hq, List.filter_filter]⟩
      obtain ⟨p', hp1, hp2, hp3, C'⟩ := ih hplan hq' bn E hfree' fun j hjw => by
        obtain ⟨h1, h2⟩ := hws' j hjw
        have := hj j h1
        exact ⟨by omega, h2, this.2.2.1, this.2.2.2⟩
      -- names
      have hw' : ∀ j ∈ ws.filter (fun j => !inn [((b0 : Int), E)] b0 bn j), Win (takenAway [((b0 : Int), E)] b0 bn) j := fun j hjw => win_of (taken_ok hf (Int.le_of_lt hb0)) (next_win hf hw j hjw)
      have qsn := (plan_facts nd hR hplan (taken_ok hf (Int.le_of_lt hb0)) hw' (fun j hjw => hwk j (hws' j hjw).1) hq').1
      simp only at hruns
      rw [own_eq nd hq] at hruns
      rw [hgv] at hruns
      have hsub : ∀ j ∈ ws, j ∈ jobs := fun j hjw => by rw [hq] at hjw; exact (List.mem_filter.mp hjw).1
      have hown : ∀ j ∈ ws.filter (fun j => inn [((b0 : Int), E)] b0 bn j), wkOf jobs j.nm = j.wk := fun j hjw => wkOf_eq nd (hsub j (List.mem_filter.mp hjw).1)
      have ndo : ((ws.filter fun j => inn [((b0 : Int), E)] b0 bn j).map (·.nm)).Nodup := by
        rw [hq]
        exact filter_nd (filter_nd nd q) _
      have Z := D.feas hf hw hwk (l := wkOf jobs) rfl hown hgv
      rw [hgv] at Z
      cases hruns with
      | cons hrun hnil =>
        rename_i l1 ps1 qs1
        cases hnil
        rw [List.append_nil]
        have Cx : EdfCx (ws.filter fun j => inn [((b0 : Int), E)] b0 bn j) [((b0 : Int), E)] (loadR [((b0 : Int), E)] ws b0 bn / (lenF [((b0 : Int), E)] b0 bn : Rat)) := ⟨ndo, fun j hjw => hw j (List.mem_filter.mp hjw).1, hs⟩
        have hb0r : ((b0 : Int) : Rat) ≤ ((bn : Int) : Rat) := Rat.intCast_le_intCast.mpr (Int.le_of_lt hb0)
        have F := run_feas Cx hrun hb0r (fun _ h => (List.not_mem_nil h).elim) (fun x h1 h2 => ⟨((b0 : Int), E), List.mem_cons_self, h1, by have := Rat.intCast_le_intCast.mpr hbE; simp only; grind⟩) Z
        have rf := (run_facts hrun).1
        generalize loadR [((b0 : Int), E)] ws b0 bn / (lenF [((b0 : Int), E)] b0 bn : Rat) = s at *
        simp only [Rat.intCast_natCast] at F rf hb0r
        have names : ∀ {i j : Jb N}, i ∈ ws → j ∈ ws → i.nm = j.nm → i = j := fun hi hj e => nd_eq nd (hsub _ hi) (hsub _ hj) e
        -- whose work a piece is
        have psn : ∀ j ∈ ws.filter (fun j => !inn [((b0 : Int), E)] b0 bn j), ∀ w ∈ ps1, w.nm ≠ j.nm := fun j hjw w hwp z => by
          obtain ⟨_, _, _, _, i, hi, e, _⟩ := rf w hwp
          have := names (hown' i hi).1 (hws' j hjw).1 (by rw [e, z])
          rw [this] at hi
          have h1 := (hown' j hi).2
          have h2 := (hws' j hjw).2
          omega
        have qsn' : ∀ j ∈ ws.filter (fun j => inn [((b0 : Int), E)] b0 bn j), ∀ w ∈ qs, w.nm ≠ j.nm := fun j hjw w hwp z => by
          obtain ⟨_, _, ⟨i, hi, e, _⟩, _⟩ := qsn w hwp
          have := names (hws' i hi).1 (hown' j hjw).1 (by rw [e, z])
          rw [this] at hi
          have h1 := (hown' j hjw).2
          have h2 := (hws' j hi).2
          omega
        have lwo : ∀ x, ∀ j ∈ ws.filter (fun j => inn [((b0 : Int), E)] b0 bn j), lw (ps1 ++ qs) x j = wkOf jobs j.nm - Wk ps1 j.nm x := fun x j hjw => by
          unfold lw
          rw [wk_append, wk_not (ps := qs) (qsn' j hjw), hown j hjw]; grind
        have lwr : ∀ x, ∀ j ∈ ws.filter (fun j => !inn [((b0 : Int), E)] b0 bn j), lw (ps1 ++ qs) x j = lw qs x j := fun x j hjw => by
          unfold lw
          rw [wk_append, wk_not (ps := ps1) (psn j hjw)]; grind
        have hdue : ∀ j ∈ ws, j.du ≤ (bn : Int) ∨ (bn : Int) < j.du := fun j _ => by omega
        have mem2 : ∀ j ∈ ws, (j ∈ ws.filter (fun j => inn [((b0 : Int), E)] b0 bn j)) ∨ (j ∈ ws.filter (fun j => !inn [((b0 : Int), E)] b0 bn j)) := fun j hjw => by
          cases e : inn [((b0 : Int), E)] b0 bn j with
          | true => exact .inl (List.mem_filter.mpr ⟨hjw, e⟩)
          | false => exact .inr (List.mem_filter.mpr ⟨hjw, by rw [e]; rfl⟩)
        have wdp : ∀ f d, Wd ws f d = Wd (ws.filter fun j => inn [((b0 : Int), E)] b0 bn j) f d + Wd (ws.filter fun j => !inn [((b0 : Int), E)] b0 bn j) f d := fun f d => ls_part _ _ _
        have wdr0 : ∀ f d, d ≤ bn → Wd (ws.filter fun j => !inn [((b0 : Int), E)] b0 bn j) f d = 0 := fun f d hd => ls_zero fun j hjw => by
          have := (hws' j hjw).2
          rw [if_neg (by omega)]
        refine ⟨fun k => if k < bn then s else p' k, fun k => ?_, fun rd hrd => ?_, fun k hk => ?_, ?_⟩
        · show (if k < bn then s else p' k) ≤ s
          have := hp1 k
          split <;> grind
        · rcases List.mem_cons.mp hrd with rfl | hrd
          · exact Int.le_refl _
          · have := hp2 rd hrd
            omega
        · show (if k < bn then s else p' k) = (if (b0 : Int) < (k : Int) + 1 ∧ (k : Int) + 1 ≤ (bn : Int) then s else 0) + pr rds ((k : Int) + 1)
          by_cases e : k < bn
          · have z : pr rds ((k : Int) + 1) = 0 := ls_zero fun rd hrd => by
              have := hp2 rd hrd
              rw [if_neg (by omega)]
            rw [if_pos e, if_pos (by omega), z]; grind
          · rw [if_neg e, if_neg (by omega), hp3 k (by omega)]; grind
        have mono : ∀ k, (if k + 1 < bn then s else p' (k + 1)) ≤ (if k < bn then s else p' k) := fun k => by
          by_cases e1 : k + 1 < bn
          · rw [if_pos e1, if_pos (by omega)]; exact Rat.le_refl
          · rw [if_neg e1]
            by_cases e2 : k < bn
            · rw [if_pos e2]
              have := hp1 (k + 1)
              grind
            · rw [if_neg e2]
              exact (C'.cert bn Rat.le_refl).mono k
        have ppos : ∀ k, (0 : Rat) ≤ (if k < bn then s else p' k) := fun k => by
          split
          · grind
          · exact (C'.cert bn Rat.le_refl).pos k
        have pfin : ∃ K, ∀ k, K ≤ k → (if k < bn then s else p' k) = 0 := by
          obtain ⟨K, hK⟩ := (C'.cert bn Rat.le_refl).fin
          exact ⟨K + bn, fun k hk => by rw [if_neg (by omega)]; exact hK k (by omega)⟩
        have hbnE : ∀ {x : Rat}, x < (bn : Rat) → ∀ {k : Nat}, (k : Rat) ≤ x → k < bn := fun hx k hk => by
          apply Nat.lt_of_not_le
          intro z
          have := nat_le z
          grind
        have pdo : ∀ j ∈ ws.filter (fun j => inn [((b0 : Int), E)] b0 bn j), pd (fun k => if k < bn then s else p' k) j = s := fun j hjw => by
          unfold pd
          simp only
          have h1 := hown' j hjw
          have h2 := hj j h1.1
          rw [if_pos (by omega)]
        have pdr : ∀ j ∈ ws.filter (fun j => !inn [((b0 : Int), E)] b0 bn j), pd (fun k => if k < bn then s else p' k) j = pd p' j := fun j hjw => by
          unfold pd
          simp only
          have h1 := hws' j hjw
          rw [if_neg (by omega)]
        refine ⟨fun w hwp => ?_, fun x hx => ?_, fun x hx k hk1 hk2 => ?_⟩
        · rcases List.mem_append.mp hwp with h | h
          · have := rf w h
            exact ⟨this.1, this.2.1⟩
          · have := C'.from_ w h
            have hh := nat_lt hb0'
            exact ⟨by grind, this.2⟩
        · by_cases hxb : x ≤ (bn : Rat)
          · -- within the round
            obtain ⟨Fx, _⟩ := F x hx hxb
            have h0x : 0 ≤ x := by
              have := nat_le (Nat.zero_le b0)
              have e : ((0 : Nat) : Rat) = 0 := rfl
              grind
            have C1 := C'.cert bn Rat.le_refl
            have lwr1 : ∀ j ∈ ws.filter (fun j => !inn [((b0 : Int), E)] b0 bn j), lw (ps1 ++ qs) x j = lw qs bn j := fun j hjw => by
              rw [lwr x j hjw]
              unfold lw
              rw [wk_none fun w hwq _ => by have := C'.from_ w hwq; grind, wk_none fun w hwq _ => (C'.from_ w hwq).1]
            have tot : ls (lw (ps1 ++ qs) x) (ws.filter fun j => inn [((b0 : Int), E)] b0 bn j) = s * ((bn : Rat) - x) := by
              have h1 := Fx.tot bn fun z hz => by rw [List.mem_singleton.mp hz]; exact Rat.le_refl
              rw [ls_congr (lwo x), h1]
              congr 1
              simp only [rem, ls, rlen, rmin, rmax]
              grind
            have wdo : ∀ d : Nat, Wd (ws.filter fun j => inn [((b0 : Int), E)] b0 bn j) (lw (ps1 ++ qs) x) d ≤ s * rem [(x, (bn : Rat))] x d := fun d => by
              have h1 := Fx.all d
              refine Rat.le_trans ?_ h1
              apply ls_le
              intro j hjw
              obtain ⟨m1, m2⟩ := hown' j hjw
              rw [lwo x j hjw, (hfl j m1).2]
              by_cases c : j.du ≤ (d : Int)
              · have c' : (j.du : Rat) ≤ (d : Rat) := by
                  have := Rat.intCast_le_intCast.mpr c
                  simpa [Rat.intCast_natCast] using this
                rw [if_pos c, if_pos c']
                exact Rat.le_refl
              · have c' : ¬ (j.du : Rat) ≤ (d : Rat) := fun z => c (Rat.intCast_le_intCast.mp (by simpa [Rat.intCast_natCast] using z))
                rw [if_neg c, if_neg c']
                exact Rat.le_refl
            have wdall : ∀ d : Nat, bn ≤ d → Wd (ws.filter fun j => inn [((b0 : Int), E)] b0 bn j) (lw (ps1 ++ qs) x) d = s * ((bn : Rat) - x) := fun d hd => by
              rw [← tot]
              apply ls_congr
              intro j hjw
              have := (hown' j hjw).2
              rw [if_pos (by omega)]
            have hsb : Hs (fun k => if k < bn then s else p' k) x bn = s * ((bn : Rat) - x) := by
              rw [Hs_const h0x (s := s) fun k hk => by simp only [hk, if_true], if_pos hxb]
            refine ⟨mono, ppos, pfin, fun j hjw => ?_, fun j hjw hl => ?_, fun d => ?_, fun d hd => ?_⟩
            · rcases mem2 j hjw with h | h
              · rw [lwo x j h]
                exact Fx.nn j h
              · rw [lwr1 j h]
                exact C1.lpos j h
            · rcases mem2 j hjw with h | h
              · rw [lwo x j h]
                exact Fx.over Cx.pos (fun _ h => (List.not_mem_nil h).elim) hxb h (by rw [(hfl j hjw).2]; exact hl)
              · exfalso
                have h1 := (hws' j h).2
                have := Rat.intCast_lt_intCast.mpr h1
                simp only [Rat.intCast_natCast] at this
                grind
            · rw [wdp]
              by_cases hd : d ≤ bn
              · rw [wdr0 _ d hd, Hs_const h0x (s := s) fun k hk => by simp only [show k < bn by omega, if_true]]
                have h1 := wdo d
                have h2 : rem [(x, (bn : Rat))] x d = if x ≤ (d : Rat) then (d : Rat) - x else 0 := by
                  have := nat_le hd
                  simp only [rem, ls, rlen, rmin, rmax]
                  grind
                rw [h2] at h1
                grind
              · rw [wdall d (by omega), Hs_split (p' := p') hxb (fun k hk => by simp only [show ¬ k < bn by omega, if_false]) (by omega), hsb]
                have h1 := C1.cap d
                have h2 : Wd (ws.filter fun j => !inn [((b0 : Int), E)] b0 bn j) (lw (ps1 ++ qs) x) d = Wd (ws.filter fun j => !inn [((b0 : Int), E)] b0 bn j) (lw qs bn) d := ls_congr fun j hjw => by rw [lwr1 j hjw]
                rw [h2]
                grind
            · have hd1 : bn ≤ d + 1 := by
                apply Nat.le_of_not_lt
                intro z
                rw [if_pos z, if_pos (show d < bn by omega)] at hd
                grind
              rw [wdp, wdall (d + 1) hd1]
              by_cases hd2 : d + 1 = bn
              · rw [wdr0 _ (d + 1) (by omega), hd2, hsb]; grind
              · rw [if_neg (show ¬ d + 1 < bn by omega), if_neg (show ¬ d < bn by omega)] at hd
                rw [Hs_split (p' := p') hxb (fun k hk => by simp only [show ¬ k < bn by omega, if_false]) hd1, hsb]
                have h1 := C1.tight d hd
                have h2 : Wd (ws.filter fun j => !inn [((b0 : Int), E)] b0 bn j) (lw (ps1 ++ qs) x) (d + 1) = Wd (ws.filter fun j => !inn [((b0 : Int), E)] b0 bn j) (lw qs bn) (d + 1) := ls_congr fun j hjw => by rw [lwr1 j hjw]
                rw [h2, h1]
          · -- behind the round
            have hxb' : (bn : Rat) ≤ x := by grind
            have C1 := C'.cert x hxb'
            have hz : ∀ j ∈ ws.filter (fun j => inn [((b0 : Int), E)] b0 bn j), lw (ps1 ++ qs) x j = 0 := fun j hjw => by
              rw [lwo x j hjw, wk_end (b := (bn : Rat)) (fun w hwp => by have := rf w hwp; exact ⟨this.2.1, this.2.2.1⟩) hxb']
              exact (F bn hb0r Rat.le_refl).1.done hjw
            have wdo : ∀ d : Nat, Wd ws (lw (ps1 ++ qs) x) d = Wd (ws.filter fun j => !inn [((b0 : Int), E)] b0 bn j) (lw qs x) d := fun d => by
              rw [wdp]
              have e1 : Wd (ws.filter fun j => inn [((b0 : Int), E)] b0 bn j) (lw (ps1 ++ qs) x) d = 0 := ls_zero fun j hjw => by
                rw [hz j hjw]
                split <;> rfl
              have e2 : Wd (ws.filter fun j => !inn [((b0 : Int), E)] b0 bn j) (lw (ps1 ++ qs) x) d = Wd (ws.filter fun j => !inn [((b0 : Int), E)] b0 bn j) (lw qs x) d := ls_congr fun j hjw => by rw [lwr x j hjw]
              rw [e1, e2]; grind
            have hsl : ∀ d, Hs (fun k => if k < bn then s else p' k) x d = Hs p' x d := Hs_late hxb' fun k hk => by simp only [show ¬ k < bn by omega, if_false]
            refine ⟨mono, ppos, pfin, fun j hjw => ?_, fun j hjw hl => ?_, fun d => ?_, fun d hd => ?_⟩
            · rcases mem2 j hjw with h | h
              · rw [hz j h]; exact Rat.le_refl
              · rw [lwr x j h]
                exact C1.lpos j h
            · rcases mem2 j hjw with h | h
              · exact hz j h
              · rw [lwr x j h]
                exact C1.late j h hl
            · rw [wdo, hsl]
              exact C1.cap d
            · have hd1 : bn ≤ d + 1 := by
                apply Nat.le_of_not_lt
                intro z
                rw [if_pos z, if_pos (show d < bn by omega)] at hd
                grind
              rw [wdo, hsl]
              by_cases hd2 : d + 1 = bn
              · rw [wdr0 _ (d + 1) (by omega), hd2, Hs_zero hxb']
              · rw [if_neg (show ¬ d + 1 < bn by omega), if_neg (show ¬ d < bn by omega)] at hd
                exact C1.tight d hd
        · by_cases hxb : x < (bn : Rat)
          · have hk := hbnE hxb hk1
            simp only [hk, if_true]
            refine ⟨fun w hwp a1 a2 => ?_, fun hn => ?_⟩
            · rcases List.mem_append.mp hwp with h | h
              · obtain ⟨_, _, _, c4, j, hjw, e, _⟩ := rf w h
                exact ⟨c4, j, (List.mem_filter.mp hjw).1, e, pdo j hjw⟩
              · exfalso
                have := C'.from_ w h
                grind
            · exfalso
              obtain ⟨w, hwp, hc⟩ := (F x hx (by grind)).2 hxb
              exact hn w (List.mem_append.mpr (.inl hwp)) hc
          · have hxb' : (bn : Rat) ≤ x := by grind
            have hk : ¬ k < bn := fun z => by
              have := nat_lt z
              grind
            simp only [hk, if_false]
            obtain ⟨w1, w2⟩ := C'.works x hxb' k hk1 hk2
            refine ⟨fun w hwp a1 a2 => ?_, fun hn => w2 fun w hwq => hn w (List.mem_append.mpr (.inr hwq))⟩
            rcases List.mem_append.mp hwp with h | h
            · exfalso
              have := rf w h
              grind
            · obtain ⟨c1, j, hjw, e, c2⟩ := w1 w h a1 a2
              exact ⟨c1, j, (hws' j hjw).1, e, by rw [pdr j hjw]; exact c2⟩
end
end SW

set_option Elab.async false
set_option linter.all false
/-! a plan there is; the store by the prices -/
namespace SW
section
variable {N : Type} [DecidableEq N]
section
variable {own : List (Jb N)} {free : List (Int × Int)} {s : Rat}
theorem run_exists (C : EdfCx own free s) {rest : List (Rat × Rat)} (f : Rat) (hr : ∀ x ∈ rest, f ≤ x.1 ∧ x.1 ≤ x.2) : ∀ (n : Nat) (y : Rat) (l : N → Rat), turns own l y ≤ n → y ≤ f → (∀ x, y ≤ x → x < f → inF free x) →
    Feas own s (fun j => (Fi free j : Rat)) (fun j => (La free j : Rat)) ((y, f) :: rest) y l → ∃ ps l', Run own s y f l ps l' := by
  intro n
  induction n with
  | zero =>
    intro y l ht hy hin Z
    by_cases h : y < f
    · obtain ⟨j, _, hj, hja, hjm, hu⟩ := edf_turn C Z hr h hin
      obtain ⟨u1, u2, u3, u4, u5, u6, u7, u8⟩ := hu _ rfl
      by_cases hlt : untilF own y (rmin f (y + l j.nm / s)) < f
      · have := u7 hlt; omega
      · exact ⟨_, _, Run.go h hj hja hjm u1 u2 u3 u4 u5 (Run.stop hlt)⟩
    · exact ⟨_, _, Run.stop h⟩
  | succ n ih =>
    intro y l ht hy hin Z
    by_cases h : y < f
    · obtain ⟨j, _, hj, hja, hjm, hu⟩ := edf_turn C Z hr h hin
      obtain ⟨u1, u2, u3, u4, u5, u6, u7, u8⟩ := hu _ rfl
      by_cases hlt : untilF own y (rmin f (y + l j.nm / s)) < f
      · obtain ⟨ps, l', hrun⟩ := ih _ _ (by have := u7 hlt; omega) u2 (fun x h1 h2 => hin x (by grind) h2) u6
        exact ⟨_, _, Run.go h hj hja hjm u1 u2 u3 u4 u5 hrun⟩
      · exact ⟨_, _, Run.go h hj hja hjm u1 u2 u3 u4 u5 (Run.stop hlt)⟩
    · exact ⟨_, _, Run.stop h⟩
theorem runs_exists (C : EdfCx own free s) : ∀ {gv : List (Int × Int)} {l : N → Rat}, FreeOk gv → (∀ x, inF gv x → inF free x) → (∀ {x : Int × Int} {r : List (Int × Int)}, gv = x :: r →
    Feas own s (fun j => (Fi free j : Rat)) (fun j => (La free j : Rat)) (castP gv) x.1 l) → ∃ ps l', Runs own s gv l ps l' := by
  intro gv
  induction gv with
  | nil => intro l _ _ _; exact ⟨_, _, Runs.nil⟩
  | cons ab rest ih =>
    obtain ⟨a, b⟩ := ab
    intro l ok hin hZ
    have Z := hZ rfl
    obtain ⟨ok1, ok2⟩ := List.pairwise_cons.mp ok.1
    have okr : FreeOk rest := ⟨ok2, fun x hx => ok.2 x (List.mem_cons_of_mem _ hx)⟩
    have hab := Rat.intCast_le_intCast.mpr (Int.le_of_lt (ok.2 (a, b) List.mem_cons_self).2)
    have hr : ∀ x ∈ castP rest, (b : Rat) ≤ x.1 ∧ x.1 ≤ x.2 := fun x hx => by
      obtain ⟨z, hz, rfl⟩ := List.mem_map.mp hx
      exact ⟨Rat.intCast_le_intCast.mpr (ok1 z hz), Rat.intCast_le_intCast.mpr (Int.le_of_lt (okr.2 z hz).2)⟩
    obtain ⟨ps, l1, h1⟩ := run_exists C (rest := castP rest) b hr _ a l (Nat.le_refl _) hab (fun x h1 h2 => hin x ⟨(a, b), List.mem_cons_self, h1, h2⟩) Z
    have Z1 := (run_feas C h1 hab hr (fun x h1 h2 => hin x ⟨(a, b), List.mem_cons_self, h1, h2⟩) Z b hab Rat.le_refl).1
    have e1 : (fun n => l n - Wk ps n b) = l1 := by
      funext n
      exact (run_left h1 n).symm
    rw [e1] at Z1
    obtain ⟨qs, l2, h2⟩ := ih (l := l1) okr (fun x ⟨v, hv, hx⟩ => hin x ⟨v, List.mem_cons_of_mem _ hv, hx⟩) fun {z r} e => by
      subst e
      have oz := ok1 z List.mem_cons_self
      exact Feas.next (a := (z.1 : Rat)) (b := (z.2 : Rat)) (rest := castP r) Z1 (Rat.intCast_le_intCast.mpr oz) (fun w hw => by
        obtain ⟨v, hv, rfl⟩ := List.mem_map.mp hw
        have a1 := (List.pairwise_cons.mp okr.1).1 v hv
        have a2 := (okr.2 z List.mem_cons_self).2
        exact Rat.intCast_le_intCast.mpr (by omega))
    exact ⟨_, _, Runs.cons h1 h2⟩
end
/-- what a round of the plan finds at its beginning -/
theorem round_start {jobs ws : List (Jb N)} (nd : (jobs.map (·.nm)).Nodup) {free : List (Int × Int)} {a b : Int} (D : Dens free ws a b) (hf : FreeOk free) (hw : ∀ j ∈ ws, Win free j) (hwk : ∀ j ∈ ws, 0 ≤ j.wk) {q : Jb N → Bool} (hq : ws = jobs.filter q) :
    EdfCx (jobs.filter fun j => decide (j.nm ∈ (ws.filter fun j => inn free a b j).map (·.nm))) free (loadR free ws a b / (lenF free a b : Rat)) ∧ FreeOk (freePart free a b) ∧ (∀ x, inF (freePart free a b) x → inF free x) ∧
    ∀ {x : Int × Int} {r : List (Int × Int)}, freePart free a b = x :: r → Feas (jobs.filter fun j => decide (j.nm ∈ (ws.filter fun j => inn free a b j).map (·.nm))) (loadR free ws a b / (lenF free a b : Rat)) (fun j => (Fi free j : Rat)) (fun j => (La free j : Rat)) (castP (freePart free a b)) x.1 (wkOf jobs) := by
  rw [own_eq nd hq]
  have hsub : ∀ j ∈ ws, j ∈ jobs := fun j hj => by rw [hq] at hj; exact (List.mem_filter.mp hj).1
  refine ⟨⟨by rw [hq]; exact filter_nd (filter_nd nd q) _, fun j hj => hw j (List.mem_filter.mp hj).1, D.speed hw⟩, part_ok hf a b, fun x hx => (inF_part.mp hx).1, fun e => ?_⟩
  exact D.feas hf hw hwk rfl (fun j hj => wkOf_eq nd (hsub j (List.mem_filter.mp hj).1)) e
theorem plan_exists {jobs : List (Jb N)} (nd : (jobs.map (·.nm)).Nodup) : ∀ {ws : List (Jb N)} {free : List (Int × Int)} {rds : List (Rnd N)}, Rounds ws free rds → FreeOk free → (∀ j ∈ ws, Win free j) → (∀ j ∈ ws, 0 ≤ j.wk) → (∃ q, ws = jobs.filter q) → ∃ ps, PlanOf jobs rds ps := by
  intro ws free rds h
  induction h with
  | nil free => intro _ _ _ _; exact ⟨_, PlanOf.nil⟩
  | cons D hR ih =>
    rename_i ws free a b rds
    intro hf hw hwk hq
    obtain ⟨q, hq⟩ := hq
    have hw' : ∀ j ∈ ws.filter (fun j => !inn free a b j), Win (takenAway free a b) j := fun j hj => win_of (taken_ok hf (Int.le_of_lt D.lt)) (next_win hf hw j hj)
    obtain ⟨qs, h2⟩ := ih (taken_ok hf (Int.le_of_lt D.lt)) hw' (fun j hj => hwk j (List.mem_filter.mp hj).1) ⟨fun j => !inn free a b j && q j, by rw [hq, List.filter_filter]⟩
    obtain ⟨c1, c2, c3, c4⟩ := round_start nd D hf hw hwk hq
    obtain ⟨ps, l', h1⟩ := runs_exists c1 c2 c3 c4
    exact ⟨_, PlanOf.cons h1 h2⟩
/-! the store -/
/-- the jobs with left work, in parts of an integer from the moment on -/
def scaledJ (A : List (Jb N)) (l : N → Rat) (m : Rat) : List (Jb N) := (A.filter fun j => decide (l j.nm ≠ 0)).map fun j => ⟨j.nm, 0, j.du * (m.den : Int) - m.num, l j.nm⟩
def storeV (A : List (Jb N)) (l x : N → Rat) (m : Rat) (rds : List (Rnd N)) : Rat :=
  ls (fun rd => ls (fun j => if rd.a < j.du * (m.den : Int) - m.num ∧ j.du * (m.den : Int) - m.num ≤ rd.b then 2 * (m.den : Rat) * rd.sp * (l j.nm - 2 * x j.nm) else 0) A) rds
theorem ls_swap {α β : Type} {f : α → β → Rat} {A : List α} : ∀ {B : List β}, ls (fun a => ls (fun b => f a b) B) A = ls (fun b => ls (fun a => f a b) A) B
  | [] => by simp only [ls]; exact ls_zero fun _ _ => rfl
  | b :: r => by
    have ih := ls_swap (f := f) (A := A) (B := r)
    simp only [ls]
    rw [ls_add, ih]
theorem storeV_eq {A : List (Jb N)} {l x : N → Rat} {m : Rat} {rds : List (Rnd N)} : storeV A l x m rds = ls (fun j => 2 * ((m.den : Rat) * pr rds (j.du * (m.den : Int) - m.num)) * (l j.nm - 2 * x j.nm)) A := by
  unfold storeV
  rw [ls_swap]
  apply ls_congr
  intro j _
  have e : ls (fun rd => if rd.a < j.du * (m.den : Int) - m.num ∧ j.du * (m.den : Int) - m.num ≤ rd.b then 2 * (m.den : Rat) * rd.sp * (l j.nm - 2 * x j.nm) else 0) rds = ls (fun rd => (2 * (m.den : Rat) * (l j.nm - 2 * x j.nm)) * (if rd.a < j.du * (m.den : Int) - m.num ∧ j.du * (m.den : Int) - m.num ≤ rd.b then rd.sp else 0)) rds := ls_congr fun rd _ => by
    split <;> grind
  rw [e, ls_mul]
  unfold pr
  grind
theorem rat_cmp {m : Rat} {d : Int} : (d : Rat) ≤ m ↔ d * (m.den : Int) ≤ m.num := by
  rw [Rat.le_iff]
  simp
theorem rat_den_pos (m : Rat) : (0 : Rat) < (m.den : Rat) := by
  have := nat_lt m.den_pos
  have e : ((0 : Nat) : Rat) = 0 := rfl
  grind
theorem num_eq (m : Rat) : m * (m.den : Rat) = (m.num : Rat) := by
  rw [Rat.mul_def']
  have e1 : ((m.den : Nat) : Rat).num = (m.den : Int) := rfl
  have e2 : ((m.den : Nat) : Rat).den = 1 := rfl
  rw [e1, e2, Int.mul_comm, Rat.mkRat_mul_left m.den_nz]
  exact Rat.mkRat_self (m.num : Rat)
theorem cs_const {p : Nat → Rat} {c : Rat} {a : Nat} : ∀ {d : Nat}, a ≤ d → (∀ i, a ≤ i → i < d → p i = c) → cs p d - cs p a = ((d : Rat) - (a : Rat)) * c
  | 0, h, _ => by have : a = 0 := by omega
                  subst this; grind
  | d + 1, h, hk => by
    by_cases e : a = d + 1
    · subst e; grind
    · have ih := cs_const (p := p) (c := c) (a := a) (d := d) (by omega) fun i h1 h2 => hk i h1 (by omega)
      have h2 := hk d (by omega) (by omega)
      have e : ((d + 1 : Nat) : Rat) = (d : Rat) + 1 := by simp
      simp only [cs]
      rw [e, h2]; grind

/-- the prices of the rounds of the scaled jobs are prices of the jobs -/
theorem store_cert {A : List (Jb N)} {l : N → Rat} {m : Rat} (h0 : 0 ≤ m) (nd : (A.map (·.nm)).Nodup) (hl : ∀ j ∈ A, 0 ≤ l j.nm) (hlate : ∀ j ∈ A, (j.du : Rat) ≤ m → l j.nm = 0) {E : Int} {free : List (Int × Int)} {rds : List (Rnd N)}
    (hE : ∀ j ∈ scaledJ A l m, j.du ≤ E) (hfree : scaledJ A l m = [] ∨ (free = [(0, E)] ∧ 0 < E)) (hR : Rounds (scaledJ A l m) free rds) :
    ∃ p : Nat → Rat, Cert m p A (fun j => l j.nm) ∧ ∀ j ∈ A, m < (j.du : Rat) → (m.den : Rat) * pr rds (j.du * (m.den : Int) - m.num) = pd p j := by
  have hP := m.den_pos
  have hPr := rat_den_pos m
  have hM : 0 ≤ m.num := Rat.num_nonneg.mpr h0
  have hnum := num_eq m
  -- the scaled jobs
  have hmem : ∀ w ∈ scaledJ A l m, ∃ j ∈ A, l j.nm ≠ 0 ∧ w = ⟨j.nm, 0, j.du * (m.den : Int) - m.num, l j.nm⟩ := fun w hw => by
    obtain ⟨j, hj, rfl⟩ := List.mem_map.mp hw
    obtain ⟨h1, h2⟩ := List.mem_filter.mp hj
    exact ⟨j, h1, of_decide_eq_true h2, rfl⟩
  have hpos : ∀ j ∈ A, l j.nm ≠ 0 → m.num < j.du * (m.den : Int) := fun j hj hne => by
    apply Int.not_le.mp
    intro z
    exact hne (hlate j hj (rat_cmp.mpr z))
  have ndw : ((scaledJ A l m).map (·.nm)).Nodup := by
    have : (scaledJ A l m).map (·.nm) = (A.filter fun j => decide (l j.nm ≠ 0)).map (·.nm) := by
      unfold scaledJ
      rw [List.map_map]
      rfl
    rw [this]
    exact filter_nd nd _
  have hwin : ∀ w ∈ scaledJ A l m, w.cm ≤ ((0 : Nat) : Int) ∧ ((0 : Nat) : Int) < w.du ∧ w.du ≤ E ∧ 0 < w.wk := fun w hw => by
    have hE' := hE w hw
    obtain ⟨j, hj, hne, rfl⟩ := hmem w hw
    have := hpos j hj hne
    have := hl j hj
    refine ⟨Int.le_refl _, by simp only; omega, hE', by simp only; grind⟩
  have hfw : FreeOk free ∨ scaledJ A l m = [] := by
    rcases hfree with e | ⟨rfl, hE0⟩
    · exact .inr e
    · exact .inl ⟨List.pairwise_singleton _ _, fun x hx => by rw [List.mem_singleton.mp hx]; simp only; omega⟩
  have hplan : ∃ ps, PlanOf (scaledJ A l m) rds ps := by
    rcases hfree with e | ⟨rfl, hE0⟩
    · rw [e] at hR
      cases rds with
      | nil => exact ⟨_, PlanOf.nil⟩
      | cons r t =>
        obtain ⟨_, _, D, _⟩ := hR.inv
        obtain ⟨_, hj, _⟩ := D.fa
        cases hj
    · have hf : FreeOk [((0 : Int), E)] := ⟨List.pairwise_singleton _ _, fun x hx => by rw [List.mem_singleton.mp hx]; simp only; omega⟩
      exact plan_exists ndw hR hf (fun w hw => win_of hf (by
        obtain ⟨a1, a2, a3, a4⟩ := hwin w hw
        rw [one_part (by simpa using a1) (by simpa using a2) a3]
        simp)) (fun w hw => by have := (hwin w hw).2.2.2; grind) ⟨fun _ => true, (List.filter_eq_self.mpr fun _ _ => rfl).symm⟩
  obtain ⟨ps, hps⟩ := hplan
  obtain ⟨p, _, _, hlink, C⟩ := course ndw hR hps ⟨fun _ => true, (List.filter_eq_self.mpr fun _ _ => rfl).symm⟩ 0 E (by simpa using hfree) hwin
  have C0 := C.cert 0 (by simp)
  have hlw : ∀ w, lw ps 0 w = w.wk := fun w => by
    unfold lw
    rw [wk_none fun q hq _ => by have := (C.from_ q hq).1; simpa using this]; grind
  -- works by scaled times
  have hWs : ∀ n : Nat, Wd (scaledJ A l m) (lw ps 0) n = ls (fun j => if l j.nm ≠ 0 ∧ j.du * (m.den : Int) - m.num ≤ (n : Int) then l j.nm else 0) A := fun n => by
    unfold Wd scaledJ
    rw [ls_map, ls_filter]
    apply ls_congr
    intro j _
    rw [hlw]
    by_cases e1 : l j.nm = 0
    · simp [e1]
    · simp only [e1]
      by_cases e2 : j.du * (m.den : Int) - m.num ≤ (n : Int) <;> simp [e1, e2]
  have hWd : ∀ d : Nat, Wd A (fun j => l j.nm) d = Wd (scaledJ A l m) (lw ps 0) (((d : Int) * (m.den : Int) - m.num).toNat) := fun d => by
    rw [hWs]
    apply ls_congr
    intro j hj
    by_cases e1 : l j.nm = 0
    · simp [e1]
    · have h1 := hpos j hj e1
      have e2 : j.du ≤ (d : Int) ↔ j.du * (m.den : Int) - m.num ≤ ((((d : Int) * (m.den : Int) - m.num).toNat : Nat) : Int) := by
        constructor
        · intro h
          have := Int.mul_le_mul_of_nonneg_right h (show (0 : Int) ≤ (m.den : Int) by omega)
          omega
        · intro h
          apply Int.le_of_mul_le_mul_right _ (show (0 : Int) < (m.den : Int) by omega)
          omega
      by_cases e3 : j.du ≤ (d : Int)
      · rw [if_pos e3, if_pos ⟨e1, e2.mp e3⟩]
      · rw [if_neg e3, if_neg fun z => e3 (e2.mpr z.2)]
  have hcs : ∀ n, Hs p 0 n = cs p n := fun n => cs_congr fun k _ => by
    have : cl 0 k = 1 := by
      unfold cl
      rw [if_pos]
      have := nat_le (Nat.zero_le k)
      simpa using this
    rw [this]; grind
  -- within a cell the price stays
  have hconst : ∀ (d : Nat) (i : Nat), ((d : Int) * (m.den : Int) - m.num).toNat ≤ i → i < (((d + 1 : Nat) : Int) * (m.den : Int) - m.num).toNat → p i = p ((((d + 1 : Nat) : Int) * (m.den : Int) - m.num).toNat - 1) := by
    intro d
    have drop : ∀ i, ((d : Int) * (m.den : Int) - m.num).toNat ≤ i → i + 1 < (((d + 1 : Nat) : Int) * (m.den : Int) - m.num).toNat → p (i + 1) = p i := fun i h1 h2 => by
      apply Classical.byContradiction
      intro hne
      have hm := C0.mono i
      have ht := C0.tight i (by grind)
      have hw : Wd (scaledJ A l m) (lw ps 0) (i + 1) = Wd (scaledJ A l m) (lw ps 0) (((d : Int) * (m.den : Int) - m.num).toNat) := by
        rw [hWs, hWs]
        apply ls_congr
        intro j hj
        by_cases e1 : l j.nm = 0
        · simp [e1]
        · have h3 := hpos j hj e1
          have e2 : j.du * (m.den : Int) - m.num ≤ ((i + 1 : Nat) : Int) ↔ j.du * (m.den : Int) - m.num ≤ ((((d : Int) * (m.den : Int) - m.num).toNat : Nat) : Int) := by
            constructor
            · intro h
              have h4 : j.du < ((d + 1 : Nat) : Int) := by
                apply Int.lt_of_mul_lt_mul_right _ (show (0 : Int) ≤ (m.den : Int) by omega)
                omega
              have := Int.mul_le_mul_of_nonneg_right (show j.du ≤ (d : Int) by omega) (show (0 : Int) ≤ (m.den : Int) by omega)
              omega
            · intro h; omega
          by_cases e3 : j.du * (m.den : Int) - m.num ≤ ((i + 1 : Nat) : Int)
          · rw [if_pos ⟨e1, e3⟩, if_pos ⟨e1, e2.mp e3⟩]
          · rw [if_neg fun z => e3 z.2, if_neg fun z => e3 (e2.mpr z.2)]
      have hc := C0.cap (((d : Int) * (m.den : Int) - m.num).toNat)
      have hmon := cs_mono_diff (f := fun _ => 0) (g := p) (a := ((d : Int) * (m.den : Int) - m.num).toNat) (d := i) h1 fun k _ _ => C0.pos k
      have z : ∀ d, cs (fun _ => (0 : Rat)) d = 0 := fun d => by
        have : cs (fun _ => (0 : Rat)) d = cs (fun _ => 0 * 0) d := cs_congr fun k hk => by grind
        rw [this, cs_mul]; grind
      rw [z, z] at hmon
      rw [hw, hcs] at ht
      rw [hcs] at hc
      have e : cs p (i + 1) = cs p i + p i := rfl
      have h3 := C0.pos i
      have h4 := C0.pos (i + 1)
      grind
    intro i h1 h2
    have : ∀ n i, ((d : Int) * (m.den : Int) - m.num).toNat ≤ i → i + n + 1 = (((d + 1 : Nat) : Int) * (m.den : Int) - m.num).toNat → p i = p ((((d + 1 : Nat) : Int) * (m.den : Int) - m.num).toNat - 1) := by
      intro n
      induction n with
      | zero =>
        intro i h1 h2
        rw [← h2]
        rfl
      | succ n ih =>
        intro i h1 h2
        rw [← drop i h1 (by omega)]
        exact ih (i + 1) (by omega) (by omega)
    exact this ((((d + 1 : Nat) : Int) * (m.den : Int) - m.num).toNat - 1 - i) i h1 (by omega)
  have step : ∀ d : Nat, ((d + 1 : Nat) : Int) * (m.den : Int) = (d : Int) * (m.den : Int) + (m.den : Int) := fun d => by
    rw [Int.natCast_add, Int.add_mul]; omega
  -- the sums agree
  have hHs : ∀ d : Nat, Hs (fun k => (m.den : Rat) * p ((((k + 1 : Nat) : Int) * (m.den : Int) - m.num).toNat - 1)) m d = cs p (((d : Int) * (m.den : Int) - m.num).toNat) := by
    intro d
    induction d with
    | zero =>
      have : (((0 : Nat) : Int) * (m.den : Int) - m.num).toNat = 0 := by simp; omega
      rw [this]
      rfl
    | succ d ih =>
      have e1 : Hs (fun k => (m.den : Rat) * p ((((k + 1 : Nat) : Int) * (m.den : Int) - m.num).toNat - 1)) m (d + 1) = Hs (fun k => (m.den : Rat) * p ((((k + 1 : Nat) : Int) * (m.den : Int) - m.num).toNat - 1)) m d + (m.den : Rat) * p ((((d + 1 : Nat) : Int) * (m.den : Int) - m.num).toNat - 1) * cl m d := rfl
      have hst := step d
      have hle : ((d : Int) * (m.den : Int) - m.num).toNat ≤ (((d + 1 : Nat) : Int) * (m.den : Int) - m.num).toNat := by omega
      have h2 := cs_const hle (hconst d)
      have h3 : (m.den : Rat) * cl m d = (((((d + 1 : Nat) : Int) * (m.den : Int) - m.num).toNat : Nat) : Rat) - ((((d : Int) * (m.den : Int) - m.num).toNat : Nat) : Rat) := by
        have c1 : (d : Rat) * (m.den : Rat) = (((d : Int) * (m.den : Int) : Int) : Rat) := by simp [Rat.intCast_mul, Rat.intCast_natCast]
        have tn : ∀ z : Int, 0 ≤ z → ((z.toNat : Nat) : Rat) = (z : Rat) := fun z hz => by
          have : ((z.toNat : Nat) : Int) = z := Int.toNat_of_nonneg hz
          rw [← Rat.intCast_natCast, this]
        unfold cl
        by_cases b1 : m ≤ (d : Rat)
        · rw [if_pos b1]
          have b2 : m.num ≤ (d : Int) * (m.den : Int) := by
            have := Rat.mul_le_mul_of_nonneg_right b1 (show 0 ≤ (m.den : Rat) by grind)
            rw [hnum, c1] at this
            exact Rat.intCast_le_intCast.mp this
          rw [tn _ (by omega), tn _ (by omega), Rat.intCast_sub, Rat.intCast_sub, hst, Rat.intCast_add, Rat.intCast_natCast]
          grind
        · rw [if_neg b1]
          have b2 : (d : Int) * (m.den : Int) < m.num := by
            have := Rat.mul_lt_mul_of_pos_right (show (d : Rat) < m by grind) hPr
            rw [hnum, c1] at this
            exact Rat.intCast_lt_intCast.mp this
          have z0 : ((d : Int) * (m.den : Int) - m.num).toNat = 0 := by omega
          rw [z0]
          by_cases b3 : m < (d : Rat) + 1
          · rw [if_pos b3]
            have b4 : m.num < ((d + 1 : Nat) : Int) * (m.den : Int) := by
              have := Rat.mul_lt_mul_of_pos_right b3 hPr
              rw [hnum] at this
              apply Rat.intCast_lt_intCast.mp
              rw [hst, Rat.intCast_add, ← c1, Rat.intCast_natCast]
              grind
            rw [tn _ (by omega), Rat.intCast_sub, hst, Rat.intCast_add, ← c1, ← hnum, Rat.intCast_natCast]
            have : ((0 : Nat) : Rat) = 0 := rfl
            rw [this]
            grind
          · rw [if_neg b3]
            have b4 : ((d + 1 : Nat) : Int) * (m.den : Int) ≤ m.num := by
              have := Rat.mul_le_mul_of_nonneg_right (show (d : Rat) + 1 ≤ m by grind) (show 0 ≤ (m.den : Rat) by grind)
              rw [hnum] at this
              apply Rat.intCast_le_intCast.mp
              rw [hst, Rat.intCast_add, ← c1, Rat.intCast_natCast]
              grind
            have z1 : (((d + 1 : Nat) : Int) * (m.den : Int) - m.num).toNat = 0 := by omega
            rw [z1]
            grind
      rw [e1, ih]
      generalize p ((((d + 1 : Nat) : Int) * (m.den : Int) - m.num).toNat - 1) = v at *
      rw [← h3] at h2
      grind
  refine ⟨fun k => (m.den : Rat) * p ((((k + 1 : Nat) : Int) * (m.den : Int) - m.num).toNat - 1), ⟨fun k => ?_, fun k => ?_, ?_, hl, hlate, fun d => ?_, fun d hd => ?_⟩, fun j hj hm => ?_⟩
  · apply Rat.mul_le_mul_of_nonneg_left _ (show 0 ≤ (m.den : Rat) by grind)
    apply mono_le C0.mono
    have := step (k + 1)
    omega
  · exact Rat.mul_nonneg (by grind) (C0.pos _)
  · obtain ⟨K, hK⟩ := C0.fin
    refine ⟨K + m.num.toNat + 1, fun k hk => ?_⟩
    rw [hK]
    · grind
    · have h1 : (k : Int) + 1 ≤ ((k + 1 : Nat) : Int) * (m.den : Int) := by
        have := Int.mul_le_mul_of_nonneg_left (show (1 : Int) ≤ (m.den : Int) by omega) (show (0 : Int) ≤ ((k + 1 : Nat) : Int) by omega)
        omega
      omega
  · rw [hWd, hHs, ← hcs]
    exact C0.cap _
  · rw [hWd, hHs, ← hcs]
    have hd' : p ((((d + 1 + 1 : Nat) : Int) * (m.den : Int) - m.num).toNat - 1) < p ((((d + 1 : Nat) : Int) * (m.den : Int) - m.num).toNat - 1) := by
      apply Rat.not_le.mp
      intro z
      have := Rat.mul_le_mul_of_nonneg_left z (show 0 ≤ (m.den : Rat) by grind)
      grind
    have hst := step (d + 1)
    by_cases hn : (((d + 1 : Nat) : Int) * (m.den : Int) - m.num).toNat = 0
    · rw [hn, Wd_zero C0 Rat.le_refl]
      rfl
    · obtain ⟨n, hn2⟩ : ∃ n, (((d + 1 : Nat) : Int) * (m.den : Int) - m.num).toNat = n + 1 := ⟨(((d + 1 : Nat) : Int) * (m.den : Int) - m.num).toNat - 1, by omega⟩
      rw [hn2]
      apply C0.tight
      have h1 := hconst (d + 1) (n + 1) (by omega) (by omega)
      rw [h1]
      rw [hn2] at hd'
      exact hd'
  · have h1 := C0.mono
    have h2 : m.num < j.du * (m.den : Int) := by
      apply Int.not_le.mp
      intro z
      have := rat_cmp.mpr z
      grind
    have hdp : 1 ≤ j.du := by
      apply Int.not_lt.mp
      intro z
      have := Int.mul_le_mul_of_nonneg_right (show j.du ≤ 0 by omega) (show (0 : Int) ≤ (m.den : Int) by omega)
      omega
    unfold pd
    simp only
    have e1 : ((j.du.toNat - 1 + 1 : Nat) : Int) = j.du := by omega
    rw [e1]
    have e2 := hlink ((j.du * (m.den : Int) - m.num).toNat - 1) (Nat.zero_le _)
    have e3 : ((((j.du * (m.den : Int) - m.num).toNat - 1 : Nat) : Int)) + 1 = j.du * (m.den : Int) - m.num := by omega
    rw [e2, e3]
end
end SW

set_option Elab.async false
set_option linter.all false
/-! the runner -/
namespace SW
section
variable {N : Type} [DecidableEq N]
def clipL (b e : Rat) (ps : List (Pc N)) : List (Pc N) := ps.filterMap (clip b e)
theorem ls_fm {α β : Type} (f : β → Rat) (g : α → Option β) : ∀ A : List α, ls f (A.filterMap g) = ls (fun a => match g a with
    | none => 0
    | some b => f b) A
  | [] => rfl
  | a :: r => by
    have ih := ls_fm f g r
    rw [List.filterMap_cons]
    cases e : g a with
    | none => simp only [ls, ih, e]; grind
    | some b => simp only [ls, ih, e]
theorem clip_some {b e : Rat} {p q : Pc N} (h : clip b e p = some q) : q.nm = p.nm ∧ q.sp = p.sp ∧ q.st = rmax p.st b ∧ q.en = rmin p.en e ∧ q.st < q.en := by
  unfold clip at h
  by_cases c : rmax p.st b < rmin p.en e
  · rw [if_pos c] at h
    cases h
    exact ⟨rfl, rfl, rfl, rfl, c⟩
  · rw [if_neg c] at h
    cases h
theorem clipL_mem {b e : Rat} {ps : List (Pc N)} {q : Pc N} (h : q ∈ clipL b e ps) : ∃ p ∈ ps, q.nm = p.nm ∧ q.sp = p.sp ∧ q.st = rmax p.st b ∧ q.en = rmin p.en e ∧ q.st < q.en := by
  obtain ⟨p, hp, e⟩ := List.mem_filterMap.mp h
  exact ⟨p, hp, clip_some e⟩
theorem clipL_in {b e x : Rat} {ps : List (Pc N)} {p : Pc N} (hp : p ∈ ps) (h1 : p.st ≤ x) (h2 : x < p.en) (h3 : b ≤ x) (h4 : x < e) : ∃ q ∈ clipL b e ps, q.nm = p.nm ∧ q.sp = p.sp ∧ q.st ≤ x ∧ x < q.en := by
  have c : rmax p.st b < rmin p.en e := by unfold rmax rmin; grind
  refine ⟨⟨rmax p.st b, rmin p.en e, p.nm, p.sp⟩, List.mem_filterMap.mpr ⟨p, hp, by unfold clip; rw [if_pos c]⟩, rfl, rfl, ?_, ?_⟩
  · simp only; unfold rmax; grind
  · simp only; unfold rmin; grind
theorem wk_clipL {b e : Rat} {ps : List (Pc N)} (h : ∀ q ∈ ps, b ≤ q.st ∧ q.st < q.en) (n : N) (x : Rat) : Wk (clipL b e ps) n x = if x ≤ e then Wk ps n x else Wk ps n e := by
  have key : ∀ y, (∀ q ∈ ps, ov q y = (match clip b e q with
      | none => 0
      | some z => ov z x)) → Wk (clipL b e ps) n x = Wk ps n y := fun y hy => by
    unfold Wk clipL
    rw [ls_fm]
    apply ls_congr
    intro q hq
    have h1 := hy q hq
    cases c : clip b e q with
    | none =>
      rw [c] at h1
      simp only at h1 ⊢
      rw [h1]
      split <;> grind
    | some z =>
      rw [c] at h1
      simp only at h1 ⊢
      obtain ⟨c1, c2, _⟩ := clip_some c
      rw [h1, c1, c2]
  by_cases hx : x ≤ e
  · rw [if_pos hx]
    apply key
    intro q hq
    obtain ⟨h1, h2⟩ := h q hq
    cases c : clip b e q with
    | none =>
      simp only
      unfold clip at c
      by_cases c' : rmax q.st b < rmin q.en e
      · rw [if_pos c'] at c; cases c
      · unfold ov rmax rmin at *; grind
    | some z =>
      obtain ⟨_, _, c3, c4, c5⟩ := clip_some c
      simp only
      unfold ov rmax rmin at *
      grind
  · rw [if_neg hx]
    apply key
    intro q hq
    obtain ⟨h1, h2⟩ := h q hq
    cases c : clip b e q with
    | none =>
      simp only
      unfold clip at c
      by_cases c' : rmax q.st b < rmin q.en e
      · rw [if_pos c'] at c; cases c
      · unfold ov rmax rmin at *; grind
    | some z =>
      obtain ⟨_, _, c3, c4, c5⟩ := clip_some c
      simp only
      unfold ov rmax rmin at *
      grind
theorem clipL_noov {b e : Rat} {ps : List (Pc N)} (h : NoOv ps) : NoOv (clipL b e ps) := by
  unfold NoOv clipL
  rw [List.pairwise_filterMap]
  refine h.imp ?_
  intro p q hpq z hz w hw
  obtain ⟨_, _, c3, c4, _⟩ := clip_some hz
  obtain ⟨_, _, d3, d4, _⟩ := clip_some hw
  unfold Apart rmax rmin at *
  grind

def HistAt (J : List (Jb N)) (ps : List (Pc N)) (m m' : Rat) : Prop := ∃ (p : Nat → Rat) (k : Nat), (k : Rat) ≤ m ∧ m < (k : Rat) + 1 ∧
    Cert m p (At J m) (lw ps m) ∧ Cert m' p (At J m) (lw ps m') ∧
    (∀ q ∈ ps, q.st ≤ m → m < q.en → q.sp = p k ∧ ∃ j ∈ At J m, j.nm = q.nm ∧ pd p j = p k) ∧ ((∀ q ∈ ps, ¬ (q.st ≤ m ∧ m < q.en)) → p k = 0)
def Quiet (J : List (Jb N)) (m m' : Rat) : Prop := ∀ j ∈ J, ¬ (m < (j.cm : Rat) ∧ (j.cm : Rat) < m')
structure Crs (J : List (Jb N)) (now : Nat) (lf : N → Rat) (ahead : List (Pc N)) (p : Nat → Rat) : Prop where
  from_ : ∀ q ∈ ahead, (now : Rat) ≤ q.st ∧ q.st < q.en ∧ ∃ j ∈ J, j.nm = q.nm
  noov : NoOv ahead
  cert : ∀ x, (now : Rat) ≤ x → Cert x p J (fun j => lf j.nm - Wk ahead j.nm x)
  works : ∀ x, (now : Rat) ≤ x → ∀ k : Nat, (k : Rat) ≤ x → x < (k : Rat) + 1 → (∀ q ∈ ahead, q.st ≤ x → x < q.en → q.sp = p k ∧ ∃ j ∈ J, j.nm = q.nm ∧ pd p j = p k) ∧ ((∀ q ∈ ahead, ¬ (q.st ≤ x ∧ x < q.en)) → p k = 0)
/-- behind an advance to t -/
structure MidSt (J : List (Jb N)) (t : Nat) (lf : N → Rat) (pcs : List (Pc N)) : Prop where
  ok : JobsOk J
  come : ∀ j ∈ J, j.cm ≤ (t : Int)
  fits : Fits J pcs
  upto : ∀ q ∈ pcs, q.en ≤ (t : Rat)
  own : ∀ q ∈ pcs, ∃ j ∈ J, j.nm = q.nm
  left : ∀ j ∈ J, lf j.nm = j.wk - Wk pcs j.nm t
  rest : ∀ j ∈ J, 0 ≤ lf j.nm ∧ (j.du ≤ (t : Int) → lf j.nm = 0)
  hist : ∀ m m' : Rat, 0 ≤ m → m < m' → m' ≤ (t : Rat) → Quiet J m m' → HistAt J pcs m m'
/-- behind an offer at now (or at the beginning) -/
structure RunSt (J : List (Jb N)) (now : Nat) (lf : N → Rat) (pcs ahead : List (Pc N)) : Prop where
  mid : MidSt J now lf pcs
  last : (J = [] ∧ now = 0) ∨ ∃ j ∈ J, j.cm = (now : Int)
  course : ∃ p, Crs J now lf ahead p
theorem run_begin (lf : N → Rat) : RunSt ([] : List (Jb N)) 0 lf [] [] := by
  refine ⟨⟨⟨List.nodup_nil, fun _ h => (List.not_mem_nil h).elim, fun _ h => (List.not_mem_nil h).elim⟩, fun _ h => (List.not_mem_nil h).elim, ⟨fun _ h => (List.not_mem_nil h).elim, List.Pairwise.nil, fun _ h => (List.not_mem_nil h).elim⟩, fun _ h => (List.not_mem_nil h).elim, fun _ h => (List.not_mem_nil h).elim, fun _ h => (List.not_mem_nil h).elim, fun _ h => (List.not_mem_nil h).elim, fun m m' h0 h1 h2 _ => ?_⟩, .inl ⟨rfl, rfl⟩, fun _ => 0, ⟨fun _ h => (List.not_mem_nil h).elim, List.Pairwise.nil, fun x hx => ?_, fun x hx k _ _ => ⟨fun _ h => (List.not_mem_nil h).elim, fun _ => rfl⟩⟩⟩
  · exfalso
    have : ((0 : Nat) : Rat) = 0 := rfl
    grind
  · have hz : ∀ d, Hs (fun _ => 0) x d = 0 := fun d => by
      have : Hs (fun _ => 0) x d = cs (fun _ => 0 * 0) d := cs_congr fun k hk => by grind
      rw [this, cs_mul]; grind
    exact ⟨fun _ => Rat.le_refl, fun _ => Rat.le_refl, ⟨0, fun _ _ => rfl⟩, fun _ h => (List.not_mem_nil h).elim, fun _ h => (List.not_mem_nil h).elim, fun d => by rw [hz]; exact Rat.le_refl, fun d => by rw [hz]; intro; rfl⟩
theorem at_all {J : List (Jb N)} {m : Rat} {now : Nat} (h : ∀ j ∈ J, j.cm ≤ (now : Int)) (hm : (now : Rat) ≤ m) : At J m = J := by
  unfold At
  rw [List.filter_eq_self]
  intro j hj
  apply decide_eq_true
  have := Rat.intCast_le_intCast.mpr (h j hj)
  simp only [Rat.intCast_natCast] at this
  grind
/-- floor -/
theorem ex_floor {m : Rat} (h : 0 ≤ m) : ∃ k : Nat, (k : Rat) ≤ m ∧ m < (k : Rat) + 1 := by
  refine ⟨m.floor.toNat, ?_, ?_⟩
  · have h1 := Rat.floor_le (a := m)
    have h2 : 0 ≤ m.floor := Rat.le_floor_iff.mpr (by simpa using h)
    have : ((m.floor.toNat : Nat) : Rat) = (m.floor : Rat) := by
      rw [← Rat.intCast_natCast, Int.toNat_of_nonneg h2]
    rw [this]
    exact h1
  · have h1 := Rat.lt_floor_add_one (a := m)
    have h2 : 0 ≤ m.floor := Rat.le_floor_iff.mpr (by simpa using h)
    have : ((m.floor.toNat : Nat) : Rat) = (m.floor : Rat) := by
      rw [← Rat.intCast_natCast, Int.toNat_of_nonneg h2]
    rw [this]
    rw [Rat.intCast_add] at h1
    exact h1

theorem Cert.congr {m : Rat} {p : Nat → Rat} {A : List (Jb N)} {l l' : Jb N → Rat} (C : Cert m p A l) (h : ∀ j ∈ A, l j = l' j) : Cert m p A l' := by
  have e : ∀ d, Wd A l d = Wd A l' d := fun d => ls_congr fun j hj => by rw [h j hj]
  exact ⟨C.mono, C.pos, C.fin, fun j hj => by rw [← h j hj]; exact C.lpos j hj, fun j hj z => by rw [← h j hj]; exact C.late j hj z, fun d => by rw [← e]; exact C.cap d, fun d z => by rw [← e]; exact C.tight d z⟩
theorem Cert.zero {m : Rat} {p : Nat → Rat} {A : List (Jb N)} {l : Jb N → Rat} (C : Cert m p A l) (h : ∀ j ∈ A, l j = 0) {k : Nat} (hk : m < (k : Rat) + 1) : p k = 0 := by
  apply Classical.byContradiction
  intro hne
  have hp : 0 < p k := by have := C.pos k; grind
  obtain ⟨K, hK⟩ := C.fin
  obtain ⟨b, b1, b2, b3⟩ := C.high K k (fun i hi => hK i (by omega)) hp
  have z : Wd A l b = 0 := ls_zero fun j hj => by rw [h j hj]; split <;> rfl
  rw [z] at b3
  have h1 := cs_mono_diff (f := fun i => if i = k then p k * cl m k else 0) (g := fun i => p i * cl m i) (a := 0) (d := b) (Nat.zero_le _) fun i _ _ => by
    split
    · rename_i e; rw [e]; exact Rat.le_refl
    · exact Rat.mul_nonneg (C.pos i) (cl_nonneg m i)
  have h2 : ∀ d, cs (fun i => if i = k then p k * cl m k else 0) d = if k < d then p k * cl m k else 0 := fun d => by
    induction d with
    | zero => simp [cs]
    | succ d ih => simp only [cs, ih]; grind
  rw [h2, h2] at h1
  have h3 := Rat.mul_pos hp (cl_pos hk)
  unfold Hs at b3
  have e0 : cs (fun i => p i * cl m i) 0 = 0 := rfl
  rw [e0] at h1
  grind
def lfAdv (lf : N → Rat) (ahead : List (Pc N)) (T : Rat) : N → Rat := fun n => lf n - Wk ahead n T
theorem lfAdv_eq {lf : N → Rat} {ahead : List (Pc N)} {b T : Rat} (h : ∀ q ∈ ahead, b ≤ q.st ∧ q.st < q.en) (n : N) : lfAdv lf ahead T n = lf n - ls (fun q : Pc N => if q.nm = n then q.sp * (q.en - q.st) else 0) (clipL b T ahead) := by
  unfold lfAdv
  have e : Wk (clipL b T ahead) n T = ls (fun q : Pc N => if q.nm = n then q.sp * (q.en - q.st) else 0) (clipL b T ahead) := ls_congr fun q hq => by
    obtain ⟨p, hp, _, _, c3, c4, c5⟩ := clipL_mem hq
    rw [ov_all (by rw [c4]; unfold rmin; grind) c5]
  rw [← e, wk_clipL h, if_pos Rat.le_refl]
section
variable {J : List (Jb N)} {now T : Nat} {lf : N → Rat} {pcs ahead : List (Pc N)}
theorem adv_lw (R : RunSt J now lf pcs ahead) (hT : now ≤ T) {x : Rat} (hx : (now : Rat) ≤ x) {j : Jb N} (hj : j ∈ J) : lw (pcs ++ clipL now T ahead) x j = lf j.nm - (if x ≤ (T : Rat) then Wk ahead j.nm x else Wk ahead j.nm T) := by
  obtain ⟨p, C⟩ := R.course
  unfold lw
  rw [wk_append, wk_end (fun q hq => ⟨(R.mid.fits.good q hq).2, R.mid.upto q hq⟩) hx, wk_clipL (fun q hq => ⟨(C.from_ q hq).1, (C.from_ q hq).2.1⟩), R.mid.left j hj]
  split <;> grind
theorem adv_hist (R : RunSt J now lf pcs ahead) (hT : now ≤ T) {m m' : Rat} (h0 : 0 ≤ m) (hm : m < m') (hq : Quiet J m m') (hT' : m' ≤ (T : Rat) ∨ ∀ j ∈ J, j.du ≤ (T : Int)) : HistAt J (pcs ++ clipL now T ahead) m m' := by
  obtain ⟨p, C⟩ := R.course
  by_cases hn : m < (now : Rat)
  · have hm' : m' ≤ (now : Rat) := by
      rcases R.last with ⟨_, e⟩ | ⟨j, hj, e⟩
      · exfalso
        rw [e] at hn
        have : ((0 : Nat) : Rat) = 0 := rfl
        grind
      · have := hq j hj
        rw [e] at this
        simp only [Rat.intCast_natCast] at this
        grind
    obtain ⟨p, k, k1, k2, c1, c2, c3, c4⟩ := R.mid.hist m m' h0 hm hm' hq
    have e : ∀ x, x ≤ (now : Rat) → ∀ j, lw (pcs ++ clipL now T ahead) x j = lw pcs x j := fun x hx j => by
      unfold lw
      rw [wk_append, wk_none (ps := clipL now T ahead) fun q hq _ => by
        obtain ⟨p, hp, _, _, c, _⟩ := clipL_mem hq
        rw [c]; unfold rmax; grind]
      grind
    refine ⟨p, k, k1, k2, c1.congr fun j _ => (e m (by grind) j).symm, c2.congr fun j _ => (e m' hm' j).symm, fun q hq a b => ?_, fun hn => c4 fun q hq => hn q (List.mem_append.mpr (.inl hq))⟩
    rcases List.mem_append.mp hq with h | h
    · exact c3 q h a b
    · exfalso
      obtain ⟨p, hp, _, _, c, _⟩ := clipL_mem h
      unfold rmax at c
      grind
  · have hn' : (now : Rat) ≤ m := by grind
    obtain ⟨k, k1, k2⟩ := ex_floor h0
    have eA : At J m = J := at_all R.mid.come hn'
    have eq : ∀ x, (now : Rat) ≤ x → (x ≤ (T : Rat) ∨ ∀ j ∈ J, j.du ≤ (T : Int)) → ∀ j ∈ J, lf j.nm - Wk ahead j.nm x = lw (pcs ++ clipL now T ahead) x j := fun x hx hxT j hj => by
      rw [adv_lw R hT hx hj]
      by_cases c : x ≤ (T : Rat)
      · rw [if_pos c]
      · rw [if_neg c]
        rcases hxT with z | z
        · exact absurd z c
        · have hd := Rat.intCast_le_intCast.mpr (z j hj)
          simp only [Rat.intCast_natCast] at hd
          have hnT : (now : Rat) ≤ (T : Rat) := nat_le hT
          have a1 := (C.cert x hx).late j hj (by grind)
          have a2 := (C.cert (T : Rat) hnT).late j hj hd
          grind
    obtain ⟨w1, w2⟩ := C.works m hn' k k1 k2
    have hmT : m < (T : Rat) ∨ (∀ j ∈ J, j.du ≤ (T : Int)) := by
      rcases hT' with z | z
      · left; grind
      · exact .inr z
    refine ⟨p, k, k1, k2, ?_, ?_, fun q hq a b => ?_, fun hz => ?_⟩
    · rw [eA]
      exact (C.cert m hn').congr (eq m hn' (by rcases hmT with z | z; exact .inl (by grind); exact .inr z))
    · rw [eA]
      exact (C.cert m' (by grind)).congr (eq m' (by grind) hT')
    · rw [eA]
      rcases List.mem_append.mp hq with h | h
      · exfalso
        have := R.mid.upto q h
        grind
      · obtain ⟨q0, hq0, c1, c2, c3, c4, c5⟩ := clipL_mem h
        obtain ⟨d1, j, hj, d2, d3⟩ := w1 q0 hq0 (by rw [c3] at a; unfold rmax at a; grind) (by rw [c4] at b; unfold rmin at b; grind)
        exact ⟨by rw [c2, d1], j, hj, by rw [d2, c1], d3⟩
    · by_cases hlt : m < (T : Rat)
      · apply w2
        intro q hq hc
        obtain ⟨z, hz1, _, _, z3, z4⟩ := clipL_in (b := (now : Rat)) (e := (T : Rat)) hq hc.1 hc.2 hn' hlt
        exact hz z (List.mem_append.mpr (.inr hz1)) ⟨z3, z4⟩
      · rcases hmT with z | z
        · exact absurd z hlt
        · apply (C.cert m hn').zero _ k2
          intro j hj
          apply (C.cert m hn').late j hj
          have hd := Rat.intCast_le_intCast.mpr (z j hj)
          simp only [Rat.intCast_natCast] at hd
          grind
theorem adv_fits (R : RunSt J now lf pcs ahead) : Fits J (pcs ++ clipL now T ahead) ∧ (now ≤ T → ∀ q ∈ pcs ++ clipL now T ahead, q.en ≤ (T : Rat)) ∧ ∀ q ∈ pcs ++ clipL now T ahead, ∃ j ∈ J, j.nm = q.nm := by
  obtain ⟨p, C⟩ := R.course
  have h0 : (0 : Rat) ≤ (now : Rat) := by have := nat_le (Nat.zero_le now); simpa using this
  refine ⟨⟨fun q hq => ?_, List.pairwise_append.mpr ⟨R.mid.fits.noov, clipL_noov C.noov, fun q hq w hw => ?_⟩, fun j hj q hq e => ?_⟩, fun hT q hq => ?_, fun q hq => ?_⟩
  · rcases List.mem_append.mp hq with h | h
    · exact R.mid.fits.good q h
    · obtain ⟨q0, hq0, c1, c2, c3, c4, c5⟩ := clipL_mem h
      exact ⟨by rw [c3]; unfold rmax; grind, c5⟩
  · left
    obtain ⟨q0, hq0, c1, c2, c3, c4, c5⟩ := clipL_mem hw
    have := R.mid.upto q hq
    rw [c3]; unfold rmax; grind
  · rcases List.mem_append.mp hq with h | h
    · exact R.mid.fits.fresh j hj q h e
    · obtain ⟨q0, hq0, c1, c2, c3, c4, c5⟩ := clipL_mem h
      have := Rat.intCast_le_intCast.mpr (R.mid.come j hj)
      simp only [Rat.intCast_natCast] at this
      rw [c3]; unfold rmax; grind
  · have hnT := nat_le hT
    rcases List.mem_append.mp hq with h | h
    · have := R.mid.upto q h
      grind
    · obtain ⟨q0, hq0, c1, c2, c3, c4, c5⟩ := clipL_mem h
      rw [c4]; unfold rmin; grind
  · rcases List.mem_append.mp hq with h | h
    · exact R.mid.own q h
    · obtain ⟨q0, hq0, c1, c2, c3, c4, c5⟩ := clipL_mem h
      rw [c1]
      exact (C.from_ q0 hq0).2.2
theorem run_advance (R : RunSt J now lf pcs ahead) (hT : now ≤ T) : MidSt J T (lfAdv lf ahead T) (pcs ++ clipL now T ahead) := by
  obtain ⟨p, C⟩ := R.course
  obtain ⟨f1, f2, f3⟩ := adv_fits (T := T) R
  have hnT := nat_le hT
  refine ⟨R.mid.ok, fun j hj => by have := R.mid.come j hj; omega, f1, f2 hT, f3, fun j hj => ?_, fun j hj => ⟨?_, fun hd => ?_⟩, fun m m' h0 h1 h2 h3 => adv_hist R hT h0 h1 h3 (.inl h2)⟩
  · have := adv_lw R hT hnT hj
    unfold lw at this
    rw [if_pos Rat.le_refl] at this
    unfold lfAdv
    rw [← this]
  · exact (C.cert T hnT).lpos j hj
  · exact (C.cert T hnT).late j hj (by
      have hd := Rat.intCast_le_intCast.mpr hd
      simpa only [Rat.intCast_natCast] using hd)
/-- behind the last due time -/
theorem run_end (R : RunSt J now lf pcs ahead) (hT : now ≤ T) (hd : ∀ j ∈ J, j.du ≤ (T : Int)) : Hist J (tidy (pcs ++ clipL now T ahead)) ∧ ∀ j ∈ J, lfAdv lf ahead T j.nm = 0 := by
  obtain ⟨f1, f2, f3⟩ := adv_fits (T := T) R
  have M := run_advance R hT
  have hg : ∀ q ∈ pcs ++ clipL now T ahead, q.st < q.en := fun q hq => (f1.good q hq).2
  refine ⟨⟨⟨?_, tidy_noov hg f1.noov, ?_⟩, fun m m' h0 h1 h2 => ?_⟩, fun j hj => (M.rest j hj).2 (hd j hj)⟩
  · exact tidy_all (φ := Good) (fun p q hp hq e1 _ _ => ⟨hq.1, by have := hp.2; have := hq.2; simp only; grind⟩) f1.good
  · intro j hj q hq e
    exact tidy_all (φ := fun q => q.nm = j.nm → (j.cm : Rat) ≤ q.st) (fun p q hp hq _ e2 _ z => hq (by rw [e2]; exact z)) (fun q hq e => f1.fresh j hj q hq e) q hq e
  · obtain ⟨p, k, k1, k2, c1, c2, c3, c4⟩ := adv_hist R hT h0 h1 h2 (.inr hd)
    have el : ∀ x, lw (tidy (pcs ++ clipL now T ahead)) x = lw (pcs ++ clipL now T ahead) x := fun x => by
      funext j
      unfold lw
      rw [tidy_Wk hg]
    refine ⟨p, k, k1, k2, by rw [el]; exact c1, by rw [el]; exact c2, fun q hq a b => ?_, fun hz => c4 fun q hq hc => ?_⟩
    · obtain ⟨q', hq', e1, e2, e3, e4⟩ := (tidy_cov hg m q.nm q.sp).mp ⟨q, hq, rfl, rfl, a, b⟩
      have := c3 q' hq' e3 e4
      rw [e1, e2] at this
      exact this
    · obtain ⟨q', hq', e1, e2, e3, e4⟩ := (tidy_cov hg m q.nm q.sp).mpr ⟨q, hq, rfl, rfl, hc.1, hc.2⟩
      exact hz q' hq' ⟨e3, e4⟩
/-- the jobs with left work, as jobs that come now -/
def waitingJ (J : List (Jb N)) (lf : N → Rat) (t : Nat) (j : Jb N) : List (Jb N) := ((J.filter fun i => decide (lf i.nm ≠ 0)).map fun i => ⟨i.nm, (t : Int), i.du, lf i.nm⟩) ++ [⟨j.nm, (t : Int), j.du, j.wk⟩]
def lfOff (lf : N → Rat) (j : Jb N) : N → Rat := fun n => if n = j.nm then j.wk else lf n
theorem waiting_ok {t : Nat} (M : MidSt J t lf pcs) {j : Jb N} (hn : ∀ i ∈ J, i.nm ≠ j.nm) (hj : j.cm = (t : Int) ∧ j.cm < j.du ∧ 0 < j.wk) : JobsOk (waitingJ J lf t j) ∧ ∀ i ∈ waitingJ J lf t j, i.cm = (t : Int) := by
  have hm : ∀ w ∈ waitingJ J lf t j, (∃ i ∈ J, lf i.nm ≠ 0 ∧ w = ⟨i.nm, (t : Int), i.du, lf i.nm⟩) ∨ w = ⟨j.nm, (t : Int), j.du, j.wk⟩ := fun w hw => by
    rcases List.mem_append.mp hw with h | h
    · obtain ⟨i, hi, rfl⟩ := List.mem_map.mp h
      obtain ⟨h1, h2⟩ := List.mem_filter.mp hi
      exact .inl ⟨i, h1, of_decide_eq_true h2, rfl⟩
    · exact .inr (List.mem_singleton.mp h)
  refine ⟨⟨?_, fun w hw => ?_, fun w hw => ?_⟩, fun w hw => ?_⟩
  · unfold waitingJ
    rw [List.map_append, List.map_map]
    have e : (List.map ((fun x : Jb N => x.nm) ∘ fun i : Jb N => (⟨i.nm, (t : Int), i.du, lf i.nm⟩ : Jb N)) (J.filter fun i => decide (lf i.nm ≠ 0))) = (J.filter fun i => decide (lf i.nm ≠ 0)).map (·.nm) := rfl
    rw [e, List.nodup_append]
    refine ⟨filter_nd M.ok.nd _, by simp, fun a ha b hb => ?_⟩
    obtain ⟨i, hi, rfl⟩ := List.mem_map.mp ha
    simp only [List.map_cons, List.map_nil, List.mem_singleton] at hb
    rw [hb]
    exact hn i (List.mem_filter.mp hi).1
  · rcases hm w hw with ⟨i, hi, h0, rfl⟩ | rfl
    · have h2 := M.rest i hi
      simp only
      refine ⟨by omega, ?_⟩
      apply Int.not_le.mp
      intro z
      exact h0 (h2.2 z)
    · simp only
      omega
  · rcases hm w hw with ⟨i, hi, h0, rfl⟩ | rfl
    · have h2 := M.rest i hi
      simp only
      grind
    · exact hj.2.2
  · rcases hm w hw with ⟨i, hi, h0, rfl⟩ | rfl <;> rfl
theorem run_offer {t : Nat} (M : MidSt J t lf pcs) {j : Jb N} (hn : ∀ i ∈ J, i.nm ≠ j.nm) (hj : j.cm = (t : Int) ∧ j.cm < j.du ∧ 0 < j.wk) {E : Int} (hE : ∀ i ∈ waitingJ J lf t j, i.du ≤ E) {rds : List (Rnd N)} {pl tl : List (Pc N)}
    (hR : Rounds (waitingJ J lf t j) [((t : Int), E)] rds) (hp : PlanOf (waitingJ J lf t j) rds pl) (ht : pl.Perm tl) : RunSt (J ++ [j]) t (lfOff lf j) pcs (tidy tl) := by
  obtain ⟨ok, hcm⟩ := waiting_ok M hn hj
  have hmem : ∀ i ∈ J, lf i.nm ≠ 0 → (⟨i.nm, (t : Int), i.du, lf i.nm⟩ : Jb N) ∈ waitingJ J lf t j := fun i hi h0 => List.mem_append.mpr (.inl (List.mem_map.mpr ⟨i, List.mem_filter.mpr ⟨hi, decide_eq_true h0⟩, rfl⟩))
  have hmj : (⟨j.nm, (t : Int), j.du, j.wk⟩ : Jb N) ∈ waitingJ J lf t j := List.mem_append.mpr (.inr (List.mem_singleton_self _))
  have hEt : (t : Int) < E := by
    have := hE _ hmj
    simp only at this
    omega
  have hwin : ∀ i ∈ waitingJ J lf t j, i.cm ≤ (t : Int) ∧ (t : Int) < i.du ∧ i.du ≤ E ∧ 0 < i.wk := fun i hi => by
    have h1 := hcm i hi
    have h2 := ok.cm i hi
    exact ⟨by omega, by omega, hE i hi, ok.wk i hi⟩
  obtain ⟨p, _, _, _, C⟩ := course ok.nd hR hp ⟨fun _ => true, (List.filter_eq_self.mpr fun _ _ => rfl).symm⟩ t E (.inr ⟨rfl, hEt⟩) hwin
  have hf : FreeOk [((t : Int), E)] := ⟨List.pairwise_singleton _ _, fun x hx => by rw [List.mem_singleton.mp hx]; simp only; omega⟩
  obtain ⟨g1, g2, g3⟩ := plan_facts ok.nd hR hp hf (fun i hi => win_of hf (by
    obtain ⟨a1, a2, a3, a4⟩ := hwin i hi
    rw [one_part a1 a2 a3]
    simp)) (fun i hi => by have := ok.wk i hi; grind) ⟨fun _ => true, (List.filter_eq_self.mpr fun _ _ => rfl).symm⟩
  have gt : ∀ q ∈ tl, q.st < q.en := fun q hq => (g1 q (ht.mem_iff.mpr hq)).1
  have hwk : ∀ n x, Wk (tidy tl) n x = Wk pl n x := fun n x => by
    rw [tidy_Wk gt]
    exact (ls_perm ht).symm
  have names : ∀ q ∈ tidy tl, ∃ i ∈ waitingJ J lf t j, i.nm = q.nm := tidy_all (φ := fun q => ∃ i ∈ waitingJ J lf t j, i.nm = q.nm) (fun p q hp _ _ _ _ => hp) fun q hq => by
    obtain ⟨_, _, ⟨i, hi, e, _⟩, _⟩ := g1 q (ht.mem_iff.mpr hq)
    exact ⟨i, hi, e⟩
  have back : ∀ w ∈ waitingJ J lf t j, ∃ i ∈ J ++ [j], i.nm = w.nm ∧ i.du = w.du := fun w hw => by
    rcases List.mem_append.mp hw with h | h
    · obtain ⟨i, hi, rfl⟩ := List.mem_map.mp h
      exact ⟨i, List.mem_append.mpr (.inl (List.mem_filter.mp hi).1), rfl, rfl⟩
    · rw [List.mem_singleton.mp h]
      exact ⟨j, List.mem_append.mpr (.inr (List.mem_singleton_self _)), rfl, rfl⟩
  have hoff : ∀ i ∈ J, lfOff lf j i.nm = lf i.nm := fun i hi => by unfold lfOff; rw [if_neg (hn i hi)]
  have hoffj : lfOff lf j j.nm = j.wk := by unfold lfOff; rw [if_pos rfl]
  have okJ : JobsOk (J ++ [j]) := by
    refine ⟨?_, fun i hi => ?_, fun i hi => ?_⟩
    · rw [List.map_append, List.nodup_append]
      refine ⟨M.ok.nd, by simp, fun a ha b hb => ?_⟩
      obtain ⟨i, hi, rfl⟩ := List.mem_map.mp ha
      simp only [List.map_cons, List.map_nil, List.mem_singleton] at hb
      rw [hb]
      exact hn i hi
    · rcases List.mem_append.mp hi with h | h
      · exact M.ok.cm i h
      · rw [List.mem_singleton.mp h]; omega
    · rcases List.mem_append.mp hi with h | h
      · exact M.ok.wk i h
      · rw [List.mem_singleton.mp h]; exact hj.2.2
  have fresh : ∀ q ∈ pcs, q.nm ≠ j.nm := fun q hq z => by
    obtain ⟨i, hi, e⟩ := M.own q hq
    exact hn i hi (by rw [e, z])
  have hwp : ∀ x, Wk pcs j.nm x = 0 := fun x => wk_not fresh
  -- left works of the jobs, along the course
  have hl : ∀ (x : Rat) (f : Jb N → Rat), (∀ w ∈ waitingJ J lf t j, f w = lw pl x w) → (∀ i ∈ J, lf i.nm ≠ 0 → lfOff lf j i.nm - Wk (tidy tl) i.nm x = f ⟨i.nm, (t : Int), i.du, lf i.nm⟩) ∧ (∀ i ∈ J, lf i.nm = 0 → lfOff lf j i.nm - Wk (tidy tl) i.nm x = 0) ∧ lfOff lf j j.nm - Wk (tidy tl) j.nm x = f ⟨j.nm, (t : Int), j.du, j.wk⟩ := fun x f hfe => by
    refine ⟨fun i hi h0 => ?_, fun i hi h0 => ?_, ?_⟩
    · rw [hfe _ (hmem i hi h0), hoff i hi, hwk]
      rfl
    · rw [hoff i hi, h0, hwk, wk_not fun q hq z => by
        obtain ⟨_, _, ⟨w, hw, e, _⟩, _⟩ := g1 q hq
        rcases List.mem_append.mp hw with h | h
        · obtain ⟨i', hi', rfl⟩ := List.mem_map.mp h
          obtain ⟨h1, h2⟩ := List.mem_filter.mp hi'
          have : i' = i := nd_eq M.ok.nd h1 hi (by simp only at e; rw [e, z])
          subst this
          exact of_decide_eq_true h2 h0
        · rw [List.mem_singleton.mp h] at e
          exact hn i hi (by simp only at e; rw [e, z])]
      grind
    · rw [hfe _ hmj, hoffj, hwk]
      rfl
  refine ⟨⟨okJ, fun i hi => ?_, ⟨M.fits.good, M.fits.noov, fun i hi q hq e => ?_⟩, M.upto, fun q hq => ?_, fun i hi => ?_, fun i hi => ?_, fun m m' h0 h1 h2 h3 => ?_⟩, .inr ⟨j, List.mem_append.mpr (.inr (List.mem_singleton_self _)), hj.1⟩, p, ⟨fun q hq => ?_, tidy_noov gt (g2.perm ht), fun x hx => ?_, fun x hx k k1 k2 => ?_⟩⟩
  · rcases List.mem_append.mp hi with h | h
    · exact M.come i h
    · rw [List.mem_singleton.mp h]; omega
  · rcases List.mem_append.mp hi with h | h
    · exact M.fits.fresh i h q hq e
    · rw [List.mem_singleton.mp h] at e
      exact absurd e (fresh q hq)
  · obtain ⟨i, hi, e⟩ := M.own q hq
    exact ⟨i, List.mem_append.mpr (.inl hi), e⟩
  · rcases List.mem_append.mp hi with h | h
    · rw [hoff i h]
      exact M.left i h
    · rw [List.mem_singleton.mp h, hoffj, hwp]; grind
  · rcases List.mem_append.mp hi with h | h
    · rw [hoff i h]
      exact M.rest i h
    · rw [List.mem_singleton.mp h, hoffj]
      refine ⟨by have := hj.2.2; grind, fun z => ?_⟩
      omega
  · -- the history: the new job has not come at m
    obtain ⟨p, k, k1, k2, c1, c2, c3, c4⟩ := M.hist m m' h0 h1 h2 fun i hi => h3 i (List.mem_append.mpr (.inl hi))
    have eA : At (J ++ [j]) m = At J m := by
      unfold At
      rw [List.filter_append]
      have : List.filter (fun i : Jb N => decide ((i.cm : Rat) ≤ m)) [j] = [] := by
        rw [List.filter_eq_nil_iff]
        intro i hi
        rw [List.mem_singleton.mp hi, hj.1]
        simp only [Rat.intCast_natCast, decide_eq_true_eq]
        grind
      rw [this, List.append_nil]
    exact ⟨p, k, k1, k2, by rw [eA]; exact c1, by rw [eA]; exact c2, by rw [eA]; exact c3, c4⟩
  · have h1 := tidy_all (φ := fun q => (t : Rat) ≤ q.st ∧ q.st < q.en) (fun p q hp hq e1 _ _ => ⟨hq.1, by have := hp.2; have := hq.2; simp only; grind⟩) (ps := tl) (fun q hq => C.from_ q (ht.mem_iff.mpr hq)) q hq
    obtain ⟨w, hw, e⟩ := names q hq
    obtain ⟨i, hi, e1, _⟩ := back w hw
    exact ⟨h1.1, h1.2, i, hi, by rw [e1, e]⟩
  · have Cx := C.cert x hx
    obtain ⟨l1, l2, l3⟩ := hl x (lw pl x) fun _ _ => rfl
    have eW : ∀ d, Wd (J ++ [j]) (fun i => lfOff lf j i.nm - Wk (tidy tl) i.nm x) d = Wd (waitingJ J lf t j) (lw pl x) d := fun d => by
      unfold Wd waitingJ
      rw [ls_append, ls_append, ls_map, ls_filter]
      have e1 : ls (fun i => if i.du ≤ (d : Int) then lfOff lf j i.nm - Wk (tidy tl) i.nm x else 0) J = ls (fun a => if decide (lf a.nm ≠ 0) = true then (if (⟨a.nm, (t : Int), a.du, lf a.nm⟩ : Jb N).du ≤ (d : Int) then lw pl x ⟨a.nm, (t : Int), a.du, lf a.nm⟩ else 0) else 0) J := ls_congr fun i hi => by
        by_cases h0 : lf i.nm = 0
        · rw [l2 i hi h0]
          simp [h0]
        · rw [l1 i hi h0]
          simp [h0]
      rw [e1]
      simp only [ls, l3]
    refine ⟨Cx.mono, Cx.pos, Cx.fin, fun i hi => ?_, fun i hi hd => ?_, fun d => by rw [eW]; exact Cx.cap d, fun d z => by rw [eW]; exact Cx.tight d z⟩
    · rcases List.mem_append.mp hi with h | h
      · by_cases h0 : lf i.nm = 0
        · rw [l2 i h h0]; exact Rat.le_refl
        · rw [l1 i h h0]
          exact Cx.lpos _ (hmem i h h0)
      · rw [List.mem_singleton.mp h, l3]
        exact Cx.lpos _ hmj
    · rcases List.mem_append.mp hi with h | h
      · by_cases h0 : lf i.nm = 0
        · exact l2 i h h0
        · rw [l1 i h h0]
          exact Cx.late _ (hmem i h h0) hd
      · rw [List.mem_singleton.mp h] at hd ⊢
        rw [l3]
        exact Cx.late _ hmj hd
  · obtain ⟨w1, w2⟩ := C.works x hx k k1 k2
    refine ⟨fun q hq a b => ?_, fun hz => w2 fun q hq hc => ?_⟩
    · obtain ⟨q', hq', e1, e2, e3, e4⟩ := (tidy_cov gt x q.nm q.sp).mp ⟨q, hq, rfl, rfl, a, b⟩
      obtain ⟨d1, w, hw, d2, d3⟩ := w1 q' (ht.mem_iff.mpr hq') e3 e4
      obtain ⟨i, hi, e5, e6⟩ := back w hw
      refine ⟨by rw [← e2]; exact d1, i, hi, by rw [e5, d2, e1], ?_⟩
      rw [← d3]
      unfold pd
      rw [e6]
    · obtain ⟨q', hq', e1, e2, e3, e4⟩ := (tidy_cov gt x q.nm q.sp).mpr ⟨q, ht.mem_iff.mp hq, rfl, rfl, hc.1, hc.2⟩
      exact hz q' hq' ⟨e3, e4⟩
end
end
end SW

set_option Elab.async false
set_option linter.all false
/-! the rows of the account -/
namespace SW
section
variable {N : Type} [DecidableEq N]
def RdOf (jobs : List (Jb N)) (rds : List (Rnd N)) : Prop := (jobs = [] ∧ rds = []) ∨ ∃ c e : Int, (∃ j ∈ jobs, j.cm = c) ∧ (∃ j ∈ jobs, j.du = e) ∧ (∀ j ∈ jobs, c ≤ j.cm ∧ j.du ≤ e) ∧ Rounds jobs [(c, e)] rds
def Mom (J : List (Jb N)) (ps1 ps2 : List (Pc N)) (m : Rat) : Prop := m = 0 ∨ (∃ j ∈ J, m = (j.cm : Rat)) ∨ ∃ ps ∈ [ps1, ps2], ∃ p ∈ ps, m = p.st ∨ m = p.en
theorem quiet_ex (m : Rat) : ∀ J : List (Jb N), ∃ m', m < m' ∧ ∀ j ∈ J, ¬ (m < (j.cm : Rat) ∧ (j.cm : Rat) < m')
  | [] => ⟨m + 1, by grind, fun _ h => absurd h (by simp)⟩
  | a :: r => by
    obtain ⟨m1, h1, h2⟩ := quiet_ex m r
    by_cases c : m < (a.cm : Rat) ∧ (a.cm : Rat) < m1
    · refine ⟨(a.cm : Rat), c.1, fun j hj => ?_⟩
      rcases List.mem_cons.mp hj with rfl | hj
      · grind
      · have := h2 j hj
        grind
    · refine ⟨m1, h1, fun j hj => ?_⟩
      rcases List.mem_cons.mp hj with rfl | hj
      · exact c
      · exact h2 j hj
section
variable {J : List (Jb N)} {ds rs : List (Pc N)} {m m' : Rat} {wk : N → Rat}
theorem left_lw (F : Fits J ds) (hwk : ∀ j ∈ J, wk j.nm = j.wk) {j : Jb N} (hj : j ∈ J) : leftAt wk ds m j.nm = lw ds m j := by
  rw [leftAt_eq (fun p hp => F.good p hp), hwk j hj]
  rfl
theorem hist_cert (D : Hist J ds) (h0 : 0 ≤ m) : ∃ p, Cert m p (At J m) (lw ds m) := by
  obtain ⟨m', h1, h2⟩ := quiet_ex m J
  obtain ⟨p, _, _, _, C, _⟩ := D.hist m m' h0 h1 h2
  exact ⟨p, C⟩
theorem row_store (hJ : JobsOk J) (D : Hist J ds) (R : Rival J rs) (h0 : 0 ≤ m) (hwk : ∀ j ∈ J, wk j.nm = j.wk) {rds : List (Rnd N)} (hR : RdOf (scaledJ (At J m) (leftAt wk ds m) m) rds) :
    ∃ p, Cert m p (At J m) (lw ds m) ∧ storeV (At J m) (leftAt wk ds m) (leftAt wk rs m) m rds = 2 * Pot p (At J m) (lw ds m) (lw rs m) := by
  obtain ⟨p0, C0⟩ := hist_cert (m := m) D h0
  have hA : ∀ j ∈ At J m, j ∈ J := fun j hj => (at_mem.mp hj).1
  have hl : ∀ j ∈ At J m, leftAt wk ds m j.nm = lw ds m j := fun j hj => left_lw D.fits hwk (hA j hj)
  have hx : ∀ j ∈ At J m, leftAt wk rs m j.nm = lw rs m j := fun j hj => left_lw R.fits hwk (hA j hj)
  have hlate : ∀ j ∈ At J m, (j.du : Rat) ≤ m → leftAt wk ds m j.nm = 0 := fun j hj h => by rw [hl j hj]; exact C0.late j hj h
  have hsc : ∀ j ∈ scaledJ (At J m) (leftAt wk ds m) m, j.cm = 0 ∧ 0 < j.du := fun j hj => by
    obtain ⟨i, hi, rfl⟩ := List.mem_map.mp hj
    obtain ⟨hi1, hi2⟩ := List.mem_filter.mp hi
    refine ⟨rfl, ?_⟩
    have hne : leftAt wk ds m i.nm ≠ 0 := of_decide_eq_true hi2
    have h1 : ¬ (i.du : Rat) ≤ m := fun z => hne (hlate i hi1 z)
    rw [rat_cmp] at h1
    show 0 < i.du * (m.den : Int) - m.num
    omega
  have key : ∃ (E : Int) (free : List (Int × Int)), (∀ j ∈ scaledJ (At J m) (leftAt wk ds m) m, j.du ≤ E) ∧ (scaledJ (At J m) (leftAt wk ds m) m = [] ∨ (free = [(0, E)] ∧ 0 < E)) ∧ Rounds (scaledJ (At J m) (leftAt wk ds m) m) free rds := by
    rcases hR with ⟨e, rfl⟩ | ⟨c, E, ⟨jc, hjc, rfl⟩, ⟨je, hje, rfl⟩, hb, hr⟩
    · rw [e]
      exact ⟨0, [], fun _ h => absurd h (by simp), .inl rfl, Rounds.nil _⟩
    · refine ⟨je.du, [(0, je.du)], fun j hj => (hb j hj).2, .inr ⟨rfl, (hsc je hje).2⟩, ?_⟩
      rw [(hsc jc hjc).1] at hr
      exact hr
  obtain ⟨E, free, hE, hfree, hr⟩ := key
  obtain ⟨p, C, hp⟩ := store_cert h0 (at_nd (m := m) hJ.nd) (fun j hj => by rw [hl j hj]; exact C0.lpos j hj) hlate hE hfree hr
  refine ⟨p, C.congr fun j hj => hl j hj, ?_⟩
  rw [storeV_eq]
  unfold Pot
  rw [← ls_mul]
  apply ls_congr
  intro j hj
  rw [hl j hj, hx j hj]
  by_cases e : (j.du : Rat) ≤ m
  · rw [← hl j hj, hlate j hj e, rival_late hJ R (hA j hj) e]
    grind
  · rw [hp j hj (by grind)]
    grind
/-- what the law looks at in a row -/
def rowF (ds rs : List (Pc N)) (x : Rat × Rat) : Rat := spentUntil ds x.1 + x.2 - 4 * spentUntil rs x.1
def bef (ds rs : List (Pc N)) (rows : List (Rat × Rat)) : Nat → Rat
  | 0 => 0
  | k + 1 => ((rows[k]?).map (rowF ds rs)).getD 0
structure RowsOk (J : List (Jb N)) (ds rs : List (Pc N)) (wk : N → Rat) (rows : List (Rat × Rat)) : Prop where
  sorted : (rows.map (·.1)).Pairwise (· < ·)
  mom : ∀ m, m ∈ rows.map (·.1) ↔ Mom J ds rs m
  row : ∀ x ∈ rows, ∃ rds, RdOf (scaledJ (At J x.1) (leftAt wk ds x.1) x.1) rds ∧ x.2 = storeV (At J x.1) (leftAt wk ds x.1) (leftAt wk rs x.1) x.1 rds
theorem mom_pos (hJ : JobsOk J) (F : Fits J ds) (G : Fits J rs) (h : Mom J ds rs m) : 0 ≤ m := by
  rcases h with rfl | ⟨j, hj, rfl⟩ | ⟨ps, hps, p, hp, h⟩
  · exact Rat.le_refl
  · have := Rat.intCast_le_intCast.mpr (hJ.cm j hj).1
    simpa using this
  · have hg : Good p := by
      simp only [List.mem_cons, List.not_mem_nil, or_false] at hps
      rcases hps with rfl | rfl
      · exact F.good p hp
      · exact G.good p hp
    have := hg.1
    have := hg.2
    rcases h with rfl | rfl <;> grind
theorem rows_split {rows : List (Rat × Rat)} (hs : (rows.map (·.1)).Pairwise (· < ·)) {i : Nat} {x : Rat × Rat} (hx : rows[i]? = some x) {z : Rat} (hz : z ∈ rows.map (·.1)) : z ≤ x.1 ∨ ∃ k y, i < k ∧ rows[k]? = some y ∧ z = y.1 ∧ x.1 < z := by
  obtain ⟨y, hy, rfl⟩ := List.mem_map.mp hz
  obtain ⟨k, hk, rfl⟩ := List.mem_iff_getElem.mp hy
  obtain ⟨hi, rfl⟩ := List.getElem?_eq_some_iff.mp hx
  rw [List.pairwise_iff_getElem] at hs
  rcases Nat.lt_trichotomy k i with h | h | h
  · left
    have := hs k i (by simpa using hk) (by simpa using hi) h
    simp only [List.getElem_map] at this
    grind
  · subst h
    exact .inl Rat.le_refl
  · right
    have := hs i k (by simpa using hi) (by simpa using hk) h
    simp only [List.getElem_map] at this
    exact ⟨k, rows[k], h, by simp, rfl, this⟩
theorem rows_next {rows : List (Rat × Rat)} (hs : (rows.map (·.1)).Pairwise (· < ·)) {i : Nat} {x y : Rat × Rat} (hx : rows[i]? = some x) (hy : rows[i + 1]? = some y) : x.1 < y.1 ∧ ∀ z ∈ rows.map (·.1), z ≤ x.1 ∨ y.1 ≤ z := by
  constructor
  · obtain ⟨hi, rfl⟩ := List.getElem?_eq_some_iff.mp hx
    obtain ⟨hk, rfl⟩ := List.getElem?_eq_some_iff.mp hy
    rw [List.pairwise_iff_getElem] at hs
    have := hs i (i + 1) (by simpa using hi) (by simpa using hk) (by omega)
    simpa using this
  · intro z hz
    rcases rows_split hs hx hz with h | ⟨k, w, hk, hw, rfl, _⟩
    · exact .inl h
    · right
      rcases rows_split hs hw (List.mem_map.mpr ⟨y, List.mem_of_getElem? hy, rfl⟩) with h | ⟨k2, w2, hk2, hw2, e, hlt⟩
      · exact h
      · exfalso
        obtain ⟨hi, rfl⟩ := List.getElem?_eq_some_iff.mp hy
        obtain ⟨hi2, rfl⟩ := List.getElem?_eq_some_iff.mp hw
        rw [List.pairwise_iff_getElem] at hs
        by_cases c : i + 1 = k
        · subst c; grind
        · have := hs (i + 1) k (by simpa using hi) (by simpa using hi2) (by omega)
          simp only [List.getElem_map] at this
          grind
theorem rows_first (hJ : JobsOk J) (D : Hist J ds) (R : Rival J rs) (hwk : ∀ j ∈ J, wk j.nm = j.wk) {rows : List (Rat × Rat)} (O : RowsOk J ds rs wk rows) {x : Rat × Rat} (hx : rows[0]? = some x) : rowF ds rs x ≤ 0 := by
  have h0 : x.1 = 0 := by
    have h1 := mom_pos hJ D.fits R.fits ((O.mom x.1).mp (List.mem_map.mpr ⟨x, List.mem_of_getElem? hx, rfl⟩))
    have h2 : (0 : Rat) ∈ rows.map (·.1) := (O.mom 0).mpr (.inl rfl)
    obtain ⟨y, hy, e⟩ := List.mem_map.mp h2
    obtain ⟨k, hk, rfl⟩ := List.mem_iff_getElem.mp hy
    obtain ⟨hi, rfl⟩ := List.getElem?_eq_some_iff.mp hx
    have hs := O.sorted
    rw [List.pairwise_iff_getElem] at hs
    by_cases c : k = 0
    · subst c; exact e
    · have := hs 0 k (by simpa using hi) (by simpa using hk) (by omega)
      simp only [List.getElem_map] at this
      grind
  obtain ⟨rds, h1, h2⟩ := O.row x (List.mem_of_getElem? hx)
  obtain ⟨p, C, e⟩ := row_store hJ D R (by rw [h0]; exact Rat.le_refl) hwk h1
  unfold rowF
  rw [h2, e, spentUntil_eq fun p hp => D.fits.good p hp, spentUntil_eq fun p hp => R.fits.good p hp]
  rw [h0] at C ⊢
  exact pot_first hJ D R C
theorem rows_step (hJ : JobsOk J) (D : Hist J ds) (R : Rival J rs) (hwk : ∀ j ∈ J, wk j.nm = j.wk) {rows : List (Rat × Rat)} (O : RowsOk J ds rs wk rows) {i : Nat} {x y : Rat × Rat} (hx : rows[i]? = some x) (hy : rows[i + 1]? = some y) : rowF ds rs y ≤ rowF ds rs x := by
  obtain ⟨hlt, hbet⟩ := rows_next O.sorted hx hy
  have hbet' : ∀ z, Mom J ds rs z → z ≤ x.1 ∨ y.1 ≤ z := fun z hz => hbet z ((O.mom z).mpr hz)
  have hx0 := mom_pos hJ D.fits R.fits ((O.mom x.1).mp (List.mem_map.mpr ⟨x, List.mem_of_getElem? hx, rfl⟩))
  have hy0 : 0 ≤ y.1 := by grind
  obtain ⟨rds, h1, h2⟩ := O.row x (List.mem_of_getElem? hx)
  obtain ⟨rdt, h3, h4⟩ := O.row y (List.mem_of_getElem? hy)
  obtain ⟨p, C, e⟩ := row_store hJ D R hx0 hwk h1
  obtain ⟨q, C', e'⟩ := row_store hJ D R hy0 hwk h3
  unfold rowF
  rw [h2, e, h4, e', spentUntil_eq fun p hp => D.fits.good p hp, spentUntil_eq fun p hp => R.fits.good p hp, spentUntil_eq fun p hp => D.fits.good p hp, spentUntil_eq fun p hp => R.fits.good p hp]
  have hst : ∀ ps ∈ [ds, rs], ∀ q ∈ ps, Still q x.1 y.1 := fun ps hps q hq => ⟨hbet' _ (.inr (.inr ⟨ps, hps, q, hq, .inl rfl⟩)), hbet' _ (.inr (.inr ⟨ps, hps, q, hq, .inr rfl⟩))⟩
  exact pot_step hJ D R hx0 hlt (fun j hj => by
    have := hbet' _ (.inr (.inl ⟨j, hj, rfl⟩))
    grind) (hst ds (by simp)) (hst rs (by simp)) C C'
/-- THE LAW at a row -/
theorem rows_fall (hJ : JobsOk J) (D : Hist J ds) (R : Rival J rs) (hwk : ∀ j ∈ J, wk j.nm = j.wk) {rows : List (Rat × Rat)} (O : RowsOk J ds rs wk rows) : ∀ {i : Nat} {x : Rat × Rat}, rows[i]? = some x → rowF ds rs x ≤ bef ds rs rows i ∧ rowF ds rs x ≤ 0
  | 0, x, h => by
    have := rows_first hJ D R hwk O h
    exact ⟨this, this⟩
  | i + 1, x, h => by
    obtain ⟨h1, h2⟩ := List.getElem?_eq_some_iff.mp h
    have hi : rows[i]? = some rows[i] := by simp
    have ih := (rows_fall hJ D R hwk O hi).2
    have := rows_step hJ D R hwk O hi h
    have e : bef ds rs rows (i + 1) = rowF ds rs rows[i] := by
      show ((rows[i]?).map (rowF ds rs)).getD 0 = _
      rw [hi]
      rfl
    rw [e]
    exact ⟨this, by grind⟩
theorem rows_ne {rows : List (Rat × Rat)} (O : RowsOk J ds rs wk rows) : rows ≠ [] := by
  intro e
  have := (O.mom 0).mpr (.inl rfl)
  rw [e] at this
  simp at this
theorem rows_last (D : Hist J ds) (hwk : ∀ j ∈ J, wk j.nm = j.wk) (hall : ∀ j ∈ J, ∀ m : Rat, (∀ p ∈ ds, p.en ≤ m) → lw ds m j = 0) {rows : List (Rat × Rat)} (O : RowsOk J ds rs wk rows) {x : Rat × Rat} (hx : rows[rows.length - 1]? = some x) : x.2 = 0 := by
  have hmax : ∀ p ∈ ds, p.en ≤ x.1 := fun p hp => by
    rcases rows_split O.sorted hx ((O.mom p.en).mpr (.inr (.inr ⟨ds, by simp, p, hp, .inr rfl⟩))) with h | ⟨k, y, hk, hy, _⟩
    · exact h
    · obtain ⟨h1, _⟩ := List.getElem?_eq_some_iff.mp hy
      omega
  obtain ⟨rds, h1, h2⟩ := O.row x (List.mem_of_getElem? hx)
  have hnil : scaledJ (At J x.1) (leftAt wk ds x.1) x.1 = [] := by
    unfold scaledJ
    rw [List.map_eq_nil_iff, List.filter_eq_nil_iff]
    intro j hj
    have hj' := (at_mem.mp hj).1
    rw [left_lw D.fits hwk hj', hall j hj' x.1 hmax]
    simp
  have hr : rds = [] := by
    rcases h1 with ⟨_, e⟩ | ⟨_, _, ⟨j, hj, _⟩, _⟩
    · exact e
    · rw [hnil] at hj
      cases hj
  rw [h2, hr]
  rfl
end
end
end SW

set_option Elab.async false
set_option linter.all false
/-! the rounds when all jobs are there: one after the other -/
namespace SW
section
variable {N : Type} [DecidableEq N]
structure ChainR (ws : List (Jb N)) (b0 : Int) (i : Nat) (rd : Rnd N) : Prop where
  lt : rd.a < rd.b
  b : ∃ j ∈ ws, rd.b = j.du
  a : (i = 0 ∧ rd.a = b0) ∨ (0 < i ∧ ∃ j ∈ ws, rd.a = j.du)
  sp : ∃ c : Jb N → Bool, rd.sp = ls (fun j => if c j = true then j.wk else 0) ws / ((rd.b - rd.a : Int) : Rat)
theorem chain_rds : ∀ {ws : List (Jb N)} {free : List (Int × Int)} {rds : List (Rnd N)}, Rounds ws free rds → ∀ (b0 E : Int), 0 ≤ b0 → (ws = [] ∨ (free = [(b0, E)] ∧ b0 < E)) → (∀ j ∈ ws, j.cm ≤ b0 ∧ b0 < j.du ∧ j.du ≤ E) →
    rds.length ≤ ws.length ∧ ∀ i rd, rds[i]? = some rd → ChainR ws b0 i rd := by
  intro ws free rds h
  induction h with
  | nil free =>
    intro b0 E _ _ _
    exact ⟨Nat.le_refl _, fun i rd h => by simp at h⟩
  | cons D hR ih =>
    rename_i ws free a b rds
    intro b0 E h0 hfree hj
    rcases hfree with e | ⟨rfl, hE⟩
    · subst e
      obtain ⟨j, hj, _⟩ := D.fa
      cases hj
    have hfl : ∀ j ∈ ws, Fi [(b0, E)] j = b0 ∧ La [(b0, E)] j = j.du := fun j hjw => one_fi (hj j hjw).1 (hj j hjw).2.1 (hj j hjw).2.2
    have ea : a = b0 := by
      obtain ⟨j, hjw, e⟩ := D.fa
      rw [← e]
      exact (hfl j hjw).1
    subst ea
    obtain ⟨jb, hjb, eb⟩ := D.lb
    rw [(hfl jb hjb).2] at eb
    subst eb
    have hbE := (hj jb hjb).2.2
    have hlt := D.lt
    have hinn : ∀ j ∈ ws, inn [(a, E)] a jb.du j = decide (j.du ≤ jb.du) := fun j hjw => by
      unfold inn
      rw [(hfl j hjw).1, (hfl j hjw).2]
      simp
    have hlenv : lenF [(a, E)] a jb.du = jb.du - a := one_len (Int.le_refl _) hlt hbE
    have htak := one_taken (b0 := a) (b := jb.du) (E := E) h0 hlt hbE
    have hws' : ∀ j ∈ ws.filter (fun j => !inn [(a, E)] a jb.du j), j ∈ ws ∧ jb.du < j.du := fun j hjw => by
      obtain ⟨h1, h2⟩ := List.mem_filter.mp hjw
      rw [hinn j h1] at h2
      simp at h2
      exact ⟨h1, by omega⟩
    have ih' := ih jb.du E (by omega) (by
      by_cases c : ws.filter (fun j => !inn [(a, E)] a jb.du j) = []
      · exact .inl c
      · right
        obtain ⟨j, hjw⟩ := List.exists_mem_of_ne_nil _ c
        obtain ⟨h1, h2⟩ := hws' j hjw
        have h3 := (hj j h1).2.2
        have : jb.du < E := by omega
        rw [htak, if_pos this]
        exact ⟨rfl, this⟩) fun j hjw => by
      obtain ⟨h1, h2⟩ := hws' j hjw
      obtain ⟨h3, h4, h5⟩ := hj j h1
      exact ⟨by omega, h2, h5⟩
    refine ⟨?_, fun i rd hi => ?_⟩
    · have h1 : (ws.filter (fun j => !inn [(a, E)] a jb.du j)).length < ws.length := by
        apply List.length_filter_lt_length_iff_exists.mpr
        refine ⟨jb, hjb, ?_⟩
        rw [hinn jb hjb]
        simp
      have := ih'.1
      rw [List.length_cons]
      omega
    · cases i with
      | zero =>
        simp only [List.getElem?_cons_zero, Option.some.injEq] at hi
        subst hi
        refine ⟨hlt, ⟨jb, hjb, rfl⟩, .inl ⟨rfl, rfl⟩, fun j => inn [(a, E)] a jb.du j, ?_⟩
        show loadR [(a, E)] ws a jb.du / (lenF [(a, E)] a jb.du : Rat) = _
        rw [hlenv]
        rfl
      | succ i =>
        simp only [List.getElem?_cons_succ] at hi
        obtain ⟨c1, ⟨j2, c2, c3⟩, c4, ⟨c, c5⟩⟩ := ih'.2 i rd hi
        refine ⟨c1, ⟨j2, (hws' j2 c2).1, c3⟩, .inr ⟨by omega, ?_⟩, fun j => c j && !inn [(a, E)] a jb.du j, ?_⟩
        · rcases c4 with ⟨_, e⟩ | ⟨_, j3, c6, c7⟩
          · exact ⟨jb, hjb, e⟩
          · exact ⟨j3, (hws' j3 c6).1, c7⟩
        · rw [c5, ls_filter]
          congr 1
          apply ls_congr
          intro j _
          have : ∀ x y : Bool, (if (!y) = true then (if x = true then j.wk else 0) else 0) = if (x && !y) = true then j.wk else 0 := fun x y => by cases x <;> cases y <;> rfl
          exact this _ _
end
end SW

set_option Elab.async false
set_option linter.all false
set_option maxRecDepth 100000
set_option maxHeartbeats 4000000
/-! the text by places, the words of the walk -/
namespace SW
open PySem PySem.Spec PyProof.Rows L2
def top (i : Nat) : Stmt := PySem.Challenge.pw_sparewatts_k35_whole_why_four_times_is_e.main.body.getD i (.Pass ⟨0, 0, 0, 0⟩)
/-- what callers know of a def: where it stands, what it promises -/
def Def (P : Program) (w : World) (K : PySem.W.Frag) (mg : Str → Option Value) (base : Heap) (x : Str) (ps : List Str) (dvs : List V) (k : Nat) (sp : Sp) : Prop :=
  ∃ f fd ds, mg x = some (.ref f) ∧ FnOk P w K mg base CX0 k f fd ps sp ∧ PySem.W.keepIn K (.ref f) = true ∧ Binds K fd ps ds ∧ Vals dvs ds
section
variable {X : Cx} {x : Str} {ps : List Str} {dvs : List V} {k : Nat} {sp : Sp} {p pos : Pos} {e : Expr} {es : List Expr} {t : TA}
theorem pe_def (D : Def X.prog X.w X.K X.mg X.base x ps dvs k sp) (hr : Room k X.A) (ha : PA X (e :: es) t) (hg : Gl X x := by rfl) (hdb : (x == ("__debug__" : Str)) = false := by decide)
    (he : starEach (e :: es) X.env = (false, eval e X.env) :: starEach es X.env := by rfl) (hpl : (backTo pos (starEach es X.env)).any (·.1) = false := by rfl) :
    PE X (.Call (.Name x p) (e :: es) [] pos) (tCall sp dvs E0 t) := by
  obtain ⟨f, fd, ds, g, F, kp, b, hv⟩ := D
  exact pe_call F hr hg g kp b hv pass0 ha hdb he hpl
end
/-- a def of the text as it stands behind the top -/
def TF (K : PySem.W.Frag) (mg : Str → Option Value) (x : Str) (st : Stmt) (ps : List Str) : Prop := ∃ f fd, mg x = some (.ref f) ∧ Fun K x x st f fd ∧ Binds K fd ps []
section
variable {P : Program} {w : World} {K : PySem.W.Frag} {mg : Str → Option Value} {base : Heap}
theorem TF.ok {x : Str} {st : Stmt} {N ps : List Str} {k : Nat} {sp : Sp} (T : TF K mg x st ps) (S : FnScope N ps (defScope st)) (len : ∀ vs H Q E, sp vs H Q E → vs.length = ps.length)
    (hbody : ∀ (f : Addr) (cdv : Value) (A : Around) (outer : List Env) (s : Shared) (H : Hp) (vs : List V) (Q : VK) (E : XK), Room k (A.deeper (envOfC x (defScope st) s.heap.objs.size f cdv)) → sp vs H Q E →
      ∃ t, PSs (cxOf CX0 P w K mg base N x (defScope st) f cdv A outer s H E).nox (defBody st) t ∧ t { nx := fun _ H' => Q .non H', rt := Q } (start N vs) H) : Def P w K mg base x ps [] (k + 1) sp := by
  obtain ⟨f, fd, g, F, b⟩ := T
  exact ⟨f, fd, [], g, F.ok S len (hbody f), F.kp, b, .nil⟩
end
/-- every tuple stays -/
def TSame (H H' : Hp) : Prop := ∀ b xs, H b = some (.tup xs) → H' b = some (.tup xs)
/-- v is the ratio q: a tuple of its top and bottom -/
def RatV (K : PySem.W.Frag) (H : Hp) (v : V) (q : Rat) : Prop := ∃ p, v = .ref p ∧ SqT K H p [.int q.num, .int (q.den : Int)]
/-- of a size that is reckoned with -/
def Sm (q : Rat) : Prop := q.den < 2 ^ 4400 ∧ q.num.natAbs < 2 ^ 4600
theorem Rd.tup {H H' : Hp} (e : Same H H') {a : Addr} {u : HO} (h : Rd H a u) : Rd H' a u := by
  rcases h with h | ⟨o, h⟩
  · exact .inl (e _ _ h)
  · exact .inr ⟨o, e _ _ h⟩
theorem sqT_same {K : PySem.W.Frag} {H H' : Hp} (e : Same H H') {a : Addr} {xs : List V} (h : SqT K H a xs) : SqT K H' a xs := by
  rcases h with h | h
  · exact .inl (Rd.tup e h)
  · exact .inr h
theorem RatV.same {K : PySem.W.Frag} {H H' : Hp} (e : Same H H') {v : V} {q : Rat} (h : RatV K H v q) : RatV K H' v q := by
  obtain ⟨p, rfl, h⟩ := h
  exact ⟨p, rfl, sqT_same e h⟩
theorem same_new {H : Hp} {p : Addr} {o : HO} (h : H p = none) : Same H (upd H p o) := fun b u e => by
  rw [upd_ne (ne_of_none e h)]
  exact e
/-! ### ratios -/
theorem scRatio : FnScope ["top", "bottom", "common"] ["top", "bottom"] (defScope (top 4)) := ⟨rfl, rfl, rfl, by decide +kernel, rfl, by decide +kernel, by decide +kernel⟩
/-- the ratio of two integers -/
def spRatio (K : PySem.W.Frag) : Sp := fun vs H Q _ => ∃ a b : Int, vs = [.int a, .int b] ∧ b ≠ 0 ∧ b.natAbs < 2 ^ 9000 ∧ ∀ v H', Same H H' → RatV K H' v ((a : Rat) / (b : Rat)) → Q v H'
theorem ratio_pos {a b : Int} (hb : 0 < b) : ((a : Rat) / (b : Rat)).num = a / ((Nat.gcd a.natAbs b.natAbs : Nat) : Int) ∧ (((a : Rat) / (b : Rat)).den : Int) = b / ((Nat.gcd a.natAbs b.natAbs : Nat) : Int) := by
  rw [← Rat.divInt_eq_div, Rat.num_divInt, Rat.den_divInt, if_neg (by omega), Int.sign_eq_one_of_pos hb, Int.one_mul]
  have e : Int.gcd b a = Nat.gcd a.natAbs b.natAbs := Nat.gcd_comm _ _
  rw [e]
  refine ⟨rfl, ?_⟩
  rw [Int.natCast_ediv]
  congr 1
  omega
theorem ratio_neg (a b : Int) : ((-a : Int) : Rat) / ((-b : Int) : Rat) = (a : Rat) / (b : Rat) := by
  rw [← Rat.divInt_eq_div, ← Rat.divInt_eq_div, Rat.neg_divInt_neg]
theorem gcd_pos {a b : Int} (hb : b ≠ 0) : 0 < ((Nat.gcd a.natAbs b.natAbs : Nat) : Int) := by
  have : 0 < Nat.gcd a.natAbs b.natAbs := Nat.gcd_pos_of_pos_right _ (by omega)
  omega
theorem gcd_wide {a b : Int} {n : Nat} (hb : b ≠ 0) (h : b.natAbs < 2 ^ n) (h0 : 0 < n) (h9 : n ≤ 9000) (c : Int) : CDivW c ((Nat.gcd a.natAbs b.natAbs : Nat) : Int) := by
  refine wide_div (b := n) (gcd_pos hb) ?_ h0 h9
  have h1 : Nat.gcd a.natAbs b.natAbs ≤ b.natAbs := Nat.le_of_dvd (by omega) (Nat.gcd_dvd_right _ _)
  rw [Int.natAbs_natCast]
  exact Nat.lt_of_le_of_lt h1 h
def TFD (K : PySem.W.Frag) (mg : Str → Option Value) : Prop := ∃ f fd, mg "ratio" = some (.ref f) ∧ FunD K "ratio" "ratio" (defArgs (top 4)) (defBody (top 4)) (defScope (top 4)) [.int 1] [] f fd
theorem ok_ratio0 {P : Program} {w : World} {K : PySem.W.Frag} {mg : Str → Option Value} {base : Heap} {f : Addr} {fd : FuncData} (F : FunD K "ratio" "ratio" (defArgs (top 4)) (defBody (top 4)) (defScope (top 4)) [.int 1] [] f fd) (gG : mg "gcd" = some (.builtin "math.gcd")) : FnOk P w K mg base CX0 1 f fd ["top", "bottom"] (spRatio K) := by
  refine F.ok scRatio (fun vs H Q E h => ?_) (fun cdv A outer s H vs Q E hr h => ⟨_, PSs.nox (pss_cons (ps_if (pt_cmpR op_lt (pv 1) pe_int (nomark _)) (pss_one (ps_par (i := 0) (j := 1) rfl scRatio.nd rfl rfl (by decide) rfl rfl (pa_cons (pe_un un_neg (pv 0)) (pa_cons (pe_un un_neg (pv 1)) pa_nil)) (by rfl))) pss_nil)
    (pss_cons (ps_set (i := 2) scRatio.nd rfl (.inl rfl) (pe_callBfun cr_gcd (by rfl) gG (pa_cons (pv 0) (pa_cons (pv 1) pa_nil))))
    (pss_one (ps_ret (pe_tup (pa_cons (pe_op op_fdivW (pv 0) (pv 2)) (pa_cons (pe_op op_fdivW (pv 1) (pv 2)) pa_nil))))))), ?_⟩)
  · obtain ⟨a, b, rfl, _⟩ := h
    rfl
  · obtain ⟨a, b, rfl, hb, hw, k⟩ := h
    have key : ∀ a b : Int, 0 < b → b.natAbs < 2 ^ 9000 → (∀ v H', Same H H' → RatV K H' v ((a : Rat) / (b : Rat)) → Q v H') → ∀ p, H p = none → Q (.ref p) (upd H p (.tup [.int (a / ((Nat.gcd a.natAbs b.natAbs : Nat) : Int)), .int (b / ((Nat.gcd a.natAbs b.natAbs : Nat) : Int))])) := fun a b hb hw k p hp => by
      obtain ⟨e1, e2⟩ := ratio_pos (a := a) hb
      refine k _ _ (same_new hp) ⟨p, rfl, ?_⟩
      rw [e1, e2]
      exact SqT.of upd_same
    refine ⟨_, rfl, _, _, rfl, rfl, _, rfl, ?_⟩
    refine ite2 (fun hlt => ?_) (fun hlt => ?_)
    · have hlt' : b < 0 := of_decide_eq_true hlt
      refine ⟨_, rfl, _, rfl, _, rfl, _, rfl, _, _, rfl, ?_⟩
      refine ⟨_, rfl, _, rfl, _, _, rfl, ?_⟩
      refine ⟨_, rfl, _, rfl, _, _, rfl, rfl, gcd_wide (n := 9000) (by omega) (by rw [Int.natAbs_neg]; exact hw) (by decide) (by decide) _, _, rfl, _, rfl, _, _, rfl, rfl, gcd_wide (n := 9000) (by omega) (by rw [Int.natAbs_neg]; exact hw) (by decide) (by decide) _, (by show 2 ≤ sizeLine; decide), ?_⟩
      exact key (-a) (-b) (by omega) (by rw [Int.natAbs_neg]; exact hw) (by rw [ratio_neg]; exact k)
    · have hlt' : ¬ b < 0 := fun z => hlt (decide_eq_true z)
      refine ⟨_, rfl, _, rfl, _, _, rfl, ?_⟩
      refine ⟨_, rfl, _, rfl, _, _, rfl, rfl, gcd_wide (n := 9000) hb hw (by decide) (by decide) _, _, rfl, _, rfl, _, _, rfl, rfl, gcd_wide (n := 9000) hb hw (by decide) (by decide) _, (by show 2 ≤ sizeLine; decide), ?_⟩
      exact key a b (by omega) hw k
theorem ok_ratio {P : Program} {w : World} {K : PySem.W.Frag} {mg : Str → Option Value} {base : Heap} (T : TFD K mg) (gG : mg "gcd" = some (.builtin "math.gcd")) :
    Def P w K mg base "ratio" ["top", "bottom"] [] 1 (spRatio K) ∧ Def P w K mg base "ratio" ["top", "bottom"] [.int 1] 1 (spRatio K) := by
  obtain ⟨f, fd, g, F⟩ := T
  have O := ok_ratio0 (P := P) (w := w) (base := base) F gG
  obtain ⟨ds2, v2, b2⟩ := F.binds1 (ps := ["top", "bottom"]) 2 1 (by simp) rfl fun T kV doc pm an cdv ct us its h1 h2 => match us, its, h1, h2 with
    | [_, _], [_], _, _ => ⟨_, rfl, rfl⟩
  obtain ⟨ds1, v1, b1⟩ := F.binds1 (ps := ["top", "bottom"]) 1 0 (by simp) rfl fun T kV doc pm an cdv ct us its h1 h2 => match us, its, h1, h2 with
    | [_], [_], _, _ => ⟨_, rfl, rfl⟩
  exact ⟨⟨f, fd, ds2, g, O, F.kp, b2, v2⟩, ⟨f, fd, ds1, g, O, F.kp, b1, v1⟩⟩
end SW

set_option Elab.async false
set_option linter.all false
set_option maxRecDepth 100000
set_option maxHeartbeats 4000000
set_option exponentiation.threshold 300
namespace SW
open PySem PySem.Spec PyProof.Rows L2
theorem add_ratio (x y : Rat) : ((x.num * (y.den : Int) + y.num * (x.den : Int) : Int) : Rat) / (((x.den : Int) * (y.den : Int) : Int) : Rat) = x + y := by
  rw [Rat.add_def', Rat.mkRat_eq_div, ← Rat.intCast_natCast, Int.natCast_mul]
theorem sub_ratio (x y : Rat) : ((x.num * (y.den : Int) - y.num * (x.den : Int) : Int) : Rat) / (((x.den : Int) * (y.den : Int) : Int) : Rat) = x - y := by
  rw [Rat.sub_def', Rat.mkRat_eq_div, ← Rat.intCast_natCast, Int.natCast_mul]
theorem mul_ratio (x y : Rat) : ((x.num * y.num : Int) : Rat) / (((x.den : Int) * (y.den : Int) : Int) : Rat) = x * y := by
  rw [Rat.mul_def', Rat.mkRat_eq_div, ← Rat.intCast_natCast, Int.natCast_mul]
theorem div_ratio {x y : Rat} (hy : y ≠ 0) : ((x.num * (y.den : Int) : Int) : Rat) / (((x.den : Int) * y.num : Int) : Rat) = x / y := by
  have h1 := num_eq x
  have h2 := num_eq y
  have h3 := rat_den_pos x
  have h4 := rat_den_pos y
  rw [Rat.intCast_mul, Rat.intCast_mul, Rat.intCast_natCast, Rat.intCast_natCast, ← h1, ← h2]
  have h5 : (x.den : Rat) * (y * (y.den : Rat)) ≠ 0 := fun z => by
    rcases Rat.mul_eq_zero.mp z with z | z
    · grind
    · rcases Rat.mul_eq_zero.mp z with z | z <;> grind
  grind
theorem den_ne (x : Rat) : (x.den : Int) ≠ 0 := by have := x.den_pos; omega
theorem Sm.d {x : Rat} (h : Sm x) : ((x.den : Nat) : Int).natAbs < 2 ^ 4600 := by
  rw [Int.natAbs_natCast]
  exact Nat.lt_trans h.1 (Nat.pow_lt_pow_right (by decide) (by decide))
theorem Sm.n {x : Rat} (h : Sm x) : x.num.natAbs < 2 ^ 4600 := h.2
theorem cm {i j : Int} (h1 : i.natAbs < 2 ^ 4600) (h2 : j.natAbs < 2 ^ 4600) : CMulW i j := wide_mul h1 h2 (by decide) (by decide) (by decide)
theorem dd_small {x y : Rat} (hx : Sm x) (hy : Sm y) : ((x.den : Int) * (y.den : Int)).natAbs < 2 ^ 9000 := by
  rw [Int.natAbs_mul, Int.natAbs_natCast, Int.natAbs_natCast]
  have : x.den * y.den < 2 ^ 4400 * 2 ^ 4400 := Nat.mul_lt_mul'' hx.1 hy.1
  rw [← Nat.pow_add] at this
  exact Nat.lt_trans this (Nat.pow_lt_pow_right (by decide) (by decide))
theorem dd_ne (x y : Rat) : (x.den : Int) * (y.den : Int) ≠ 0 := Int.mul_ne_zero (den_ne x) (den_ne y)
/-- a function of two ratios -/
def spR2 (K : PySem.W.Frag) (f : Rat → Rat → Rat) (C : Rat → Rat → Prop) : Sp := fun vs H Q _ => ∃ v u x y, vs = [v, u] ∧ RatV K H v x ∧ RatV K H u y ∧ C x y ∧ ∀ r H', Same H H' → RatV K H' r (f x y) → Q r H'
def spLess (K : PySem.W.Frag) : Sp := fun vs H Q _ => ∃ v u x y, vs = [v, u] ∧ RatV K H v x ∧ RatV K H u y ∧ (Sm x ∧ Sm y) ∧ Q (.bl (decide (x < y))) H
abbrev C2 (x y : Rat) : Prop := Sm x ∧ Sm y
/-- division: the divisor is not 0, what comes out is small -/
def CO (x y : Rat) : Prop := Sm x ∧ Sm y ∧ y ≠ 0 ∧ y.num.natAbs < 2 ^ 4600
section
variable {P : Program} {w : World} {K : PySem.W.Frag} {mg : Str → Option Value} {base : Heap}
theorem scPlus : FnScope ["a", "b"] ["a", "b"] (defScope (top 5)) := ⟨rfl, rfl, rfl, by decide +kernel, rfl, by decide +kernel, by decide +kernel⟩
theorem scMinus : FnScope ["a", "b"] ["a", "b"] (defScope (top 6)) := ⟨rfl, rfl, rfl, by decide +kernel, rfl, by decide +kernel, by decide +kernel⟩
theorem scTimes : FnScope ["a", "b"] ["a", "b"] (defScope (top 7)) := ⟨rfl, rfl, rfl, by decide +kernel, rfl, by decide +kernel, by decide +kernel⟩
theorem scOver : FnScope ["a", "b"] ["a", "b"] (defScope (top 8)) := ⟨rfl, rfl, rfl, by decide +kernel, rfl, by decide +kernel, by decide +kernel⟩
theorem scLess : FnScope ["a", "b"] ["a", "b"] (defScope (top 9)) := ⟨rfl, rfl, rfl, by decide +kernel, rfl, by decide +kernel, by decide +kernel⟩
theorem ok_plus (T : TF K mg "plus" (top 5) ["a", "b"]) (R : Def P w K mg base "ratio" ["top", "bottom"] [] 1 (spRatio K)) : Def P w K mg base "plus" ["a", "b"] [] 2 (spR2 K (· + ·) C2) := by
  refine T.ok scPlus (fun vs H Q E h => ?_) (fun f cdv A outer s H vs Q E hr h => ⟨_, pss_one (ps_ret (pe_def R hr (pa_cons
    (pe_op op_add (pe_op op_mulW (pe_ix ix_tup (pv 0) pe_int (fun _ _ => rfl)) (pe_ix ix_tup (pv 1) pe_int (fun _ _ => rfl))) (pe_op op_mulW (pe_ix ix_tup (pv 1) pe_int (fun _ _ => rfl)) (pe_ix ix_tup (pv 0) pe_int (fun _ _ => rfl))))
    (pa_cons (pe_op op_mulW (pe_ix ix_tup (pv 0) pe_int (fun _ _ => rfl)) (pe_ix ix_tup (pv 1) pe_int (fun _ _ => rfl))) pa_nil)))), ?_⟩)
  · obtain ⟨_, _, _, _, rfl, _⟩ := h
    rfl
  · obtain ⟨_, _, x, y, rfl, ⟨p, rfl, hp⟩, ⟨q, rfl, hq⟩, ⟨hx, hy⟩, k⟩ := h
    refine ⟨_, rfl, p, _, _, _, rfl, rfl, hp, rfl, _, rfl, q, _, _, _, rfl, rfl, hq, rfl, _, _, rfl, rfl, cm hx.n hy.d, ?_⟩
    refine ⟨_, rfl, q, _, _, _, rfl, rfl, hq, rfl, _, rfl, p, _, _, _, rfl, rfl, hp, rfl, _, _, rfl, rfl, cm hy.n hx.d, _, _, rfl, rfl, ?_⟩
    refine ⟨_, rfl, p, _, _, _, rfl, rfl, hp, rfl, _, rfl, q, _, _, _, rfl, rfl, hq, rfl, _, _, rfl, rfl, cm hx.d hy.d, ?_⟩
    refine ⟨_, _, rfl, dd_ne x y, dd_small hx hy, ?_⟩
    rw [add_ratio]
    exact k
theorem ok_minus (T : TF K mg "minus" (top 6) ["a", "b"]) (R : Def P w K mg base "ratio" ["top", "bottom"] [] 1 (spRatio K)) : Def P w K mg base "minus" ["a", "b"] [] 2 (spR2 K (· - ·) C2) := by
  refine T.ok scMinus (fun vs H Q E h => ?_) (fun f cdv A outer s H vs Q E hr h => ⟨_, pss_one (ps_ret (pe_def R hr (pa_cons
    (pe_op op_sub (pe_op op_mulW (pe_ix ix_tup (pv 0) pe_int (fun _ _ => rfl)) (pe_ix ix_tup (pv 1) pe_int (fun _ _ => rfl))) (pe_op op_mulW (pe_ix ix_tup (pv 1) pe_int (fun _ _ => rfl)) (pe_ix ix_tup (pv 0) pe_int (fun _ _ => rfl))))
    (pa_cons (pe_op op_mulW (pe_ix ix_tup (pv 0) pe_int (fun _ _ => rfl)) (pe_ix ix_tup (pv 1) pe_int (fun _ _ => rfl))) pa_nil)))), ?_⟩)
  · obtain ⟨_, _, _, _, rfl, _⟩ := h
    rfl
  · obtain ⟨_, _, x, y, rfl, ⟨p, rfl, hp⟩, ⟨q, rfl, hq⟩, ⟨hx, hy⟩, k⟩ := h
    refine ⟨_, rfl, p, _, _, _, rfl, rfl, hp, rfl, _, rfl, q, _, _, _, rfl, rfl, hq, rfl, _, _, rfl, rfl, cm hx.n hy.d, ?_⟩
    refine ⟨_, rfl, q, _, _, _, rfl, rfl, hq, rfl, _, rfl, p, _, _, _, rfl, rfl, hp, rfl, _, _, rfl, rfl, cm hy.n hx.d, _, _, rfl, rfl, ?_⟩
    refine ⟨_, rfl, p, _, _, _, rfl, rfl, hp, rfl, _, rfl, q, _, _, _, rfl, rfl, hq, rfl, _, _, rfl, rfl, cm hx.d hy.d, ?_⟩
    refine ⟨_, _, rfl, dd_ne x y, dd_small hx hy, ?_⟩
    rw [sub_ratio]
    exact k
theorem ok_times (T : TF K mg "times" (top 7) ["a", "b"]) (R : Def P w K mg base "ratio" ["top", "bottom"] [] 1 (spRatio K)) : Def P w K mg base "times" ["a", "b"] [] 2 (spR2 K (· * ·) C2) := by
  refine T.ok scTimes (fun vs H Q E h => ?_) (fun f cdv A outer s H vs Q E hr h => ⟨_, pss_one (ps_ret (pe_def R hr (pa_cons
    (pe_op op_mulW (pe_ix ix_tup (pv 0) pe_int (fun _ _ => rfl)) (pe_ix ix_tup (pv 1) pe_int (fun _ _ => rfl)))
    (pa_cons (pe_op op_mulW (pe_ix ix_tup (pv 0) pe_int (fun _ _ => rfl)) (pe_ix ix_tup (pv 1) pe_int (fun _ _ => rfl))) pa_nil)))), ?_⟩)
  · obtain ⟨_, _, _, _, rfl, _⟩ := h
    rfl
  · obtain ⟨_, _, x, y, rfl, ⟨p, rfl, hp⟩, ⟨q, rfl, hq⟩, ⟨hx, hy⟩, k⟩ := h
    refine ⟨_, rfl, p, _, _, _, rfl, rfl, hp, rfl, _, rfl, q, _, _, _, rfl, rfl, hq, rfl, _, _, rfl, rfl, cm hx.n hy.n, ?_⟩
    refine ⟨_, rfl, p, _, _, _, rfl, rfl, hp, rfl, _, rfl, q, _, _, _, rfl, rfl, hq, rfl, _, _, rfl, rfl, cm hx.d hy.d, ?_⟩
    refine ⟨_, _, rfl, dd_ne x y, dd_small hx hy, ?_⟩
    rw [mul_ratio]
    exact k
theorem ok_over (T : TF K mg "over" (top 8) ["a", "b"]) (R : Def P w K mg base "ratio" ["top", "bottom"] [] 1 (spRatio K)) : Def P w K mg base "over" ["a", "b"] [] 2 (spR2 K (· / ·) fun x y => Sm x ∧ Sm y ∧ y ≠ 0 ∧ ((x.den : Int) * y.num).natAbs < 2 ^ 9000) := by
  refine T.ok scOver (fun vs H Q E h => ?_) (fun f cdv A outer s H vs Q E hr h => ⟨_, pss_one (ps_ret (pe_def R hr (pa_cons
    (pe_op op_mulW (pe_ix ix_tup (pv 0) pe_int (fun _ _ => rfl)) (pe_ix ix_tup (pv 1) pe_int (fun _ _ => rfl)))
    (pa_cons (pe_op op_mulW (pe_ix ix_tup (pv 0) pe_int (fun _ _ => rfl)) (pe_ix ix_tup (pv 1) pe_int (fun _ _ => rfl))) pa_nil)))), ?_⟩)
  · obtain ⟨_, _, _, _, rfl, _⟩ := h
    rfl
  · obtain ⟨_, _, x, y, rfl, ⟨p, rfl, hp⟩, ⟨q, rfl, hq⟩, ⟨hx, hy, h0, hs⟩, k⟩ := h
    refine ⟨_, rfl, p, _, _, _, rfl, rfl, hp, rfl, _, rfl, q, _, _, _, rfl, rfl, hq, rfl, _, _, rfl, rfl, cm hx.n hy.d, ?_⟩
    refine ⟨_, rfl, p, _, _, _, rfl, rfl, hp, rfl, _, rfl, q, _, _, _, rfl, rfl, hq, rfl, _, _, rfl, rfl, cm hx.d hy.n, ?_⟩
    refine ⟨_, _, rfl, Int.mul_ne_zero (den_ne x) (fun z => h0 (Rat.num_eq_zero.mp z)), hs, ?_⟩
    rw [div_ratio h0]
    exact k
theorem ok_less (T : TF K mg "less" (top 9) ["a", "b"]) : Def P w K mg base "less" ["a", "b"] [] 1 (spLess K) := by
  refine T.ok scLess (fun vs H Q E h => ?_) (fun f cdv A outer s H vs Q E hr h => ⟨_, pss_one (ps_ret (pe_cmpR op_lt
    (pe_op op_mulW (pe_ix ix_tup (pv 0) pe_int (fun _ _ => rfl)) (pe_ix ix_tup (pv 1) pe_int (fun _ _ => rfl)))
    (pe_op op_mulW (pe_ix ix_tup (pv 1) pe_int (fun _ _ => rfl)) (pe_ix ix_tup (pv 0) pe_int (fun _ _ => rfl))) (nomark _))), ?_⟩)
  · obtain ⟨_, _, _, _, rfl, _⟩ := h
    rfl
  · obtain ⟨_, _, x, y, rfl, ⟨p, rfl, hp⟩, ⟨q, rfl, hq⟩, ⟨hx, hy⟩, k⟩ := h
    refine ⟨_, rfl, p, _, _, _, rfl, rfl, hp, rfl, _, rfl, q, _, _, _, rfl, rfl, hq, rfl, _, _, rfl, rfl, cm hx.n hy.d, ?_⟩
    refine ⟨_, rfl, q, _, _, _, rfl, rfl, hq, rfl, _, rfl, p, _, _, _, rfl, rfl, hp, rfl, _, _, rfl, rfl, cm hy.n hx.d, _, _, rfl, rfl, ?_⟩
    have e : decide (x.num * (y.den : Int) < y.num * (x.den : Int)) = decide (x < y) := decide_eq_decide.mpr (Rat.lt_iff x y).symm
    show Q (.bl (decide (x.num * (y.den : Int) < y.num * (x.den : Int)))) H
    rw [e]
    exact k
theorem scLeast : FnScope ["a", "b"] ["a", "b"] (defScope (top 10)) := ⟨rfl, rfl, rfl, by decide +kernel, rfl, by decide +kernel, by decide +kernel⟩
theorem scGreatest : FnScope ["a", "b"] ["a", "b"] (defScope (top 11)) := ⟨rfl, rfl, rfl, by decide +kernel, rfl, by decide +kernel, by decide +kernel⟩
def spMin (K : PySem.W.Frag) (f : Rat → Rat → Rat) : Sp := fun vs H Q _ => ∃ v u x y, vs = [v, u] ∧ RatV K H v x ∧ RatV K H u y ∧ (Sm x ∧ Sm y) ∧ ∀ r, RatV K H r (f x y) → Q r H
theorem ok_least (T : TF K mg "least" (top 10) ["a", "b"]) (L : Def P w K mg base "less" ["a", "b"] [] 1 (spLess K)) : Def P w K mg base "least" ["a", "b"] [] 2 (spMin K rmin) := by
  refine T.ok scLeast (fun vs H Q E h => ?_) (fun f cdv A outer s H vs Q E hr h => ⟨_, pss_one (ps_ret (pe_ifExp (pt_val (pe_def L hr (pa_cons (pv 1) (pa_cons (pv 0) pa_nil)))) (pv 1) (pv 0))), ?_⟩)
  · obtain ⟨_, _, _, _, rfl, _⟩ := h
    rfl
  · obtain ⟨v, u, x, y, rfl, hp, hq, ⟨hx, hy⟩, k⟩ := h
    refine ⟨_, rfl, _, rfl, u, v, y, x, rfl, hq, hp, ⟨hy, hx⟩, _, rfl, ?_⟩
    refine ite2 (fun c => ?_) (fun c => ?_)
    · exact ⟨_, rfl, k _ (by unfold rmin; rw [if_pos (of_decide_eq_true c)]; exact hq)⟩
    · exact ⟨_, rfl, k _ (by unfold rmin; rw [if_neg (fun z => c (decide_eq_true z))]; exact hp)⟩
theorem ok_greatest (T : TF K mg "greatest" (top 11) ["a", "b"]) (L : Def P w K mg base "less" ["a", "b"] [] 1 (spLess K)) : Def P w K mg base "greatest" ["a", "b"] [] 2 (spMin K rmax) := by
  refine T.ok scGreatest (fun vs H Q E h => ?_) (fun f cdv A outer s H vs Q E hr h => ⟨_, pss_one (ps_ret (pe_ifExp (pt_val (pe_def L hr (pa_cons (pv 0) (pa_cons (pv 1) pa_nil)))) (pv 1) (pv 0))), ?_⟩)
  · obtain ⟨_, _, _, _, rfl, _⟩ := h
    rfl
  · obtain ⟨v, u, x, y, rfl, hp, hq, ⟨hx, hy⟩, k⟩ := h
    refine ⟨_, rfl, _, rfl, v, u, x, y, rfl, hp, hq, ⟨hx, hy⟩, _, rfl, ?_⟩
    refine ite2 (fun c => ?_) (fun c => ?_)
    · exact ⟨_, rfl, k _ (by unfold rmax; rw [if_pos (of_decide_eq_true c)]; exact hq)⟩
    · exact ⟨_, rfl, k _ (by unfold rmax; rw [if_neg (fun z => c (decide_eq_true z))]; exact hp)⟩
end
end SW

set_option Elab.async false
set_option linter.all false
set_option maxRecDepth 100000
set_option maxHeartbeats 4000000
/-! how data stand in the heap -/
namespace SW
open PySem PySem.Spec PyProof.Rows L2
def ratD (q : Rat) : PyData := .tuple [.int q.num, .int (q.den : Int)]
theorem RatV.dp {K : PySem.W.Frag} {H : Hp} {v : V} {q : Rat} (h : RatV K H v q) : Dp K H v (ratD q) := by
  obtain ⟨p, rfl, h⟩ := h
  exact .tup h (.cons (.int _) (.cons (.int _) .nil))
theorem rat_shaped (q : Rat) : SeqAt.shaped (ratD q) = true := rfl
theorem rat_eq {x y : Rat} : x = y ↔ x.num = y.num ∧ (x.den : Int) = (y.den : Int) := by
  constructor
  · rintro rfl
    exact ⟨rfl, rfl⟩
  · rintro ⟨h1, h2⟩
    exact Rat.ext h1 (by omega)
theorem rat_eqv (x y : Rat) : PyData.eqv (ratD x) (ratD y) = decide (x = y) := by
  unfold ratD
  simp only [PyData.eqv, PyData.eqvAll, Bool.and_true]
  rw [Bool.eq_iff_iff]
  simp only [Bool.and_eq_true, beq_iff_eq, decide_eq_true_eq]
  exact rat_eq.symm
/-! lists, item by item -/
section
variable {α : Type} {R R' : V → α → Prop}
theorem pair_get : ∀ {vs : List V} {xs : List α} {i : Nat} {v : V}, Paired R vs xs → vs[i]? = some v → ∃ x, xs[i]? = some x ∧ R v x
  | _, _, _, _, .nil, e => by simp at e
  | _, _, 0, _, .cons r _, e => by simp at e; subst e; exact ⟨_, rfl, r⟩
  | _, _, i + 1, v, .cons _ t, e => by
    obtain ⟨x, h1, h2⟩ := pair_get (i := i) (v := v) t (by simpa using e)
    exact ⟨x, by simpa using h1, h2⟩
theorem pair_get' : ∀ {vs : List V} {xs : List α} {i : Nat} {x : α}, Paired R vs xs → xs[i]? = some x → ∃ v, vs[i]? = some v ∧ R v x
  | _, _, _, _, .nil, e => by simp at e
  | _, _, 0, _, .cons r _, e => by simp at e; subst e; exact ⟨_, rfl, r⟩
  | _, _, i + 1, v, .cons _ t, e => by
    obtain ⟨x, h1, h2⟩ := pair_get' (i := i) (x := v) t (by simpa using e)
    exact ⟨x, by simpa using h1, h2⟩
theorem pair_mono : ∀ {vs : List V} {xs : List α}, (∀ v x, R v x → R' v x) → Paired R vs xs → Paired R' vs xs
  | _, _, _, .nil => .nil
  | _, _, h, .cons r t => .cons (h _ _ r) (pair_mono h t)
theorem pair_app : ∀ {vs ws : List V} {xs ys : List α}, Paired R vs xs → Paired R ws ys → Paired R (vs ++ ws) (xs ++ ys)
  | _, _, _, _, .nil, s => s
  | _, _, _, _, .cons r t, s => .cons r (pair_app t s)
theorem pair_snoc {vs : List V} {xs : List α} {v : V} {x : α} (h : Paired R vs xs) (r : R v x) : Paired R (vs ++ [v]) (xs ++ [x]) := pair_app h (.cons r .nil)
theorem pair_len {vs : List V} {xs : List α} (h : Paired R vs xs) : vs.length = xs.length := h.length
/-- the last item -/
theorem pair_last : ∀ {xs : List α} {vs : List V} {x : α}, Paired R vs (xs ++ [x]) → ∃ ws v, vs = ws ++ [v] ∧ Paired R ws xs ∧ R v x
  | [], _, _, .cons r .nil => ⟨[], _, rfl, .nil, r⟩
  | a :: xs, _, x, .cons r t => by
    obtain ⟨ws, v, e, h1, h2⟩ := pair_last (xs := xs) t
    exact ⟨_ :: ws, v, by rw [e]; rfl, .cons r h1, h2⟩
theorem pair_nil {vs : List V} (h : Paired R vs ([] : List α)) : vs = [] := by cases h; rfl
theorem pair_perm {vs : List V} {xs : List α} (h : Paired R vs xs) {ws : List V} (p : vs.Perm ws) : ∃ ys, Paired R ws ys ∧ xs.Perm ys := by
  induction p generalizing xs with
  | nil => cases h; exact ⟨[], .nil, .nil⟩
  | cons a _ ih =>
    cases h with
    | cons r t =>
      obtain ⟨ys, h1, h2⟩ := ih t
      exact ⟨_, .cons r h1, h2.cons _⟩
  | swap a b l =>
    cases h with
    | cons r t =>
      cases t with
      | cons r' t => exact ⟨_, .cons r' (.cons r t), .swap _ _ _⟩
  | trans _ _ i1 i2 =>
    obtain ⟨ys, h1, h2⟩ := i1 h
    obtain ⟨zs, h3, h4⟩ := i2 h1
    exact ⟨zs, h3, h2.trans h4⟩
theorem fold_take {β : Type} (f : β → α → β) (a : β) {xs : List α} {i : Nat} {x : α} (h : xs[i]? = some x) : (xs.take (i + 1)).foldl f a = f ((xs.take i).foldl f a) x := by
  obtain ⟨h1, h2⟩ := List.getElem?_eq_some_iff.mp h
  rw [List.take_succ_eq_append_getElem h1, List.foldl_append, h2]
  rfl
end
/-! pieces -/
def nV : Option Str → V
  | none => .non
  | some n => .str n
def PcG {N : Type} (f : N → V) (K : PySem.W.Frag) (H : Hp) (v : V) (p : Pc N) : Prop := ∃ a st en sp, v = .ref a ∧ SqT K H a [st, en, f p.nm, sp] ∧ RatV K H st p.st ∧ RatV K H en p.en ∧ RatV K H sp p.sp
abbrev PcV (K : PySem.W.Frag) (H : Hp) (v : V) (p : Pc Str) : Prop := PcG V.str K H v p
abbrev SpV (K : PySem.W.Frag) (H : Hp) (v : V) (p : Pc (Option Str)) : Prop := PcG nV K H v p
/-- tuples are kept -/
def Tup (K : PySem.W.Frag) (H H' : Hp) : Prop := ∀ a xs, SqT K H a xs → SqT K H' a xs
theorem Tup.refl (K : PySem.W.Frag) (H : Hp) : Tup K H H := fun _ _ h => h
theorem Tup.trans {K : PySem.W.Frag} {H H1 H2 : Hp} (a : Tup K H H1) (b : Tup K H1 H2) : Tup K H H2 := fun c x h => b c x (a c x h)
theorem Tup.same {K : PySem.W.Frag} {H H' : Hp} (e : Same H H') : Tup K H H' := fun _ _ h => sqT_same e h
theorem Tup.upd {K : PySem.W.Frag} {H : Hp} {l : Addr} {o : HO} (h : ∀ xs, ¬ Rd H l (.tup xs)) : Tup K H (upd H l o) := fun a xs q => by
  rcases q with q | q
  · have hne : a ≠ l := fun z => by subst z; exact h xs q
    rcases q with q | ⟨u, q⟩
    · exact .inl (.inl (by rw [upd_ne hne]; exact q))
    · exact .inl (.inr ⟨u, by rw [upd_ne hne]; exact q⟩)
  · exact .inr q
theorem Tup.lst {K : PySem.W.Frag} {H : Hp} {l : Addr} {o : HO} {vs : List V} (h : H l = some (.lst vs)) : Tup K H (L2.upd H l o) := Tup.upd fun xs q => by
  rcases q with q | ⟨u, q⟩ <;> rw [h] at q <;> cases q
theorem Tup.new {K : PySem.W.Frag} {H : Hp} {l : Addr} {o : HO} (h : H l = none) : Tup K H (L2.upd H l o) := Tup.upd fun xs q => by
  rcases q with q | ⟨u, q⟩ <;> rw [h] at q <;> cases q
theorem Tup.dic {K : PySem.W.Frag} {H : Hp} {l : Addr} {o : HO} {vs : List (Key × V)} (h : H l = some (.dK vs)) : Tup K H (L2.upd H l o) := Tup.upd fun xs q => by
  rcases q with q | ⟨u, q⟩ <;> rw [h] at q <;> cases q
theorem RatV.tup {K : PySem.W.Frag} {H H' : Hp} {v : V} {q : Rat} (e : Tup K H H') (h : RatV K H v q) : RatV K H' v q := by
  obtain ⟨p, rfl, h⟩ := h
  exact ⟨p, rfl, e _ _ h⟩
theorem PcG.tup {N : Type} {f : N → V} {K : PySem.W.Frag} {H H' : Hp} {v : V} {p : Pc N} (e : Tup K H H') (h : PcG f K H v p) : PcG f K H' v p := by
  obtain ⟨a, st, en, sp, rfl, h, h1, h2, h3⟩ := h
  exact ⟨a, st, en, sp, rfl, e _ _ h, h1.tup e, h2.tup e, h3.tup e⟩
theorem pcs_tup {N : Type} {f : N → V} {K : PySem.W.Frag} {H H' : Hp} {vs : List V} {ps : List (Pc N)} (e : Tup K H H') (h : Paired (PcG f K H) vs ps) : Paired (PcG f K H') vs ps := pair_mono (fun _ _ q => q.tup e) h
/-- a list that stood anew is changed: what stood before stays -/
theorem same_upd {H0 H : Hp} {l : Addr} {o : HO} (s : Same H0 H) (h : H0 l = none) : Same H0 (upd H l o) := fun b u e => by
  rw [upd_ne (ne_of_none e h)]
  exact s b u e
theorem app_tup {K : PySem.W.Frag} {H0 H2 : Hp} {p t : Addr} {ws xs : List V} (s : Same H0 H2) (np : H0 p = none) (hw : H2 p = some (.lst ws)) (ht : H2 t = none) :
    (upd H2 t (.tup xs)) p = some (.lst ws) ∧ Same H0 (upd (upd H2 t (.tup xs)) p (.lst (ws ++ [.ref t]))) ∧ Tup K H2 (upd (upd H2 t (.tup xs)) p (.lst (ws ++ [.ref t]))) ∧
      (upd (upd H2 t (.tup xs)) p (.lst (ws ++ [.ref t]))) p = some (.lst (ws ++ [.ref t])) ∧ SqT K (upd (upd H2 t (.tup xs)) p (.lst (ws ++ [.ref t]))) t xs := by
  have hp1 : (upd H2 t (.tup xs)) p = some (.lst ws) := by rw [upd_ne (ne_of_none hw ht)]; exact hw
  exact ⟨hp1, same_upd (s.trans (same_new ht)) np, (Tup.new ht).trans (Tup.lst hp1), upd_same, Tup.lst hp1 _ _ (SqT.of upd_same)⟩
theorem app_val {K : PySem.W.Frag} {H0 H2 : Hp} {p : Addr} {ws : List V} {v : V} (s : Same H0 H2) (np : H0 p = none) (hw : H2 p = some (.lst ws)) :
    Same H0 (upd H2 p (.lst (ws ++ [v]))) ∧ Tup K H2 (upd H2 p (.lst (ws ++ [v]))) ∧ (upd H2 p (.lst (ws ++ [v]))) p = some (.lst (ws ++ [v])) :=
  ⟨same_upd s np, Tup.lst hw, upd_same⟩
theorem small {n : Nat} (h : n ≤ 1000000) : n < sizeLine := Nat.lt_of_le_of_lt h (by decide)
theorem small' {n : Nat} (h : n ≤ 1000000) : n ≤ sizeLine := Nat.le_of_lt (small h)
/-- the module's (0, 1) -/
def ZeroG (K : PySem.W.Frag) (mg : Str → Option Value) : Prop := ∃ z, mg "ZERO" = some (.ref z) ∧ ∀ H, SqT K H z [.int 0, .int 1]
theorem zero_rat {K : PySem.W.Frag} {H : Hp} {z : Addr} (h : SqT K H z [.int 0, .int 1]) : RatV K H (.ref z) 0 := ⟨z, rfl, h⟩
/-! the slots of a comprehension's names, forgotten behind it -/
theorem wipe_get (σ : L2.St) (j : Nat) : ∀ vs : List Nat, (wipe σ vs)[j]? = if j ∈ vs then (σ[j]?).map (fun _ => none) else σ[j]?
  | [] => by simp [wipe]
  | v :: vs => by
    have ih := wipe_get σ j vs
    have e : wipe σ (v :: vs) = (wipe σ vs).set v none := rfl
    rw [e, List.getElem?_set]
    by_cases h : v = j
    · subst h
      have hl := wipe_length σ vs
      simp only [if_true, List.mem_cons, true_or]
      by_cases hv : v < σ.length
      · rw [if_pos (by omega)]
        simp [hv]
      · rw [if_neg (by omega)]
        simp [List.getElem?_eq_none (Nat.le_of_not_lt hv)]
    · rw [if_neg h, ih]
      have : j ∈ v :: vs ↔ j ∈ vs := by simp [Ne.symm h]
      by_cases hj : j ∈ vs
      · rw [if_pos hj, if_pos (this.mpr hj)]
      · rw [if_neg hj, if_neg (fun z => hj (this.mp z))]
theorem wp0 (σ : L2.St) (vs : List Nat) : wipe (wipe σ vs) vs = wipe σ vs := by
  apply List.ext_getElem?
  intro j
  rw [wipe_get, wipe_get]
  by_cases h : j ∈ vs
  · rw [if_pos h, if_pos h, Option.map_map]
    rfl
  · rw [if_neg h, if_neg h]
theorem wp {σ τ : L2.St} {vs : List Nat} {i : Nat} {x : Option V} (e : wipe σ vs = τ) (h : i ∈ vs := by simp) : wipe (σ.set i x) vs = τ := by
  rw [← e]
  apply List.ext_getElem?
  intro j
  rw [wipe_get, wipe_get]
  by_cases hj : j ∈ vs
  · rw [if_pos hj, if_pos hj, List.getElem?_set]
    by_cases hi : i = j
    · subst hi
      rw [if_pos rfl]
      by_cases hl : i < σ.length
      · simp [hl]
      · simp [hl]
    · rw [if_neg hi]
  · rw [if_neg hj, if_neg hj, List.getElem?_set_ne (fun z => hj (by rw [← z]; exact h))]
theorem tyes {σ : L2.St} {H : Hp} {Q : Bool → Hp → Prop} (h : Q true H) : tYes σ H Q := h
end SW

set_option Elab.async false
set_option linter.all false
set_option maxRecDepth 100000
set_option maxHeartbeats 4000000
set_option exponentiation.threshold 300
namespace SW
open PySem PySem.Spec PyProof.Rows L2
theorem two_ok : ([.int 0, .int 1] : List V).length ≤ sizeLine := by decide
section
variable {P : Program} {w : World} {K : PySem.W.Frag} {mg : Str → Option Value} {base : Heap}
/-- a function of a piece -/
def spLen (N : Type) (f : N → V) (K : PySem.W.Frag) : Sp := fun vs H Q _ => ∃ v p, vs = [v] ∧ PcG (N := N) f K H v p ∧ Sm p.st ∧ Sm p.en ∧ ∀ r H', Same H H' → RatV K H' r (p.en - p.st) → Q r H'
def spWork (N : Type) (f : N → V) (K : PySem.W.Frag) : Sp := fun vs H Q _ => ∃ v p, vs = [v] ∧ PcG (N := N) f K H v p ∧ Sm p.st ∧ Sm p.en ∧ Sm p.sp ∧ Sm (p.en - p.st) ∧ ∀ r H', Same H H' → RatV K H' r (p.sp * (p.en - p.st)) → Q r H'
theorem scLength : FnScope ["piece"] ["piece"] (defScope (top 13)) := ⟨rfl, rfl, rfl, by decide +kernel, rfl, by decide +kernel, by decide +kernel⟩
theorem scWork : FnScope ["piece"] ["piece"] (defScope (top 14)) := ⟨rfl, rfl, rfl, by decide +kernel, rfl, by decide +kernel, by decide +kernel⟩
theorem ok_length {N : Type} {f : N → V} (T : TF K mg "length" (top 13) ["piece"]) (M : Def P w K mg base "minus" ["a", "b"] [] 2 (spR2 K (· - ·) C2)) : Def P w K mg base "length" ["piece"] [] 3 (spLen N f K) := by
  refine T.ok scLength (fun vs H Q E h => ?_) (fun f cdv A outer s H vs Q E hr h => ⟨_, pss_one (ps_ret (pe_def M hr (pa_cons (pe_ix ix_tup (pv 0) pe_int (fun _ _ => rfl)) (pa_cons (pe_ix ix_tup (pv 0) pe_int (fun _ _ => rfl)) pa_nil)))), ?_⟩)
  · obtain ⟨_, _, rfl, _⟩ := h
    rfl
  · obtain ⟨_, p, rfl, ⟨a, st, en, sp, rfl, ha, h1, h2, h3⟩, s1, s2, k⟩ := h
    refine ⟨_, rfl, a, _, _, _, rfl, rfl, ha, rfl, _, rfl, a, _, _, _, rfl, rfl, ha, rfl, ?_⟩
    exact ⟨en, st, p.en, p.st, rfl, h2, h1, ⟨s2, s1⟩, k⟩
theorem ok_work {N : Type} {f : N → V} (T : TF K mg "work_of" (top 14) ["piece"]) (M : Def P w K mg base "times" ["a", "b"] [] 2 (spR2 K (· * ·) C2)) (L : Def P w K mg base "length" ["piece"] [] 3 (spLen N f K)) : Def P w K mg base "work_of" ["piece"] [] 4 (spWork N f K) := by
  refine T.ok scWork (fun vs H Q E h => ?_) (fun f cdv A outer s H vs Q E hr h => ⟨_, pss_one (ps_ret (pe_def M (hr.mono (by decide)) (pa_cons (pe_ix ix_tup (pv 0) pe_int (fun _ _ => rfl)) (pa_cons (pe_def L (hr.mono (by decide)) (pa_cons (pv 0) pa_nil)) pa_nil)))), ?_⟩)
  · obtain ⟨_, _, rfl, _⟩ := h
    rfl
  · obtain ⟨v, p, rfl, hp, s1, s2, s3, s4, k⟩ := h
    have ⟨a, st, en, sp, e, ha, h1, h2, h3⟩ := hp
    refine ⟨_, rfl, a, _, _, _, e, rfl, ha, rfl, _, rfl, v, p, rfl, hp, s1, s2, fun r H1 e1 r1 => ?_⟩
    exact ⟨sp, r, p.sp, p.en - p.st, rfl, h3.same e1, r1, ⟨s3, s4⟩, fun r' H2 e2 r2 => k r' H2 (e1.trans e2) r2⟩
/-! tidy -/
theorem scTidy : FnScope ["plan", "pieces", "start", "end", "name", "speed"] ["plan"] (defScope (top 15)) := ⟨rfl, rfl, rfl, by decide +kernel, rfl, by decide +kernel, by decide +kernel⟩
def spTidy (K : PySem.W.Frag) : Sp := fun vs H Q _ => ∃ l us ps, vs = [.ref l] ∧ SqL K H l us ∧ Paired (PcV K H) us ps ∧ (∀ p ∈ ps, PyData.strOk p.nm = true) ∧ ps.length ≤ 100000 ∧ ∀ r H' ws, Same H H' → SqT K H' r ws → Paired (PcV K H') ws (tidy ps) → Q (.ref r) H'
theorem td_len : ∀ (ps acc : List (Pc Str)), (ps.foldl tdStep acc).length ≤ acc.length + ps.length
  | [], acc => by simp
  | p :: r, acc => by
    rw [List.foldl_cons]
    have ih := td_len r (tdStep acc p)
    have : (tdStep acc p).length ≤ acc.length + 1 := by
      rcases td_cases acc p with e | ⟨dl, q, ea, _, _, _, e⟩
      · rw [e]; simp
      · rw [e, ea]; simp
    simp only [List.length_cons]
    omega
def pieceD (p : Pc Str) : PyData := .tuple [.str p.nm, ratD p.sp]
theorem piece_shaped {p : Pc Str} (h : PyData.strOk p.nm = true) : SeqAt.shaped (pieceD p) = true := by
  have : SeqAt.shaped (pieceD p) = (PyData.strOk p.nm && true) := by
    simp [SeqAt.shaped, pieceD, ratD, PyData.canLay0, PyData.canLayAll0, PyData.depth, PyData.depthAll]
  rw [this, h]
  rfl
theorem piece_eqv (p q : Pc Str) : PyData.eqv (pieceD p) (pieceD q) = decide (p.nm = q.nm ∧ p.sp = q.sp) := by
  unfold pieceD
  have := rat_eqv p.sp q.sp
  simp only [PyData.eqv, PyData.eqvAll, Bool.and_true]
  rw [this, Bool.eq_iff_iff]
  simp only [Bool.and_eq_true, beq_iff_eq, decide_eq_true_eq]

theorem td_nil (p : Pc Str) : tdStep [] p = [p] := rfl
theorem td_last (dl : List (Pc Str)) (q p : Pc Str) : tdStep (dl ++ [q]) p = if q.en = p.st ∧ q.nm = p.nm ∧ q.sp = p.sp then dl ++ [⟨q.st, p.en, p.nm, p.sp⟩] else (dl ++ [q]) ++ [p] := by
  unfold tdStep
  rw [List.getLast?_append]
  simp only [List.getLast?_singleton, Option.some_or, List.dropLast_concat]
theorem snoc_cases {α : Type} : ∀ l : List α, l = [] ∨ ∃ a b, l = a ++ [b]
  | [] => .inl rfl
  | a :: r => by
    rcases snoc_cases r with e | ⟨x, y, e⟩
    · exact .inr ⟨[], a, by rw [e]; rfl⟩
    · exact .inr ⟨a :: x, y, by rw [e]; rfl⟩
theorem ok_tidy (T : TF K mg "tidy" (top 15) ["plan"]) (gT : mg "tuple" = none) : Def P w K mg base "tidy" ["plan"] [] 1 (spTidy K) := by
  refine T.ok scTidy (fun vs H Q E h => ?_) (fun f cdv A outer s H vs Q E hr h => ⟨_, pss_cons (ps_set (i := 1) scTidy.nd rfl (.inl rfl) (pe_lst pa_nil))
    (pss_cons (ps_for PassesOwn.never rfl (pi_list (pv 0)) (pg_tup rfl (pgs_cons (pg_name (i := 2) scTidy.nd rfl (.inl rfl)) (pgs_cons (pg_name (i := 3) scTidy.nd rfl (.inl rfl)) (pgs_cons (pg_name (i := 4) scTidy.nd rfl (.inl rfl)) (pgs_cons (pg_name (i := 5) scTidy.nd rfl (.inl rfl)) pgs_nil)))))
      (pss_cons (ps_if (PW.pt (pw_and (pt_truth (pv 1) (by intro _; rfl)) (pw_and (pt_cmpR (op_eqD hr.units) (pe_ix ix_tup (pe_ix ix_list (pv 1) (pe_un un_neg pe_int) (fun _ _ => rfl)) pe_int (fun _ _ => rfl)) (pv 2) (nomark _))
          (pw_and1 (pt_cmpR (op_eqD hr.units) (pe_slice sl_tup (pe_ix ix_list (pv 1) (pe_un un_neg pe_int) (fun _ _ => rfl)) (po_some pe_int) po_none) (pe_tup (pa_cons (pv 4) (pa_cons (pv 5) pa_nil))) (nomark _))))))
        (pss_one (ps_set (i := 2) scTidy.nd rfl (.inl rfl) (pe_ix ix_tup (pe_bm0 PySem.F.plainAttrs_list PySem.F.slot_list_pop PySem.F.type_list_pop mt_pop (pv 1)) pe_int (fun _ _ => rfl)))) pss_nil)
      (pss_one (ps_expr (pe_bm PySem.F.plainAttrs_list PySem.F.slot_list_append PySem.F.type_list_append mt_append (pv 1) (pa_cons (pe_tup (pa_cons (pv 2) (pa_cons (pv 3) (pa_cons (pv 4) (pa_cons (pv 5) pa_nil))))) pa_nil))))))
    (pss_one (ps_ret (pe_callTy call_tuple_of (by rfl) gT (by decide +kernel) (pa_cons (pv 1) pa_nil))))), ?_⟩)
  · obtain ⟨_, _, _, rfl, _⟩ := h
    rfl
  · obtain ⟨l, us, ps, rfl, hl, hp, hok, hlen, k⟩ := h
    refine ⟨Nat.zero_le _, fun p np => ?_⟩
    have hS := same_new (o := .lst []) np
    refine ⟨_, rfl, l, rfl, ⟨_, hS.seq hl⟩, for_list (K := K) (a := l) (xs := us) (fun i σ H' => ∃ vs o2 o3 o4 o5, σ = [some (.ref l), some (.ref p), o2, o3, o4, o5] ∧ Same H H' ∧ H' p = some (.lst vs) ∧ Paired (PcV K H') vs ((ps.take i).foldl tdStep []))
      ⟨[], none, none, none, none, rfl, hS, upd_same, .nil⟩ (fun i σ H' _ ⟨_, _, _, _, _, _, e, _⟩ => e.seq hl) ?_ ?_⟩
    · rintro i x σ H' hi ⟨vs, o2, o3, o4, o5, rfl, e, hv, hpr⟩
      obtain ⟨pc, hpc, a, st, en, sp, rfl, ha, h1, h2, h3⟩ := pair_get hp hi
      have ha' := sqT_same e ha
      have h1' := h1.same e
      have h2' := h2.same e
      have h3' := h3.same e
      have hmem : pc ∈ ps := List.mem_of_getElem? hpc
      have hfold := fold_take tdStep [] hpc
      refine ⟨a, _, rfl, ha', rfl, _, _, rfl, _, _, rfl, _, _, rfl, _, _, rfl, rfl, ?_⟩
      -- what is put behind
      have fin : ∀ (H2 : Hp) (ws : List V) (st' : V) (q : Rat) (acc : List (Pc Str)), Same H H2 → Tup K H' H2 → H2 p = some (.lst ws) → Paired (PcV K H2) ws acc → RatV K H2 st' q → acc ++ [⟨q, pc.en, pc.nm, pc.sp⟩] = (ps.take (i + 1)).foldl tdStep [] →
          ∀ t, H2 t = none → ∃ l2 xs y, V.ref p = V.ref l2 ∧ [V.ref t] = [y] ∧ (upd H2 t (.tup [st', en, .str pc.nm, sp])) l2 = some (.lst xs) ∧ xs.length < sizeLine ∧
            ∃ vs o2 o3 o4 o5, [some (V.ref l), some (.ref p), some st', some en, some (.str pc.nm), some sp] = [some (.ref l), some (.ref p), o2, o3, o4, o5] ∧ Same H (upd (upd H2 t (.tup [st', en, .str pc.nm, sp])) l2 (.lst (xs ++ [y]))) ∧ (upd (upd H2 t (.tup [st', en, .str pc.nm, sp])) l2 (.lst (xs ++ [y]))) p = some (.lst vs) ∧ Paired (PcV K (upd (upd H2 t (.tup [st', en, .str pc.nm, sp])) l2 (.lst (xs ++ [y])))) vs ((ps.take (i + 1)).foldl tdStep []) := by
        intro H2 ws st' q acc s2 t2 hw hacc hst hf t ht
        have npt : p ≠ t := ne_of_none hw ht
        have T1 : Tup K H2 (upd H2 t (.tup [st', en, .str pc.nm, sp])) := Tup.new ht
        have hp1 : (upd H2 t (.tup [st', en, .str pc.nm, sp])) p = some (.lst ws) := by rw [upd_ne npt]; exact hw
        have T2 := T1.trans (Tup.lst (o := .lst (ws ++ [.ref t])) hp1)
        refine ⟨p, ws, .ref t, rfl, rfl, hp1, ?_, ws ++ [.ref t], _, _, _, _, rfl, same_upd (s2.trans (same_new ht)) np, upd_same, ?_⟩
        · have h4 := pair_len hacc
          have h5 := td_len (ps.take (i + 1)) []
          rw [← hf] at h5
          simp only [List.length_append, List.length_cons, List.length_nil] at h5
          have h6 : (ps.take (i + 1)).length ≤ ps.length := by rw [List.length_take]; omega
          exact Nat.lt_of_lt_of_le (show ws.length < 100001 by omega) (by decide)
        · rw [← hf]
          exact pair_snoc (pcs_tup T2 hacc) ⟨t, st', en, sp, rfl, (Tup.lst (o := .lst (ws ++ [.ref t])) hp1) _ _ (SqT.of upd_same), hst.tup T2, (h2'.tup t2).tup T2, (h3'.tup t2).tup T2⟩
      have hacc : (ps.take i).foldl tdStep [] = [] ∨ ∃ dl q, (ps.take i).foldl tdStep [] = dl ++ [q] := snoc_cases _
      rcases hacc with hacc | ⟨dl, q, hacc⟩
      · -- no piece yet
        rw [hacc] at hpr hfold
        have hv0 := pair_nil hpr
        subst hv0
        refine ⟨_, rfl, false, .inl ⟨[], SqL.of hv, rfl⟩, iteF (iteF ?_)⟩
        refine ⟨_, rfl, .inl ⟨rfl, _, SqL.of hv⟩, _, rfl, _, rfl, _, rfl, _, rfl, (by show 4 ≤ sizeLine; decide), ?_⟩
        exact fin H' [] st pc.st [] e (Tup.refl _ _) hv .nil h1' (by rw [hfold]; rfl)
      · rw [hacc] at hpr hfold
        rw [td_last] at hfold
        obtain ⟨ws, v, rfl, hws, b, st0, en0, sp0, rfl, hb, g1, g2, g3⟩ := pair_last hpr
        have hqok : PyData.strOk q.nm = true := by
          have := td_all (φ := fun p => PyData.strOk p.nm = true) (fun p q hp hq _ _ _ => hp) (ps.take i) [] (fun p hp => hok p (List.mem_of_mem_take (by simpa using hp)))
          exact this q (by rw [hacc]; simp)
        refine ⟨_, rfl, true, .inl ⟨_, SqL.of hv, by simp⟩, iteT ?_⟩
        refine ⟨_, rfl, _, rfl, p, _, _, _, rfl, rfl, SqL.of hv, atI_last _ _, b, _, _, en0, rfl, rfl, hb, rfl, _, rfl, ratD q.en, ratD pc.st, g2.dp, h1'.dp, rat_shaped _, rat_shaped _, _, rfl, ?_⟩
        rw [rat_eqv]
        by_cases c1 : q.en = pc.st
        · rw [decide_eq_true c1]
          refine iteT ?_
          refine ⟨_, rfl, _, rfl, p, _, _, _, rfl, rfl, SqL.of hv, atI_last _ _, _, rfl, b, _, rfl, hb, (by show ¬ (2 = 0 ∧ _); omega), fun t1 ht1 => ?_⟩
          refine ⟨_, rfl, _, rfl, (by show 2 ≤ sizeLine; decide), fun t2 ht2 => ?_⟩
          have n12 : t1 ≠ t2 := fun z => by subst z; rw [upd_same] at ht2; cases ht2
          have ht2' : H' t2 = none := by rw [upd_ne n12.symm] at ht2; exact ht2
          have S2 : Same H' (upd (upd H' t1 (.tup (cutV [st0, en0, .str q.nm, sp0] (some 2) none))) t2 (.tup [.str pc.nm, sp])) := (same_new ht1).trans (same_new ht2)
          have hv2 := S2 _ _ hv
          refine ⟨pieceD q, pieceD pc, .tup (SqT.of (by rw [upd_ne n12]; exact upd_same)) (.cons (.str _) (.cons (g3.same S2).dp .nil)), .tup (SqT.of upd_same) (.cons (.str _) (.cons (h3'.same S2).dp .nil)), piece_shaped hqok, piece_shaped (hok pc hmem), _, rfl, ?_⟩
          rw [piece_eqv]
          by_cases c2 : q.nm = pc.nm ∧ q.sp = pc.sp
          · rw [decide_eq_true c2]
            refine iteT ?_
            refine ⟨_, rfl, .inl ⟨rfl, _, SqL.of hv2⟩, p, _, V.ref b, rfl, rfl, hv2, (by simp), ?_⟩
            have T3 : Tup K H' (upd (upd (upd H' t1 (.tup (cutV [st0, en0, .str q.nm, sp0] (some 2) none))) t2 (.tup [.str pc.nm, sp])) p (.lst (ws ++ [V.ref b]).dropLast)) := (Tup.same S2).trans (Tup.lst hv2)
            have S3 := same_upd (o := .lst (ws ++ [V.ref b]).dropLast) (e.trans S2) np
            refine ⟨b, _, _, st0, rfl, rfl, T3 _ _ hb, rfl, ?_⟩
            have hw3 : (upd (upd (upd H' t1 (.tup (cutV [st0, en0, .str q.nm, sp0] (some 2) none))) t2 (.tup [.str pc.nm, sp])) p (.lst (ws ++ [V.ref b]).dropLast)) p = some (.lst ws) := by rw [upd_same, List.dropLast_concat]
            refine ⟨_, rfl, .inl ⟨rfl, _, SqL.of hw3⟩, _, rfl, _, rfl, _, rfl, _, rfl, (by show 4 ≤ sizeLine; decide), ?_⟩
            refine fin _ ws st0 q.st dl S3 T3 hw3 (pcs_tup T3 hws) (g1.tup T3) ?_
            rw [hfold, if_pos ⟨c1, c2⟩]
          · rw [decide_eq_false c2]
            refine iteF ?_
            refine ⟨_, rfl, .inl ⟨rfl, _, SqL.of hv2⟩, _, rfl, _, rfl, _, rfl, _, rfl, (by show 4 ≤ sizeLine; decide), ?_⟩
            refine fin _ _ st pc.st (dl ++ [q]) (e.trans S2) (Tup.same S2) hv2 (pcs_tup (Tup.same S2) hpr) (h1'.same S2) ?_
            rw [hfold, if_neg (fun z => c2 z.2)]
        · rw [decide_eq_false c1]
          refine iteF (iteF ?_)
          refine ⟨_, rfl, .inl ⟨rfl, _, SqL.of hv⟩, _, rfl, _, rfl, _, rfl, _, rfl, (by show 4 ≤ sizeLine; decide), ?_⟩
          refine fin H' _ st pc.st (dl ++ [q]) e (Tup.refl _ _) hv hpr h1' ?_
          rw [hfold, if_neg (fun z => c1 z.1)]
    · rintro σ H' ⟨vs, o2, o3, o4, o5, rfl, e, hv, hpr⟩
      have hl : ps.take us.length = ps := by rw [pair_len hp]; exact List.take_length
      rw [hl] at hpr
      refine ⟨_, rfl, p, _, rfl, .inl ⟨SqL.of hv, fun r hr => ?_⟩⟩
      exact k r _ vs (e.trans (same_new hr)) (SqT.of upd_same) (pcs_tup (Tup.new hr) hpr)
end
end SW

set_option Elab.async false
set_option linter.all false
set_option maxRecDepth 100000
set_option maxHeartbeats 4000000
set_option exponentiation.threshold 300
namespace SW
open PySem PySem.Spec PyProof.Rows L2
section
variable {P : Program} {w : World} {K : PySem.W.Frag} {mg : Str → Option Value} {base : Heap}
theorem scStr : FnScope ["plan", "begin", "end", "found", "at", "start", "stop", "name", "speed"] ["plan", "begin", "end"] (defScope (top 16)) := ⟨rfl, rfl, rfl, by decide +kernel, rfl, by decide +kernel, by decide +kernel⟩
def spStr (K : PySem.W.Frag) : Sp := fun vs H Q _ => ∃ l us ps vb ve b e, vs = [.ref l, vb, ve] ∧ SqT K H l us ∧ Paired (PcV K H) us ps ∧ (∀ p ∈ ps, Sm p.st ∧ Sm p.en) ∧ RatV K H vb b ∧ RatV K H ve e ∧ Sm b ∧ Sm e ∧ ps.length ≤ 100000 ∧
  ∀ r H' ws, Same H H' → H r = none → H' r = some (.lst ws) → Paired (SpV K H') ws (stretches ps b e) → Q (.ref r) H'
theorem str_len (b e : Rat) : ∀ (ps : List (Pc Str)) (s : List (Pc (Option Str)) × Rat), (ps.foldl (strStep b e) s).1.length ≤ s.1.length + 2 * ps.length
  | [], s => by simp
  | p :: r, s => by
    rw [List.foldl_cons]
    have ih := str_len b e r (strStep b e s p)
    have : (strStep b e s p).1.length ≤ s.1.length + 2 := by
      unfold strStep
      split
      · simp only [List.length_append, List.length_cons, List.length_nil]
        split <;> simp
      · omega
    simp only [List.length_cons]
    omega
theorem rmax_sm {a b : Rat} (ha : Sm a) (hb : Sm b) : Sm (rmax a b) := by unfold rmax; split <;> assumption
theorem rmin_sm {a b : Rat} (ha : Sm a) (hb : Sm b) : Sm (rmin a b) := by unfold rmin; split <;> assumption
theorem str_at_sm (b e : Rat) (hb : Sm b) (he : Sm e) : ∀ (ps : List (Pc Str)) (s : List (Pc (Option Str)) × Rat), Sm s.2 → (∀ p ∈ ps, Sm p.st ∧ Sm p.en) → Sm (ps.foldl (strStep b e) s).2
  | [], s, h, _ => h
  | p :: r, s, h, hp => by
    rw [List.foldl_cons]
    apply str_at_sm b e hb he r _ _ fun q hq => hp q (List.mem_cons_of_mem _ hq)
    unfold strStep
    split
    · exact rmin_sm (hp p List.mem_cons_self).2 he
    · exact h
theorem ok_str (T : TF K mg "stretches" (top 16) ["plan", "begin", "end"]) (Z : ZeroG K mg) (L : Def P w K mg base "less" ["a", "b"] [] 1 (spLess K)) (Mn : Def P w K mg base "least" ["a", "b"] [] 2 (spMin K rmin)) (Mx : Def P w K mg base "greatest" ["a", "b"] [] 2 (spMin K rmax)) :
    Def P w K mg base "stretches" ["plan", "begin", "end"] [] 3 (spStr K) := by
  obtain ⟨z, gz, hz⟩ := Z
  refine T.ok scStr (fun vs H Q E h => ?_) (fun f cdv A outer s H vs Q E hr h => ⟨_, pss_cons (ps_set (i := 3) scStr.nd rfl (.inl rfl) (pe_lst pa_nil))
    (pss_cons (ps_set (i := 4) scStr.nd rfl (.inl rfl) (pv 1))
    (pss_cons (ps_for PassesOwn.never rfl (pi_tup (pv 0)) (pg_tup rfl (pgs_cons (pg_name (i := 5) scStr.nd rfl (.inl rfl)) (pgs_cons (pg_name (i := 6) scStr.nd rfl (.inl rfl)) (pgs_cons (pg_name (i := 7) scStr.nd rfl (.inl rfl)) (pgs_cons (pg_name (i := 8) scStr.nd rfl (.inl rfl)) pgs_nil)))))
      (pss_cons (ps_par (i := 5) (j := 6) rfl scStr.nd rfl rfl (by decide) rfl rfl (pa_cons (pe_def Mx hr (pa_cons (pv 5) (pa_cons (pv 1) pa_nil))) (pa_cons (pe_def Mn hr (pa_cons (pv 6) (pa_cons (pv 2) pa_nil))) pa_nil)) (by rfl))
      (pss_one (ps_if (pt_val (pe_def L (hr.mono (by decide)) (pa_cons (pv 5) (pa_cons (pv 6) pa_nil))))
        (pss_cons (ps_if (pt_val (pe_def L (hr.mono (by decide)) (pa_cons (pv 4) (pa_cons (pv 5) pa_nil))))
            (pss_one (ps_expr (pe_bm PySem.F.plainAttrs_list PySem.F.slot_list_append PySem.F.type_list_append mt_append (pv 3) (pa_cons (pe_tup (pa_cons (pv 4) (pa_cons (pv 5) (pa_cons pe_non (pa_cons (pe_glob (by rfl) gz (v := .ref z) rfl) pa_nil))))) pa_nil)))) pss_nil)
        (pss_cons (ps_expr (pe_bm PySem.F.plainAttrs_list PySem.F.slot_list_append PySem.F.type_list_append mt_append (pv 3) (pa_cons (pe_tup (pa_cons (pv 5) (pa_cons (pv 6) (pa_cons (pv 7) (pa_cons (pv 8) pa_nil))))) pa_nil)))
        (pss_one (ps_set (i := 4) scStr.nd rfl (.inl rfl) (pv 6))))) pss_nil))))
    (pss_cons (ps_if (pt_val (pe_def L (hr.mono (by decide)) (pa_cons (pv 4) (pa_cons (pv 2) pa_nil))))
            (pss_one (ps_expr (pe_bm PySem.F.plainAttrs_list PySem.F.slot_list_append PySem.F.type_list_append mt_append (pv 3) (pa_cons (pe_tup (pa_cons (pv 4) (pa_cons (pv 2) (pa_cons pe_non (pa_cons (pe_glob (by rfl) gz (v := .ref z) rfl) pa_nil))))) pa_nil)))) pss_nil)
    (pss_one (ps_ret (pv 3)))))), ?_⟩)
  · obtain ⟨_, _, _, _, _, _, _, rfl, _⟩ := h
    rfl
  · obtain ⟨l, us, ps, vb, ve, b, e, rfl, hl, hp, hsm, hb, he, sb, se, hlen, k⟩ := h
    refine ⟨Nat.zero_le _, fun p np => ⟨_, rfl, ?_⟩⟩
    have hS := same_new (o := .lst []) np
    refine ⟨_, rfl, l, rfl, ⟨_, sqT_same hS hl⟩, for_tup (K := K) (a := l) (xs := us) (fun i σ H' => ∃ vs va o5 o6 o7 o8, σ = [some (.ref l), some vb, some ve, some (.ref p), some va, o5, o6, o7, o8] ∧ Same H H' ∧ H' p = some (.lst vs) ∧
        Paired (SpV K H') vs ((ps.take i).foldl (strStep b e) ([], b)).1 ∧ RatV K H' va ((ps.take i).foldl (strStep b e) ([], b)).2)
      ⟨[], vb, none, none, none, none, rfl, hS, upd_same, .nil, hb.same hS⟩ (fun i σ H' _ ⟨_, _, _, _, _, _, _, e, _⟩ => sqT_same e hl) ?_ ?_⟩
    · rintro i x σ H' hi ⟨vs, va, o5, o6, o7, o8, rfl, S, hv, hpr, hva⟩
      obtain ⟨pc, hpc, a, st, en, sp, rfl, ha, h1, h2, h3⟩ := pair_get hp hi
      have hfold := fold_take (strStep b e) ([], b) hpc
      have hmem : pc ∈ ps := List.mem_of_getElem? hpc
      obtain ⟨sst, sen⟩ := hsm pc hmem
      have sat := str_at_sm b e sb se (ps.take i) ([], b) sb fun q hq => hsm q (List.mem_of_mem_take hq)
      have hlen1 := str_len b e (ps.take i) ([], b)
      have hlen2 : (ps.take i).length ≤ ps.length := by rw [List.length_take]; omega
      simp only [List.length_nil] at hlen1
      generalize (ps.take i).foldl (strStep b e) ([], b) = acc at *
      refine ⟨a, _, rfl, sqT_same S ha, rfl, _, _, rfl, _, _, rfl, _, _, rfl, _, _, rfl, rfl, ?_⟩
      refine ⟨_, rfl, _, rfl, st, vb, pc.st, b, rfl, h1.same S, hb.same S, ⟨sst, sb⟩, fun r1 hr1 => ?_⟩
      refine ⟨_, rfl, _, rfl, en, ve, pc.en, e, rfl, h2.same S, he.same S, ⟨sen, se⟩, fun r2 hr2 => ?_⟩
      refine ⟨_, _, rfl, ?_⟩
      refine ⟨_, rfl, _, rfl, r1, r2, _, _, rfl, hr1, hr2, ⟨rmax_sm sst sb, rmin_sm sen se⟩, _, rfl, ?_⟩
      by_cases c : rmax pc.st b < rmin pc.en e
      · rw [decide_eq_true c]
        refine iteT ?_
        refine ⟨_, rfl, _, rfl, va, r1, _, _, rfl, hva, hr1, ⟨sat, rmax_sm sst sb⟩, _, rfl, ?_⟩
        -- behind the first append
        have fin : ∀ (H2 : Hp) (ws : List V) (sps : List (Pc (Option Str))), Same H H2 → Tup K H' H2 → H2 p = some (.lst ws) → Paired (SpV K H2) ws sps → sps.length ≤ 300000 → (sps ++ [⟨rmax pc.st b, rmin pc.en e, some pc.nm, pc.sp⟩], rmin pc.en e) = (ps.take (i + 1)).foldl (strStep b e) ([], b) →
            ∃ v, some (some (V.ref p)) = some (some v) ∧ tyV K "list" v H2 ∧ ∃ v1, some (some r1) = some (some v1) ∧ ∃ v2, some (some r2) = some (some v2) ∧ ∃ v3, some (some (V.str pc.nm)) = some (some v3) ∧ ∃ v4, some (some sp) = some (some v4) ∧ [v1, v2, v3, v4].length ≤ sizeLine ∧
              ∀ t, H2 t = none → ∃ l2 xs y, v = V.ref l2 ∧ [V.ref t] = [y] ∧ (upd H2 t (.tup [v1, v2, v3, v4])) l2 = some (.lst xs) ∧ xs.length < sizeLine ∧
              ∃ v5, some (some r2) = some (some v5) ∧ ∃ vs va o5 o6 o7 o8, [some (V.ref l), some vb, some ve, some (.ref p), some v5, some r1, some r2, some (V.str pc.nm), some sp] = [some (.ref l), some vb, some ve, some (.ref p), some va, o5, o6, o7, o8] ∧ Same H (upd (upd H2 t (.tup [v1, v2, v3, v4])) l2 (.lst (xs ++ [y]))) ∧
                (upd (upd H2 t (.tup [v1, v2, v3, v4])) l2 (.lst (xs ++ [y]))) p = some (.lst vs) ∧ Paired (SpV K (upd (upd H2 t (.tup [v1, v2, v3, v4])) l2 (.lst (xs ++ [y])))) vs ((ps.take (i + 1)).foldl (strStep b e) ([], b)).1 ∧ RatV K (upd (upd H2 t (.tup [v1, v2, v3, v4])) l2 (.lst (xs ++ [y]))) va ((ps.take (i + 1)).foldl (strStep b e) ([], b)).2 := by
          intro H2 ws sps S2 T2 hw hps hln hf
          refine ⟨_, rfl, .inl ⟨rfl, _, SqL.of hw⟩, _, rfl, _, rfl, _, rfl, _, rfl, (by show 4 ≤ sizeLine; decide), fun t ht => ?_⟩
          obtain ⟨a1, a2, a3, a4, a5⟩ := app_tup (K := K) (xs := [r1, r2, .str pc.nm, sp]) S2 np hw ht
          refine ⟨p, ws, .ref t, rfl, rfl, a1, small (by rw [pair_len hps]; omega), _, rfl, _, _, _, _, _, _, rfl, a2, a4, ?_, ?_⟩
          · rw [← hf]
            exact pair_snoc (pcs_tup a3 hps) ⟨t, r1, r2, sp, rfl, a5, hr1.tup (T2.trans a3), hr2.tup (T2.trans a3), (h3.same S).tup (T2.trans a3)⟩
          · rw [← hf]
            exact hr2.tup (T2.trans a3)
        by_cases c2 : acc.2 < rmax pc.st b
        · rw [decide_eq_true c2]
          refine iteT ?_
          refine ⟨_, rfl, .inl ⟨rfl, _, SqL.of hv⟩, _, rfl, _, rfl, (by show 4 ≤ sizeLine; decide), fun t ht => ?_⟩
          obtain ⟨a1, a2, a3, a4, a5⟩ := app_tup (K := K) (xs := [va, r1, .non, .ref z]) S np hv ht
          refine ⟨p, vs, .ref t, rfl, rfl, a1, small (by rw [pair_len hpr]; omega), ?_⟩
          refine fin _ _ (acc.1 ++ [⟨acc.2, rmax pc.st b, none, 0⟩]) a2 a3 a4 (pair_snoc (x := (⟨acc.2, rmax pc.st b, none, 0⟩ : Pc (Option Str))) (pcs_tup a3 hpr) ⟨t, va, r1, .ref z, rfl, a5, hva.tup a3, hr1.tup a3, zero_rat (hz _)⟩) (by simp; omega) ?_
          rw [hfold]
          unfold strStep
          rw [if_pos c, if_pos c2]
        · rw [decide_eq_false c2]
          refine iteF ?_
          refine fin H' vs acc.1 S (Tup.refl _ _) hv hpr (by omega) ?_
          rw [hfold]
          unfold strStep
          rw [if_pos c, if_neg c2]
      · rw [decide_eq_false c]
        refine iteF ?_
        refine ⟨vs, va, _, _, _, _, rfl, S, hv, ?_, ?_⟩
        · rw [hfold]
          unfold strStep
          rw [if_neg c]
          exact hpr
        · rw [hfold]
          unfold strStep
          rw [if_neg c]
          exact hva
    · rintro σ H' ⟨vs, va, o5, o6, o7, o8, rfl, S, hv, hpr, hva⟩
      have hl : ps.take us.length = ps := by rw [pair_len hp]; exact List.take_length
      have sat := str_at_sm b e sb se ps ([], b) sb hsm
      have hlen1 := str_len b e ps ([], b)
      simp only [List.length_nil] at hlen1
      rw [hl] at hpr hva
      have hst : stretches ps b e = strEnd e (ps.foldl (strStep b e) ([], b)) := rfl
      generalize ps.foldl (strStep b e) ([], b) = acc at *
      refine ⟨_, rfl, _, rfl, va, ve, _, _, rfl, hva, he.same S, ⟨sat, se⟩, _, rfl, ?_⟩
      unfold strEnd at hst
      by_cases c2 : acc.2 < e
      · rw [decide_eq_true c2]
        rw [if_pos c2] at hst
        refine iteT ?_
        refine ⟨_, rfl, .inl ⟨rfl, _, SqL.of hv⟩, _, rfl, _, rfl, (by show 4 ≤ sizeLine; decide), fun t ht => ?_⟩
        obtain ⟨a1, a2, a3, a4, a5⟩ := app_tup (K := K) (xs := [va, ve, .non, .ref z]) S np hv ht
        refine ⟨p, vs, .ref t, rfl, rfl, a1, small (by rw [pair_len hpr]; omega), _, rfl, ?_⟩
        refine k p _ _ a2 np a4 ?_
        rw [hst]
        exact pair_snoc (x := (⟨acc.2, e, none, 0⟩ : Pc (Option Str))) (pcs_tup a3 hpr) ⟨t, va, ve, .ref z, rfl, a5, hva.tup a3, (he.same S).tup a3, zero_rat (hz _)⟩
      · rw [decide_eq_false c2]
        rw [if_neg c2] at hst
        refine iteF ⟨_, rfl, ?_⟩
        refine k p _ vs S np hv ?_
        rw [hst]
        exact hpr
end
end SW

set_option Elab.async false
set_option linter.all false
set_option maxRecDepth 100000
set_option maxHeartbeats 4000000
/-! {e for x in ..}, e an int, no if: a new set of ints -/
namespace SW
open PySem PySem.Spec PyProof.Rows L2
section
variable {Y : Cx}
/-- the reading: N is the new set; the walk's state Wa, turn by turn -/
def tSetC (w : World) (wi : TI) (g : TG) (te : TE) (own : List Nat) : TE := fun τ G Q => wi τ G fun J G1 => ∀ N, G1 N = none →
  ∃ Wa : Nat → Nat → Hp → Prop, (∃ m, Wa 0 m (upd G1 N (SetO w N (fun _ => false) 0))) ∧ ∀ i m G2, Wa i m G2 →
    (J.stop i G2 ∧ Q (.ref N) G2) ∨
    (J.go i G2 ∧ ∃ Nx : Hp → Prop, (∀ G3, Nx G3 → ∃ m', m' < m ∧ Wa (i + 1) m' G3) ∧
      ∀ x G3, J.yld i G2 x G3 → g x (wipe τ own) G3 fun τ4 G4 => wipe τ4 own = wipe τ own ∧ te τ4 G4 fun y G5 =>
        ∃ (c : Int) (S : Int → Bool) (n : Nat), y = .int c ∧ G5 N = some (SetO w N S n) ∧ n + 1 < scanBound ∧
          Nx (upd G5 N (SetO w N (fun j => S j || decide (j = c)) (if S c = true then n else n + 1))))
/-- set.add of an int to a set that is tracked -/
theorem add_int {pins : List (Addr × Obj)} {τ : L2.St} {G : Hp} {s : Shared} {E : Value → Shared → Prop} {N : Addr} {S : Int → Bool} {n : Nat} {c : Int} {u : Value} {Q : Value → Shared → Prop}
    (I : Inv Y pins τ G s) (hN : G N = some (SetO Y.w N S n)) (room : n + 1 < scanBound) (ru : RelV (.int c) u)
    (h : ∀ v s', Inv Y pins τ (upd G N (SetO Y.w N (fun j => S j || decide (j = c)) (if S c = true then n else n + 1))) s' → Q v s') :
    wpAny (model Y.prog Y.w) Y.A (call (.builtin "set.add") [.ref N, u]) Q E s := by
  obtain ⟨tk, rfl⟩ := ru
  refine setR_add (setO_get I hN) room fun h' sb new => ?_
  refine h _ _ (I.write (e := N) (t' := s.toks + 1) ?_ (.inl rfl) (fun b u hb hu => (sb.2 b hb).trans hu) ?_ (setO_new new))
  · rw [hN]
    exact True.intro
  · obtain ⟨o, _, _, _, ho, _⟩ := new
    exact ⟨o, ho⟩

theorem pe_setc {elt tg it0 : Expr} {sc : Scope} {own : List (PySem.Str × Nat)} {pos : Pos} {wi : TI} {g : TG} {te : TE} (calm : Y.calm = true) (nd : Y.N.Nodup) (hi : PI Y tg it0 wi) (ok : BlkOk Y.N Y.env.scope sc own)
    (hg : ∀ (s : Shared) (G : Hp) (C : Addr) (cl : List (PySem.Str × Addr)) (fp : List Addr), PG (Y.blk s G sc (compEnvC sc cl C Y.env) fp) tg g)
    (he : ∀ (s : Shared) (G : Hp) (C : Addr) (cl : List (PySem.Str × Addr)) (fp : List Addr), PE (Y.blk s G sc (compEnvC sc cl C Y.env) fp) elt te) (hs : ∀ x, foldedSetIterable it0 Y.env x = pure x := by intro _; rfl) :
    PE Y (.SetComp elt [⟨tg, it0, [], 0⟩] sc pos) (tSetC Y.w wi g te (own.map (·.2))) := by
  refine ⟨fun pins s τ G Q I hQ => ?_⟩
  rw [PpSet.eval_SetComp]
  have lent : ∀ y ∈ sc.names, y.2 = .free → ∃ c, Y.env.cells.lookup y.1 = some c := fun y hy e => I.ok.has _ ((ok.free y hy e).elim .inl .inr)
  -- what is walked is made first
  refine wpAny_comprehension_free rfl hs (closure_ok lent) ok.kind (fun y hy e => by rw [ok.uniq y hy, e]) (thn (hi.run pins s τ G _ I hQ) fun xv s1 a => thn a fun itv s2 a2 => ?_)
  obtain ⟨it, fp, tn, J, G2, rfl, I2, T, st2, f2, q⟩ := a2
  refine PpSet.newSet_ok (newEnv_comp ?_)
  generalize hN : s2.heap.objs.size = N
  have free : G2 N = none := I2.hok.fresh (Nat.le_of_eq hN)
  obtain ⟨Wa, ⟨m0, w0⟩, turn⟩ := q N free
  -- the set stands
  generalize e3 : ({ s2 with heap := s2.heap.push { cls := .type "set", dict := none, data := .set #[] 0 (.fresh 0 0 (!Y.w.params.followText "set-order")) } } : Shared) = s3
  have h3 : s3.heap = s2.heap.push { cls := .type "set", dict := none, data := .set #[] 0 (.fresh 0 0 (!Y.w.params.followText "set-order")) } := by subst e3; rfl
  have kp3 : ∀ b o, s2.heap.get? b = some o → s3.heap.get? b = some o := fun b o e => by rw [h3]; exact Heap.get?_push_of_some _ e
  have I3 : Inv Y pins τ (upd G2 N (SetO Y.w N (fun _ => false) 0)) s3 := by
    subst e3
    subst hN
    exact I2.laid (t' := s2.toks) (fun b o e => Heap.get?_push_of_some _ e) (Nat.le_refl _) (setO_new (setR_fresh Y.w))
  have f3 : ∀ b ∈ fp, FpOk Y pins (upd G2 N (SetO Y.w N (fun _ => false) 0)) b ∧ b < s3.heap.objs.size := fun b hb => by
    obtain ⟨o, e, _⟩ := T.obj _ _ st2 b hb
    have lt := Heap.lt_size e
    have ne : b ≠ N := by rw [← hN]; exact Nat.ne_of_lt lt
    exact ⟨⟨by rw [upd_ne ne]; exact (f2 b hb).1, (f2 b hb).2⟩, by rw [h3, Heap.size_push]; exact Nat.lt_succ_of_lt lt⟩
  have I4 := block_start I3 ok nd f3
  have pg := hg s3 (upd G2 N (SetO Y.w N (fun _ => false) 0)) s3.heap.objs.size (cellsFrom (s3.heap.objs.size + 1) sc.names (cloFrom Y.env.cells sc.names [])) fp
  have pe := he s3 (upd G2 N (SetO Y.w N (fun _ => false) 0)) s3.heap.objs.size (cellsFrom (s3.heap.objs.size + 1) sc.names (cloFrom Y.env.cells sc.names [])) fp
  show codeAny _ _ (.compStart (.SetComp elt [⟨tg, it0, [], 0⟩] sc pos) 0 (.ref it) (.ref N) (compEnvC sc (cellsFrom (s3.heap.objs.size + 1) sc.names (cloFrom Y.env.cells sc.names [])) s3.heap.objs.size Y.env)) (compPost (model Y.prog Y.w) Y.A Y.xe none (EP Y pins τ Q) (.ref N) s3.heap.objs.size) { s3 with heap := pushCells (s3.heap.push { cls := .type "dict", data := .dict #[] }) sc.names }
  generalize hce : compEnvC sc (cellsFrom (s3.heap.objs.size + 1) sc.names (cloFrom Y.env.cells sc.names [])) s3.heap.objs.size Y.env = ce at I4 pg pe ⊢
  have cL : ce.locals = s3.heap.objs.size := by subst hce; rfl
  generalize hG3 : upd G2 N (SetO Y.w N (fun _ => false) 0) = G3 at I3 I4 pg pe w0 f3
  generalize e4 : ({ s3 with heap := pushCells (s3.heap.push { cls := .type "dict", data := .dict #[] }) sc.names } : Shared) = s4 at I4 ⊢
  have st4 : tn 0 s4.heap := T.keep _ _ _ st2 fun b _ o e => by subst e4; exact pushCells_keeps _ _ _ _ (Heap.get?_push_of_some _ (kp3 b o e))
  have fpk : ∀ {τ' : L2.St} {G' : Hp} {s' : Shared}, Inv (Y.blk s3 G3 sc ce fp) [] τ' G' s' → (∀ b ∈ fp, G' b = none) → ∀ b ∈ fp, FpOk (Y.blk s3 G3 sc ce fp) [] G' b := fun I' z b hb =>
    ⟨z b hb, (I'.ok.exf b hb).1, I'.ok.exfs b hb, .inl hb, (I'.ok.exf b hb).2, fun p hp => absurd (show p ∈ ([] : List (Addr × Obj)) from hp) (by simp)⟩
  refine PpSet.codeAny_compStart_set ?loop (T.self Y.A 0 _ _ _ st4 ?loop)
  refine PpSet.compLoopS_any (fun n s' => ∃ i G', Inv (Y.blk s3 G3 sc ce fp) [] (wipe τ (own.map (·.2))) G' s' ∧ tn i s'.heap ∧ (∀ b ∈ fp, G' b = none) ∧ Wa i n G') ?_ m0 ⟨0, G3, I4, st4, fun b hb => (f3 b hb).1.1, w0⟩
  rintro n s5 ⟨i, G5, I5, st5, n5, w5⟩
  rcases turn i n G5 w5 with ⟨stop, qq⟩ | ⟨go, Nx, hNx, step⟩
  · -- the end
    refine thnF (T.done (Y.blk s3 G3 sc ce fp) rfl rfl rfl calm i [] s5 _ G5 (fun _ _ => False) I5 (fpk I5 n5) st5 stop) fun r s6 ⟨hr, I6⟩ => ?_
    subst hr
    have I7 : Inv Y pins τ G5 s6 := I3.call' (ch := fp) I6.os I6.base I6.hok I6.bare fun b hb => let z := (f3 b hb).1.2; ⟨z.2.2.1, z.1, z.2.2.2.1, z.2.2.2.2⟩
    have nC : G5 s3.heap.objs.size = none := cL ▸ I6.free
    obtain ⟨m, hn, _⟩ := I6.loc
    have hn : s6.heap.Ns s3.heap.objs.size m := cL ▸ (show s6.heap.Ns ce.locals m from hn)
    obtain ⟨g0, g1, g2, g3, g4, g5⟩ := I3.fpOk (Nat.le_refl _) nC
    exact ⟨m, hn, fun h'' sb => ⟨.ref N, G5, I7.turned (t' := s6.toks) (fun b o hb e => (sb.2 b hb).trans e) g0 g1 g3 g4 g5, rfl, qq⟩⟩
  · -- a turn
    refine thnF (T.item (Y.blk s3 G3 sc ce fp) rfl rfl rfl calm i [] s5 _ G5 (fun _ _ => False) I5 (fpk I5 n5) st5 go) fun r s6 ⟨u, hr, a6⟩ => ?_
    subst hr
    refine thnF a6 fun _ s7 ⟨x, G7, I7, r7, y7, st7, n7⟩ => ?_
    refine thnF (pg.run _ s7 _ G7 x u _ (I7.pinned (fpk I7 n7) (T.obj _ _ st7)) r7 (step x G7 y7)) fun _ s8 ⟨τ8, G8, I8, hw8, q8⟩ => ?_
    refine wpAny_pure ?_
    refine thnF (pe.run _ s8 τ8 G8 _ I8 q8) fun z s9 ⟨yv, G9, I9, r9, c, S, k, ey, hS, room, nx⟩ => ?_
    subst ey
    refine add_int (Y := Y.blk s3 G3 sc ce fp) I9 hS room r9 fun v s10 I10 => ?_
    obtain ⟨m', hm, w'⟩ := hNx _ nx
    have pin : ∀ b ∈ fp, ∀ o, s7.heap.get? b = some o → s10.heap.get? b = some o ∧ upd G9 N (SetO Y.w N (fun j => S j || decide (j = c)) (if S c = true then k else k + 1)) b = none := fun b hb o e =>
      let z := I10.pin (b, o) (List.mem_append_right _ (List.mem_append_right _ (mem_pinsAt hb e)))
      ⟨z.1, z.2.1⟩
    have len8 : (wipe τ (own.map (·.2))).length = τ8.length := by rw [← hw8, wipe_length]
    refine ⟨m', hm, i + 1, _, (I10.unpinned (pins := [])).weak len8 (fun j v e => ?_), T.keep _ _ _ st7 fun b hb o e => (pin b hb o e).1, fun b hb => ?_, w'⟩
    · rw [← hw8] at e
      exact (wipe_some e).1
    · obtain ⟨o, e, _⟩ := T.obj _ _ st7 b hb
      exact (pin b hb o e).2
end
/-- over a list that the block leaves as it is -/
theorem setc_list {w : World} {K : PySem.W.Frag} {a : Addr} {xs : List V} {g : TG} {te : TE} {own : List Nat} {τ : L2.St} {G1 : Hp} {N : Addr} {Qd : Hp → Prop} (Pv : Nat → Hp → Prop) (h0 : Pv 0 (upd G1 N (SetO w N (fun _ => false) 0))) (hl : ∀ i G, Pv i G → SqL K G a xs)
    (hs : ∀ i x G, xs[i]? = some x → Pv i G → g x (wipe τ own) G fun τ2 G2 => wipe τ2 own = wipe τ own ∧ te τ2 G2 fun y G3 => ∃ (c : Int) (S : Int → Bool) (n : Nat), y = .int c ∧ G3 N = some (SetO w N S n) ∧ n + 1 < scanBound ∧
      Pv (i + 1) (upd G3 N (SetO w N (fun j => S j || decide (j = c)) (if S c = true then n else n + 1)))) (hd : ∀ G, Pv xs.length G → Qd G) :
    ∃ Wa : Nat → Nat → Hp → Prop, (∃ m, Wa 0 m (upd G1 N (SetO w N (fun _ => false) 0))) ∧ ∀ i m G2, Wa i m G2 →
    ((Itl K a).stop i G2 ∧ Qd G2) ∨
    ((Itl K a).go i G2 ∧ ∃ Nx : Hp → Prop, (∀ G3, Nx G3 → ∃ m', m' < m ∧ Wa (i + 1) m' G3) ∧
      ∀ x G3, (Itl K a).yld i G2 x G3 → g x (wipe τ own) G3 fun τ4 G4 => wipe τ4 own = wipe τ own ∧ te τ4 G4 fun y G5 =>
        ∃ (c : Int) (S : Int → Bool) (n : Nat), y = .int c ∧ G5 N = some (SetO w N S n) ∧ n + 1 < scanBound ∧
          Nx (upd G5 N (SetO w N (fun j => S j || decide (j = c)) (if S c = true then n else n + 1)))) := by
  refine ⟨fun i m G => m + i = xs.length ∧ Pv i G, ⟨xs.length, rfl, h0⟩, ?_⟩
  rintro i m G ⟨hm, p⟩
  have q := hl i G p
  by_cases hlt : i < xs.length
  · refine .inr ⟨⟨xs, xs[i], q, by simp [hlt]⟩, Pv (i + 1), fun G' p' => ⟨xs.length - (i + 1), by omega, by omega, p'⟩, fun x G' y => ?_⟩
    obtain ⟨rfl, y⟩ := y
    exact hs i x _ (y xs q) p
  · have e : i = xs.length := by omega
    subst e
    exact .inl ⟨⟨xs, q, Nat.le_refl _⟩, hd G p⟩
end SW

set_option Elab.async false
set_option linter.all false
set_option maxRecDepth 100000
set_option maxHeartbeats 4000000
set_option exponentiation.threshold 300
namespace SW
open PySem PySem.Spec PyProof.Rows L2
/-- a pair of ints -/
def IpV (K : PySem.W.Frag) (H : Hp) (v : V) (x : Int × Int) : Prop := ∃ a, v = .ref a ∧ SqT K H a [.int x.1, .int x.2]
theorem IpV.tup {K : PySem.W.Frag} {H H' : Hp} {v : V} {x : Int × Int} (e : Tup K H H') (h : IpV K H v x) : IpV K H' v x := by
  obtain ⟨a, rfl, h⟩ := h
  exact ⟨a, rfl, e _ _ h⟩
theorem ips_tup {K : PySem.W.Frag} {H H' : Hp} {vs : List V} {xs : List (Int × Int)} (e : Tup K H H') (h : Paired (IpV K H) vs xs) : Paired (IpV K H') vs xs := pair_mono (fun _ _ q => q.tup e) h
section
variable {P : Program} {w : World} {K : PySem.W.Frag} {mg : Str → Option Value} {base : Heap}
theorem scFP : FnScope ["free", "begin", "end", "found", "start", "stop", "low", "high"] ["free", "begin", "end"] (defScope (top 18)) := ⟨rfl, rfl, rfl, by decide +kernel, rfl, by decide +kernel, by decide +kernel⟩
def spFP (K : PySem.W.Frag) : Sp := fun vs H Q _ => ∃ l us free b e, vs = [.ref l, .int b, .int e] ∧ SqL K H l us ∧ Paired (IpV K H) us free ∧ free.length ≤ 1000 ∧
  ∀ r H' ws, Same H H' → H r = none → H' r = some (.lst ws) → Paired (IpV K H') ws (freePart free b e) → Q (.ref r) H'
theorem part_take {free : List (Int × Int)} {b e : Int} {i : Nat} {x : Int × Int} (h : free[i]? = some x) : freePart (free.take (i + 1)) b e = freePart (free.take i) b e ++ (if max x.1 b < min x.2 e then [(max x.1 b, min x.2 e)] else []) := by
  obtain ⟨h1, h2⟩ := List.getElem?_eq_some_iff.mp h
  unfold freePart
  rw [List.take_succ_eq_append_getElem h1, List.filterMap_append, h2]
  congr 1
  simp only [List.filterMap_cons, List.filterMap_nil]
  by_cases c : max x.1 b < min x.2 e
  · rw [if_pos c, if_pos c]
  · rw [if_neg c, if_neg c]
theorem part_len (free : List (Int × Int)) (b e : Int) : (freePart free b e).length ≤ free.length := List.length_filterMap_le _ _
theorem max_py (m n : Int) : (if n > m then n else m) = max m n := by
  by_cases h : n > m
  · rw [if_pos h, Int.max_eq_right (by omega)]
  · rw [if_neg h, Int.max_eq_left (by omega)]
theorem min_py (m n : Int) : (if n < m then n else m) = min m n := by
  by_cases h : n < m
  · rw [if_pos h, Int.min_eq_right (by omega)]
  · rw [if_neg h, Int.min_eq_left (by omega)]
theorem ok_fp (T : TF K mg "free_part" (top 18) ["free", "begin", "end"]) (gMax : mg "max" = none) (gMin : mg "min" = none) : Def P w K mg base "free_part" ["free", "begin", "end"] [] 1 (spFP K) := by
  refine T.ok scFP (fun vs H Q E h => ?_) (fun f cdv A outer s H vs Q E hr h => ⟨_, pss_cons (ps_set (i := 3) scFP.nd rfl (.inl rfl) (pe_lst pa_nil))
    (pss_cons (ps_for PassesOwn.never rfl (pi_list (pv 0)) (pg_tup rfl (pgs_cons (pg_name (i := 4) scFP.nd rfl (.inl rfl)) (pgs_cons (pg_name (i := 5) scFP.nd rfl (.inl rfl)) pgs_nil)))
      (pss_cons (ps_par (i := 6) (j := 7) rfl scFP.nd rfl rfl (by decide) rfl rfl (pa_cons (pe_callB (call_max2 rfl) (by rfl) gMax (by decide +kernel) (pa_cons (pv 4) (pa_cons (pv 1) pa_nil))) (pa_cons (pe_callB (call_min2 rfl) (by rfl) gMin (by decide +kernel) (pa_cons (pv 5) (pa_cons (pv 2) pa_nil))) pa_nil)) (by rfl))
      (pss_one (ps_if (pt_cmpR op_lt (pv 6) (pv 7) (nomark _)) (pss_one (ps_expr (pe_bm PySem.F.plainAttrs_list PySem.F.slot_list_append PySem.F.type_list_append mt_append (pv 3) (pa_cons (pe_tup (pa_cons (pv 6) (pa_cons (pv 7) pa_nil))) pa_nil)))) pss_nil))))
    (pss_one (ps_ret (pv 3)))), ?_⟩)
  · obtain ⟨_, _, _, _, _, rfl, _⟩ := h
    rfl
  · obtain ⟨l, us, free, b, e, rfl, hl, hp, hlen, k⟩ := h
    refine ⟨Nat.zero_le _, fun p np => ?_⟩
    have hS := same_new (o := .lst []) np
    refine ⟨_, rfl, l, rfl, ⟨_, hS.seq hl⟩, for_list (K := K) (a := l) (xs := us) (fun i σ H' => ∃ vs o4 o5 o6 o7, σ = [some (.ref l), some (.int b), some (.int e), some (.ref p), o4, o5, o6, o7] ∧ Same H H' ∧ H' p = some (.lst vs) ∧ Paired (IpV K H') vs (freePart (free.take i) b e))
      ⟨[], none, none, none, none, rfl, hS, upd_same, .nil⟩ (fun i σ H' _ ⟨_, _, _, _, _, _, S, _⟩ => S.seq hl) ?_ ?_⟩
    · rintro i x σ H' hi ⟨vs, o4, o5, o6, o7, rfl, S, hv, hpr⟩
      obtain ⟨z, hz, a, rfl, ha⟩ := pair_get hp hi
      have hpt := part_take (b := b) (e := e) hz
      refine ⟨a, _, rfl, sqT_same S ha, rfl, _, _, rfl, _, _, rfl, rfl, ?_⟩
      refine ⟨_, rfl, _, rfl, _, _, rfl, _, rfl, _, rfl, _, _, rfl, _, _, rfl, ?_⟩
      rw [max_py, min_py]
      refine ⟨_, rfl, _, rfl, _, _, rfl, rfl, _, rfl, ?_⟩
      refine ite2 (fun c => ?_) (fun c => ?_)
      · have c := of_decide_eq_true c
        rw [if_pos c] at hpt
        refine ⟨_, rfl, .inl ⟨rfl, _, SqL.of hv⟩, _, rfl, _, rfl, (by show 2 ≤ sizeLine; decide), fun t ht => ?_⟩
        obtain ⟨a1, a2, a3, a4, a5⟩ := app_tup (K := K) (xs := [.int (max z.1 b), .int (min z.2 e)]) S np hv ht
        have hle := part_len (free.take i) b e
        have hle2 : (free.take i).length ≤ free.length := by rw [List.length_take]; omega
        refine ⟨p, vs, .ref t, rfl, rfl, a1, small (by rw [pair_len hpr]; omega), _, _, _, _, _, rfl, a2, a4, ?_⟩
        rw [hpt]
        exact pair_snoc (ips_tup a3 hpr) ⟨t, rfl, a5⟩
      · have c : ¬ _ := fun z => c (decide_eq_true z)
        rw [if_neg c, List.append_nil] at hpt
        exact ⟨vs, _, _, _, _, rfl, S, hv, by rw [hpt]; exact hpr⟩
    · rintro σ H' ⟨vs, o4, o5, o6, o7, rfl, S, hv, hpr⟩
      rw [pair_len hp, List.take_length] at hpr
      exact ⟨_, rfl, k p H' vs S np hv hpr⟩
theorem scTA : FnScope ["free", "begin", "end"] ["free", "begin", "end"] (defScope (top 19)) := ⟨rfl, rfl, rfl, by decide +kernel, rfl, by decide +kernel, by decide +kernel⟩
def spTA (K : PySem.W.Frag) : Sp := fun vs H Q _ => ∃ l us free b e, vs = [.ref l, .int b, .int e] ∧ SqL K H l us ∧ Paired (IpV K H) us free ∧ free ≠ [] ∧ free.length ≤ 1000 ∧
  ∀ r H' ws, Same H H' → H r = none → H' r = some (.lst ws) → Paired (IpV K H') ws (freePart free 0 b ++ freePart free e (free.getLast?.getD (0, 0)).2) → Q (.ref r) H'
theorem ok_ta (T : TF K mg "taken_away" (top 19) ["free", "begin", "end"]) (F : Def P w K mg base "free_part" ["free", "begin", "end"] [] 1 (spFP K)) : Def P w K mg base "taken_away" ["free", "begin", "end"] [] 2 (spTA K) := by
  refine T.ok scTA (fun vs H Q E h => ?_) (fun f cdv A outer s H vs Q E hr h => ⟨_, pss_one (ps_ret (pe_op op_cat (pe_def F hr (pa_cons (pv 0) (pa_cons pe_int (pa_cons (pv 1) pa_nil))))
    (pe_def F hr (pa_cons (pv 0) (pa_cons (pv 2) (pa_cons (pe_ix ix_tup (pe_ix ix_list (pv 0) (pe_un un_neg pe_int) (fun _ _ => rfl)) pe_int (fun _ _ => rfl)) pa_nil)))))), ?_⟩)
  · obtain ⟨_, _, _, _, _, rfl, _⟩ := h
    rfl
  · obtain ⟨l, us, free, b, e, rfl, hl, hp, hne, hlen, k⟩ := h
    refine ⟨_, rfl, _, rfl, l, us, free, 0, b, rfl, hl, hp, hlen, fun r1 H1 w1 S1 n1 h1 p1 => ?_⟩
    obtain ⟨dl, z, rfl⟩ : ∃ dl z, free = dl ++ [z] := (snoc_cases free).resolve_left hne
    obtain ⟨ws, v, rfl, hws, a, rfl, ha⟩ := pair_last hp
    refine ⟨_, rfl, _, rfl, _, rfl, _, rfl, l, _, _, _, rfl, rfl, S1.seq hl, atI_last _ _, a, _, _, _, rfl, rfl, sqT_same S1 ha, rfl, ?_⟩
    refine ⟨l, _, _, e, z.2, rfl, S1.seq hl, ips_tup (Tup.same S1) hp, hlen, fun r2 H2 w2 S2 n2 h2 p2 => ?_⟩
    have hb1 := part_len (dl ++ [z]) 0 b
    have hb2 := part_len (dl ++ [z]) e z.2
    refine ⟨r1, r2, _, _, rfl, rfl, S2 _ _ h1, h2, small' (by rw [pair_len p1, pair_len p2]; omega), fun p hp' => ?_⟩
    refine k p _ _ ((S1.trans S2).trans (same_new hp')) ((S1.trans S2).free hp') upd_same ?_
    rw [List.getLast?_append]
    exact pair_app (ips_tup ((Tup.same S2).trans (Tup.new hp')) p1) (ips_tup (Tup.new hp') p2)
end
end SW

set_option Elab.async false
set_option linter.all false
set_option maxRecDepth 100000
set_option maxHeartbeats 4000000
set_option exponentiation.threshold 300
namespace SW
open PySem PySem.Spec PyProof.Rows L2
/-- a method as it stands, what callers know of it -/
def TM (K : PySem.W.Frag) (C : Addr) (m qual : Str) (st : Stmt) (ps : List Str) : Prop := ∃ f fd, Meth K C m f ∧ Fun K m qual st f fd ∧ Binds K fd ps []
def MDef (P : Program) (w : World) (K : PySem.W.Frag) (mg : Str → Option Value) (base : Heap) (C : Addr) (m : Str) (ps : List Str) (k : Nat) (sp : Sp) : Prop :=
  ∃ f fd, Meth K C m f ∧ FnOk P w K mg base CX0 k f fd ps sp ∧ Binds K fd ps []
section
variable {P : Program} {w : World} {K : PySem.W.Frag} {mg : Str → Option Value} {base : Heap}
theorem TM.ok {C : Addr} {m qual : Str} {st : Stmt} {N ps : List Str} {k : Nat} {sp : Sp} (T : TM K C m qual st ps) (S : FnScope N ps (defScope st)) (len : ∀ vs H Q E, sp vs H Q E → vs.length = ps.length)
    (hbody : ∀ (f : Addr) (cdv : Value) (A : Around) (outer : List Env) (s : Shared) (H : Hp) (vs : List V) (Q : VK) (E : XK), Room k (A.deeper (envOfC qual (defScope st) s.heap.objs.size f cdv)) → sp vs H Q E →
      ∃ t, PSs (cxOf CX0 P w K mg base N qual (defScope st) f cdv A outer s H E).nox (defBody st) t ∧ t { nx := fun _ H' => Q .non H', rt := Q } (start N vs) H) : MDef P w K mg base C m ps (k + 1) sp := by
  obtain ⟨f, fd, M, F, b⟩ := T
  exact ⟨f, fd, M, F.ok S len (hbody f), b⟩
end
section
variable {X : Cx} {C : Addr} {m : Str} {ps : List Str} {k : Nat} {sp : Sp} {o e : Expr} {es : List Expr} {to : TE} {t : TA} {apos pos : Pos}
theorem pe_mdef {pl : Sem Bool} (D : MDef X.prog X.w X.K X.mg X.base C m ps k sp) (c : Cls X.K C) (he : PE X o to) (hr : Room k X.A) (ha : PA X (e :: es) t)
    (hst : starEach (e :: es) X.env = (false, eval e X.env) :: starEach es X.env := by rfl) (hpl : (backTo pos (starEach es X.env)).any (·.1) = false := by rfl)
    (ht : eval (.Call (.Attribute o m apos) (e :: es) [] pos) X.env = (do
      let ov ← eval o X.env
      standAt apos.atName
      let (f, first) ← holding [ov] (getMethod ov m pl)
      callWith pos f first (backTo pos (starEach (e :: es) X.env)) (backToKw pos (keywordEach [] X.env))) := by rfl) : PE X (.Call (.Attribute o m apos) (e :: es) [] pos) (tMeth C m sp [] E0 to t) := by
  obtain ⟨f, fd, M, F, b⟩ := D
  exact pe_meth he c M F hr b .nil pass0 ha hst hpl ht
theorem pe_mdef0 {pl : Sem Bool} (D : MDef X.prog X.w X.K X.mg X.base C m ps k sp) (c : Cls X.K C) (he : PE X o to) (hr : Room k X.A)
    (ht : eval (.Call (.Attribute o m apos) [] [] pos) X.env = (do
      let ov ← eval o X.env
      standAt apos.atName
      let (f, first) ← holding [ov] (getMethod ov m pl)
      callWith pos f first (backTo pos (starEach [] X.env)) (backToKw pos (keywordEach [] X.env))) := by rfl) : PE X (.Call (.Attribute o m apos) [] [] pos) (tMeth C m sp [] E0 to tNil) := by
  obtain ⟨f, fd, M, F, b⟩ := D
  exact pe_meth0 he c M F hr b .nil pass0 ht
end
/-- a job whose work is counted in parts of an integer -/
def WtV (sc : Nat) (K : PySem.W.Frag) (H : Hp) (v : V) (j : Jb Str) : Prop := ∃ a z, v = .ref a ∧ SqT K H a [.str j.nm, .int j.cm, .int j.du, .int z] ∧ (z : Rat) = j.wk * (sc : Rat)
def RwV (free : List (Int × Int)) (sc : Nat) (K : PySem.W.Frag) (H : Hp) (v : V) (j : Jb Str) : Prop := ∃ a z, v = .ref a ∧ SqT K H a [.int (Fi free j), .int (La free j), .str j.nm, .int z] ∧ (z : Rat) = j.wk * (sc : Rat)
theorem WtV.tup {sc : Nat} {K : PySem.W.Frag} {H H' : Hp} {v : V} {x : Jb Str} (e : Tup K H H') (h : WtV sc K H v x) : WtV sc K H' v x := by
  obtain ⟨a, z, rfl, h, hz⟩ := h
  exact ⟨a, z, rfl, e _ _ h, hz⟩
theorem wts_tup {sc : Nat} {K : PySem.W.Frag} {H H' : Hp} {vs : List V} {xs : List (Jb Str)} (e : Tup K H H') (h : Paired (WtV sc K H) vs xs) : Paired (WtV sc K H') vs xs := pair_mono (fun _ _ q => q.tup e) h
theorem RwV.tup {free : List (Int × Int)} {sc : Nat} {K : PySem.W.Frag} {H H' : Hp} {v : V} {x : Jb Str} (e : Tup K H H') (h : RwV free sc K H v x) : RwV free sc K H' v x := by
  obtain ⟨a, z, rfl, h, hz⟩ := h
  exact ⟨a, z, rfl, e _ _ h, hz⟩
theorem rws_tup {free : List (Int × Int)} {sc : Nat} {K : PySem.W.Frag} {H H' : Hp} {vs : List V} {xs : List (Jb Str)} (e : Tup K H H') (h : Paired (RwV free sc K H) vs xs) : Paired (RwV free sc K H') vs xs := pair_mono (fun _ _ q => q.tup e) h
/-- a Scan stands at x -/
structure ScanAt (K : PySem.W.Frag) (C : Addr) (H : Hp) (x : Addr) (free : List (Int × Int)) (sc : Nat) (ws : List (Jb Str)) : Prop where
  ex : ∃ dx fs lf lr us rvs, H x = some (.ins C dx fs) ∧ fs.lookup ("free" : Str) = some (.ref lf) ∧ fs.lookup ("rows" : Str) = some (.ref lr) ∧ fs.lookup ("load" : Str) = none ∧ fs.lookup ("length" : Str) = none ∧ fs.lookup ("densest" : Str) = none ∧
    SqL K H lf us ∧ Paired (IpV K H) us free ∧ H lr = some (.lst rvs) ∧ Paired (RwV free sc K H) rvs ws
theorem ScanAt.same {K : PySem.W.Frag} {C : Addr} {H H' : Hp} {x : Addr} {free : List (Int × Int)} {sc : Nat} {ws : List (Jb Str)} (S : ScanAt K C H x free sc ws) (e : Same H H') : ScanAt K C H' x free sc ws := by
  obtain ⟨dx, fs, lf, lr, us, rvs, h1, h2, h3, h4, h5, h6, h7, h8, h9, h10⟩ := S.ex
  exact ⟨dx, fs, lf, lr, us, rvs, e _ _ h1, h2, h3, h4, h5, h6, e.seq h7, ips_tup (Tup.same e) h8, e _ _ h9, rws_tup (Tup.same e) h10⟩
structure TxS (K : PySem.W.Frag) (mg : Str → Option Value) (C : Addr) : Prop where
  cl : Cls K C
  nF : NoAttr K C "free"
  nR : NoAttr K C "rows"
  mgC : mg "Scan" = some (.ref C)
abbrev sScI : Stmt := inClass (top 20) 0
abbrev sScL : Stmt := inClass (top 20) 1
abbrev sScN : Stmt := inClass (top 20) 2
abbrev sScD : Stmt := inClass (top 20) 3
theorem ne1 : ¬ (("rows" : Str) = "free") := by decide +kernel
theorem ne2 : ¬ (("free" : Str) = "rows") := by decide +kernel
theorem ne3 : ¬ (("load" : Str) = "free") := by decide +kernel
theorem ne4 : ¬ (("load" : Str) = "rows") := by decide +kernel
theorem ne5 : ¬ (("length" : Str) = "free") := by decide +kernel
theorem ne6 : ¬ (("length" : Str) = "rows") := by decide +kernel
theorem ne7 : ¬ (("densest" : Str) = "free") := by decide +kernel
theorem ne8 : ¬ (("densest" : Str) = "rows") := by decide +kernel
def SameBut (x : Addr) (H H' : Hp) : Prop := ∀ b o, b ≠ x → H b = some o → H' b = some o
theorem SameBut.trans {x : Addr} {H H1 H2 : Hp} (a : SameBut x H H1) (b : SameBut x H1 H2) : SameBut x H H2 := fun c o n h => b c o n (a c o n h)
theorem SameBut.same {x : Addr} {H H1 : Hp} (a : Same H H1) : SameBut x H H1 := fun c o _ h => a c o h
theorem sb_seq {K : PySem.W.Frag} {x : Addr} {H H' : Hp} {l : Addr} {us : List V} (e : SameBut x H H') (hx : ∀ xs, ¬ Rd H x (.lst xs)) (h : SqL K H l us) : SqL K H' l us := by
  rcases h with h | h
  · have n : l ≠ x := fun z => by subst z; exact hx us h
    rcases h with h | ⟨o, h⟩
    · exact .inl (.inl (e _ _ n h))
    · exact .inl (.inr ⟨o, e _ _ n h⟩)
  · exact .inr h
theorem sb_tup {K : PySem.W.Frag} {x : Addr} {H H' : Hp} (e : SameBut x H H') (hx : ∀ xs, ¬ Rd H x (.tup xs)) : Tup K H H' := fun l us h => by
  rcases h with h | h
  · have n : l ≠ x := fun z => by subst z; exact hx us h
    rcases h with h | ⟨o, h⟩
    · exact .inl (.inl (e _ _ n h))
    · exact .inl (.inr ⟨o, e _ _ n h⟩)
  · exact .inr h
theorem ins_lst {H : Hp} {x C dx : Addr} {fs : List (Str × V)} (h : H x = some (.ins C dx fs)) (xs : List V) : ¬ Rd H x (.lst xs) := fun q => by
  rcases q with q | ⟨u, q⟩ <;> rw [h] at q <;> cases q
theorem ins_tup {H : Hp} {x C dx : Addr} {fs : List (Str × V)} (h : H x = some (.ins C dx fs)) (xs : List V) : ¬ Rd H x (.tup xs) := fun q => by
  rcases q with q | ⟨u, q⟩ <;> rw [h] at q <;> cases q
section
variable {P : Program} {w : World} {K : PySem.W.Frag} {mg : Str → Option Value} {base : Heap}
theorem scSI : FnScope ["self", "jobs", "free", "name", "comes", "due", "work", "window"] ["self", "jobs", "free"] (defScope sScI) := ⟨rfl, rfl, rfl, by decide +kernel, rfl, by decide +kernel, by decide +kernel⟩
def spScI (K : PySem.W.Frag) (C : Addr) : Sp := fun vs H Q _ => ∃ x dx lj uj ws lf us free sc, vs = [.ref x, .ref lj, .ref lf] ∧ H x = some (.ins C dx []) ∧ SqL K H lj uj ∧ Paired (WtV sc K H) uj ws ∧ SqL K H lf us ∧ Paired (IpV K H) us free ∧ free.length ≤ 1000 ∧ ws.length ≤ 1000 ∧
  (∀ j ∈ ws, freePart free j.cm j.du ≠ []) ∧ ∀ H', SameBut x H H' → ScanAt K C H' x free sc ws → Q .non H'
theorem ok_scI {C f : Addr} {fd : FuncData} (F : Fun K "__init__" "Scan.__init__" sScI f fd) (T : TxS K mg C) (FP : Def P w K mg base "free_part" ["free", "begin", "end"] [] 1 (spFP K)) : FnOk P w K mg base CX0 2 f fd ["self", "jobs", "free"] (spScI K C) := by
  refine F.ok scSI (fun vs H Q E h => ?_) (fun cdv A outer s H vs Q E hr h => ⟨_, (pss_cons (ps_fld (pv 0) (pv 2) rfl) (pss_cons (ps_fld (pv 0) (pe_lst pa_nil) rfl) (pss_one (ps_for PassesOwn.never rfl (pi_list (pv 1)) (pg_tup rfl (pgs_cons (pg_name (i := 3) scSI.nd rfl (.inl rfl)) (pgs_cons (pg_name (i := 4) scSI.nd rfl (.inl rfl)) (pgs_cons (pg_name (i := 5) scSI.nd rfl (.inl rfl)) (pgs_cons (pg_name (i := 6) scSI.nd rfl (.inl rfl)) pgs_nil))))) (pss_cons (ps_set (i := 7) scSI.nd rfl (.inl rfl) (pe_def FP hr (pa_cons (pv 2) (pa_cons (pv 4) (pa_cons (pv 5) pa_nil))))) (pss_one (ps_expr (pe_bm PySem.F.plainAttrs_list PySem.F.slot_list_append PySem.F.type_list_append mt_append (pe_fld (pv 0) rfl) (pa_cons (pe_tup (pa_cons (pe_ix ix_tup (pe_ix ix_list (pv 7) pe_int (fun _ _ => rfl)) pe_int (fun _ _ => rfl)) (pa_cons (pe_ix ix_tup (pe_ix ix_list (pv 7) (pe_un un_neg pe_int) (fun _ _ => rfl)) pe_int (fun _ _ => rfl)) (pa_cons (pv 3) (pa_cons (pv 6) pa_nil))))) pa_nil))))))))), ?_⟩)
  · obtain ⟨_, _, _, _, _, _, _, _, _, rfl, _⟩ := h
    rfl
  · obtain ⟨x, dx, lj, uj, ws, lf, us, free, sc, rfl, hx, hj, hjp, hf, hfp, hfl, hwl, hne, k⟩ := h
    refine ⟨_, rfl, _, rfl, x, C, dx, [], rfl, hx, T.cl, T.nF, (by show 0 < 1000; decide), ?_⟩
    have e1 : putF "free" (.ref lf) [] = [(("free" : Str), V.ref lf)] := rfl
    rw [e1]
    refine ⟨Nat.zero_le _, fun p np => ?_⟩
    have hx1 : (upd H x (.ins C dx [(("free" : Str), V.ref lf)])) x = some (.ins C dx [(("free" : Str), V.ref lf)]) := upd_same
    have nxp : x ≠ p := ne_of_none hx1 np
    have np0 : H p = none := by rw [upd_ne nxp.symm] at np; exact np
    refine ⟨_, rfl, x, C, dx, _, rfl, (by rw [upd_ne nxp]; exact hx1), T.cl, T.nR, (by show 1 < 1000; decide), ?_⟩
    have S0 : SameBut x H (upd (upd (upd H x (.ins C dx [(("free" : Str), V.ref lf)])) p (.lst [])) x (.ins C dx (putF "rows" (.ref p) [(("free" : Str), V.ref lf)]))) := fun b o n h => by
      rw [upd_ne n, upd_ne (ne_of_none h np0), upd_ne n]
      exact h
    have hp0 : (upd (upd (upd H x (.ins C dx [(("free" : Str), V.ref lf)])) p (.lst [])) x (.ins C dx (putF "rows" (.ref p) [(("free" : Str), V.ref lf)]))) p = some (.lst []) := by rw [upd_ne nxp.symm, upd_same]
    have hx2 : (upd (upd (upd H x (.ins C dx [(("free" : Str), V.ref lf)])) p (.lst [])) x (.ins C dx (putF "rows" (.ref p) [(("free" : Str), V.ref lf)]))) x = some (.ins C dx (putF "rows" (.ref p) [(("free" : Str), V.ref lf)])) := upd_same
    generalize (upd (upd (upd H x (.ins C dx [(("free" : Str), V.ref lf)])) p (.lst [])) x (.ins C dx (putF "rows" (.ref p) [(("free" : Str), V.ref lf)]))) = H2 at *
    have hnl := ins_lst hx
    have hnt := ins_tup hx
    have l1 : (putF "rows" (.ref p) [(("free" : Str), V.ref lf)]).lookup ("free" : Str) = some (.ref lf) := by rw [lookup_putF, if_neg ne2]; rfl
    have l2 : (putF "rows" (.ref p) [(("free" : Str), V.ref lf)]).lookup ("rows" : Str) = some (.ref p) := by rw [lookup_putF, if_pos rfl]
    have lz : ∀ m : Str, ¬ m = "rows" → ¬ m = "free" → (putF "rows" (.ref p) [(("free" : Str), V.ref lf)]).lookup m = none := fun m h1 h2 => by
      rw [lookup_putF, if_neg h1]
      have : (m == ("free" : Str)) = false := beq_eq_false_iff_ne.mpr h2
      simp only [List.lookup, this]
    generalize putF "rows" (.ref p) [(("free" : Str), V.ref lf)] = fs at *
    refine ⟨_, rfl, lj, rfl, ⟨_, sb_seq S0 hnl hj⟩, for_list (K := K) (a := lj) (xs := uj) (fun i σ H' => ∃ vs o3 o4 o5 o6 o7, σ = [some (.ref x), some (.ref lj), some (.ref lf), o3, o4, o5, o6, o7] ∧ SameBut x H H' ∧ H' x = some (.ins C dx fs) ∧ H' p = some (.lst vs) ∧ Paired (RwV free sc K H') vs (ws.take i))
      ⟨[], none, none, none, none, none, rfl, S0, hx2, hp0, .nil⟩ (fun i σ H' _ ⟨_, _, _, _, _, _, _, S, _⟩ => sb_seq S hnl hj) ?_ ?_⟩
    · rintro i y σ H' hi ⟨vs, o3, o4, o5, o6, o7, rfl, S, hx', hv, hpr⟩
      obtain ⟨j, hj', a, z, rfl, ha, hz⟩ := pair_get hjp hi
      have hmem : j ∈ ws := List.mem_of_getElem? hj'
      have Ht := sb_tup (K := K) S hnt
      refine ⟨a, _, rfl, Ht _ _ ha, rfl, _, _, rfl, _, _, rfl, _, _, rfl, _, _, rfl, rfl, ?_⟩
      refine ⟨_, rfl, _, rfl, _, rfl, lf, us, free, j.cm, j.du, rfl, sb_seq S hnl hf, ips_tup Ht hfp, hfl, fun r H3 w3 S3 n3 h3 p3 => ?_⟩
      have hx3 := S3 _ _ hx'
      have hv3 := S3 _ _ hv
      -- the window's ends
      have hnej := hne j hmem
      cases hP : freePart free j.cm j.du with
      | nil => exact absurd hP hnej
      | cons h0 t0 =>
        obtain ⟨dl, g0, hg⟩ : ∃ dl z, freePart free j.cm j.du = dl ++ [z] := (snoc_cases _).resolve_left hnej
        have p3' := p3
        rw [hg] at p3'
        obtain ⟨wl, vl, hwl', _, b2, rfl, hb2⟩ := pair_last p3'
        rw [hP] at p3
        cases p3 with
        | cons hr0 ht0 =>
          rename_i v0 vt
          obtain ⟨b1, rfl, hb1⟩ := hr0
          have f1 : Fi free j = h0.1 := by unfold Fi; rw [hP]; rfl
          have f2 : La free j = g0.2 := by unfold La; rw [hg, List.getLast?_append]; rfl
          refine ⟨_, rfl, x, C, dx, fs, _, rfl, hx3, T.cl, T.nR, l2, .inl ⟨rfl, _, SqL.of hv3⟩, ?_⟩
          refine ⟨_, rfl, r, _, _, _, rfl, rfl, SqL.of h3, at_of (j := 0) rfl rfl, b1, _, _, _, rfl, rfl, hb1, rfl, ?_⟩
          refine ⟨_, rfl, _, rfl, r, _, _, _, rfl, rfl, SqL.of h3, (by rw [hwl']; exact atI_last _ _), b2, _, _, _, rfl, rfl, hb2, rfl, _, rfl, _, rfl, (by show 4 ≤ sizeLine; decide), fun t ht => ?_⟩
          have ntx : x ≠ t := ne_of_none hx3 ht
          have hp1 : (upd H3 t (.tup [.int h0.1, .int g0.2, .str j.nm, .int z])) p = some (.lst vs) := by rw [upd_ne (ne_of_none hv3 ht)]; exact hv3
          have T3 : Tup K H' (upd (upd H3 t (.tup [.int h0.1, .int g0.2, .str j.nm, .int z])) p (.lst (vs ++ [.ref t]))) := ((Tup.same S3).trans (Tup.new ht)).trans (Tup.lst hp1)
          refine ⟨p, vs, .ref t, rfl, rfl, hp1, small (by rw [pair_len hpr, List.length_take]; omega), _, _, _, _, _, _, rfl, ?_, ?_, upd_same, ?_⟩
          · intro b o n hb
            rw [upd_ne (ne_of_none hb np0), upd_ne (ne_of_none (S3 _ _ (S b o n hb)) ht)]
            exact S3 _ _ (S b o n hb)
          · rw [upd_ne nxp, upd_ne ntx]
            exact hx3
          · obtain ⟨q1, q2⟩ := List.getElem?_eq_some_iff.mp hj'
            rw [List.take_succ_eq_append_getElem q1, q2]
            refine pair_snoc (rws_tup T3 hpr) ⟨t, z, rfl, ?_, hz⟩
            rw [f1, f2]
            exact Tup.lst hp1 _ _ (SqT.of upd_same)
    · rintro σ H' ⟨vs, o3, o4, o5, o6, o7, rfl, S, hx', hv, hpr⟩
      rw [pair_len hjp, List.take_length] at hpr
      exact k H' S ⟨dx, fs, lf, p, us, vs, hx', l1, l2, lz _ ne4 ne3, lz _ ne6 ne5, lz _ ne8 ne7, sb_seq S hnl hf, ips_tup (sb_tup S hnt) hfp, hv, hpr⟩
end
end SW

set_option Elab.async false
set_option linter.all false
set_option maxRecDepth 100000
set_option maxHeartbeats 4000000
set_option exponentiation.threshold 300
namespace SW
open PySem PySem.Spec PyProof.Rows L2
theorem ls_take {α : Type} (f : α → Rat) {xs : List α} {i : Nat} {x : α} (h : xs[i]? = some x) : ls f (xs.take (i + 1)) = ls f (xs.take i) + f x := by
  obtain ⟨h1, h2⟩ := List.getElem?_eq_some_iff.mp h
  rw [List.take_succ_eq_append_getElem h1, ls_append, h2]
  simp only [ls]
  grind
theorem sum_snoc (ns : List Int) (z : Int) : (ns ++ [z]).sum = ns.sum + z := by
  rw [List.sum_append]
  simp
section
variable {P : Program} {w : World} {K : PySem.W.Frag} {mg : Str → Option Value} {base : Heap}
theorem scSL : FnScope ["self", "a", "b", "first", "last", "name", "work"] ["self", "a", "b"] (defScope sScL) := ⟨rfl, rfl, rfl, by decide +kernel, rfl, by decide +kernel, by decide +kernel⟩
def spScL (K : PySem.W.Frag) (C : Addr) : Sp := fun vs H Q _ => ∃ x a b free sc ws, vs = [.ref x, .int a, .int b] ∧ ScanAt K C H x free sc ws ∧ ws.length ≤ 1000 ∧ ∀ (z : Int) H', Same H H' → (z : Rat) = loadR free ws a b * (sc : Rat) → Q (.int z) H'
theorem ok_scL {C : Addr} (M : TM K C "load" "Scan.load" sScL ["self", "a", "b"]) (T : TxS K mg C) (gSum : mg "sum" = none) : MDef P w K mg base C "load" ["self", "a", "b"] 1 (spScL K C) := by
  refine M.ok scSL (fun vs H Q E h => ?_) (fun f cdv A outer s H vs Q E hr h => ⟨_, (pss_one (ps_ret (pe_callB (cr_sum rfl) (by rfl) gSum (by decide +kernel) (pa_cons (pe_lc (own := [("first", 3), ("last", 4), ("name", 5), ("work", 6)]) (g := gTup K 4 (gCons (gName 3) (gCons (gName 4) (gCons (gName 5) (gCons (gName 6) gNil))))) rfl scSL.nd (pi_list (pe_fld (pv 0) rfl)) (blkOk_by (own := [("first", 3), ("last", 4), ("name", 5), ("work", 6)]) (N := ["self", "a", "b", "first", "last", "name", "work"]) (sc := defScope sScL) (by decide +kernel)) (fun _ _ _ _ _ => by exact (pg_tup rfl (pgs_cons (pg_name (i := 3) scSL.nd rfl (.inl rfl)) (pgs_cons (pg_name (i := 4) scSL.nd rfl (.inl rfl)) (pgs_cons (pg_name (i := 5) scSL.nd rfl (.inl rfl)) (pgs_cons (pg_name (i := 6) scSL.nd rfl (.inl rfl)) pgs_nil)))))) (fun _ _ _ _ _ => by exact (pts_one (PW.pt (pw_and (pt_cmpR op_le (pv 1 (hv := Or.inr (Or.inl rfl))) (pv 3) (nomark _)) (pw_and1 (pt_cmpR op_le (pv 4) (pv 2 (hv := Or.inr (Or.inl rfl))) (nomark _))))))) (fun _ _ _ _ _ => by exact (pv 6))) pa_nil)))), ?_⟩)
  · obtain ⟨_, _, _, _, _, _, rfl, _⟩ := h
    rfl
  · obtain ⟨x, a, b, free, sc, ws, rfl, ⟨dx, fs, lf, lr, us, rvs, h1, h2, h3, h4, h5, h6, h7, h8, h9, h10⟩, hl, k⟩ := h
    refine ⟨_, rfl, x, C, dx, fs, _, rfl, h1, T.cl, T.nR, h3, lr, rfl, ⟨_, SqL.of h9⟩, fun D nD => ?_⟩
    have S0 := same_new (o := .lst []) nD
    refine lc_list (K := K) (a := lr) (xs := rvs) (fun i H' => ∃ ns : List Int, H' D = some (.lst (ns.map V.int)) ∧ Same H H' ∧ ((ns.sum : Int) : Rat) = ls (fun j => if inn free a b j = true then j.wk else 0) (ws.take i) * (sc : Rat) ∧ ns.length ≤ i)
      ⟨[], upd_same, S0, (by simp [ls]), Nat.le_refl _⟩ (fun i H' _ ⟨_, _, S, _⟩ => S.seq (SqL.of h9)) ?_ ?_
    · rintro i y H' hi ⟨ns, hD, S, hsum, hle⟩
      obtain ⟨j, hj, t, z, rfl, ht, hz⟩ := pair_get h10 hi
      have hi' := (List.getElem?_eq_some_iff.mp hj).1
      have hls := ls_take (fun j => if inn free a b j = true then j.wk else 0) hj
      refine ⟨t, _, rfl, sqT_same S ht, rfl, _, _, rfl, _, _, rfl, _, _, rfl, _, _, rfl, rfl, wp (wp (wp (wp (wp0 _ _)))), ?_⟩
      refine ⟨_, rfl, _, rfl, _, _, rfl, rfl, _, rfl, ?_⟩
      refine ite2 (fun c1 => ?_) (fun c1 => ?_)
      · have c1 := of_decide_eq_true c1
        refine ⟨_, rfl, _, rfl, _, _, rfl, rfl, _, rfl, ?_⟩
        refine ite2 (fun c2 => ?_) (fun c2 => ?_)
        · have c2 := of_decide_eq_true c2
          have hin : inn free a b j = true := decide_eq_true ⟨c1, c2⟩
          refine ⟨_, rfl, _, hD, small (by rw [List.length_map]; omega), ns ++ [z], by rw [upd_same, List.map_append]; rfl, same_upd S nD, ?_, by rw [List.length_append]; simp; omega⟩
          rw [hls, sum_snoc, Rat.intCast_add, hsum, hz, if_pos hin]
          grind
        · have hin : ¬ inn free a b j = true := fun z => c2 (decide_eq_true (of_decide_eq_true z).2)
          refine ⟨ns, hD, S, ?_, by omega⟩
          rw [hls, hsum, if_neg hin]
          grind
      · have hin : ¬ inn free a b j = true := fun z => c1 (decide_eq_true (of_decide_eq_true z).1)
        refine iteF ⟨ns, hD, S, ?_, by omega⟩
        rw [hls, hsum, if_neg hin]
        grind
    · rintro H' ⟨ns, hD, S, hsum, hle⟩
      rw [pair_len h10, List.take_length] at hsum
      exact ⟨D, ns, rfl, SqL.of hD, k _ H' S hsum⟩
theorem scSN : FnScope ["self", "a", "b", "start", "stop"] ["self", "a", "b"] (defScope sScN) := ⟨rfl, rfl, rfl, by decide +kernel, rfl, by decide +kernel, by decide +kernel⟩
def spScN (K : PySem.W.Frag) (C : Addr) : Sp := fun vs H Q _ => ∃ x a b free sc ws, vs = [.ref x, .int a, .int b] ∧ ScanAt K C H x free sc ws ∧ free.length ≤ 1000 ∧ ∀ H', Same H H' → Q (.int (lenF free a b)) H'
theorem ok_scN {C : Addr} (M : TM K C "length" "Scan.length" sScN ["self", "a", "b"]) (T : TxS K mg C) (gSum : mg "sum" = none) (FP : Def P w K mg base "free_part" ["free", "begin", "end"] [] 1 (spFP K)) : MDef P w K mg base C "length" ["self", "a", "b"] 2 (spScN K C) := by
  refine M.ok scSN (fun vs H Q E h => ?_) (fun f cdv A outer s H vs Q E hr h => ⟨_, (pss_one (ps_ret (pe_callB (cr_sum rfl) (by rfl) gSum (by decide +kernel) (pa_cons (pe_lc (own := [("start", 3), ("stop", 4)]) (g := gTup K 2 (gCons (gName 3) (gCons (gName 4) gNil))) rfl scSN.nd (pi_list (pe_def FP hr (pa_cons (pe_fld (pv 0) rfl) (pa_cons (pv 1) (pa_cons (pv 2) pa_nil))))) (blkOk_by (own := [("start", 3), ("stop", 4)]) (N := ["self", "a", "b", "start", "stop"]) (sc := defScope sScN) (by decide +kernel)) (fun _ _ _ _ _ => by exact (pg_tup rfl (pgs_cons (pg_name (i := 3) scSN.nd rfl (.inl rfl)) (pgs_cons (pg_name (i := 4) scSN.nd rfl (.inl rfl)) pgs_nil)))) (fun _ _ _ _ _ => by exact pts_nil) (fun _ _ _ _ _ => by exact (pe_op op_sub (pv 4) (pv 3)))) pa_nil)))), ?_⟩)
  · obtain ⟨_, _, _, _, _, _, rfl, _⟩ := h
    rfl
  · obtain ⟨x, a, b, free, sc, ws, rfl, ⟨dx, fs, lf, lr, us, rvs, h1, h2, h3, h4, h5, h6, h7, h8, h9, h10⟩, hl, k⟩ := h
    refine ⟨_, rfl, x, C, dx, fs, _, rfl, h1, T.cl, T.nF, h2, _, rfl, _, rfl, lf, us, free, a, b, rfl, h7, h8, hl, fun r H1 w1 S1 n1 hr1 p1 => ?_⟩
    refine ⟨r, rfl, ⟨_, SqL.of hr1⟩, fun D nD => ?_⟩
    have S0 := S1.trans (same_new (o := .lst []) nD)
    refine lc_list (K := K) (a := r) (xs := w1) (fun i H' => ∃ ns : List Int, H' D = some (.lst (ns.map V.int)) ∧ Same H1 H' ∧ ns.sum = (((freePart free a b).take i).map fun x => x.2 - x.1).sum ∧ ns.length ≤ i)
      ⟨[], upd_same, same_new nD, (by simp), Nat.le_refl _⟩ (fun i H' _ ⟨_, _, S, _⟩ => S.seq (SqL.of hr1)) ?_ ?_
    · rintro i y H' hi ⟨ns, hD, S, hsum, hle⟩
      obtain ⟨j, hj, t, rfl, ht⟩ := pair_get p1 hi
      obtain ⟨hi', hj'⟩ := List.getElem?_eq_some_iff.mp hj
      have hpl := part_len free a b
      refine ⟨t, _, rfl, sqT_same S ht, rfl, _, _, rfl, _, _, rfl, rfl, wp (wp (wp0 _ _)), ?_⟩
      refine tyes ?_
      refine iteT ?_
      refine ⟨_, rfl, _, rfl, _, _, rfl, rfl, _, hD, small (by rw [List.length_map]; omega), ns ++ [j.2 - j.1], by rw [upd_same, List.map_append]; rfl, same_upd S nD, ?_, by rw [List.length_append]; simp; omega⟩
      rw [sum_snoc, hsum, List.take_succ_eq_append_getElem hi', hj', List.map_append, List.sum_append]
      simp
    · rintro H' ⟨ns, hD, S, hsum, hle⟩
      rw [pair_len p1, List.take_length] at hsum
      refine ⟨D, ns, rfl, SqL.of hD, ?_⟩
      rw [hsum]
      exact k H' (S1.trans S)
end
end SW

set_option Elab.async false
set_option linter.all false
set_option maxRecDepth 100000
set_option maxHeartbeats 4000000
set_option exponentiation.threshold 300
namespace SW
open PySem PySem.Spec PyProof.Rows L2
section
variable {free : List (Int × Int)} {ws : List (Jb Str)}
def BestOf (free : List (Int × Int)) (ws : List (Jb Str)) (Seen : Int → Int → Prop) : Option (Int × Int) → Prop
  | none => ∀ a b, Seen a b → a < b → ¬ 0 < loadR free ws a b
  | some (a, b) => Seen a b ∧ a < b ∧ 0 < loadR free ws a b ∧ ∀ a' b', Seen a' b' → a' < b' → 0 < loadR free ws a' b' → loadR free ws a' b' * (lenF free a b : Rat) ≤ loadR free ws a b * (lenF free a' b' : Rat)
theorem load_len (hw : ∀ j ∈ ws, Win free j) {a b : Int} (h : 0 < loadR free ws a b) : (0 : Rat) < (lenF free a b : Rat) := by
  have : ∃ j ∈ ws, inn free a b j = true := by
    apply Classical.byContradiction
    intro hn
    have : loadR free ws a b = 0 := ls_zero fun j hj => by
      rw [if_neg]
      exact fun z => hn ⟨j, hj, z⟩
    grind
  obtain ⟨j, hj, h⟩ := this
  have h' := of_decide_eq_true h
  have W := hw j hj
  rw [lenF_eq]
  exact rem_pos W.fst (Rat.intCast_le_intCast.mpr h'.1) (Rat.intCast_lt_intCast.mpr (by have := W.lt; omega))
theorem best_mono {S S' : Int → Int → Prop} {o : Option (Int × Int)} (h : ∀ a b, S a b ↔ S' a b) (B : BestOf free ws S o) : BestOf free ws S' o := by
  cases o with
  | none => exact fun a b s => B a b ((h a b).mpr s)
  | some p => exact ⟨(h _ _).mp B.1, B.2.1, B.2.2.1, fun a b s => B.2.2.2 a b ((h a b).mpr s)⟩
theorem best_skip {S : Int → Int → Prop} {o : Option (Int × Int)} {a b : Int} (B : BestOf free ws S o) (h : ¬ (a < b ∧ 0 < loadR free ws a b)) : BestOf free ws (fun x y => S x y ∨ (x = a ∧ y = b)) o := by
  cases o with
  | none =>
    intro x y s l p
    rcases s with s | ⟨rfl, rfl⟩
    · exact B x y s l p
    · exact h ⟨l, p⟩
  | some p =>
    refine ⟨.inl B.1, B.2.1, B.2.2.1, fun x y s l q => ?_⟩
    rcases s with s | ⟨rfl, rfl⟩
    · exact B.2.2.2 x y s l q
    · exact absurd ⟨l, q⟩ h
theorem best_first {S : Int → Int → Prop} {a b : Int} (B : BestOf free ws S none) (h : a < b) (hp : 0 < loadR free ws a b) : BestOf free ws (fun x y => S x y ∨ (x = a ∧ y = b)) (some (a, b)) := by
  refine ⟨.inr ⟨rfl, rfl⟩, h, hp, fun x y s l q => ?_⟩
  rcases s with s | ⟨rfl, rfl⟩
  · exact absurd q (B x y s l)
  · exact Rat.le_refl
theorem best_keep {S : Int → Int → Prop} {a b a0 b0 : Int} (B : BestOf free ws S (some (a0, b0))) (h : ¬ loadR free ws a b * (lenF free a0 b0 : Rat) > loadR free ws a0 b0 * (lenF free a b : Rat)) : BestOf free ws (fun x y => S x y ∨ (x = a ∧ y = b)) (some (a0, b0)) := by
  refine ⟨.inl B.1, B.2.1, B.2.2.1, fun x y s l q => ?_⟩
  rcases s with s | ⟨rfl, rfl⟩
  · exact B.2.2.2 x y s l q
  · exact Rat.not_lt.mp h
theorem best_new (hw : ∀ j ∈ ws, Win free j) {S : Int → Int → Prop} {a b a0 b0 : Int} (B : BestOf free ws S (some (a0, b0))) (hab : a < b) (hp : 0 < loadR free ws a b) (h : loadR free ws a b * (lenF free a0 b0 : Rat) > loadR free ws a0 b0 * (lenF free a b : Rat)) : BestOf free ws (fun x y => S x y ∨ (x = a ∧ y = b)) (some (a, b)) := by
  refine ⟨.inr ⟨rfl, rfl⟩, hab, hp, fun x y s l q => ?_⟩
  rcases s with s | ⟨rfl, rfl⟩
  · have h1 := B.2.2.2 x y s l q
    have l0 := load_len hw B.2.2.1
    have l1 := load_len hw hp
    have l2 := load_len hw q
    -- load' len0 <= load0 len', load0 len < load len0
    have h2 := Rat.mul_le_mul_of_nonneg_right h1 (show (0 : Rat) ≤ (lenF free a b : Rat) by grind)
    have h3 := Rat.mul_le_mul_of_nonneg_right (show loadR free ws a0 b0 * (lenF free a b : Rat) ≤ loadR free ws a b * (lenF free a0 b0 : Rat) by grind) (show (0 : Rat) ≤ (lenF free x y : Rat) by grind)
    apply Rat.not_lt.mp
    intro z
    have h4 := Rat.mul_lt_mul_of_pos_right z l0
    grind
  · exact Rat.le_refl
theorem best_dens {o : Option (Int × Int)} (hne : ws ≠ []) (hw : ∀ j ∈ ws, Win free j) (hp : ∀ j ∈ ws, 0 < j.wk) (B : BestOf free ws (fun a b => (∃ j ∈ ws, Fi free j = a) ∧ ∃ j ∈ ws, La free j = b) o) : ∃ a b, o = some (a, b) ∧ Dens free ws a b := by
  have key : ∀ j ∈ ws, 0 < loadR free ws (Fi free j) (La free j) := fun j hj => by
    have h := ls_pick (g := fun i => if inn free (Fi free j) (La free j) i = true then i.wk else 0) (fun i hi => by have := hp i hi; split <;> grind) hj
    have : inn free (Fi free j) (La free j) j = true := decide_eq_true ⟨Int.le_refl _, Int.le_refl _⟩
    rw [if_pos this] at h
    have := hp j hj
    unfold loadR
    grind
  cases o with
  | none =>
    obtain ⟨j, hj⟩ := List.exists_mem_of_ne_nil ws hne
    exact absurd (key j hj) (B _ _ ⟨⟨j, hj, rfl⟩, ⟨j, hj, rfl⟩⟩ (hw j hj).lt)
  | some p =>
    obtain ⟨a, b⟩ := p
    obtain ⟨⟨h1, h2⟩, h3, h4, h5⟩ := B
    exact ⟨a, b, rfl, h1, h2, h3, h4, fun i hi j hj hlt hq => h5 _ _ ⟨⟨i, hi, rfl⟩, ⟨j, hj, rfl⟩⟩ hlt hq⟩
end
def BestV (free : List (Int × Int)) (ws : List (Jb Str)) (sc : Nat) (K : PySem.W.Frag) (H : Hp) (v : V) : Option (Int × Int) → Prop
  | none => v = .non
  | some (a, b) => ∃ t z, v = .ref t ∧ SqT K H t [.int z, .int (lenF free a b), .int a, .int b] ∧ (z : Rat) = loadR free ws a b * (sc : Rat)
theorem BestV.same {free : List (Int × Int)} {ws : List (Jb Str)} {sc : Nat} {K : PySem.W.Frag} {H H' : Hp} {v : V} {o : Option (Int × Int)} (e : Same H H') (h : BestV free ws sc K H v o) : BestV free ws sc K H' v o := by
  cases o with
  | none => exact h
  | some p =>
    obtain ⟨t, z, rfl, h, hz⟩ := h
    exact ⟨t, z, rfl, sqT_same e h, hz⟩
section
variable {P : Program} {w : World} {K : PySem.W.Frag} {mg : Str → Option Value} {base : Heap}
theorem scSD : FnScope ["self", "best", "a", "b", "load", "length", "row"] ["self"] (defScope sScD) := ⟨rfl, rfl, rfl, by decide +kernel, rfl, by decide +kernel, by decide +kernel⟩
def spScD (K : PySem.W.Frag) (C : Addr) : Sp := fun vs H Q _ => ∃ x free sc ws, vs = [.ref x] ∧ ScanAt K C H x free sc ws ∧ ws ≠ [] ∧ ws.length ≤ 60 ∧ free.length ≤ 1000 ∧ (∀ j ∈ ws, Win free j) ∧ (∀ j ∈ ws, 0 < j.wk) ∧ 0 < sc ∧
  (∀ (a b z : Int), (z : Rat) = loadR free ws a b * (sc : Rat) → z.natAbs < 2 ^ 4600) ∧ (∀ a b, (lenF free a b).natAbs < 2 ^ 4600) ∧
  ∀ (t : Addr) (z a b : Int) H', Same H H' → Dens free ws a b → (z : Rat) = loadR free ws a b * (sc : Rat) → SqT K H' t [.int z, .int (lenF free a b), .int a, .int b] → Q (.ref t) H'
theorem ok_scD {C : Addr} (M : TM K C "densest" "Scan.densest" sScD ["self"]) (T : TxS K mg C) (gSo : mg "sorted" = none) (gRe : mg "reversed" = none) (L : MDef P w K mg base C "load" ["self", "a", "b"] 1 (spScL K C)) (N : MDef P w K mg base C "length" ["self", "a", "b"] 2 (spScN K C)) :
    MDef P w K mg base C "densest" ["self"] 3 (spScD K C) := by
  refine M.ok scSD (fun vs H Q E h => ?_) (fun f cdv A outer s H vs Q E hr h => ⟨_, (pss_cons (ps_set (i := 1) scSD.nd rfl (.inl rfl) pe_non) (pss_cons (ps_for PassesOwn.never rfl (pi_list (pe_callB (cr_sortedSet rfl) (by rfl) gSo (by decide +kernel) (pa_cons (pe_setc (own := [("row", 6)]) (te := tOp (rIxT K) (tVar 6) (tC (.int 0))) rfl scSD.nd (pi_list (pe_fld (pv 0) rfl)) (blkOk_by (own := [("row", 6)]) (N := ["self", "best", "a", "b", "load", "length", "row"]) (sc := defScope sScD) (by decide +kernel)) (fun _ _ _ _ _ => by exact (pg_name (i := 6) scSD.nd rfl (.inl rfl))) (fun _ _ _ _ _ => by exact (pe_ix ix_tup (pv 6) pe_int (fun _ _ => rfl)))) pa_nil))) (pg_name (i := 2) scSD.nd rfl (.inl rfl)) (pss_one (ps_for PassesOwn.never rfl (pi_reversed (by rfl) gRe (pa_cons (pe_callB (cr_sortedSet rfl) (by rfl) gSo (by decide +kernel) (pa_cons (pe_setc (own := [("row", 6)]) (te := tOp (rIxT K) (tVar 6) (tC (.int 1))) rfl scSD.nd (pi_list (pe_fld (pv 0) rfl)) (blkOk_by (own := [("row", 6)]) (N := ["self", "best", "a", "b", "load", "length", "row"]) (sc := defScope sScD) (by decide +kernel)) (fun _ _ _ _ _ => by exact (pg_name (i := 6) scSD.nd rfl (.inl rfl))) (fun _ _ _ _ _ => by exact (pe_ix ix_tup (pv 6) pe_int (fun _ _ => rfl)))) pa_nil)) pa_nil)) (pg_name (i := 3) scSD.nd rfl (.inl rfl)) (pss_cons (ps_set (i := 4) scSD.nd rfl (.inl rfl) (pe_ifExp (pt_cmpR op_lt (pv 2) (pv 3) (nomark _)) (pe_mdef L T.cl (pv 0) (hr.mono (by decide)) (pa_cons (pv 2) (pa_cons (pv 3) pa_nil))) pe_int)) (pss_one (ps_if (pt_cmpR op_gt (pv 4) pe_int (nomark _)) (pss_cons (ps_set (i := 5) scSD.nd rfl (.inl rfl) (pe_mdef N T.cl (pv 0) (hr.mono (by decide)) (pa_cons (pv 2) (pa_cons (pv 3) pa_nil)))) (pss_one (ps_if (PW.pt (pw_or (pt_cmpR op_isN (pv 1) pe_non (nomark _)) (pw_or1 (pt_cmpR op_gt (pe_op op_mulW (pv 4) (pe_ix ix_tup (pv 1) pe_int (fun _ _ => rfl))) (pe_op op_mulW (pe_ix ix_tup (pv 1) pe_int (fun _ _ => rfl)) (pv 5)) (nomark _))))) (pss_one (ps_set (i := 1) scSD.nd rfl (.inl rfl) (pe_tup (pa_cons (pv 4) (pa_cons (pv 5) (pa_cons (pv 2) (pa_cons (pv 3) pa_nil))))))) pss_nil))) pss_nil)))))) (pss_one (ps_ret (pv 1))))), ?_⟩)
  · obtain ⟨_, _, _, _, rfl, _⟩ := h
    rfl
  · obtain ⟨x, free, sc, ws, rfl, S, hne, hwl, hfl, hw, hp, hsc, hz, hn, k⟩ := h
    have ⟨dx, fs, lf, lr, us, rvs, h1, h2, h3, h4, h5, h6, h7, h8, h9, h10⟩ := S.ex
    -- the set of a column, sorted
    have setof : ∀ (col : Nat) (fc : Jb Str → Int) (H0 : Hp) (τ : L2.St) (D : Addr) (Qd : Hp → Prop), (∀ (t : Addr) (j : Jb Str) (z : Int), [V.int (Fi free j), .int (La free j), .str j.nm, .int z][col]? = some (V.int (fc j))) → Same H H0 → τ.length = 7 → H0 D = none →
        (∀ (Sg : Int → Bool) (n : Nat) G, Same H0 G → G D = some (SetO w D Sg n) → n < 61 → (∀ k, Sg k = true ↔ ∃ j ∈ ws, fc j = k) → Qd G) →
        ∃ Wa : Nat → Nat → Hp → Prop, (∃ m, Wa 0 m (upd H0 D (SetO w D (fun _ => false) 0))) ∧ ∀ i m G2, Wa i m G2 →
          ((Itl K lr).stop i G2 ∧ Qd G2) ∨
          ((Itl K lr).go i G2 ∧ ∃ Nx : Hp → Prop, (∀ G3, Nx G3 → ∃ m', m' < m ∧ Wa (i + 1) m' G3) ∧
            ∀ x G3, (Itl K lr).yld i G2 x G3 → gName 6 x (wipe τ [6]) G3 fun τ4 G4 => wipe τ4 [6] = wipe τ [6] ∧ (tOp (rIxT K) (tVar 6) (tC (.int (col : Int)))) τ4 G4 fun y G5 =>
              ∃ (c : Int) (S : Int → Bool) (n : Nat), y = .int c ∧ G5 D = some (SetO w D S n) ∧ n + 1 < scanBound ∧
                Nx (upd G5 D (SetO w D (fun j => S j || decide (j = c)) (if S c = true then n else n + 1)))) := by
      intro col fc H0 τ D Qd hcol S0 hτ nD kq
      refine setc_list (K := K) (a := lr) (xs := rvs) (fun i H' => ∃ (Sg : Int → Bool) (n : Nat), H' D = some (SetO w D Sg n) ∧ Same H0 H' ∧ n ≤ i ∧ (∀ k, Sg k = true ↔ ∃ j ∈ ws.take i, fc j = k))
        ⟨fun _ => false, 0, upd_same, same_new nD, Nat.le_refl _, fun k => by simp⟩ (fun i G ⟨_, _, _, S1, _⟩ => S1.seq (S0.seq (SqL.of h9))) ?_ ?_
      · rintro i y H' hi ⟨Sg, n, hD, S1, hle, hS⟩
        obtain ⟨j, hj, t, z, rfl, ht, hz⟩ := pair_get h10 hi
        obtain ⟨hi', hj'⟩ := List.getElem?_eq_some_iff.mp hj
        refine ⟨wp (wp0 _ _), _, ?_, t, _, _, _, rfl, rfl, sqT_same (S0.trans S1) ht, at_of rfl (hcol t j z), fc j, Sg, n, rfl, hD, ?_, ?_⟩
        · rw [List.getElem?_set, if_pos rfl, if_pos (by rw [wipe_length, hτ]; omega)]
        · exact Nat.lt_of_le_of_lt (show n + 1 ≤ 62 by omega) (by decide)
        · refine ⟨_, _, upd_same, same_upd S1 nD, by split <;> omega, fun k => ?_⟩
          rw [Bool.or_eq_true, hS k, decide_eq_true_eq, List.take_succ_eq_append_getElem hi', hj']
          constructor
          · rintro (⟨i2, m, e⟩ | e)
            · exact ⟨i2, List.mem_append.mpr (.inl m), e⟩
            · exact ⟨j, List.mem_append.mpr (.inr (List.mem_singleton_self _)), e.symm⟩
          · rintro ⟨i2, m, e⟩
            rcases List.mem_append.mp m with m | m
            · exact .inl ⟨i2, m, e⟩
            · rw [List.mem_singleton.mp m] at e
              exact .inr e.symm
      · rintro G ⟨Sg, n, hD, S1, hle, hS⟩
        rw [pair_len h10] at hle hS
        rw [List.take_length] at hS
        exact kq Sg n G S1 hD (by omega) hS
    refine ⟨_, rfl, x, C, dx, fs, _, rfl, h1, T.cl, T.nR, h3, lr, rfl, ⟨_, SqL.of h9⟩, fun D nD => setof 0 (fun j => Fi free j) H [some (.ref x), some .non, none, none, none, none, none] D _ (fun t j z => rfl) (Same.refl H) rfl nD fun Sg n H0 S0 hD hn60 hSg => ?_⟩
    refine ⟨D, Sg, n, rfl, hD, by omega, fun A pA hA1 hA2' hA3 npA => ?_⟩
    have hA2 := fun k => (hA2' k).trans (hSg k)
    have S1 := S0.trans (same_new (o := .lst (A.map V.int)) npA)
    have hA4 : (upd H0 pA (.lst (A.map V.int))) pA = some (.lst (A.map V.int)) := upd_same
    generalize upd H0 pA (.lst (A.map V.int)) = H1 at S1 hA4 ⊢
    refine ⟨pA, rfl, ⟨_, SqL.of hA4⟩, for_list (K := K) (a := pA) (xs := A.map V.int) (fun i σ H' => ∃ vb o2 o3 o4 o5 o6 o, σ = [some (.ref x), some vb, o2, o3, o4, o5, o6] ∧ Same H1 H' ∧ BestV free ws sc K H' vb o ∧ BestOf free ws (fun a b => (∃ i', i' < i ∧ A[i']? = some a) ∧ ∃ j ∈ ws, La free j = b) o)
      ⟨.non, none, none, none, none, none, none, rfl, Same.refl _, rfl, fun a b ⟨⟨i', h, _⟩, _⟩ => absurd h (Nat.not_lt_zero _)⟩ (fun i σ H' _ ⟨_, _, _, _, _, _, _, _, S2, _⟩ => S2.seq (SqL.of hA4)) ?_ ?_⟩
    · rintro i y σ H' hi ⟨vb, o2, o3, o4, o5, o6, o, rfl, S2, hb, hB⟩
      obtain ⟨a, ha, rfl⟩ : ∃ a, A[i]? = some a ∧ V.int a = y := by
        rw [List.getElem?_map] at hi
        obtain ⟨a, e1, e2⟩ := Option.map_eq_some_iff.mp hi
        exact ⟨a, e1, e2⟩
      refine ⟨_, rfl, x, C, dx, fs, _, rfl, S2 _ _ (S1 _ _ h1), T.cl, T.nR, h3, lr, rfl, ⟨_, SqL.of (S2 _ _ (S1 _ _ h9))⟩, fun D2 nD2 => setof 1 (fun j => La free j) H' [some (.ref x), some vb, some (.int a), o3, o4, o5, o6] D2 _ (fun t j z => rfl) (S1.trans S2) rfl nD2 fun Sg2 n2 H0' S0' hD2 hn602 hSg2 => ?_⟩
      refine ⟨D2, Sg2, n2, rfl, hD2, by omega, fun B pB hB1 hB2' hB3 npB => ?_⟩
      have hB2 := fun k => (hB2' k).trans (hSg2 k)
      have S3 := S0'.trans (same_new (o := .lst (B.map V.int)) npB)
      have hB4 : (upd H0' pB (.lst (B.map V.int))) pB = some (.lst (B.map V.int)) := upd_same
      generalize upd H0' pB (.lst (B.map V.int)) = H3 at S3 hB4 ⊢
      have hlB : (B.map V.int).length = B.length := by rw [List.length_map]
      refine ⟨pB, B.map V.int, rfl, SqL.of hB4, ?_⟩
      refine RT.for_Itv (K := K) (a := pB) (xs := B.map V.int) (fun k σ H4 => ∃ vb o3 o4 o5 o6 o, σ = [some (.ref x), some vb, some (.int a), o3, o4, o5, o6] ∧ Same H1 H4 ∧ Same H3 H4 ∧ BestV free ws sc K H4 vb o ∧
          BestOf free ws (fun a' b' => ((∃ i', i' < i ∧ A[i']? = some a') ∧ ∃ j ∈ ws, La free j = b') ∨ (a' = a ∧ ∃ k', k' < k ∧ B[B.length - 1 - k']? = some b')) o)
        ⟨vb, o3, o4, o5, o6, o, rfl, S2.trans S3, Same.refl _, hb.same S3, best_mono (fun a' b' => ⟨.inl, fun z => z.resolve_right fun ⟨_, k', h, _⟩ => Nat.not_lt_zero _ h⟩) hB⟩ (fun k σ H4 ⟨_, _, _, _, _, _, _, _, S4, _⟩ => S4.seq (SqL.of hB4)) ?_ ?_
      · rintro k y σ H4 hk hi2 ⟨vb, o3, o4, o5, o6, o, rfl, S4, S5, hb, hB⟩
        rw [hlB] at hk hi2
        obtain ⟨b, hbk, rfl⟩ : ∃ b, B[B.length - 1 - k]? = some b ∧ V.int b = y := by
          rw [List.getElem?_map] at hi2
          obtain ⟨b, e1, e2⟩ := Option.map_eq_some_iff.mp hi2
          exact ⟨b, e1, e2⟩
        have SA := S.same (S1.trans S4)
        have hx4 := S4 _ _ (S1 _ _ h1)
        -- the seen pairs behind the turn
        have seen : ∀ {o : Option (Int × Int)}, BestOf free ws (fun a' b' => (((∃ i', i' < i ∧ A[i']? = some a') ∧ ∃ j ∈ ws, La free j = b') ∨ (a' = a ∧ ∃ k', k' < k ∧ B[B.length - 1 - k']? = some b')) ∨ (a' = a ∧ b' = b)) o →
            BestOf free ws (fun a' b' => ((∃ i', i' < i ∧ A[i']? = some a') ∧ ∃ j ∈ ws, La free j = b') ∨ (a' = a ∧ ∃ k', k' < k + 1 ∧ B[B.length - 1 - k']? = some b')) o := best_mono fun a' b' => by
          constructor
          · rintro ((z | ⟨z, k', z1, z2⟩) | ⟨z1, z2⟩)
            · exact .inl z
            · exact .inr ⟨z, k', by omega, z2⟩
            · exact .inr ⟨z1, k, by omega, by rw [z2]; exact hbk⟩
          · rintro (z | ⟨z, k', z1, z2⟩)
            · exact .inl (.inl z)
            · by_cases e : k' = k
              · subst e
                rw [hbk] at z2
                exact .inr ⟨z, (Option.some.inj z2).symm⟩
              · exact .inl (.inr ⟨z, k', by omega, z2⟩)
        refine ⟨_, rfl, _, rfl, _, _, rfl, rfl, _, rfl, ?_⟩
        refine ite2 (fun c => ?_) (fun c => ?_)
        · have c := of_decide_eq_true c
          refine ⟨_, rfl, x, dx, fs, rfl, hx4, h4, _, rfl, _, rfl, x, a, b, free, sc, ws, rfl, SA, by omega, fun z H5 S6 hz5 => ?_⟩
          refine ⟨_, rfl, _, _, rfl, rfl, _, rfl, ?_⟩
          have hpos : decide (z > 0) = decide (0 < loadR free ws a b) := by
            apply decide_eq_decide.mpr
            have hscr : (0 : Rat) < (sc : Rat) := Rat.natCast_pos.mpr hsc
            constructor
            · intro h
              have h' : (0 : Rat) < (z : Rat) := Rat.intCast_pos.mpr h
              rw [hz5] at h'
              apply Rat.not_le.mp
              intro q
              have := Rat.mul_le_mul_of_nonneg_right q (show (0 : Rat) ≤ (sc : Rat) by grind)
              grind
            · intro h
              have := Rat.mul_pos h hscr
              rw [← hz5] at this
              exact Rat.intCast_pos.mp this
          refine ite2 (fun c2 => ?_) (fun c2 => ?_)
          · have c2' : decide (z > 0) = true := c2
            rw [hpos] at c2'
            have c2' := of_decide_eq_true c2'
            have SA5 := SA.same S6
            refine ⟨_, rfl, x, dx, fs, rfl, S6 _ _ hx4, h5, _, rfl, _, rfl, x, a, b, free, sc, ws, rfl, SA5, hfl, fun H6 S7 => ?_⟩
            have hbs := hb.same (S6.trans S7)
            have hn1 := hn a b
            have hn2 := hz a b z hz5
            -- the pair is stored
            have fin : ∀ (H7 : Hp), Same H6 H7 → BestOf free ws (fun a' b' => ((∃ i', i' < i ∧ A[i']? = some a') ∧ ∃ j ∈ ws, La free j = b') ∨ (a' = a ∧ ∃ k', k' < k + 1 ∧ B[B.length - 1 - k']? = some b')) (some (a, b)) → ∀ t, H7 t = none →
                ∃ vb' o3' o4' o5' o6' o', [some (V.ref x), some (.ref t), some (.int a), some (.int b), some (.int z), some (.int (lenF free a b)), o6] = [some (.ref x), some vb', some (.int a), o3', o4', o5', o6'] ∧ Same H1 (upd H7 t (.tup [.int z, .int (lenF free a b), .int a, .int b])) ∧ Same H3 (upd H7 t (.tup [.int z, .int (lenF free a b), .int a, .int b])) ∧ BestV free ws sc K (upd H7 t (.tup [.int z, .int (lenF free a b), .int a, .int b])) vb' o' ∧
                BestOf free ws (fun a' b' => ((∃ i', i' < i ∧ A[i']? = some a') ∧ ∃ j ∈ ws, La free j = b') ∨ (a' = a ∧ ∃ k', k' < k + 1 ∧ B[B.length - 1 - k']? = some b')) o' := fun H7 e7 hB7 t ht =>
              ⟨.ref t, _, _, _, _, some (a, b), rfl, (((S4.trans S6).trans S7).trans e7).trans (same_new ht), (((S5.trans S6).trans S7).trans e7).trans (same_new ht), ⟨t, z, rfl, SqT.of upd_same, hz5⟩, hB7⟩
            cases o with
            | none =>
              have hb0 : vb = .non := hbs
              subst hb0
              refine ⟨_, rfl, rfl, _, rfl, ?_⟩
              refine iteT (iteT ?_)
              refine ⟨_, rfl, _, rfl, _, rfl, _, rfl, (by show 4 ≤ sizeLine; decide), fun t ht => ?_⟩
              exact fin H6 (Same.refl _) (seen (best_first hB c c2')) t ht
            | some p =>
              obtain ⟨a0, b0⟩ := p
              obtain ⟨t0, z0, rfl, ht0, hz0⟩ := hbs
              have hn3 := hn a0 b0
              have hn4 := hz a0 b0 z0 hz0
              refine ⟨_, rfl, rfl, _, rfl, ?_⟩
              refine iteF ?_
              refine ⟨_, rfl, _, rfl, t0, _, _, _, rfl, rfl, ht0, rfl, _, _, rfl, rfl, cm hn2 hn3, _, rfl, t0, _, _, _, rfl, rfl, ht0, rfl, _, rfl, _, _, rfl, rfl, cm hn4 hn1, _, _, rfl, rfl, _, rfl, ?_⟩
              have hscr : (0 : Rat) < (sc : Rat) := Rat.natCast_pos.mpr hsc
              have hcmp : (z * lenF free a0 b0 > z0 * lenF free a b) ↔ loadR free ws a b * (lenF free a0 b0 : Rat) > loadR free ws a0 b0 * (lenF free a b : Rat) := by
                have e1 : ((z * lenF free a0 b0 : Int) : Rat) = loadR free ws a b * (lenF free a0 b0 : Rat) * (sc : Rat) := by rw [Rat.intCast_mul, hz5]; grind
                have e2 : ((z0 * lenF free a b : Int) : Rat) = loadR free ws a0 b0 * (lenF free a b : Rat) * (sc : Rat) := by rw [Rat.intCast_mul, hz0]; grind
                constructor
                · intro h
                  have h' : ((z0 * lenF free a b : Int) : Rat) < ((z * lenF free a0 b0 : Int) : Rat) := Rat.intCast_lt_intCast.mpr h
                  rw [e1, e2] at h'
                  apply Rat.not_le.mp
                  intro q
                  have := Rat.mul_le_mul_of_nonneg_right q (show (0 : Rat) ≤ (sc : Rat) by grind)
                  grind
                · intro h
                  have := Rat.mul_lt_mul_of_pos_right h hscr
                  rw [← e1, ← e2] at this
                  exact Rat.intCast_lt_intCast.mp this
              refine ite2 (fun c3 => ?_) (fun c3 => ?_)
              · have c3 : z * lenF free a0 b0 > z0 * lenF free a b := of_decide_eq_true c3
                refine ⟨_, rfl, _, rfl, _, rfl, _, rfl, (by show 4 ≤ sizeLine; decide), fun t ht => ?_⟩
                exact fin H6 (Same.refl _) (seen (best_new hw hB c c2' (hcmp.mp c3))) t ht
              · have c3 : ¬ z * lenF free a0 b0 > z0 * lenF free a b := fun z' => c3 (decide_eq_true z')
                exact ⟨.ref t0, _, _, _, _, some (a0, b0), rfl, (S4.trans S6).trans S7, (S5.trans S6).trans S7, ⟨t0, z0, rfl, ht0, hz0⟩, seen (best_keep hB fun z' => c3 (hcmp.mpr z'))⟩
          · have c2' : ¬ 0 < loadR free ws a b := fun z' => c2 (by rw [hpos]; exact decide_eq_true z')
            exact ⟨vb, _, _, _, _, o, rfl, S4.trans S6, S5.trans S6, hb.same S6, seen (best_skip hB fun z' => c2' z'.2)⟩
        · have c : ¬ a < b := fun z' => c (decide_eq_true z')
          refine ⟨_, rfl, _, _, rfl, rfl, _, rfl, ?_⟩
          refine iteF ?_
          exact ⟨vb, _, _, _, _, o, rfl, S4, S5, hb, seen (best_skip hB fun z' => c z'.1)⟩
      · rintro σ H4 ⟨vb, o3, o4, o5, o6, o, rfl, S4, S5, hb, hB⟩
        rw [hlB] at hB
        refine ⟨vb, _, _, _, _, _, o, rfl, S4, hb, best_mono (fun a' b' => ?_) hB⟩
        constructor
        · rintro (⟨⟨i', z1, z2⟩, z3⟩ | ⟨z1, k', z2, z3⟩)
          · exact ⟨⟨i', by omega, z2⟩, z3⟩
          · exact ⟨⟨i, by omega, by rw [z1]; exact ha⟩, (hB2 b').mp (List.mem_of_getElem? z3)⟩
        · rintro ⟨⟨i', z1, z2⟩, z3⟩
          by_cases e : i' = i
          · subst e
            rw [ha] at z2
            obtain ⟨m, hm, hm2⟩ := List.getElem_of_mem ((hB2 b').mpr z3)
            refine .inr ⟨(Option.some.inj z2).symm, B.length - 1 - m, by omega, ?_⟩
            rw [show B.length - 1 - (B.length - 1 - m) = m by omega, List.getElem?_eq_getElem hm, hm2]
          · exact .inl ⟨⟨i', by omega, z2⟩, z3⟩
    · rintro σ H' ⟨vb, o2, o3, o4, o5, o6, o, rfl, S2, hb, hB⟩
      have hB' : BestOf free ws (fun a b => (∃ j ∈ ws, Fi free j = a) ∧ ∃ j ∈ ws, La free j = b) o := best_mono (fun a' b' => by
        constructor
        · rintro ⟨⟨i', z1, z2⟩, z3⟩
          exact ⟨(hA2 a').mp (List.mem_of_getElem? z2), z3⟩
        · rintro ⟨z1, z3⟩
          obtain ⟨m, hm, hm2⟩ := List.getElem_of_mem ((hA2 a').mpr z1)
          exact ⟨⟨m, by rw [List.length_map]; exact hm, by rw [List.getElem?_eq_getElem hm, hm2]⟩, z3⟩) hB
      obtain ⟨a, b, rfl, hD⟩ := best_dens hne hw hp hB'
      obtain ⟨t, z, rfl, ht, hz⟩ := hb
      exact ⟨_, rfl, k t z a b H' (S1.trans S2) hD hz ht⟩
end
end SW

set_option Elab.async false
set_option linter.all false
set_option maxRecDepth 100000
set_option maxHeartbeats 4000000
set_option exponentiation.threshold 300
namespace SW
open PySem PySem.Spec PyProof.Rows L2 PySem.Calls
/-- math.lcm of two ints below 2 ^ 13000 -/
def rLcm : List V → Hp → VK → Prop := fun vs H Q => ∃ a b : Nat, vs = [.int (a : Int), .int (b : Int)] ∧ a < 2 ^ 9000 ∧ b < 2 ^ 9000 ∧ Nat.lcm a b < 2 ^ 9000 ∧ Q (.int ((Nat.lcm a b : Nat) : Int)) H
theorem log_small {n : Nat} (h : n < 2 ^ 9000) : ¬ n.log2 / 30 + 1 > 450 := by
  have := PySem.W.mg_log (n := n) (k := 8999) h
  omega
theorem cr_lcm {X : Cx} : CallR X (.builtin "math.lcm") rLcm := by
  intro pins s σ H vs us Q I r h
  obtain ⟨a, b, rfl, ha, hb, hc, q⟩ := h
  obtain ⟨t, u, rfl⟩ := Vals.int2 r
  have e1 : Nat.lcm 1 a = a := Nat.lcm_one_left a
  have m1 : max 1 ((a : Nat) : Int).natAbs < 2 ^ 9000 := by
    rw [Int.natAbs_natCast]
    exact Nat.max_lt.mpr ⟨Nat.one_lt_two_pow (by decide), ha⟩
  have m2 : max ((a : Nat) : Int).natAbs ((b : Nat) : Int).natAbs < 2 ^ 9000 := by
    rw [Int.natAbs_natCast, Int.natAbs_natCast]
    exact Nat.max_lt.mpr ⟨ha, hb⟩
  have e2 : ((((Nat.lcm 1 ((a : Nat) : Int).natAbs).lcm ((b : Nat) : Int).natAbs : Nat) : Int)) = ((Nat.lcm a b : Nat) : Int) := by rw [Int.natAbs_natCast, Int.natAbs_natCast, e1]
  have hs : (((Nat.lcm a b : Nat) : Int)).natAbs.log2 < bitsLine := by
    rw [Int.natAbs_natCast]
    have := PySem.W.mg_log (n := Nat.lcm a b) (k := 8999) hc
    exact Nat.lt_of_le_of_lt this (by decide)
  have run := PySem.W.mg_run_lcm (a : Int) t (b : Int) u (log_small m1) (log_small m2) (by rw [e2]; exact hs)
  rw [e2] at run
  exact call_function_meets PySem.W.MGF.kind_lcm PySem.W.MGF.plain_lcm PySem.W.MGF.entry_lcm (PySem.W.MGF.args_lcm _ _) run.meets ⟨.int _, H, I.tok _, ⟨_, rfl⟩, q⟩
/-! the scale -/
def scaleOf (jobs : List (Jb Str)) : Nat := jobs.foldl (fun s j => Nat.lcm s j.wk.den) 1
theorem scale_dvd {S : Nat} : ∀ (jobs : List (Jb Str)) (s : Nat), s ∣ S → (∀ j ∈ jobs, j.wk.den ∣ S) → jobs.foldl (fun s j => Nat.lcm s j.wk.den) s ∣ S
  | [], s, h, _ => h
  | j :: r, s, h, hj => by
    rw [List.foldl_cons]
    exact scale_dvd r _ (Nat.lcm_dvd h (hj j List.mem_cons_self)) fun i hi => hj i (List.mem_cons_of_mem _ hi)
theorem dvd_scale : ∀ (jobs : List (Jb Str)) (s : Nat), s ∣ jobs.foldl (fun s j => Nat.lcm s j.wk.den) s ∧ ∀ j ∈ jobs, j.wk.den ∣ jobs.foldl (fun s j => Nat.lcm s j.wk.den) s
  | [], s => ⟨Nat.dvd_refl _, fun _ h => (List.not_mem_nil h).elim⟩
  | j :: r, s => by
    rw [List.foldl_cons]
    obtain ⟨h1, h2⟩ := dvd_scale r (Nat.lcm s j.wk.den)
    refine ⟨Nat.dvd_trans (Nat.dvd_lcm_left _ _) h1, fun i hi => ?_⟩
    rcases List.mem_cons.mp hi with rfl | hi
    · exact Nat.dvd_trans (Nat.dvd_lcm_right _ _) h1
    · exact h2 i hi
theorem scale_pos : ∀ (jobs : List (Jb Str)) (s : Nat), 0 < s → 0 < jobs.foldl (fun s j => Nat.lcm s j.wk.den) s
  | [], s, h => h
  | j :: r, s, h => by
    rw [List.foldl_cons]
    exact scale_pos r _ (Nat.lcm_pos h j.wk.den_pos)
/-- a work in parts of the scale -/
theorem work_scaled {q : Rat} {s : Nat} (h : q.den ∣ s) : ((q.num * ((s : Int) / (q.den : Int)) : Int) : Rat) = q * (s : Rat) := by
  obtain ⟨c, rfl⟩ := h
  have hd : (q.den : Int) ≠ 0 := den_ne q
  have e : (((q.den * c : Nat) : Int)) / (q.den : Int) = (c : Int) := by
    rw [Int.natCast_mul, Int.mul_ediv_cancel_left _ hd]
  rw [e, Rat.intCast_mul, ← num_eq q, Rat.intCast_natCast, Rat.natCast_mul]
  grind
/-- the parts of a free time are together no longer than it -/
theorem parts_sum (E : Int) : ∀ (L : List (Int × Int)) (t : Int), L.Pairwise (fun x y => x.2 ≤ y.1) → (∀ x ∈ L, t ≤ x.1 ∧ x.1 < x.2 ∧ x.2 ≤ E) → t ≤ E → 0 ≤ (L.map fun x => x.2 - x.1).sum ∧ (L.map fun x => x.2 - x.1).sum ≤ E - t
  | [], t, _, _, h => by simp; omega
  | x :: r, t, h, hx, ht => by
    obtain ⟨h1, h2⟩ := List.pairwise_cons.mp h
    obtain ⟨x1, x2, x3⟩ := hx x List.mem_cons_self
    have ih := parts_sum E r x.2 h2 (fun y hy => by
      have := hx y (List.mem_cons_of_mem _ hy)
      exact ⟨h1 y hy, this.2⟩) x3
    rw [List.map_cons, List.sum_cons]
    omega
theorem lenF_small {free : List (Int × Int)} (hf : FreeOk free) {E : Int} (hE : ∀ x ∈ free, x.2 ≤ E) (h0 : 0 ≤ E) (a b : Int) : 0 ≤ lenF free a b ∧ lenF free a b ≤ E := by
  have ok := part_ok hf a b
  have := parts_sum E (freePart free a b) 0 ok.1 (fun x hx => by
    have h1 := ok.2 x hx
    obtain ⟨y, hy, h2, rfl⟩ := part_mem.mp hx
    have h3 := hE y hy
    simp only at h1 ⊢
    omega) h0
  unfold lenF
  omega
theorem inV_str (n : Str) : ∀ ns : List Str, inV (.str n) (ns.map V.str) = decide (n ∈ ns)
  | [] => rfl
  | a :: r => by
    have ih := inV_str n r
    unfold inV at ih ⊢
    rw [List.map_cons, List.any_cons, ih]
    by_cases h : a = n
    · subst h
      simp [eqV]
    · have h' : ¬ n = a := fun z => h z.symm
      simp [eqV, h, h']
end SW

set_option Elab.async false
set_option linter.all false
set_option maxRecDepth 100000
set_option maxHeartbeats 4000000
set_option exponentiation.threshold 300
namespace SW
open PySem PySem.Spec PyProof.Rows L2
/-- what callers know of a class that is made -/
def IDef (P : Program) (w : World) (K : PySem.W.Frag) (mg : Str → Option Value) (base : Heap) (x : Str) (C : Addr) (ps : List Str) (k : Nat) (sp : Sp) : Prop :=
  ∃ f fd, mg x = some (.ref C) ∧ Mk K C f ∧ FnOk P w K mg base CX0 k f fd ps sp ∧ Binds K fd ps []
theorem pe_mk {X : Cx} {x : Str} {C : Addr} {ps : List Str} {k : Nat} {sp : Sp} {p pos : Pos} {e : Expr} {es : List Expr} {t : TA} (D : IDef X.prog X.w X.K X.mg X.base x C ps k sp) (hr : Room (k + 1) X.A) (ha : PA X (e :: es) t) (hg : Gl X x := by rfl) (hdb : (x == ("__debug__" : Str)) = false := by decide)
    (he : starEach (e :: es) X.env = (false, eval e X.env) :: starEach es X.env := by rfl) (hpl : (backTo pos (starEach es X.env)).any (·.1) = false := by rfl) : PE X (.Call (.Name x p) (e :: es) [] pos) (tMake C sp [] E0 t) := by
  obtain ⟨f, fd, g, M, F, b⟩ := D
  exact pe_make M F hr hg g b .nil pass0 ha hdb he hpl
/-- a job whose work is a ratio -/
def JrV (K : PySem.W.Frag) (H : Hp) (v : V) (j : Jb Str) : Prop := ∃ a r, v = .ref a ∧ SqT K H a [.str j.nm, .int j.cm, .int j.du, r] ∧ RatV K H r j.wk
theorem JrV.tup {K : PySem.W.Frag} {H H' : Hp} {v : V} {x : Jb Str} (e : Tup K H H') (h : JrV K H v x) : JrV K H' v x := by
  obtain ⟨a, z, rfl, h, hz⟩ := h
  exact ⟨a, z, rfl, e _ _ h, hz.tup e⟩
theorem jrs_tup {K : PySem.W.Frag} {H H' : Hp} {vs : List V} {xs : List (Jb Str)} (e : Tup K H H') (h : Paired (JrV K H) vs xs) : Paired (JrV K H') vs xs := pair_mono (fun _ _ q => q.tup e) h
/-- a round -/
def RdV (K : PySem.W.Frag) (H : Hp) (v : V) (r : Rnd Str) : Prop := ∃ a sp nt gt gs, v = .ref a ∧ SqT K H a [sp, .ref nt, .ref gt, .int r.a, .int r.b] ∧ RatV K H sp r.sp ∧ SqT K H nt (r.nms.map V.str) ∧ SqT K H gt gs ∧ Paired (IpV K H) gs r.gv
theorem RdV.tup {K : PySem.W.Frag} {H H' : Hp} {v : V} {r : Rnd Str} (e : Tup K H H') (h : RdV K H v r) : RdV K H' v r := by
  obtain ⟨a, sp, nt, gt, gs, rfl, h1, h2, h3, h4, h5⟩ := h
  exact ⟨a, sp, nt, gt, gs, rfl, e _ _ h1, h2.tup e, e _ _ h3, e _ _ h4, ips_tup e h5⟩
theorem rds_tup {K : PySem.W.Frag} {H H' : Hp} {vs : List V} {xs : List (Rnd Str)} (e : Tup K H H') (h : Paired (RdV K H) vs xs) : Paired (RdV K H') vs xs := pair_mono (fun _ _ q => q.tup e) h
/-- jobs that can be planned: S a multiple of the works' bottoms -/
structure JobsB (jobs : List (Jb Str)) (S : Nat) : Prop where
  ok : JobsOk jobs
  few : jobs.length ≤ 8
  pos : 0 < S
  dvd : ∀ j ∈ jobs, j.wk.den ∣ S
  sS : S < 2 ^ 4000
  sw : ∀ j ∈ jobs, Sm j.wk
  sum : ls (fun j => j.wk) jobs * (S : Rat) < ((2 ^ 4500 : Nat) : Rat)
  due : ∀ j ∈ jobs, j.du.natAbs < 2 ^ 600
def RoundsOf (jobs : List (Jb Str)) (rds : List (Rnd Str)) : Prop := (jobs = [] ∧ rds = []) ∨ ∃ c e : Int, (∃ j ∈ jobs, j.cm = c) ∧ (∃ j ∈ jobs, j.du = e) ∧ (∀ j ∈ jobs, c ≤ j.cm ∧ j.du ≤ e) ∧ Rounds jobs [(c, e)] rds
def spRW (K : PySem.W.Frag) : Sp := fun vs H Q _ => ∃ l us jobs S, vs = [.ref l] ∧ SqL K H l us ∧ Paired (JrV K H) us jobs ∧ JobsB jobs S ∧
  ∀ r H' ws rds, Same H H' → H r = none → H' r = some (.lst ws) → Paired (RdV K H') ws rds → rds.length ≤ jobs.length → RoundsOf jobs rds → Q (.ref r) H'
theorem load_le {free : List (Int × Int)} {ws : List (Jb Str)} (hp : ∀ j ∈ ws, 0 ≤ j.wk) (a b : Int) : 0 ≤ loadR free ws a b ∧ loadR free ws a b ≤ ls (fun j => j.wk) ws := by
  constructor
  · exact ls_nonneg fun j hj => by have := hp j hj; split <;> grind
  · exact ls_le fun j hj => by have := hp j hj; split <;> grind
theorem ls_filter_le {ws : List (Jb Str)} (hp : ∀ j ∈ ws, 0 ≤ j.wk) (q : Jb Str → Bool) : ls (fun j => j.wk) (ws.filter q) ≤ ls (fun j => j.wk) ws := by
  rw [ls_filter]
  exact ls_le fun j hj => by have := hp j hj; split <;> grind
theorem nat_small {z : Int} {B : Nat} (h0 : 0 ≤ z) (h : (z : Rat) < (B : Rat)) : z.natAbs < B := by
  have : (z : Rat) < ((B : Int) : Rat) := by rw [Rat.intCast_natCast]; exact h
  have := Rat.intCast_lt_intCast.mp this
  omega
theorem max_len {xs : List Int} : (xs.map V.int).length = xs.length := List.length_map _
theorem takenAway_len (free : List (Int × Int)) (a b : Int) : (takenAway free a b).length ≤ 2 * free.length := by
  unfold takenAway
  rw [List.length_append]
  have h1 := part_len free 0 a
  have h2 := part_len free b (free.getLast?.getD (0, 0)).2
  omega
theorem takenAway_hi {free : List (Int × Int)} {a b E : Int} (h : ∀ z ∈ free, z.2 ≤ E) : ∀ z ∈ takenAway free a b, z.2 ≤ E := fun z hz => by
  rcases List.mem_append.mp hz with hz | hz
  · obtain ⟨y, hy, h2, rfl⟩ := part_mem.mp hz
    have h3 := h y hy
    simp only
    omega
  · obtain ⟨y, hy, h2, rfl⟩ := part_mem.mp hz
    have h3 := h y hy
    simp only
    omega
/-- the length of the list that a slot holds -/
def lenAt (i : Nat) (σ : L2.St) (H : Hp) : Nat := match σ[i]? with
  | some (some (.ref l)) => (match H l with
    | some (.lst us) => us.length
    | _ => 0)
  | _ => 0
theorem rounds_nil {free : List (Int × Int)} {rds : List (Rnd Str)} (h : Rounds [] free rds) : rds = [] := by
  cases h with
  | nil => rfl
  | cons D _ =>
    obtain ⟨j, hj, _⟩ := D.own
    cases hj
theorem one_ok {jobs : List (Jb Str)} (ok : JobsOk jobs) {e : Int} {jc : Jb Str} (hjc : jc ∈ jobs) (h : ∀ j ∈ jobs, jc.cm ≤ j.cm ∧ j.du ≤ e) : FreeOk [(jc.cm, e)] ∧ ∀ j ∈ jobs, Win [(jc.cm, e)] j := by
  have f : FreeOk [(jc.cm, e)] := ⟨List.pairwise_singleton _ _, fun x hx => by
    rw [List.mem_singleton.mp hx]
    have := ok.cm jc hjc
    have := h jc hjc
    simp only
    omega⟩
  refine ⟨f, fun j hj => win_of f (part_ne (x := (j.cm : Rat)) ⟨_, List.mem_singleton.mpr rfl, ?_, ?_⟩ ?_ ?_)⟩
  · exact Rat.intCast_le_intCast.mpr (h j hj).1
  · exact Rat.intCast_lt_intCast.mpr (by have := ok.cm j hj; have := h j hj; omega)
  · exact Rat.le_refl
  · exact Rat.intCast_lt_intCast.mpr (ok.cm j hj).2
theorem lenAt_eq {i : Nat} {σ : L2.St} {H : Hp} {l : Addr} {us : List V} (h : σ[i]? = some (some (.ref l))) (h2 : H l = some (.lst us)) : lenAt i σ H = us.length := by
  unfold lenAt
  rw [h]
  simp only [h2]
theorem filter_lt {α : Type} {q : α → Bool} : ∀ {xs : List α} {x : α}, x ∈ xs → q x = false → (xs.filter q).length < xs.length
  | y :: r, x, hx, hq => by
    by_cases e : q y = true
    · rw [List.filter_cons_of_pos e]
      rcases List.mem_cons.mp hx with rfl | h
      · rw [hq] at e
        cases e
      · have := filter_lt h hq
        simp only [List.length_cons]
        omega
    · rw [List.filter_cons_of_neg e, List.length_cons]
      exact Nat.lt_succ_of_le (List.length_filter_le _ _)
theorem rest_eq {ws : List (Jb Str)} (nd : (ws.map (·.nm)).Nodup) (c : Jb Str → Bool) : ws.filter (fun j => !decide (j.nm ∈ (ws.filter c).map (·.nm))) = ws.filter fun j => !c j := by
  apply List.filter_congr
  intro j hj
  have h := own_eq (q := fun _ => true) (c := c) nd (ws := ws) (List.filter_eq_self.mpr fun _ _ => rfl).symm
  by_cases e : c j = true
  · have : j ∈ ws.filter fun j => decide (j.nm ∈ (ws.filter c).map (·.nm)) := by rw [h]; exact List.mem_filter.mpr ⟨hj, e⟩
    rw [(List.mem_filter.mp this).2, e]
  · have e' : c j = false := by simpa using e
    have : ¬ j.nm ∈ (ws.filter c).map (·.nm) := fun z => by
      have : j ∈ ws.filter c := by rw [← h]; exact List.mem_filter.mpr ⟨hj, decide_eq_true z⟩
      exact e (List.mem_filter.mp this).2
    rw [decide_eq_false this, e']
end SW

set_option Elab.async false
set_option linter.all false
set_option maxRecDepth 100000
set_option maxHeartbeats 4000000
set_option exponentiation.threshold 300
namespace SW
open PySem PySem.Spec PyProof.Rows L2
section
variable {P : Program} {w : World} {K : PySem.W.Frag} {mg : Str → Option Value} {base : Heap}
theorem scRW : FnScope ["jobs", "scale", "job", "waiting", "found", "free", "scan", "load", "length", "a", "b", "names", "name", "comes", "due", "work", "first", "last"] ["jobs"] (defScope (top 21)) := ⟨rfl, rfl, rfl, by decide +kernel, rfl, by decide +kernel, by decide +kernel⟩
theorem ok_rw {C : Addr} (T : TF K mg "rounds_with" (top 21) ["jobs"]) (X : TxS K mg C) (gLcm : mg "lcm" = some (.builtin "math.lcm")) (gMin : mg "min" = none) (gMax : mg "max" = none) (gT : mg "tuple" = none) (I : IDef P w K mg base "Scan" C ["self", "jobs", "free"] 2 (spScI K C)) (D : MDef P w K mg base C "densest" ["self"] 3 (spScD K C))
    (R : Def P w K mg base "ratio" ["top", "bottom"] [] 1 (spRatio K)) (FP : Def P w K mg base "free_part" ["free", "begin", "end"] [] 1 (spFP K)) (TA : Def P w K mg base "taken_away" ["free", "begin", "end"] [] 2 (spTA K)) : Def P w K mg base "rounds_with" ["jobs"] [] 4 (spRW K) := by
  refine T.ok scRW (fun vs H Q E h => ?_) (fun f cdv A outer s H vs Q E hr h => ?_)
  · obtain ⟨_, _, _, _, rfl, _⟩ := h
    rfl
  · obtain ⟨l, us, jobs, S, rfl, hl, hp, B, k⟩ := h
    have hfew := B.few
    have hsdvd : scaleOf jobs ∣ S := scale_dvd jobs 1 (Nat.one_dvd _) B.dvd
    have hsle : scaleOf jobs ≤ S := Nat.le_of_dvd B.pos hsdvd
    have hspos : 0 < scaleOf jobs := scale_pos jobs 1 (by decide)
    have hsb : ∀ i, (jobs.take i).foldl (fun s j => Nat.lcm s j.wk.den) 1 < 2 ^ 4000 := fun i =>
      Nat.lt_of_le_of_lt (Nat.le_of_dvd B.pos (scale_dvd (jobs.take i) 1 (Nat.one_dvd _) fun j hj => B.dvd j (List.mem_of_mem_take hj))) B.sS
    have big : (2 : Nat) ^ 4000 < 2 ^ 9000 := Nat.pow_lt_pow_right (by decide) (by decide)
    have hscb : scaleOf jobs < 2 ^ 4000 := Nat.lt_of_le_of_lt hsle B.sS
    have hscp : (0 : Rat) < (scaleOf jobs : Rat) := Rat.natCast_pos.mpr hspos
    have hwk : ∀ j ∈ jobs, 0 ≤ j.wk := fun j hj => by have := B.ok.wk j hj; grind
    have htot : ls (fun j => j.wk) jobs * (scaleOf jobs : Rat) < ((2 ^ 4500 : Nat) : Rat) := by
      have h1 : (scaleOf jobs : Rat) ≤ (S : Rat) := Rat.natCast_le_natCast.mpr hsle
      have h2 := Rat.mul_le_mul_of_nonneg_left h1 (ls_nonneg hwk)
      have := B.sum
      grind
    -- the while: what it finds, what it leaves
    have hwhile : ∃ tw, PS (cxOf CX0 P w K mg base ["jobs", "scale", "job", "waiting", "found", "free", "scan", "load", "length", "a", "b", "names", "name", "comes", "due", "work", "first", "last"] "rounds_with" (defScope (top 21)) f cdv A outer s H E).nox ((defBody (top 21)).getD 6 (.Pass ⟨0, 0, 0, 0⟩)) tw ∧
        ∀ (D : Ends) (lw pf lf : Addr) (uw uf : List V) (free : List (Int × Int)) (o2 : Option V) (H4 : Hp), Same H H4 → H pf = none → H4 lw = some (.lst uw) → Paired (WtV (scaleOf jobs) K H4) uw jobs → H4 lf = some (.lst uf) → lw ≠ pf → lf ≠ pf → Paired (IpV K H4) uf free → H4 pf = some (.lst []) →
          (jobs ≠ [] → FreeOk free ∧ (∀ j ∈ jobs, Win free j) ∧ free.length ≤ 1 ∧ (∀ z ∈ free, z.2 ≤ 2 ^ 600)) →
          (∀ σ' H' ws rds, σ'[4]? = some (some (.ref pf)) → Same H H' → H' pf = some (.lst ws) → Paired (RdV K H') ws rds → rds.length ≤ jobs.length → (Rounds jobs free rds) → D.nx σ' H') →
          tw D [some (V.ref l), some (.int (scaleOf jobs : Int)), o2, some (.ref lw), some (.ref pf), some (.ref lf), none, none, none, none, none, none, none, none, none, none, none, none] H4 := by
      refine ⟨_, (ps_while PassesOwn.never (pt_truth (pv 3) (by intro _; rfl)) (pss_cons (ps_set (i := 6) scRW.nd rfl (.inl rfl) (pe_mk I hr (pa_cons (pv 3) (pa_cons (pv 5) pa_nil)))) (pss_cons (ps_asg (pe_mdef0 D X.cl (pv 6) (hr.mono (by decide))) (pg_tup rfl (pgs_cons (pg_name (i := 7) scRW.nd rfl (.inl rfl)) (pgs_cons (pg_name (i := 8) scRW.nd rfl (.inl rfl)) (pgs_cons (pg_name (i := 9) scRW.nd rfl (.inr rfl)) (pgs_cons (pg_name (i := 10) scRW.nd rfl (.inr rfl)) pgs_nil)))))) (pss_cons (ps_set (i := 11) scRW.nd rfl (.inr rfl) (pe_callTy call_tuple_of (by rfl) gT (by decide +kernel) (pa_cons (pe_lc (own := [("first", 16), ("last", 17), ("name", 12), ("work", 15)]) (g := gTup K 4 (gCons (gName 16) (gCons (gName 17) (gCons (gName 12) (gCons (gName 15) gNil))))) rfl scRW.nd (pi_list (pe_fld (pv 6) rfl)) (blkOk_by (own := [("first", 16), ("last", 17), ("name", 12), ("work", 15)]) (N := ["jobs", "scale", "job", "waiting", "found", "free", "scan", "load", "length", "a", "b", "names", "name", "comes", "due", "work", "first", "last"]) (sc := defScope (top 21)) (by decide +kernel)) (fun _ _ _ _ _ => by exact (pg_tup rfl (pgs_cons (pg_name (i := 16) scRW.nd rfl (.inl rfl)) (pgs_cons (pg_name (i := 17) scRW.nd rfl (.inl rfl)) (pgs_cons (pg_name (i := 12) scRW.nd rfl (.inl rfl)) (pgs_cons (pg_name (i := 15) scRW.nd rfl (.inl rfl)) pgs_nil)))))) (fun _ _ _ _ _ => by exact (pts_one (PW.pt (pw_and (pt_cmpR op_le (pv 9 (hv := Or.inr (Or.inl rfl))) (pv 16) (nomark _)) (pw_and1 (pt_cmpR op_le (pv 17) (pv 10 (hv := Or.inr (Or.inl rfl))) (nomark _))))))) (fun _ _ _ _ _ => by exact (pv 12))) pa_nil))) (pss_cons (ps_expr (pe_bm PySem.F.plainAttrs_list PySem.F.slot_list_append PySem.F.type_list_append mt_append (pv 4) (pa_cons (pe_tup (pa_cons (pe_def R (hr.mono (by decide)) (pa_cons (pv 7) (pa_cons (pe_op op_mulW (pv 8) (pv 1 (hv := Or.inr (Or.inl rfl)))) pa_nil))) (pa_cons (pv 11 (hv := Or.inr (Or.inl rfl))) (pa_cons (pe_callTy call_tuple_of (by rfl) gT (by decide +kernel) (pa_cons (pe_def FP (hr.mono (by decide)) (pa_cons (pv 5) (pa_cons (pv 9 (hv := Or.inr (Or.inl rfl))) (pa_cons (pv 10 (hv := Or.inr (Or.inl rfl))) pa_nil)))) pa_nil)) (pa_cons (pv 9 (hv := Or.inr (Or.inl rfl))) (pa_cons (pv 10 (hv := Or.inr (Or.inl rfl))) pa_nil)))))) pa_nil))) (pss_cons (ps_setLc (i := 3) (own := [("job", 2)]) (tt := tTest (tOp (rIn K true) (tOp (rIxT K) (tVar 2) (tC (.int 0))) (tVar 11))) rfl scRW.nd rfl rfl (sw_true rfl rfl rfl (by decide +kernel)) (pi_list (pv 3)) (blkOk_by (own := [("job", 2)]) (N := ["jobs", "scale", "job", "waiting", "found", "free", "scan", "load", "length", "a", "b", "names", "name", "comes", "due", "work", "first", "last"]) (sc := defScope (top 21)) (by decide +kernel)) (fun _ _ _ _ _ => by exact (pg_name (i := 2) scRW.nd rfl (.inl rfl))) (fun _ _ _ _ _ => by exact (pts_one (pt_cmpR op_notIn_seq (pe_ix ix_tup (pv 2) pe_int (fun _ _ => rfl)) (pv 11 (hv := Or.inr (Or.inl rfl))) (by rfl)))) (fun _ _ _ _ _ => by exact (pv 2))) (pss_one (ps_set (i := 5) scRW.nd rfl (.inl rfl) (pe_def TA (hr.mono (by decide)) (pa_cons (pv 5) (pa_cons (pv 9 (hv := Or.inr (Or.inl rfl))) (pa_cons (pv 10 (hv := Or.inr (Or.inl rfl))) pa_nil)))))))))))), ?_⟩
      intro D lw pf lf uw uf free o2 H4 S4 npf hlw huw hlf nlw nlf huf hpf hini kn
      generalize hsg : scaleOf jobs = sc at *
      refine while_by (fun σ H' => ∃ (lw : Addr) (uw : List V) (ws : List (Jb Str)) (lf : Addr) (uf : List V) (fr : List (Int × Int)) (fvs : List V) (done : List (Rnd Str)) (o2 o6 o7 o8 o9 o10 o11 : Option V),
          σ = [some (.ref l), some (.int (sc : Int)), o2, some (.ref lw), some (.ref pf), some (.ref lf), o6, o7, o8, o9, o10, o11, none, none, none, none, none, none] ∧ Same H H' ∧ H' lw = some (.lst uw) ∧ Paired (WtV sc K H') uw ws ∧ H' lf = some (.lst uf) ∧ lw ≠ pf ∧ lf ≠ pf ∧ Paired (IpV K H') uf fr ∧ H' pf = some (.lst fvs) ∧ Paired (RdV K H') fvs done ∧
          (∃ q, ws = jobs.filter q) ∧ ws.length + done.length ≤ jobs.length ∧ (ws ≠ [] → FreeOk fr ∧ (∀ j ∈ ws, Win fr j) ∧ fr.length ≤ 2 ^ done.length ∧ (∀ z ∈ fr, z.2 ≤ 2 ^ 600)) ∧ (∀ rest, Rounds ws fr rest → Rounds jobs free (done ++ rest)))
        (lenAt 3) ⟨lw, uw, jobs, lf, uf, free, [], [], o2, _, _, _, _, _, _, rfl, S4, hlw, huw, hlf, nlw, nlf, huf, hpf, .nil, ⟨fun _ => true, (List.filter_eq_self.mpr fun _ _ => rfl).symm⟩, by simp, fun hne => by
          obtain ⟨i1, i2, i3, i4⟩ := hini hne
          exact ⟨i1, i2, by simpa using i3, i4⟩, fun rest hr => hr⟩ ?_ (fun σ H Q Q' hQ ⟨v, e, k, t, q⟩ => ⟨v, e, k, t, hQ _ _ q⟩)
      clear hlw huw hlf huf hpf hini S4 nlw nlf
      rintro σ H' ⟨lw, uw, ws, lf, uf, fr, fvs, done, o2, o6, o7, o8, o9, o10, o11, rfl, S0, hlw, huw, hlf, nlw, nlf, huf, hpf, hdone, ⟨q, hq⟩, hcnt, hwf, hrd⟩
      by_cases hws : ws = []
      · subst hws
        have huw0 := pair_nil huw
        subst huw0
        refine ⟨_, rfl, false, .inl ⟨[], SqL.of hlw, rfl⟩, iteF ?_⟩
        have := hrd [] (Rounds.nil _)
        rw [List.append_nil] at this
        exact kn _ H' fvs done rfl S0 hpf hdone (by simp at hcnt; omega) this
      · have huwn : uw ≠ [] := fun z => by rw [z] at huw; cases huw; exact hws rfl
        obtain ⟨hfo, hwin, hfl, hfe⟩ := hwf hws
        have hsub : ∀ j ∈ ws, j ∈ jobs := fun j hj => by rw [hq] at hj; exact (List.mem_filter.mp hj).1
        have hnd : (ws.map (·.nm)).Nodup := by rw [hq]; exact filter_nd B.ok.nd q
        have hwl : ws.length ≤ jobs.length := by omega
        have hdl : done.length ≤ 8 := by omega
        have hfl2 : fr.length ≤ 256 := Nat.le_trans hfl (Nat.pow_le_pow_right (by decide) hdl)
        have hlenF := lenF_small hfo hfe (by decide)
        have hlenS : ∀ a b, (lenF fr a b).natAbs < 2 ^ 601 := fun a b => by
          obtain ⟨z1, z2⟩ := hlenF a b
          have h3 : ((2 : Int) ^ 600).natAbs < 2 ^ 601 := by decide
          omega
        have hloadS : ∀ (a b z : Int), (z : Rat) = loadR fr ws a b * (sc : Rat) → z.natAbs < 2 ^ 4500 := fun a b z hz => by
          obtain ⟨l1, l2⟩ := load_le (free := fr) (ws := ws) (fun j hj => hwk j (hsub j hj)) a b
          have l3 : ls (fun j => j.wk) ws ≤ ls (fun j => j.wk) jobs := by rw [hq]; exact ls_filter_le hwk q
          have l4 := Rat.mul_le_mul_of_nonneg_right (show loadR fr ws a b ≤ ls (fun j => j.wk) jobs by grind) (show (0 : Rat) ≤ (sc : Rat) by grind)
          have l5 := Rat.mul_nonneg l1 (show (0 : Rat) ≤ (sc : Rat) by grind)
          refine nat_small ?_ (by grind)
          have : ((0 : Int) : Rat) ≤ (z : Rat) := by rw [hz]; simpa using l5
          exact Rat.intCast_le_intCast.mp this
        refine ⟨_, rfl, true, .inl ⟨uw, SqL.of hlw, by cases uw with | nil => exact absurd rfl huwn | cons => rfl⟩, iteT ?_⟩
        -- scan = Scan(waiting, free)
        refine ⟨_, rfl, _, rfl, fun x dx nx ndx nex => ?_⟩
        have Sx : Same H' (upd (upd H' dx (.own x)) x (.ins C dx [])) := fun b o e => by
          rw [upd_ne (ne_of_none e nx), upd_ne (ne_of_none e ndx)]
          exact e
        refine ⟨x, dx, lw, uw, ws, lf, uf, fr, sc, rfl, upd_same, Sx.seq (SqL.of hlw), wts_tup (Tup.same Sx) huw, Sx.seq (SqL.of hlf), ips_tup (Tup.same Sx) huf, by omega, by omega, fun j hj => (part_ne (hwin j hj).fst (Rat.intCast_le_intCast.mpr (hwin j hj).lo) (Rat.intCast_lt_intCast.mpr (by have := (hwin j hj).lt; have := (hwin j hj).hi; omega))), fun H5 SB SA => ⟨rfl, ?_⟩⟩
        have S5 : Same H' H5 := fun b o e => SB b o (ne_of_none e nx) (Sx b o e)
        clear SB Sx
        -- load, length, a, b = scan.densest()
        have ⟨dx5, fs5, lf5, lr5, us5, rvs5, g1, g2, g3, g4, g5, g6, g7, g8, g9, g10⟩ := SA.ex
        refine ⟨_, rfl, x, dx5, fs5, rfl, g1, g6, x, fr, sc, ws, rfl, SA, hws, by omega, by omega, hwin, fun j hj => B.ok.wk j (hsub j hj), hspos, fun a b z hz => Nat.lt_trans (hloadS a b z hz) (Nat.pow_lt_pow_right (by decide) (by decide)), fun a b => Nat.lt_trans (hlenS a b) (Nat.pow_lt_pow_right (by decide) (by decide)), fun t z a b H6 S6 hD hz ht => ?_⟩
        refine ⟨t, _, rfl, ht, rfl, _, _, rfl, _, _, rfl, _, _, rfl, _, _, rfl, rfl, ?_⟩
        have hlen0 := hD.len hwin
        -- names
        have S06 := S5.trans S6
        refine ⟨_, rfl, x, C, dx5, fs5, _, rfl, S6 _ _ g1, X.cl, X.nR, g3, lr5, rfl, ⟨_, SqL.of (S6 _ _ g9)⟩, fun Dn nDn => ?_⟩
        refine lc_list (K := K) (a := lr5) (xs := rvs5) (fun i H7 => ∃ ns : List Str, H7 Dn = some (.lst (ns.map V.str)) ∧ Same H6 H7 ∧ ns = ((ws.take i).filter fun j => inn fr a b j).map (·.nm)) ⟨[], upd_same, same_new nDn, rfl⟩ (fun i H7 _ ⟨_, _, e, _⟩ => e.seq (SqL.of (S6 _ _ g9))) ?_ ?_
        · rintro i y H7 hi ⟨ns, hDn, S7, hns⟩
          obtain ⟨j, hj, tr, zr, rfl, htr, hzr⟩ := pair_get g10 hi
          obtain ⟨hj1, hj2⟩ := List.getElem?_eq_some_iff.mp hj
          refine ⟨tr, _, rfl, sqT_same (S6.trans S7) htr, rfl, _, _, rfl, _, _, rfl, _, _, rfl, _, _, rfl, rfl, wp (wp (wp (wp (wp0 _ _)))), ?_⟩
          have hnl : ns.length ≤ i := by
            rw [hns, List.length_map]
            exact Nat.le_trans (List.length_filter_le _ _) (by rw [List.length_take]; omega)
          refine ⟨_, rfl, _, rfl, _, _, rfl, rfl, _, rfl, ?_⟩
          refine ite2 (fun c1 => ?_) (fun c1 => ?_)
          · have c1 := of_decide_eq_true c1
            refine ⟨_, rfl, _, rfl, _, _, rfl, rfl, _, rfl, ?_⟩
            refine ite2 (fun c2 => ?_) (fun c2 => ?_)
            · have c2 := of_decide_eq_true c2
              have hin : inn fr a b j = true := decide_eq_true ⟨c1, c2⟩
              refine ⟨_, rfl, _, hDn, small (by rw [List.length_map]; omega), ns ++ [j.nm], by rw [upd_same, List.map_append]; rfl, same_upd S7 nDn, ?_⟩
              rw [hns, List.take_succ_eq_append_getElem hj1, hj2, List.filter_append, List.filter_cons_of_pos hin, List.map_append]
              rfl
            · have hin : ¬ inn fr a b j = true := fun z => c2 (decide_eq_true (of_decide_eq_true z).2)
              refine ⟨ns, hDn, S7, ?_⟩
              rw [hns, List.take_succ_eq_append_getElem hj1, hj2, List.filter_append, List.filter_cons_of_neg hin, List.filter_nil, List.append_nil]
          · have hin : ¬ inn fr a b j = true := fun z => c1 (decide_eq_true (of_decide_eq_true z).1)
            refine iteF ⟨ns, hDn, S7, ?_⟩
            rw [hns, List.take_succ_eq_append_getElem hj1, hj2, List.filter_append, List.filter_cons_of_neg hin, List.filter_nil, List.append_nil]
        · rintro H7 ⟨ns, hDn, S7, hns⟩
          rw [pair_len g10, List.take_length] at hns
          refine ⟨Dn, _, rfl, .inl ⟨SqL.of hDn, fun nt hnt => ?_⟩⟩
          have S8 : Same H7 (upd H7 nt (.tup (ns.map V.str))) := same_new hnt
          have hnt8 : SqT K (upd H7 nt (.tup (ns.map V.str))) nt (ns.map V.str) := SqT.of upd_same
          have S08 : Same H' (upd H7 nt (.tup (ns.map V.str))) := (S06.trans S7).trans S8
          clear S06 S5 S6 S7 S8 hDn SA g1 g7 g8 g9 g10
          generalize upd H7 nt (.tup (ns.map V.str)) = H8 at *
          -- found.append(..)
          have hlnS := hlenS a b
          have hln0 : lenF fr a b ≠ 0 := fun z => by rw [z] at hlen0; simp at hlen0
          refine ⟨_, rfl, .inl ⟨rfl, _, SqL.of (S08 _ _ hpf)⟩, _, rfl, _, rfl, _, rfl, _, _, rfl, rfl, cm (Nat.lt_trans hlnS (Nat.pow_lt_pow_right (by decide) (by decide))) (by rw [Int.natAbs_natCast]; exact Nat.lt_trans hscb (Nat.pow_lt_pow_right (by decide) (by decide))), ?_⟩
          refine ⟨_, _, rfl, Int.mul_ne_zero hln0 (by omega), ?_, fun vr H9 S9 hvr => ?_⟩
          · rw [Int.natAbs_mul, Int.natAbs_natCast]
            have := Nat.mul_lt_mul'' hlnS hscb
            rw [← Nat.pow_add] at this
            exact Nat.lt_trans this (Nat.pow_lt_pow_right (by decide) (by decide))
          have hvr' : RatV K H9 vr (loadR fr ws a b / (lenF fr a b : Rat)) := by
            have e : (z : Rat) / ((lenF fr a b * (sc : Int) : Int) : Rat) = loadR fr ws a b / (lenF fr a b : Rat) := by
              rw [hz, Rat.intCast_mul, Rat.intCast_natCast]
              have h1 := div_mul (x := loadR fr ws a b) hlen0
              have h2 := div_mul (x := loadR fr ws a b * (sc : Rat)) (y := (lenF fr a b : Rat) * (sc : Rat)) (Rat.mul_pos hlen0 hscp)
              generalize loadR fr ws a b / (lenF fr a b : Rat) = u at *
              generalize loadR fr ws a b * (sc : Rat) / ((lenF fr a b : Rat) * (sc : Rat)) = u2 at *
              have h3 : (u2 - u) * ((lenF fr a b : Rat) * (sc : Rat)) = 0 := by grind
              have h4 := Rat.mul_pos hlen0 hscp
              rcases Rat.mul_eq_zero.mp h3 with h5 | h5 <;> grind
            rw [e] at hvr
            exact hvr
          have S09 := S08.trans S9
          refine ⟨_, rfl, _, rfl, _, rfl, _, rfl, lf, uf, fr, a, b, rfl, S09.seq (SqL.of hlf), ips_tup (Tup.same S09) huf, by omega, fun r8 H10 w8 S10 n8 h8 p8 => ?_⟩
          refine ⟨r8, _, rfl, .inl ⟨SqL.of h8, fun gt hgt => ⟨_, rfl, _, rfl, (by show 5 ≤ sizeLine; decide), fun ta hta => ?_⟩⟩⟩
          have S11 : Same H10 (upd H10 gt (.tup w8)) := same_new hgt
          have hgt' : SqT K (upd H10 gt (.tup w8)) gt w8 := SqT.of upd_same
          have p8' := ips_tup (Tup.same S11) p8
          have S011 := (S09.trans S10).trans S11
          have S911 := S10.trans S11
          generalize upd H10 gt (.tup w8) = H11 at *
          have SHt := S0.trans S011
          obtain ⟨a1, a2, a3, a4, a5⟩ := app_tup (K := K) (xs := [vr, .ref nt, .ref gt, .int a, .int b]) SHt npf (S011 _ _ hpf) hta
          refine ⟨pf, fvs, .ref ta, rfl, rfl, a1, small (by rw [pair_len hdone]; omega), ?_⟩
          have hdone2 : Paired (RdV K (upd (upd H11 ta (.tup [vr, .ref nt, .ref gt, .int a, .int b])) pf (.lst (fvs ++ [.ref ta])))) (fvs ++ [.ref ta]) (done ++ [⟨loadR fr ws a b / (lenF fr a b : Rat), ns, freePart fr a b, a, b⟩]) :=
            pair_snoc (rds_tup ((Tup.same S011).trans a3) hdone) ⟨ta, vr, nt, gt, w8, rfl, a5, hvr'.tup ((Tup.same S911).trans a3), a3 _ _ (sqT_same (S9.trans S911) hnt8), a3 _ _ hgt', ips_tup a3 p8'⟩
          have keep : ∀ d o, d ≠ pf → H' d = some o → (upd (upd H11 ta (.tup [vr, .ref nt, .ref gt, .int a, .int b])) pf (.lst (fvs ++ [.ref ta]))) d = some o := fun d o n e => by
            rw [upd_ne n, upd_ne (ne_of_none (S011 _ _ e) hta)]
            exact S011 _ _ e
          have S012 := a2
          have T012 : Tup K H' (upd (upd H11 ta (.tup [vr, .ref nt, .ref gt, .int a, .int b])) pf (.lst (fvs ++ [.ref ta]))) := (Tup.same S011).trans a3
          have T812 : Tup K H8 (upd (upd H11 ta (.tup [vr, .ref nt, .ref gt, .int a, .int b])) pf (.lst (fvs ++ [.ref ta]))) := (Tup.same (S9.trans S911)).trans a3
          have hlw12 := keep _ _ nlw hlw
          have hlf12 := keep _ _ nlf hlf
          have hnt12 := T812 _ _ hnt8
          have hfound12 := a4
          have huw12 := wts_tup T012 huw
          have huf12 := ips_tup T012 huf
          clear keep a1 a3 a5 p8' hgt' hta hgt p8 h8 n8 hvr' hvr S9 S10 S11 S911 S08 S09 S011 T012 T812 hnt hnt8
          generalize upd (upd H11 ta (.tup [vr, .ref nt, .ref gt, .int a, .int b])) pf (.lst (fvs ++ [.ref ta])) = H12 at *
          refine ⟨_, rfl, lw, rfl, ⟨_, SqL.of hlw12⟩, fun Dw nDw => ?_⟩
          refine lc_list (K := K) (a := lw) (xs := uw) (fun i H13 => ∃ vs, H13 Dw = some (.lst vs) ∧ Same H12 H13 ∧ Paired (WtV sc K H13) vs ((ws.take i).filter fun j => !decide (j.nm ∈ ns))) ⟨[], upd_same, same_new nDw, .nil⟩ (fun i H7 _ ⟨_, _, e, _⟩ => e.seq (SqL.of hlw12)) ?_ ?_
          · rintro i y H13 hi ⟨vs, hDw, S13, hvs⟩
            obtain ⟨j, hj, tr, zr, rfl, htr, hzr⟩ := pair_get huw12 hi
            obtain ⟨hj1, hj2⟩ := List.getElem?_eq_some_iff.mp hj
            refine ⟨wp (wp0 _ _), _, rfl, tr, _, _, _, rfl, rfl, sqT_same S13 htr, rfl, _, rfl, nt, _, rfl, .inr (sqT_same S13 hnt12), rfl, by simp [List.all_map, Function.comp_def, flatV], ?_⟩
            rw [inV_str]
            have hvl : vs.length ≤ i := by
              rw [pair_len hvs]
              exact Nat.le_trans (List.length_filter_le _ _) (by rw [List.length_take]; omega)
            refine ⟨_, rfl, ?_⟩
            by_cases hin : j.nm ∈ ns
            · rw [decide_eq_true hin]
              refine iteF ⟨vs, hDw, S13, ?_⟩
              rw [List.take_succ_eq_append_getElem hj1, hj2, List.filter_append, List.filter_cons_of_neg (by simp [hin]), List.filter_nil, List.append_nil]
              exact hvs
            · rw [decide_eq_false hin]
              refine iteT ⟨_, rfl, vs, hDw, small (by omega), ?_⟩
              obtain ⟨a1, a2, a3⟩ := app_val (K := K) (v := .ref tr) S13 nDw hDw
              refine ⟨_, a3, a1, ?_⟩
              rw [List.take_succ_eq_append_getElem hj1, hj2, List.filter_append, List.filter_cons_of_pos (by simp [hin])]
              exact pair_snoc (wts_tup a2 hvs) ⟨tr, zr, rfl, a2 _ _ (sqT_same S13 htr), hzr⟩
          · rintro H13 ⟨vs, hDw, S13, hvs⟩
            rw [pair_len huw, List.take_length] at hvs
            have hfr : fr ≠ [] := by
              obtain ⟨w0, wr, rfl⟩ := List.exists_cons_of_ne_nil hws
              intro e
              have := (hwin w0 List.mem_cons_self).fst
              rw [e] at this
              obtain ⟨y, hy, _⟩ := this
              cases hy
            refine ⟨_, rfl, _, rfl, _, rfl, lf, uf, fr, a, b, rfl, S13.seq (SqL.of hlf12), ips_tup (Tup.same S13) huf12, hfr, by omega, fun r8 H14 w8 S14 n8 h8 p8 => ?_⟩
            have Dpf : Dw ≠ pf := fun e => by
              rw [e, hfound12] at nDw
              cases nDw
            have S1214 := S13.trans S14
            have hrest : ws.filter (fun j => !decide (j.nm ∈ ns)) = ws.filter fun j => !inn fr a b j := by
              rw [hns]
              exact rest_eq hnd _
            rw [hrest] at hvs
            have hlt : (ws.filter fun j => !inn fr a b j).length < ws.length := by
              obtain ⟨j, hj, h1⟩ := hD.own
              exact filter_lt hj (by simp [h1])
            refine ⟨⟨Dw, vs, ws.filter fun j => !inn fr a b j, r8, w8, takenAway fr a b, fvs ++ [.ref ta], done ++ [⟨loadR fr ws a b / (lenF fr a b : Rat), ns, freePart fr a b, a, b⟩], o2, _, _, _, _, _, _, rfl, S012.trans S1214, S14 _ _ hDw, wts_tup (Tup.same S14) hvs, h8, Dpf, ?_, p8, S1214 _ _ hfound12, rds_tup (Tup.same S1214) hdone2, ?_, ?_, ?_, ?_⟩, ?_⟩
            · intro e
              rw [e, S13 _ _ hfound12] at n8
              cases n8
            · exact ⟨fun j => (!inn fr a b j) && q j, by rw [hq, List.filter_filter]⟩
            · rw [List.length_append, List.length_singleton]
              omega
            · intro hne
              have hab : a ≤ b := Int.le_of_lt hD.lt
              have ok2 := taken_ok hfo hab
              refine ⟨ok2, fun j hj => win_of ok2 (next_win hfo hwin j hj), ?_, takenAway_hi hfe⟩
              have := takenAway_len fr a b
              rw [List.length_append, List.length_singleton, Nat.pow_succ]
              omega
            · intro rest hr
              rw [List.append_assoc, hns]
              exact hrd _ (Rounds.cons hD hr)
            · rw [lenAt_eq rfl (S14 _ _ hDw), lenAt_eq rfl hlw, pair_len hvs, pair_len huw]
              exact hlt
    obtain ⟨tw, hw1, hw2⟩ := hwhile
    refine ⟨_, (pss_cons (ps_set (i := 1) scRW.nd rfl (.inr rfl) pe_int) (pss_cons (ps_for PassesOwn.never rfl (pi_list (pv 0)) (pg_name (i := 2) scRW.nd rfl (.inl rfl)) (pss_one (ps_set (i := 1) scRW.nd rfl (.inr rfl) (pe_callBfun cr_lcm (by rfl) gLcm (pa_cons (pv 1 (hv := Or.inr (Or.inl rfl))) (pa_cons (pe_ix ix_tup (pe_ix ix_tup (pv 2) pe_int (fun _ _ => rfl)) pe_int (fun _ _ => rfl)) pa_nil)))))) (pss_cons (ps_setLc (i := 3) (own := [("name", 12), ("comes", 13), ("due", 14), ("work", 15)]) (g := gTup K 4 (gCons (gName 12) (gCons (gName 13) (gCons (gName 14) (gCons (gName 15) gNil))))) (te := (tTup (tCons (tVar 12) (tCons (tVar 13) (tCons (tVar 14) (tCons (tOp (rI CMulW fun i j => .int (i * j)) (tOp (rIxT K) (tVar 15) (tC (.int 0))) (tOp (rI CDivW fun i j => .int (i / j)) (tVar 1) (tOp (rIxT K) (tVar 15) (tC (.int 1))))) tNil)))))) rfl scRW.nd rfl rfl (sw_true rfl rfl rfl (by decide +kernel)) (pi_list (pv 0)) (blkOk_by (own := [("name", 12), ("comes", 13), ("due", 14), ("work", 15)]) (N := ["jobs", "scale", "job", "waiting", "found", "free", "scan", "load", "length", "a", "b", "names", "name", "comes", "due", "work", "first", "last"]) (sc := defScope (top 21)) (by decide +kernel)) (fun _ _ _ _ _ => by exact (pg_tup rfl (pgs_cons (pg_name (i := 12) scRW.nd rfl (.inl rfl)) (pgs_cons (pg_name (i := 13) scRW.nd rfl (.inl rfl)) (pgs_cons (pg_name (i := 14) scRW.nd rfl (.inl rfl)) (pgs_cons (pg_name (i := 15) scRW.nd rfl (.inl rfl)) pgs_nil)))))) (fun _ _ _ _ _ => by exact pts_nil) (fun _ _ _ _ _ => by exact (pe_tup (pa_cons (pv 12) (pa_cons (pv 13) (pa_cons (pv 14) (pa_cons (pe_op op_mulW (pe_ix ix_tup (pv 15) pe_int (fun _ _ => rfl)) (pe_op op_fdivW (pv 1 (hv := Or.inr (Or.inl rfl))) (pe_ix ix_tup (pv 15) pe_int (fun _ _ => rfl)))) pa_nil))))))) (pss_cons (ps_set (i := 4) scRW.nd rfl (.inl rfl) (pe_lst pa_nil)) (pss_cons (ps_set (i := 5) scRW.nd rfl (.inl rfl) (pe_lst pa_nil)) (pss_cons (ps_if (pt_truth (pv 3) (by intro _; rfl)) (pss_one (ps_set (i := 5) scRW.nd rfl (.inl rfl) (pe_lst (pa_cons (pe_tup (pa_cons (pe_callB (cr_min rfl) (by rfl) gMin (by decide +kernel) (pa_cons (pe_lc (own := [("job", 2)]) (te := (tOp (rIxT K) (tVar 2) (tC (.int 1)))) rfl scRW.nd (pi_list (pv 3)) (blkOk_by (own := [("job", 2)]) (N := ["jobs", "scale", "job", "waiting", "found", "free", "scan", "load", "length", "a", "b", "names", "name", "comes", "due", "work", "first", "last"]) (sc := defScope (top 21)) (by decide +kernel)) (fun _ _ _ _ _ => by exact (pg_name (i := 2) scRW.nd rfl (.inl rfl))) (fun _ _ _ _ _ => by exact pts_nil) (fun _ _ _ _ _ => by exact (pe_ix ix_tup (pv 2) pe_int (fun _ _ => rfl)))) pa_nil)) (pa_cons (pe_callB (cr_max rfl) (by rfl) gMax (by decide +kernel) (pa_cons (pe_lc (own := [("job", 2)]) (te := (tOp (rIxT K) (tVar 2) (tC (.int 2)))) rfl scRW.nd (pi_list (pv 3)) (blkOk_by (own := [("job", 2)]) (N := ["jobs", "scale", "job", "waiting", "found", "free", "scan", "load", "length", "a", "b", "names", "name", "comes", "due", "work", "first", "last"]) (sc := defScope (top 21)) (by decide +kernel)) (fun _ _ _ _ _ => by exact (pg_name (i := 2) scRW.nd rfl (.inl rfl))) (fun _ _ _ _ _ => by exact pts_nil) (fun _ _ _ _ _ => by exact (pe_ix ix_tup (pv 2) pe_int (fun _ _ => rfl)))) pa_nil)) pa_nil))) pa_nil)))) pss_nil) (pss_cons hw1 (pss_one (ps_ret (pv 4)))))))))), ?_⟩
    refine ⟨_, rfl, l, rfl, ⟨_, hl⟩, for_list (K := K) (a := l) (xs := us) (fun i σ H' => ∃ o2, σ = [some (.ref l), some (.int (((jobs.take i).foldl (fun s j => Nat.lcm s j.wk.den) 1 : Nat) : Int)), o2, none, none, none, none, none, none, none, none, none, none, none, none, none, none, none] ∧ H' = H)
      ⟨none, rfl, rfl⟩ (fun i σ H' _ ⟨_, _, e⟩ => by rw [e]; exact hl) ?_ ?_⟩
    · rintro i x σ H' hi ⟨o2, rfl, rfl⟩
      obtain ⟨j, hj, a, r, rfl, ha, q, rfl, hq⟩ := pair_get hp hi
      have hmem : j ∈ jobs := List.mem_of_getElem? hj
      refine ⟨_, rfl, _, rfl, a, _, _, .ref q, rfl, rfl, ha, rfl, q, _, _, _, rfl, rfl, hq, rfl, ?_⟩
      have h1 := hsb i
      have h2 := hsb (i + 1)
      rw [fold_take (fun s j => Nat.lcm s j.wk.den) 1 hj] at h2
      refine ⟨_, _, rfl, Nat.lt_trans h1 big, Nat.lt_trans (B.sw j hmem).1 (Nat.pow_lt_pow_right (by decide) (by decide)), Nat.lt_trans h2 big, ?_⟩
      exact ⟨_, by rw [fold_take (fun s j => Nat.lcm s j.wk.den) 1 hj]; rfl, rfl⟩
    · rintro σ H' ⟨o2, rfl, rfl⟩
      rw [pair_len hp, List.take_length]
      have hsc : jobs.foldl (fun s j => Nat.lcm s j.wk.den) 1 = scaleOf jobs := rfl
      rw [hsc]
      have hdvs : ∀ j ∈ jobs, j.wk.den ∣ scaleOf jobs := (dvd_scale jobs 1).2
      generalize hsg : scaleOf jobs = sc at *
      refine ⟨_, rfl, l, rfl, ⟨_, hl⟩, fun D0 nD0 => ?_⟩
      refine lc_list (K := K) (a := l) (xs := us) (fun i H2 => ∃ ws, H2 D0 = some (.lst ws) ∧ Same H' H2 ∧ Paired (WtV sc K H2) ws (jobs.take i)) ⟨[], upd_same, same_new nD0, .nil⟩ (fun i H2 _ ⟨_, _, e, _⟩ => e.seq hl) ?_ ?_
      · rintro i x H2 hi ⟨ws, hD, e, hws⟩
        obtain ⟨j, hj, a, r, rfl, ha, q, rfl, hq⟩ := pair_get hp hi
        obtain ⟨hj1, hj2⟩ := List.getElem?_eq_some_iff.mp hj
        have hmem : j ∈ jobs := List.mem_of_getElem? hj
        have hdv : j.wk.den ∣ sc := hdvs j hmem
        have hq' := sqT_same e hq
        refine ⟨a, _, rfl, sqT_same e ha, rfl, _, _, rfl, _, _, rfl, _, _, rfl, _, _, rfl, rfl, wp (wp (wp (wp (wp0 _ _)))), ?_⟩
        refine tyes ?_
        refine iteT ?_
        refine ⟨_, rfl, _, rfl, _, rfl, _, rfl, q, _, _, _, rfl, rfl, hq', rfl, _, rfl, _, rfl, q, _, _, _, rfl, rfl, hq', rfl, _, _, rfl, rfl, ?_, _, _, rfl, rfl, ?_, ?_⟩
        · have := (B.sw j hmem).1
          exact wide_div (b := 4400) (by have := j.wk.den_pos; omega) (by rw [Int.natAbs_natCast]; exact this) (by decide) (by decide)
        · refine cm (B.sw j hmem).2 ?_
          have : ((sc : Int) / (j.wk.den : Int)).natAbs ≤ sc := by
            rw [← Int.natCast_ediv, Int.natAbs_natCast]
            exact Nat.div_le_self _ _
          exact Nat.lt_of_le_of_lt this (Nat.lt_trans hscb (Nat.pow_lt_pow_right (by decide) (by decide)))
        · refine ⟨(by show 4 ≤ sizeLine; decide), fun t ht => ⟨ws, ?_, small (by rw [pair_len hws, List.length_take]; omega), ?_⟩⟩
          · rw [upd_ne (ne_of_none hD ht)]
            exact hD
          · obtain ⟨a1, a2, a3, a4, a5⟩ := app_tup (K := K) (xs := [.str j.nm, .int j.cm, .int j.du, .int (j.wk.num * ((sc : Int) / (j.wk.den : Int)))]) e nD0 hD ht
            refine ⟨_, a4, a2, ?_⟩
            rw [List.take_succ_eq_append_getElem hj1, hj2]
            exact pair_snoc (wts_tup a3 hws) ⟨t, _, rfl, a5, work_scaled hdv⟩
      · rintro H2 ⟨uw, hD0, S2, huw⟩
        rw [pair_len hp, List.take_length] at huw
        refine ⟨Nat.zero_le _, fun pf npf => ⟨Nat.zero_le _, fun p5 np5 => ?_⟩⟩
        have S3 : Same H2 (upd (upd H2 pf (.lst [])) p5 (.lst [])) := (same_new npf).trans (same_new np5)
        have npp : pf ≠ p5 := fun z => by subst z; rw [upd_same] at np5; cases np5
        have hpf : (upd (upd H2 pf (.lst [])) p5 (.lst [])) pf = some (.lst []) := by rw [upd_ne npp]; exact upd_same
        have hp5 : (upd (upd H2 pf (.lst [])) p5 (.lst [])) p5 = some (.lst []) := upd_same
        have npf0 : H' pf = none := S2.free npf
        have SH := S2.trans S3
        have hD0' := S3 _ _ hD0
        have huw' := wts_tup (Tup.same S3) huw
        generalize upd (upd H2 pf (.lst [])) p5 (.lst []) = H3 at *
        have nDp : D0 ≠ pf := fun e => by
          rw [e, npf] at hD0
          cases hD0
        by_cases hj0 : jobs = []
        · subst hj0
          have huw0 := pair_nil huw
          subst huw0
          refine ⟨_, rfl, false, .inl ⟨[], SqL.of hD0', rfl⟩, iteF ?_⟩
          refine hw2 _ D0 pf p5 [] [] [] _ H3 SH npf0 hD0' .nil hp5 nDp (Ne.symm npp) .nil hpf (fun z => absurd rfl z) ?_
          intro σ' H4 ws rds e4 S4 hr hp4 hl4 hR
          refine ⟨_, e4, k _ H4 ws rds S4 npf0 hr hp4 hl4 ?_⟩
          exact .inl ⟨rfl, rounds_nil hR⟩
        · have huwn : uw ≠ [] := fun z => by rw [z] at huw'; cases huw'; exact hj0 rfl
          refine ⟨_, rfl, true, .inl ⟨uw, SqL.of hD0', by cases uw with | nil => exact absurd rfl huwn | cons => rfl⟩, iteT ?_⟩
          refine ⟨_, rfl, D0, rfl, ⟨_, SqL.of hD0'⟩, fun Dm nDm => ?_⟩
          refine lc_list (K := K) (a := D0) (xs := uw) (fun i H5 => H5 Dm = some (.lst (((jobs.take i).map (·.cm)).map V.int)) ∧ Same H3 H5) ⟨upd_same, same_new nDm⟩ (fun i H5 _ ⟨_, e⟩ => e.seq (SqL.of hD0')) ?_ ?_
          · rintro i y H5 hi ⟨hDm, S5⟩
            obtain ⟨j, hj, tr, zr, rfl, htr, hzr⟩ := pair_get huw' hi
            obtain ⟨hj1, hj2⟩ := List.getElem?_eq_some_iff.mp hj
            refine ⟨wp (wp0 _ _), ?_⟩
            refine tyes ?_
            refine iteT ?_
            refine ⟨_, rfl, tr, _, _, _, rfl, rfl, sqT_same S5 htr, rfl, _, hDm, small (by rw [List.length_map, List.length_map, List.length_take]; omega), ?_, ?_⟩
            · rw [upd_same, List.take_succ_eq_append_getElem hj1, hj2, List.map_append, List.map_append]
              rfl
            · exact same_upd S5 nDm
          · rintro H5 ⟨hDm, S5⟩
            rw [pair_len huw', List.take_length] at hDm
            refine ⟨Dm, _, rfl, SqL.of hDm, by rw [List.length_map]; exact List.length_pos_iff.mpr hj0, fun c hc1 hc2 => ?_⟩
            obtain ⟨jc, hjc, rfl⟩ := List.mem_map.mp hc1
            have S35 := S5
            refine ⟨_, rfl, D0, rfl, ⟨_, S35.seq (SqL.of hD0')⟩, fun Dn nDn => ?_⟩
            have huw5 := wts_tup (Tup.same S35) huw'
            refine lc_list (K := K) (a := D0) (xs := uw) (fun i H6 => H6 Dn = some (.lst (((jobs.take i).map (·.du)).map V.int)) ∧ Same H5 H6) ⟨upd_same, same_new nDn⟩ (fun i H6 _ ⟨_, e⟩ => e.seq (S35.seq (SqL.of hD0'))) ?_ ?_
            · rintro i y H6 hi ⟨hDn, S6⟩
              obtain ⟨j, hj, tr, zr, rfl, htr, hzr⟩ := pair_get huw5 hi
              obtain ⟨hj1, hj2⟩ := List.getElem?_eq_some_iff.mp hj
              refine ⟨wp (wp0 _ _), ?_⟩
              refine tyes ?_
              refine iteT ?_
              refine ⟨_, rfl, tr, _, _, _, rfl, rfl, sqT_same S6 htr, rfl, _, hDn, small (by rw [List.length_map, List.length_map, List.length_take]; omega), ?_, ?_⟩
              · rw [upd_same, List.take_succ_eq_append_getElem hj1, hj2, List.map_append, List.map_append]
                rfl
              · exact same_upd S6 nDn
            · rintro H6 ⟨hDn, S6⟩
              rw [pair_len huw5, List.take_length] at hDn
              refine ⟨Dn, _, rfl, SqL.of hDn, by rw [List.length_map]; exact List.length_pos_iff.mpr hj0, fun e he1 he2 => ?_⟩
              obtain ⟨je, hje, rfl⟩ := List.mem_map.mp he1
              refine ⟨(by show 2 ≤ sizeLine; decide), fun t ht => ⟨(by show 1 ≤ sizeLine; decide), fun lf nlf => ?_⟩⟩
              have St : Same H6 (upd H6 t (.tup [.int jc.cm, .int je.du])) := same_new ht
              have htt : SqT K (upd H6 t (.tup [.int jc.cm, .int je.du])) t [.int jc.cm, .int je.du] := SqT.of upd_same
              generalize upd H6 t (.tup [.int jc.cm, .int je.du]) = H7 at *
              have Sl : Same H7 (upd H7 lf (.lst [.ref t])) := same_new nlf
              have hlf : upd H7 lf (.lst [.ref t]) lf = some (.lst [.ref t]) := upd_same
              have npl : lf ≠ pf := fun e => by
                rw [e, St _ _ (S6 _ _ (S35 _ _ hpf))] at nlf
                cases nlf
              generalize upd H7 lf (.lst [.ref t]) = H8 at *
              have S38 := ((S35.trans S6).trans St).trans Sl
              have hcb : ∀ j ∈ jobs, jc.cm ≤ j.cm ∧ j.du ≤ je.du := fun j hj => ⟨hc2 _ (List.mem_map.mpr ⟨j, hj, rfl⟩), he2 _ (List.mem_map.mpr ⟨j, hj, rfl⟩)⟩
              have hfo := one_ok B.ok hjc hcb
              refine hw2 _ D0 pf lf uw [.ref t] [(jc.cm, je.du)] _ H8 (SH.trans S38) npf0 (S38 _ _ hD0') (wts_tup (Tup.same S38) huw') hlf nDp npl (.cons ⟨t, rfl, sqT_same Sl htt⟩ .nil) (S38 _ _ hpf) (fun _ => ⟨hfo.1, hfo.2, Nat.le_refl _, fun z hz => ?_⟩) ?_
              · rw [List.mem_singleton.mp hz]
                have := B.due je hje
                simp only
                omega
              · intro σ' H9 ws rds e4 S4 hr hp4 hl4 hR
                exact ⟨_, e4, k _ H9 ws rds S4 npf0 hr hp4 hl4 (.inr ⟨_, _, ⟨jc, hjc, rfl⟩, ⟨je, hje, rfl⟩, hcb, hR⟩)⟩
end
end SW

set_option Elab.async false
set_option linter.all false
set_option maxRecDepth 100000
set_option maxHeartbeats 4000000
set_option exponentiation.threshold 300
namespace SW
open PySem PySem.Spec PyProof.Rows L2
theorem Room.u1 {k : Nat} {A : Around} (r : Room k A) : A.units + 1 < cLine := by have := r.units; omega
/-- a job whose work is an integer -/
def JiV (K : PySem.W.Frag) (H : Hp) (v : V) (j : Jb Str) : Prop := ∃ (a : Addr) (z : Int), v = .ref a ∧ SqT K H a [.str j.nm, .int j.cm, .int j.du, .int z] ∧ j.wk = (z : Rat)
theorem JiV.tup {K : PySem.W.Frag} {H H' : Hp} {v : V} {x : Jb Str} (e : Tup K H H') (h : JiV K H v x) : JiV K H' v x := by
  obtain ⟨a, z, rfl, h, hz⟩ := h
  exact ⟨a, z, rfl, e _ _ h, hz⟩
theorem jis_tup {K : PySem.W.Frag} {H H' : Hp} {vs : List V} {xs : List (Jb Str)} (e : Tup K H H') (h : Paired (JiV K H) vs xs) : Paired (JiV K H') vs xs := pair_mono (fun _ _ q => q.tup e) h
theorem rat_one (z : Int) : (z : Rat) / ((1 : Int) : Rat) = (z : Rat) := by
  have : ((1 : Int) : Rat) = 1 := by simp
  rw [this]
  grind
/-- a dict comprehension over a list that stays -/
theorem dc_list {Kk : PySem.W.Frag} {at_ : Addr} {us : List V} {gt : TG} {td : TT} {tkey tval : TE} {own : List Nat} {τ : L2.St} {G1 : Hp} {N : Addr} {Qn : Hp → Prop}
    (Pw : Nat → Hp → Prop) (z0 : Pw 0 (upd G1 N (.dK []))) (zl : ∀ k G, k ≤ us.length → Pw k G → SqL Kk G at_ us)
    (zs : ∀ k u G, us[k]? = some u → Pw k G → gt u (wipe τ own) G fun τ2 G2 => wipe τ2 own = wipe τ own ∧ td τ2 G2 fun c G3 =>
      if c = true then tkey τ2 G3 fun p G4 => tval τ2 G4 fun q G5 => ∃ rows key, p = kV key ∧ G5 N = some (.dK rows) ∧ rows.length < sizeLine ∧ Pw (k + 1) (upd G5 N (.dK (putK rows key q))) else Pw (k + 1) G3)
    (zd : ∀ G, Pw us.length G → Qn G) :
    ∃ Wz : Nat → Nat → Hp → Prop, (∃ n, Wz 0 n (upd G1 N (.dK []))) ∧ ∀ k n G, Wz k n G →
      ((Itl Kk at_).stop k G ∧ Qn G) ∨ ((Itl Kk at_).go k G ∧ ∃ Ny : Hp → Prop, (∀ G', Ny G' → ∃ n', n' < n ∧ Wz (k + 1) n' G') ∧
        ∀ u G', (Itl Kk at_).yld k G u G' → gt u (wipe τ own) G' fun τ2 G2 => wipe τ2 own = wipe τ own ∧ td τ2 G2 fun c G3 =>
        if c = true then tkey τ2 G3 fun p G4 => tval τ2 G4 fun q G5 => ∃ rows key, p = kV key ∧ G5 N = some (.dK rows) ∧ rows.length < sizeLine ∧ Ny (upd G5 N (.dK (putK rows key q))) else Ny G3) := by
  refine ⟨fun k n G => n + k = us.length ∧ Pw k G, ⟨us.length, rfl, z0⟩, ?_⟩
  rintro k n G ⟨hn, pk⟩
  have hk : k ≤ us.length := by omega
  have hq := zl k G hk pk
  rcases Nat.lt_or_eq_of_le hk with lt | rfl
  · refine .inr ⟨⟨us, us[k], hq, by simp [lt]⟩, Pw (k + 1), fun G' w => ⟨us.length - (k + 1), by omega, by omega, w⟩, fun u G' yy => ?_⟩
    obtain ⟨rfl, yy⟩ := yy
    exact zs k u _ (yy us hq) pk
  · exact .inl ⟨⟨us, hq, Nat.le_refl _⟩, zd G pk⟩
section
variable {X : Cx}
theorem sw_dict {kx vx : Expr} {gens : List Comprehension} {sc : Scope} {p1 p2 : Pos} {nm : Str} {ln : Nat} {ev : Env} (h1 : ev.scope.kind = .function) (h2 : ev.scope.names.lookup nm = some .local) (h3 : (p2.line == p1.line) = true)
    (h4 : (sc.names.any fun (n, k) => n == nm && (k == .local || k == .cell)) = false) : swapsWith (.DictComp kx vx gens sc p1) (some (.Name nm p2)) ln ev = pure true := by
  have q1 : ev.kindOf nm = some .local := h2
  have q2 : ev.blockKind = .function := by
    show Env.blockKind ev = _
    unfold Env.blockKind
    rw [h1]
    rfl
  unfold swapsWith
  simp only [q1, q2, Expr.pos, h3, h4]
  rfl
/-- name = a dict comprehension -/
theorem ps_setDc {n : Nat} {nm : Str} {p2 p1 p3 : Pos} {kx vx tg src : Expr} {conds : List Expr} {sc : Scope} {own : List (Str × Nat)} {wi : TI} {g : TG} {tt : TT} {tk tv : TE} (hc : X.calm = true) (hN : X.N.Nodup) (hn : X.N[n]? = some nm) (hloc : X.env.scope.names.lookup nm = some .local)
    (hsw : swapsWith (.DictComp kx vx [⟨tg, src, conds, 0⟩] sc p1) (some (.Name nm p2)) p3.line X.env = pure true) (hi : PI X tg src wi) (ok : BlkOk X.N X.env.scope sc own)
    (hg : ∀ (t : Shared) (G : Hp) (B : Addr) (cs : List (Str × Addr)) (fp : List Addr), PG (X.blk t G sc (compEnvC sc cs B X.env) fp) tg g) (ht : ∀ (t : Shared) (G : Hp) (B : Addr) (cs : List (Str × Addr)) (fp : List Addr), PTs (X.blk t G sc (compEnvC sc cs B X.env) fp) conds tt)
    (hk : ∀ (t : Shared) (G : Hp) (B : Addr) (cs : List (Str × Addr)) (fp : List Addr), PE (X.blk t G sc (compEnvC sc cs B X.env) fp) kx tk)
    (he : ∀ (t : Shared) (G : Hp) (B : Addr) (cs : List (Str × Addr)) (fp : List Addr), PE (X.blk t G sc (compEnvC sc cs B X.env) fp) vx tv) (hs : ∀ x, foldedSetIterable src X.env x = pure x := by intro _; rfl) :
    PS X (.Assign [.Name nm p2] (.DictComp kx vx [⟨tg, src, conds, 0⟩] sc p1) p3) (tAsg (tDc wi g tt tk tv (own.map (·.2))) (gName n)) := by
  constructor
  intro pins t τ G D inv rd
  rw [exec_Assign_Name_used _ _ _ _ hsw]
  refine wpAny_bind (wpAny_standAt (wpAny_bind ?_))
  show wpAny _ X.A (do
    let _ ← comprehension (.DictComp kx vx [⟨tg, src, conds, 0⟩] sc p1) sc X.env (firstIterPos [⟨tg, src, conds, 0⟩] p1) newDict false (eval src X.env) (some (assign (.Name nm p2) X.env))) _ _ t
  have rd' : tDc wi g tt tk tv (own.map (·.2)) τ G fun v G1 => gName n v τ G1 D.nx := rd
  have core := dc_core (pos := p1) (pos' := firstIterPos [⟨tg, src, conds, 0⟩] p1) (use := some (assign (.Name nm p2) X.env)) (Qf := fun _ t' => SP X pins D .next t') hc hN inv hi ok hg ht hk he hs rd' fun L B t' m G' inv' q hB fp => by
    show wpAny _ _ (assign (.Name nm p2) X.env (.ref L)) _ _ _
    refine wpAny_assign_Name (store_ok2 (v := V.ref L) inv' hN hn (.inl hloc) rfl ?_ (.inr hloc))
    intro t2 inv2 ⟨c, sb, hc'⟩
    obtain ⟨f0, f1, f2, f3, f4, f5⟩ := fp
    have hBc : B ≠ c := hc'.elim (fun z => z ▸ f1) fun z e => f4 nm c z e.symm
    refine ⟨m, hB.sameBut sb hBc, fun t3 sb3 => ⟨_, G', ?_, q⟩⟩
    exact inv2.turned (t' := t2.toks) (fun b o hb e => (sb3.2 b hb).trans e) f0 f1 f3 f4 f5
  exact wpAny_bind (thn core fun _ t' hq => wpAny_pure (wpAny_pure hq))
end
/-- the dict of left works -/
structure LeftD (K : PySem.W.Frag) (H : Hp) (a : Addr) (A : List (Jb Str)) (l : Str → Rat) : Prop where
  ex : ∃ kvs : List (Key × V), H a = some (.dK kvs) ∧ kvs.length ≤ 1000 + A.length ∧ (∀ j ∈ A, ∃ v, valV kvs (.inr j.nm) = some v ∧ RatV K H v (l j.nm)) ∧ ∀ k : Key, (∀ j ∈ A, k ≠ .inr j.nm) → valV kvs k = none
theorem LeftD.same {K : PySem.W.Frag} {H H' : Hp} {a : Addr} {A : List (Jb Str)} {l : Str → Rat} (h : LeftD K H a A l) (e : Same H H') : LeftD K H' a A l := by
  obtain ⟨kvs, h1, h2, h3, h4⟩ := h.ex
  exact ⟨kvs, e _ _ h1, h2, fun j hj => by
    obtain ⟨v, q1, q2⟩ := h3 j hj
    exact ⟨v, q1, q2.same e⟩, h4⟩
theorem LeftD.keep {K : PySem.W.Frag} {H H' : Hp} {a : Addr} {A : List (Jb Str)} {l : Str → Rat} (h : LeftD K H a A l) (e : Tup K H H') (ha : H' a = H a) : LeftD K H' a A l := by
  obtain ⟨kvs, h1, h2, h3, h4⟩ := h.ex
  exact ⟨kvs, by rw [ha]; exact h1, h2, fun j hj => by
    obtain ⟨v, q1, q2⟩ := h3 j hj
    exact ⟨v, q1, q2.tup e⟩, h4⟩
theorem putK_le {κ : Type} [DecidableEq κ] (kvs : List (κ × V)) (k : κ) (v : V) : (putK kvs k v).length ≤ kvs.length + 1 := by
  unfold putK
  split <;> simp
/-- a key that stands is set anew -/
theorem putK_at {κ : Type} [DecidableEq κ] {kvs : List (κ × V)} {k : κ} {v u : V} (h : valV kvs k = some u) : (putK kvs k v).length = kvs.length := by
  have e := valV_any k kvs
  rw [h] at e
  unfold putK
  rw [if_pos (by simpa using e), List.length_map]
/-- the dict is not a tuple: tuples stay -/
theorem tup_dk {K : PySem.W.Frag} {H : Hp} {a : Addr} {kvs : List (Key × V)} (h : H a = some (.dK kvs)) (o : HO) : Tup K H (upd H a o) := fun b xs q => by
  rcases q with (q | ⟨u, q⟩) | q
  · exact .inl (.inl (by rw [upd_ne (by rintro rfl; rw [h] at q; cases q)]; exact q))
  · exact .inl (.inr ⟨u, by rw [upd_ne (by rintro rfl; rw [h] at q; cases q)]; exact q⟩)
  · exact .inr q
theorem LeftD.put {K : PySem.W.Frag} {H : Hp} {a : Addr} {A : List (Jb Str)} {l l' : Str → Rat} (h : LeftD K H a A l) {kvs : List (Key × V)} (hk : H a = some (.dK kvs)) {n : Str} (hn : ∃ j ∈ A, j.nm = n) {v : V} {q : Rat} (hv : RatV K H v q) (hl : ∀ j ∈ A, l' j.nm = if j.nm = n then q else l j.nm) :
    LeftD K (upd H a (.dK (putK kvs (.inr n) v))) a A l' := by
  obtain ⟨kvs2, h1, h2, h3, h4⟩ := h.ex
  rw [hk] at h1
  cases h1
  have T := tup_dk (K := K) hk (.dK (putK kvs (.inr n) v))
  obtain ⟨j0, hj0, rfl⟩ := hn
  obtain ⟨v0, q0, _⟩ := h3 j0 hj0
  refine ⟨_, upd_same, by rw [putK_at q0]; exact h2, fun j hj => ?_, fun k hk2 => ?_⟩
  · rw [valV_put, hl j hj]
    by_cases e : j.nm = j0.nm
    · rw [if_pos (by rw [e]), if_pos e]
      exact ⟨v, rfl, hv.tup T⟩
    · rw [if_neg (fun z => e (Sum.inr.inj z)), if_neg e]
      obtain ⟨u, q1, q2⟩ := h3 j hj
      exact ⟨u, q1, q2.tup T⟩
  · rw [valV_put, if_neg (hk2 j0 hj0)]
    exact h4 k hk2
section
variable {P : Program} {w : World} {K : PySem.W.Frag} {mg : Str → Option Value} {base : Heap}
theorem scWR : FnScope ["jobs", "name", "comes", "due", "work"] ["jobs"] (defScope (top 22)) := ⟨rfl, rfl, rfl, by decide +kernel, rfl, by decide +kernel, by decide +kernel⟩
def spWR (K : PySem.W.Frag) : Sp := fun vs H Q _ => ∃ l us jobs, vs = [.ref l] ∧ SqT K H l us ∧ Paired (JiV K H) us jobs ∧ jobs.length ≤ 1000 ∧ ∀ r H' ws, Same H H' → H' r = some (.lst ws) → Paired (JrV K H') ws jobs → Q (.ref r) H'
theorem ok_wr (T : TF K mg "with_ratios" (top 22) ["jobs"]) (R : Def P w K mg base "ratio" ["top", "bottom"] [.int 1] 1 (spRatio K)) : Def P w K mg base "with_ratios" ["jobs"] [] 2 (spWR K) := by
  refine T.ok scWR (fun vs H Q E h => ?_) (fun f cdv A outer s H vs Q E hr h => ⟨_, (pss_one (ps_ret (pe_lc (own := [("name", 1), ("comes", 2), ("due", 3), ("work", 4)]) (g := gTup K 4 (gCons (gName 1) (gCons (gName 2) (gCons (gName 3) (gCons (gName 4) gNil))))) (te := tTup (tCons (tVar 1) (tCons (tVar 2) (tCons (tVar 3) (tCons (tCall (spRatio K) [.int 1] E0 (tCons (tVar 4) tNil)) tNil))))) rfl scWR.nd (pi_tup (pv 0)) (blkOk_by (own := [("name", 1), ("comes", 2), ("due", 3), ("work", 4)]) (N := ["jobs", "name", "comes", "due", "work"]) (sc := defScope (top 22)) (by decide +kernel)) (fun _ _ _ _ _ => by exact (pg_tup rfl (pgs_cons (pg_name (i := 1) scWR.nd rfl (.inl rfl)) (pgs_cons (pg_name (i := 2) scWR.nd rfl (.inl rfl)) (pgs_cons (pg_name (i := 3) scWR.nd rfl (.inl rfl)) (pgs_cons (pg_name (i := 4) scWR.nd rfl (.inl rfl)) pgs_nil)))))) (fun _ _ _ _ _ => by exact pts_nil) (fun _ _ _ _ _ => by exact (pe_tup (pa_cons (pv 1) (pa_cons (pv 2) (pa_cons (pv 3) (pa_cons (pe_def R hr (pa_cons (pv 4) pa_nil)) pa_nil))))))))), ?_⟩)
  · obtain ⟨_, _, _, rfl, _⟩ := h
    rfl
  · obtain ⟨l, us, jobs, rfl, hl, hp, hn, k⟩ := h
    refine ⟨_, rfl, l, rfl, ⟨_, hl⟩, fun D0 nD0 => ?_⟩
    refine lc_tup (K := K) (a := l) (xs := us) (fun i H2 => ∃ ws, H2 D0 = some (.lst ws) ∧ Same H H2 ∧ Paired (JrV K H2) ws (jobs.take i)) ⟨[], upd_same, same_new nD0, .nil⟩ (fun i H2 _ ⟨_, _, e, _⟩ => sqT_same e hl) ?_ ?_
    · rintro i x H2 hi ⟨ws, hD, e, hws⟩
      obtain ⟨j, hj, a, z, rfl, ha, hz⟩ := pair_get hp hi
      obtain ⟨hj1, hj2⟩ := List.getElem?_eq_some_iff.mp hj
      refine ⟨a, _, rfl, sqT_same e ha, rfl, _, _, rfl, _, _, rfl, _, _, rfl, _, _, rfl, rfl, wp (wp (wp (wp (wp0 _ _)))), ?_⟩
      refine tyes ?_
      refine iteT ?_
      refine ⟨_, rfl, _, rfl, _, rfl, _, rfl, z, 1, rfl, by decide, by decide, fun r H3 S3 hr3 => ?_⟩
      rw [rat_one, ← hz] at hr3
      refine ⟨(by show 4 ≤ sizeLine; decide), fun t ht => ⟨ws, ?_, small (by rw [pair_len hws, List.length_take]; omega), ?_⟩⟩
      · rw [upd_ne (ne_of_none (S3 _ _ hD) ht)]
        exact S3 _ _ hD
      · obtain ⟨a1, a2, a3, a4, a5⟩ := app_tup (K := K) (xs := [.str j.nm, .int j.cm, .int j.du, r]) (e.trans S3) nD0 (S3 _ _ hD) ht
        refine ⟨_, a4, a2, ?_⟩
        rw [List.take_succ_eq_append_getElem hj1, hj2]
        exact pair_snoc (jrs_tup ((Tup.same S3).trans a3) hws) ⟨t, _, rfl, a5, hr3.tup a3⟩
    · rintro H2 ⟨ws, hD, e, hws⟩
      rw [pair_len hp, List.take_length] at hws
      exact k D0 H2 ws e hD hws
/-! left_at -/
structure StrSm (ps : List (Pc Str)) (b e : Rat) : Prop where
  p : ∀ p ∈ ps, Sm p.st ∧ Sm p.en
  q : ∀ q ∈ stretches ps b e, Sm q.st ∧ Sm q.en ∧ Sm q.sp ∧ Sm (q.en - q.st) ∧ Sm (q.sp * (q.en - q.st))
theorem scLA : FnScope ["jobs", "plan", "moment", "left", "piece", "job"] ["jobs", "plan", "moment"] (defScope (top 25)) := ⟨rfl, rfl, rfl, by decide +kernel, rfl, by decide +kernel, by decide +kernel⟩
def spLA (K : PySem.W.Frag) : Sp := fun vs H Q _ => ∃ lj uj A lp up ps vm m wk, vs = [.ref lj, .ref lp, vm] ∧ SqL K H lj uj ∧ Paired (JiV K H) uj A ∧ A.length ≤ 1000 ∧ SqT K H lp up ∧ Paired (PcV K H) up ps ∧ ps.length ≤ 100000 ∧ RatV K H vm m ∧ Sm m ∧ StrSm ps 0 m ∧
  (∀ j ∈ A, wk j.nm = j.wk) ∧ (∀ j ∈ A, ∀ i, Sm (((stretches ps 0 m).take i).foldl ltStep wk j.nm)) ∧
  ∀ r H', Same H H' → H r = none → LeftD K H' r A (leftAt wk ps m) → Q (.ref r) H'
theorem zero_sm : Sm 0 := ⟨by decide +kernel, by decide +kernel⟩
theorem ok_la (T : TF K mg "left_at" (top 25) ["jobs", "plan", "moment"]) (Z : ZeroG K mg) (R : Def P w K mg base "ratio" ["top", "bottom"] [.int 1] 1 (spRatio K)) (S : Def P w K mg base "stretches" ["plan", "begin", "end"] [] 3 (spStr K)) (M : Def P w K mg base "minus" ["a", "b"] [] 2 (spR2 K (· - ·) C2)) (W : Def P w K mg base "work_of" ["piece"] [] 4 (spWork (Option Str) nV K)) :
    Def P w K mg base "left_at" ["jobs", "plan", "moment"] [] 5 (spLA K) := by
  obtain ⟨z, gz, hz⟩ := Z
  refine T.ok scLA (fun vs H Q E h => ?_) (fun f cdv A0 outer s H vs Q E hr h => ⟨_, (pss_cons (ps_setDc (n := 3) (own := [("job", 5)]) (tk := (tOp (rIxT K) (tVar 5) (tC (.int 0)))) (tv := tCall (spRatio K) [.int 1] E0 (tCons (tOp (rIxT K) (tVar 5) (tC (.int 3))) tNil)) rfl scLA.nd rfl rfl (sw_dict rfl rfl rfl (by decide +kernel)) (pi_list (pv 0)) (blkOk_by (own := [("job", 5)]) (N := ["jobs", "plan", "moment", "left", "piece", "job"]) (sc := defScope (top 25)) (by decide +kernel)) (fun _ _ _ _ _ => by exact (pg_name (i := 5) scLA.nd rfl (.inl rfl))) (fun _ _ _ _ _ => by exact pts_nil) (fun _ _ _ _ _ => by exact (pe_ix ix_tup (pv 5) pe_int (fun _ _ => rfl))) (fun _ _ _ _ _ => by exact (pe_def R (hr.mono (by decide)) (pa_cons (pe_ix ix_tup (pv 5) pe_int (fun _ _ => rfl)) pa_nil)))) (pss_cons (ps_for PassesOwn.never rfl (pi_list (pe_def S (hr.mono (by decide)) (pa_cons (pv 1) (pa_cons (pe_glob (by rfl) gz (v := .ref z) rfl) (pa_cons (pv 2) pa_nil))))) (pg_name (i := 4) scLA.nd rfl (.inl rfl)) (pss_one (ps_if (pt_cmp (pc_dinN (Room.u1 hr) (pe_ix ix_tup (pv 4) pe_int (fun _ _ => rfl)) (pv 3))) (pss_one (ps_dput (Room.u1 hr) (pv 3) (pe_ix ix_tup (pv 4) pe_int (fun _ _ => rfl)) (pe_def M (hr.mono (by decide)) (pa_cons (pe_dget (Room.u1 hr) (pv 3) (pe_ix ix_tup (pv 4) pe_int (fun _ _ => rfl)) (fun _ _ => rfl)) (pa_cons (pe_def W (hr.mono (by decide)) (pa_cons (pv 4) pa_nil)) pa_nil))) (by rfl))) pss_nil))) (pss_one (ps_ret (pv 3))))), ?_⟩)
  · obtain ⟨_, _, _, _, _, _, _, _, _, rfl, _⟩ := h
    rfl
  · obtain ⟨lj, uj, A, lp, up, ps, vm, m, wk, rfl, hj, hjp, hA, hlp, hpp, hpl, hm, sm, hstr, hwk, hsm, k⟩ := h
    refine ⟨_, rfl, lj, rfl, ⟨_, hj⟩, fun D nD => ?_⟩
    refine dc_list (Kk := K) (at_ := lj) (us := uj) (fun i H2 => Same H H2 ∧ ∃ kvs : List (Key × V), H2 D = some (.dK kvs) ∧ kvs.length ≤ i ∧ (∀ j ∈ A.take i, ∃ v, valV kvs (.inr j.nm) = some v ∧ RatV K H2 v (wk j.nm)) ∧ ∀ k : Key, (∀ j ∈ A.take i, k ≠ .inr j.nm) → valV kvs k = none)
      ⟨same_new nD, [], upd_same, Nat.le_refl _, fun j hj => absurd hj (by simp), fun _ _ => rfl⟩ (fun i H2 _ ⟨e, _⟩ => e.seq hj) ?_ ?_
    · rintro i x H2 hi ⟨S2, kvs, hD, hlen, hin, hout⟩
      obtain ⟨j, hj', a, zi, rfl, ha, hz'⟩ := pair_get hjp hi
      obtain ⟨hj1, hj2⟩ := List.getElem?_eq_some_iff.mp hj'
      have ha2 := sqT_same S2 ha
      refine ⟨wp (wp0 _ _), ?_⟩
      refine tyes ?_
      refine iteT ?_
      refine ⟨_, rfl, a, _, _, _, rfl, rfl, ha2, rfl, ?_⟩
      refine ⟨_, rfl, a, _, _, _, rfl, rfl, ha2, rfl, zi, 1, rfl, by decide, by decide, fun r H3 S3 hr3 => ?_⟩
      rw [rat_one, ← hz', ← hwk j (List.mem_of_getElem? hj')] at hr3
      refine ⟨kvs, .inr j.nm, rfl, S3 _ _ hD, small (by omega), ?_⟩
      have S4 := same_upd (S2.trans S3) nD (o := .dK (putK kvs (.inr j.nm) r))
      have T4 : Tup K H3 (upd H3 D (.dK (putK kvs (.inr j.nm) r))) := tup_dk (S3 _ _ hD) _
      refine ⟨S4, _, upd_same, Nat.le_trans (putK_le _ _ _) (by omega), ?_, ?_⟩
      · intro j2 hj2'
        rw [valV_put]
        by_cases e : (Sum.inr j2.nm : Key) = .inr j.nm
        · rw [if_pos e]
          rw [Sum.inr.inj e]
          exact ⟨r, rfl, hr3.tup T4⟩
        · rw [if_neg e]
          rw [List.take_succ_eq_append_getElem hj1, hj2] at hj2'
          rcases List.mem_append.mp hj2' with q | q
          · obtain ⟨v, q1, q2⟩ := hin j2 q
            exact ⟨v, q1, q2.tup ((Tup.same S3).trans T4)⟩
          · rw [List.mem_singleton.mp q] at e
            exact absurd rfl e
      · intro k2 hk2
        rw [valV_put]
        rw [List.take_succ_eq_append_getElem hj1, hj2] at hk2
        rw [if_neg (hk2 j (by simp))]
        exact hout k2 fun j3 h3 => hk2 j3 (List.mem_append_left _ h3)
    · rintro H2 ⟨S2, kvs, hD, hlen, hin, hout⟩
      rw [pair_len hjp, List.take_length] at hin hout
      have hL : LeftD K H2 D A wk := ⟨kvs, hD, by rw [pair_len hjp] at hlen; omega, hin, hout⟩
      clear hin hout hD hlen
      refine ⟨_, rfl, _, rfl, lp, up, ps, .ref z, vm, 0, m, rfl, sqT_same S2 hlp, pcs_tup (Tup.same S2) hpp, hstr.p, zero_rat (hz _), hm.same S2, zero_sm, sm, hpl, fun r H3 ws S3 n3 h3 p3 => ?_⟩
      have hL3 := hL.same S3
      have hlast : (stretches ps 0 m).foldl ltStep wk = leftAt wk ps m := rfl
      have hq := hstr.q
      generalize stretches ps 0 m = qs at *
      have SD : Same H H3 := S2.trans S3
      have nDr : r ≠ D := fun e => by
        obtain ⟨kv, hk, _⟩ := hL.ex
        rw [e, hk] at n3
        cases n3
      refine ⟨r, rfl, ⟨_, SqL.of h3⟩, for_list (K := K) (a := r) (xs := ws) (fun i σ H' => ∃ o4, σ = [some (.ref lj), some (.ref lp), some vm, some (.ref D), o4, none] ∧ Same H H' ∧ Tup K H3 H' ∧ H' r = some (.lst ws) ∧ LeftD K H' D A ((qs.take i).foldl ltStep wk))
        ⟨none, rfl, SD, Tup.refl _ _, h3, hL3⟩ (fun i σ H' _ ⟨_, _, _, _, e, _⟩ => SqL.of e) ?_ ?_⟩
      · rintro i x σ H' hi ⟨o4, rfl, SH, TH, hr', hL'⟩
        obtain ⟨q, hq', a, vst, ven, vsp, rfl, ha, h1, h2, h4⟩ := pair_get p3 hi
        have hmem : q ∈ qs := List.mem_of_getElem? hq'
        obtain ⟨s1, s2, s3, s4, s5⟩ := hq q hmem
        have ha' := TH _ _ ha
        have hfold := fold_take ltStep wk hq'
        have hqv : SpV K H' (.ref a) q := ⟨a, vst, ven, vsp, rfl, ha', h1.tup TH, h2.tup TH, h4.tup TH⟩
        obtain ⟨kvs, hD, hlen, hin, hout⟩ := hL'.ex
        refine ⟨_, rfl, a, _, _, _, rfl, rfl, ha', rfl, _, rfl, ?_⟩
        have hnext : ∀ l' : Str → Rat, (∀ n, l' n = if q.nm = some n then ((qs.take i).foldl ltStep wk) n - q.sp * (q.en - q.st) else ((qs.take i).foldl ltStep wk) n) → (qs.take (i + 1)).foldl ltStep wk = l' := fun l' hl => by
          rw [hfold]
          funext n
          rw [hl n]
          rfl
        cases hnm : q.nm with
        | none =>
          refine .inr ⟨D, kvs, rfl, rfl, .inl hD, _, rfl, iteF ⟨_, rfl, SH, TH, hr', ?_⟩⟩
          rw [hnext _ fun n => by rw [hnm, if_neg (by simp)]]
          exact hL'
        | some n =>
          refine .inl ⟨D, valV kvs (.inr n), rfl, DGet.k (k := .inr n) hD, _, rfl, ?_⟩
          by_cases hn : ∃ j ∈ A, j.nm = n
          · obtain ⟨j, hj, rfl⟩ := hn
            obtain ⟨v, q1, q2⟩ := hin j hj
            rw [q1]
            refine iteT ?_
            refine ⟨_, rfl, _, rfl, a, _, _, _, rfl, rfl, ha', rfl, D, v, rfl, ?_, _, rfl, .ref a, q, rfl, hqv, s1, s2, s3, s4, fun r2 H4 S4 hr2 => ?_⟩
            · rw [hnm, ← q1]
              exact DGet.k (k := .inr j.nm) hD
            refine ⟨v, r2, _, _, rfl, q2.same S4, hr2, ⟨hsm j hj i, s5⟩, fun r5 H5 S5 hr5 => ?_⟩
            have S45 := S4.trans S5
            have hD5 := S45 _ _ hD
            have TD : Tup K H5 (upd H5 D (.dK (putK kvs (.inr j.nm) r5))) := tup_dk hD5 _
            refine ⟨_, rfl, _, rfl, a, _, _, _, rfl, rfl, sqT_same S45 ha', rfl, D, _, rfl, (by rw [hnm]; exact DPut.k (k := .inr j.nm) hD5 (small (by omega))), _, rfl, ?_, ?_, ?_, ?_⟩
            · exact same_upd (SH.trans S45) nD
            · exact (TH.trans (Tup.same S45)).trans TD
            · rw [upd_ne nDr]
              exact S45 _ _ hr'
            · refine (hL'.same S45).put hD5 ⟨j, hj, rfl⟩ hr5 fun j2 hj2 => ?_
              rw [hnext _ fun n => rfl, hnm]
              dsimp only
              by_cases e : j2.nm = j.nm
              · rw [if_pos e, if_pos (by rw [e]), e]
              · rw [if_neg e, if_neg (fun z => e (Option.some.inj z).symm)]
          · have q1 : valV kvs (.inr n) = none := hout _ fun j hj e => hn ⟨j, hj, (Sum.inr.inj e).symm⟩
            rw [q1]
            refine iteF ⟨_, rfl, SH, TH, hr', ?_⟩
            refine ⟨kvs, hD, hlen, fun j hj => ?_, hout⟩
            rw [hnext _ fun n => rfl, hnm]
            dsimp only
            rw [if_neg fun z => hn ⟨j, hj, (Option.some.inj z).symm⟩]
            exact hin j hj
      · rintro σ H' ⟨o4, rfl, SH, TH, hr', hL'⟩
        rw [pair_len p3, List.take_length, hlast] at hL'
        exact ⟨_, rfl, k D H' SH nD hL'⟩
end
end SW

set_option Elab.async false
set_option linter.all false
set_option maxRecDepth 100000
set_option maxHeartbeats 4000000
set_option exponentiation.threshold 300
namespace SW
open PySem PySem.Spec PyProof.Rows L2
def PlV (K : PySem.W.Frag) (H : Hp) (v : V) (ps : List (Pc Str)) : Prop := ∃ a u, v = .ref a ∧ SqT K H a u ∧ Paired (PcV K H) u ps
theorem PlV.same {K : PySem.W.Frag} {H H' : Hp} {v : V} {ps : List (Pc Str)} (e : Same H H') (h : PlV K H v ps) : PlV K H' v ps := by
  obtain ⟨a, u, rfl, h1, h2⟩ := h
  exact ⟨a, u, rfl, sqT_same e h1, pcs_tup (Tup.same e) h2⟩
theorem rats_tup {K : PySem.W.Frag} {H H' : Hp} {vs : List V} {xs : List Rat} (e : Tup K H H') (h : Paired (RatV K H) vs xs) : Paired (RatV K H') vs xs := pair_mono (fun _ _ q => q.tup e) h
def ends (p : Pc Str) : List Rat := [p.st, p.en]
/-- an integer in a slot -/
def intAt (i : Nat) (σ : L2.St) (H : Hp) : Nat := match σ[i]? with
  | some (some (.int z)) => z.toNat
  | _ => 0
theorem intAt_eq {i : Nat} {σ : L2.St} {H : Hp} {z : Int} (h : σ[i]? = some (some (.int z))) : intAt i σ H = z.toNat := by
  unfold intAt
  rw [h]
theorem while_ex {c : TT} {tb : TS} {D : Ends} {σ : L2.St} {H : Hp} (Pv : L2.St → Hp → Prop) (μ : L2.St → Hp → Nat) (Ex : L2.St → Hp → Prop) (h0 : Pv σ H)
    (hs : ∀ σ H, Pv σ H → c σ H fun b G => if b = true then tb { D with nx := fun τ G' => Pv τ G' ∧ μ τ G' < μ σ H, ct := fun τ G' => Pv τ G' ∧ μ τ G' < μ σ H, bk := D.nx } σ G else Ex σ G) (hex : ∀ σ H, Ex σ H → D.nx σ H)
    (mono : ∀ σ H Q Q', (∀ b G, Q b G → Q' b G) → c σ H Q → c σ H Q') : tWhile c tb D σ H :=
  while_by Pv μ h0 (fun σ H p => mono σ H _ _ (fun b G q => by
    cases b with
    | true => exact q
    | false => exact hex _ _ q) (hs σ H p)) mono
theorem sorted_ins {ms : List Rat} (h : ms.Pairwise (· < ·)) {n : Nat} (hn : n ≤ ms.length) {x : Rat} (h1 : ∀ y ∈ ms.drop n, x < y) (h2 : ∀ y, 0 < n → ms[n - 1]? = some y → y < x) : (ms.take n ++ [x] ++ ms.drop n).Pairwise (· < ·) := by
  have hs : (ms.take n ++ ms.drop n).Pairwise (· < ·) := by rw [List.take_append_drop]; exact h
  obtain ⟨s1, s2, s3⟩ := List.pairwise_append.mp hs
  have hx : ∀ y ∈ ms.take n, y < x := fun y hy => by
    obtain ⟨i, hi, e⟩ := List.mem_iff_getElem.mp hy
    rw [List.length_take] at hi
    rw [List.getElem_take] at e
    have hb : ms[n - 1]? = some (ms[n - 1]'(by omega)) := List.getElem?_eq_getElem (by omega)
    have hl := h2 _ (by omega) hb
    by_cases hin : i = n - 1
    · subst hin
      rw [← e]
      exact hl
    · have := List.pairwise_iff_getElem.mp h i (n - 1) (by omega) (by omega) (by omega)
      rw [e] at this
      grind
  rw [List.append_assoc]
  refine List.pairwise_append.mpr ⟨s1, List.pairwise_append.mpr ⟨List.pairwise_singleton _ _, s2, fun a ha b hb => ?_⟩, fun a ha b hb => ?_⟩
  · rw [List.mem_singleton.mp ha]
    exact h1 b hb
  · rcases List.mem_append.mp hb with hb | hb
    · rw [List.mem_singleton.mp hb]
      exact hx a ha
    · exact s3 a ha b hb
theorem mem_ins {α : Type} {ms : List α} (n : Nat) (x y : α) : y ∈ ms.take n ++ [x] ++ ms.drop n ↔ y ∈ ms ∨ y = x := by
  have : y ∈ ms ↔ y ∈ ms.take n ++ ms.drop n := by rw [List.take_append_drop]
  rw [this]
  simp only [List.mem_append, List.mem_singleton]
  grind
theorem pair_take {α : Type} {R : V → α → Prop} : ∀ {vs : List V} {xs : List α} (n : Nat), Paired R vs xs → Paired R (vs.take n) (xs.take n)
  | _, _, 0, _ => .nil
  | _, _, _ + 1, .nil => .nil
  | _, _, n + 1, .cons h t => .cons h (pair_take n t)
theorem pair_drop {α : Type} {R : V → α → Prop} : ∀ {vs : List V} {xs : List α} (n : Nat), Paired R vs xs → Paired R (vs.drop n) (xs.drop n)
  | _, _, 0, h => h
  | _, _, _ + 1, .nil => .nil
  | _, _, n + 1, .cons _ t => pair_drop n t
section
variable {P : Program} {w : World} {K : PySem.W.Frag} {mg : Str → Option Value} {base : Heap}
theorem scMo : FnScope ["taken", "plans", "found", "plan", "piece", "ordered", "moment", "at", "job"] ["taken", "plans"] (defScope (top 24)) := ⟨rfl, rfl, rfl, by decide +kernel, rfl, by decide +kernel, by decide +kernel⟩
def spMo (K : PySem.W.Frag) : Sp := fun vs H Q _ => ∃ lt ut A lp up pls, vs = [.ref lt, .ref lp] ∧ SqT K H lt ut ∧ Paired (JiV K H) ut A ∧ A.length ≤ 1000 ∧ SqT K H lp up ∧ Paired (PlV K H) up pls ∧ (pls.flatMap fun ps => ps.flatMap ends).length ≤ 100000 ∧ (∀ j ∈ A, Sm (j.cm : Rat)) ∧ (∀ ps ∈ pls, ∀ p ∈ ps, Sm p.st ∧ Sm p.en) ∧
  ∀ r H' ws ms, Same H H' → H r = none → H' r = some (.lst ws) → Paired (RatV K H') ws ms → ms.Pairwise (· < ·) → ms.length ≤ 200000 → (∀ x, x ∈ ms ↔ x = 0 ∨ (∃ j ∈ A, x = (j.cm : Rat)) ∨ ∃ ps ∈ pls, ∃ p ∈ ps, x = p.st ∨ x = p.en) → Q (.ref r) H'
theorem ok_mo (T : TF K mg "moments" (top 24) ["taken", "plans"]) (Z : ZeroG K mg) (gL : mg "len" = none) (R : Def P w K mg base "ratio" ["top", "bottom"] [.int 1] 1 (spRatio K)) (L : Def P w K mg base "less" ["a", "b"] [] 1 (spLess K)) : Def P w K mg base "moments" ["taken", "plans"] [] 2 (spMo K) := by
  obtain ⟨z, gz, hz⟩ := Z
  refine T.ok scMo (fun vs H Q E h => ?_) (fun f cdv A0 outer s H vs Q E hr h => ⟨_, (pss_cons (ps_set (i := 2) scMo.nd rfl (.inl rfl) (pe_op op_cat (pe_lst (pa_cons (pe_glob (by rfl) gz (v := .ref z) rfl) pa_nil)) (pe_lc (own := [("job", 8)]) (te := tCall (spRatio K) [.int 1] E0 (tCons (tOp (rIxT K) (tVar 8) (tC (.int 1))) tNil)) rfl scMo.nd (pi_tup (pv 0)) (blkOk_by (own := [("job", 8)]) (N := ["taken", "plans", "found", "plan", "piece", "ordered", "moment", "at", "job"]) (sc := defScope (top 24)) (by decide +kernel)) (fun _ _ _ _ _ => by exact (pg_name (i := 8) scMo.nd rfl (.inl rfl))) (fun _ _ _ _ _ => by exact pts_nil) (fun _ _ _ _ _ => by exact (pe_def R (hr.mono (by decide)) (pa_cons (pe_ix ix_tup (pv 8) pe_int (fun _ _ => rfl)) pa_nil)))))) (pss_cons (ps_for PassesOwn.never rfl (pi_tup (pv 1)) (pg_name (i := 3) scMo.nd rfl (.inl rfl)) (pss_one (ps_for PassesOwn.never rfl (pi_tup (pv 3)) (pg_name (i := 4) scMo.nd rfl (.inl rfl)) (pss_one (ps_expr (pe_bm PySem.F.plainAttrs_list PySem.F.slot_list_extend PySem.F.type_list_extend mt_extend (pv 2) (pa_cons (pe_lst (pa_cons (pe_ix ix_tup (pv 4) pe_int (fun _ _ => rfl)) (pa_cons (pe_ix ix_tup (pv 4) pe_int (fun _ _ => rfl)) pa_nil))) pa_nil))))))) (pss_cons (ps_set (i := 5) scMo.nd rfl (.inl rfl) (pe_lst pa_nil)) (pss_cons (ps_for PassesOwn.never rfl (pi_list (pv 2)) (pg_name (i := 6) scMo.nd rfl (.inl rfl)) (pss_cons (ps_set (i := 7) scMo.nd rfl (.inl rfl) (pe_callB call_len_seq (by rfl) gL (by decide +kernel) (pa_cons (pv 5) pa_nil))) (pss_cons (ps_while PassesOwn.never (PW.pt (pw_and (pt_cmpR op_gt (pv 7) pe_int (nomark _)) (pw_and1 (pt_val (pe_def L (hr.mono (by decide)) (pa_cons (pv 6) (pa_cons (pe_ix ix_list (pv 5) (pe_op op_sub (pv 7) pe_int) (fun _ _ => rfl)) pa_nil))))))) (pss_one (ps_aug (i := 7) scMo.nd rfl (.inl rfl) pe_int ip_sub))) (pss_one (ps_if (PW.pt (pw_or (pt_cmp (pc_eqI (pv 7) pe_int)) (pw_or1 (pt_cmpR (op_neD hr.units) (pe_ix ix_list (pv 5) (pe_op op_sub (pv 7) pe_int) (fun _ _ => rfl)) (pv 6) (nomark _))))) (pss_one (ps_expr (pe_bm PySem.F.plainAttrs_list PySem.F.slot_list_insert PySem.F.type_list_insert mt_insert (pv 5) (pa_cons (pv 7) (pa_cons (pv 6) pa_nil))))) pss_nil))))) (pss_one (ps_ret (pv 5))))))), ?_⟩)
  · obtain ⟨_, _, _, _, _, _, rfl, _⟩ := h
    rfl
  · obtain ⟨lt, ut, A, lp, up, pls, rfl, ht, htp, hA, hlp, hpp, hlen, smA, smP, k⟩ := h
    refine ⟨(by show 1 ≤ sizeLine; decide), fun p0 n0 => ?_⟩
    have S0 := same_new (o := .lst [V.ref z]) n0
    have h0 : upd H p0 (.lst [V.ref z]) p0 = some (.lst [V.ref z]) := upd_same
    generalize upd H p0 (.lst [V.ref z]) = H0 at *
    refine ⟨_, rfl, lt, rfl, ⟨_, sqT_same S0 ht⟩, fun D nD => ?_⟩
    have htp0 := jis_tup (Tup.same S0) htp
    refine lc_tup (K := K) (a := lt) (xs := ut) (fun i H2 => ∃ ws, H2 D = some (.lst ws) ∧ Same H0 H2 ∧ Paired (RatV K H2) ws ((A.take i).map fun j => (j.cm : Rat))) ⟨[], upd_same, same_new nD, .nil⟩ (fun i H2 _ ⟨_, _, e, _⟩ => sqT_same e (sqT_same S0 ht)) ?_ ?_
    · rintro i x H2 hi ⟨ws, hD, e, hws⟩
      obtain ⟨j, hj, a, zi, rfl, ha, hzi⟩ := pair_get htp0 hi
      obtain ⟨hj1, hj2⟩ := List.getElem?_eq_some_iff.mp hj
      refine ⟨wp (wp0 _ _), ?_⟩
      refine tyes ?_
      refine iteT ?_
      refine ⟨_, rfl, a, _, _, _, rfl, rfl, sqT_same e ha, rfl, j.cm, 1, rfl, by decide, by decide, fun r H3 S3 hr3 => ?_⟩
      rw [rat_one] at hr3
      obtain ⟨a1, a2, a3⟩ := app_val (K := K) (v := r) (e.trans S3) nD (S3 _ _ hD)
      refine ⟨ws, S3 _ _ hD, small (by rw [pair_len hws, List.length_map, List.length_take]; omega), _, a3, a1, ?_⟩
      rw [List.take_succ_eq_append_getElem hj1, hj2, List.map_append]
      exact pair_snoc (rats_tup ((Tup.same S3).trans a2) hws) (hr3.tup a2)
    · rintro H2 ⟨wsA, hD, S2, hws⟩
      rw [pair_len htp0, List.take_length] at hws
      have hwl := pair_len hws
      rw [List.length_map] at hwl
      refine ⟨p0, D, _, _, rfl, rfl, S2 _ _ h0, hD, small' (by simp; omega), fun pf nf => ?_⟩
      have Sf := same_new (o := .lst ([V.ref z] ++ wsA)) nf
      have hf : upd H2 pf (.lst ([V.ref z] ++ wsA)) pf = some (.lst ([V.ref z] ++ wsA)) := upd_same
      have hws3 := rats_tup (Tup.same Sf) hws
      have nfH : H pf = none := S0.free (S2.free nf)
      have SH : Same H (upd H2 pf (.lst ([V.ref z] ++ wsA))) := (S0.trans S2).trans Sf
      generalize upd H2 pf (.lst ([V.ref z] ++ wsA)) = H3 at *
      have hf0 : Paired (RatV K H3) ([V.ref z] ++ wsA) ([0] ++ A.map fun j => (j.cm : Rat)) := .cons (zero_rat (hz _)) hws3
      generalize hf0e : [0] ++ A.map (fun j => (j.cm : Rat)) = f0 at *
      have hf0l : f0.length ≤ 1001 := by rw [← hf0e]; simp; omega
      generalize [V.ref z] ++ wsA = wf at *
      clear hws hws3 hwl S2 S0 Sf h0 hD n0 nD nf
      refine ⟨_, rfl, lp, rfl, ⟨_, sqT_same SH hlp⟩, for_tup (K := K) (a := lp) (xs := up) (fun i σ H' => ∃ o3 o4 wl, σ = [some (.ref lt), some (.ref lp), some (.ref pf), o3, o4, none, none, none, none] ∧ Same H H' ∧ H' pf = some (.lst wl) ∧ Paired (RatV K H') wl (f0 ++ (pls.take i).flatMap fun ps => ps.flatMap ends))
        ⟨none, none, wf, rfl, SH, hf, by simpa using hf0⟩ (fun i σ H' _ ⟨_, _, _, _, e, _⟩ => sqT_same e hlp) ?_ ?_⟩
      · rintro i x σ H' hi ⟨o3, o4, wl, rfl, S', hfl, hwl⟩
        obtain ⟨ps, hps, a, u, rfl, ha, hau⟩ := pair_get hpp hi
        obtain ⟨hps1, hps2⟩ := List.getElem?_eq_some_iff.mp hps
        have hfull : ∀ n, ((pls.take i).flatMap fun ps => ps.flatMap ends).length + ((ps.take n).flatMap ends).length ≤ 100000 := fun n => by
          have e1 : pls = pls.take i ++ ps :: pls.drop (i + 1) := by rw [← hps2, List.getElem_cons_drop, List.take_append_drop]
          have e2 := hlen
          rw [e1, List.flatMap_append, List.flatMap_cons] at e2
          have e3 : ps.flatMap ends = (ps.take n).flatMap ends ++ (ps.drop n).flatMap ends := by rw [← List.flatMap_append, List.take_append_drop]
          rw [e3] at e2
          simp only [List.length_append] at e2
          omega
        refine ⟨_, rfl, a, rfl, ⟨_, sqT_same S' ha⟩, for_tup (K := K) (a := a) (xs := u) (fun n σ H' => ∃ o4 wl, σ = [some (.ref lt), some (.ref lp), some (.ref pf), some (.ref a), o4, none, none, none, none] ∧ Same H H' ∧ H' pf = some (.lst wl) ∧ Paired (RatV K H') wl (f0 ++ ((pls.take i).flatMap fun ps => ps.flatMap ends) ++ (ps.take n).flatMap ends))
          ⟨o4, wl, rfl, S', hfl, by simpa using hwl⟩ (fun i σ H' _ ⟨_, _, _, e, _⟩ => sqT_same e ha) ?_ ?_⟩
        · rintro n y σ H4 hn ⟨o4, wl, rfl, S4, hfl, hwl⟩
          obtain ⟨pc, hpc, b, st, en, sp, rfl, hb, h1, h2, h3⟩ := pair_get hau hn
          obtain ⟨hpc1, hpc2⟩ := List.getElem?_eq_some_iff.mp hpc
          have hb4 := sqT_same S4 hb
          refine ⟨_, rfl, .inl ⟨rfl, _, SqL.of hfl⟩, _, rfl, b, _, _, _, rfl, rfl, hb4, rfl, _, rfl, b, _, _, _, rfl, rfl, hb4, rfl, (by show 2 ≤ sizeLine; decide), fun t nt => ?_⟩
          have S5 := same_new (o := .lst [st, en]) nt
          have hwl5 := rats_tup (Tup.same S5) hwl
          have hl := pair_len hwl
          have hb1 := hfull n
          refine ⟨pf, t, wl, [st, en], rfl, rfl, S5 _ _ hfl, upd_same, small' (by simp only [List.length_append] at hl; simp only [List.length_cons, List.length_nil]; omega), _, _, rfl, same_upd (S4.trans S5) nfH, upd_same, ?_⟩
          have T5 : Tup K (upd H4 t (.lst [st, en])) (upd (upd H4 t (.lst [st, en])) pf (.lst (wl ++ [st, en]))) := Tup.lst (S5 _ _ hfl)
          rw [List.take_succ_eq_append_getElem hpc1, hpc2, List.flatMap_append, ← List.append_assoc]
          refine pair_app (rats_tup T5 hwl5) ?_
          have : List.flatMap ends [pc] = [pc.st, pc.en] := rfl
          rw [this]
          exact .cons (((h1.same S4).same S5).tup T5) (.cons (((h2.same S4).same S5).tup T5) .nil)
        · rintro σ H4 ⟨o4, wl, rfl, S4, hfl, hwl⟩
          rw [pair_len hau, List.take_length] at hwl
          refine ⟨_, _, wl, rfl, S4, hfl, ?_⟩
          rw [List.take_succ_eq_append_getElem hps1, hps2, List.flatMap_append, ← List.append_assoc]
          simpa using hwl
      · rintro σ H' ⟨o3, o4, wl, rfl, S', hfl, hwl⟩
        rw [pair_len hpp, List.take_length] at hwl
        have hmem : ∀ x, x ∈ f0 ++ (pls.flatMap fun ps => ps.flatMap ends) ↔ x = 0 ∨ (∃ j ∈ A, x = (j.cm : Rat)) ∨ ∃ ps ∈ pls, ∃ p ∈ ps, x = p.st ∨ x = p.en := fun x => by
          rw [← hf0e]
          simp only [List.mem_append, List.mem_singleton, List.mem_map, List.mem_flatMap, ends, List.mem_cons, List.not_mem_nil, or_false]
          grind
        have hflen : (f0 ++ (pls.flatMap fun ps => ps.flatMap ends)).length ≤ 101001 := by rw [List.length_append]; omega
        have hsm : ∀ x ∈ f0 ++ (pls.flatMap fun ps => ps.flatMap ends), Sm x := fun x hx => by
          rcases (hmem x).mp hx with rfl | ⟨j, hj, rfl⟩ | ⟨ps, hps, p, hp, rfl | rfl⟩
          · exact zero_sm
          · exact smA j hj
          · exact (smP ps hps p hp).1
          · exact (smP ps hps p hp).2
        generalize f0 ++ (pls.flatMap fun ps => ps.flatMap ends) = fs at *
        refine ⟨Nat.zero_le _, fun po no => ?_⟩
        have So := same_new (o := .lst []) no
        have ho : upd H' po (.lst []) po = some (.lst []) := upd_same
        have hfo := So _ _ hfl
        have hwo := rats_tup (Tup.same So) hwl
        have noH : H po = none := S'.free no
        have nof : po ≠ pf := fun e => by
          rw [e, hfl] at no
          cases no
        have SO := S'.trans So
        generalize upd H' po (.lst []) = H5 at *
        clear hfl hwl no So S' hf0
        refine ⟨_, rfl, pf, rfl, ⟨_, SqL.of hfo⟩, for_list (K := K) (a := pf) (xs := wl) (fun i σ H' => ∃ o6 o7 wo ms, σ = [some (.ref lt), some (.ref lp), some (.ref pf), o3, o4, some (.ref po), o6, o7, none] ∧ Same H H' ∧ H' pf = some (.lst wl) ∧ Paired (RatV K H') wl fs ∧ H' po = some (.lst wo) ∧ Paired (RatV K H') wo ms ∧ ms.Pairwise (· < ·) ∧ ms.length ≤ i ∧ ∀ x, x ∈ ms ↔ x ∈ fs.take i)
          ⟨none, none, [], [], rfl, SO, hfo, hwo, ho, .nil, .nil, Nat.le_refl _, fun x => by simp⟩ (fun i σ H' _ ⟨_, _, _, _, _, _, e, _⟩ => SqL.of e) ?_ ?_⟩
        · rintro i x σ H6 hi ⟨o6, o7, wo, ms, rfl, S6, hf6, hw6, ho6, hm6, hsort, hml, hmm⟩
          obtain ⟨q, hq, hxq⟩ := pair_get hw6 hi
          obtain ⟨hq1, hq2⟩ := List.getElem?_eq_some_iff.mp hq
          have hq0 : q ∈ fs := List.mem_of_getElem? hq
          have smq := hsm q hq0
          have hmsm : ∀ y ∈ ms, Sm y := fun y hy => hsm y (List.mem_of_mem_take ((hmm y).mp hy))
          have hol := pair_len hm6
          have hix : ∀ y, y ∈ fs.take (i + 1) ↔ y ∈ ms ∨ y = q := fun y => by
            rw [List.take_succ_eq_append_getElem hq1, hq2, List.mem_append, List.mem_singleton, hmm]
          refine ⟨_, rfl, po, wo, rfl, .inl (SqL.of ho6), ?_⟩
          refine while_ex (fun σ H' => ∃ n : Nat, σ = [some (.ref lt), some (.ref lp), some (.ref pf), o3, o4, some (.ref po), some x, some (.int (n : Int)), none] ∧ H' = H6 ∧ n ≤ ms.length ∧ ∀ y ∈ ms.drop n, q < y) (intAt 7)
            (fun σ H' => ∃ n : Nat, σ = [some (.ref lt), some (.ref lp), some (.ref pf), o3, o4, some (.ref po), some x, some (.int (n : Int)), none] ∧ H' = H6 ∧ n ≤ ms.length ∧ (∀ y ∈ ms.drop n, q < y) ∧ ∀ y, 0 < n → ms[n - 1]? = some y → ¬ q < y)
            ⟨wo.length, rfl, rfl, by omega, fun y hy => by rw [List.drop_eq_nil_of_le (by omega)] at hy; cases hy⟩ ?_ ?_ (fun σ H Q Q' hQ ⟨v, e, i, j, e1, e2, k, e3, q⟩ => ⟨v, e, i, j, e1, e2, k, e3, ?_⟩)
          · rintro σ H7 ⟨n, rfl, rfl, hn, hdr⟩
            refine ⟨_, rfl, _, _, rfl, rfl, _, rfl, ?_⟩
            by_cases hn0 : n = 0
            · subst hn0
              refine ite2 (fun c => absurd (of_decide_eq_true c) (by decide)) (fun c => ?_)
              exact iteF ⟨0, rfl, rfl, hn, hdr, fun y h => absurd h (by decide)⟩
            · refine ite2 (fun c => ?_) (fun c => absurd (decide_eq_true (by omega)) c)
              obtain ⟨y, hy⟩ : ∃ y, ms[n - 1]? = some y := ⟨_, List.getElem?_eq_getElem (by omega)⟩
              obtain ⟨v, hv, hvy⟩ := pair_get' hm6 hy
              refine ⟨_, rfl, _, rfl, _, rfl, _, _, rfl, rfl, po, wo, _, v, rfl, rfl, SqL.of ho6, at_of (j := n - 1) (by omega) hv, x, v, q, y, rfl, hxq, hvy, ⟨smq, hmsm y (List.mem_of_getElem? hy)⟩, _, rfl, ?_⟩
              by_cases hlt : q < y
              · rw [decide_eq_true hlt]
                refine iteT ⟨_, rfl, _, _, rfl, rfl, ⟨n - 1, ?_, rfl, by omega, fun u hu => ?_⟩, ?_⟩
                · have : ((n - 1 : Nat) : Int) = (n : Int) - 1 := by omega
                  rw [this]
                  rfl
                · obtain ⟨hm1, hm2⟩ := List.getElem?_eq_some_iff.mp hy
                  rw [List.drop_eq_getElem_cons hm1, hm2] at hu
                  rcases List.mem_cons.mp hu with rfl | hu
                  · exact hlt
                  · exact hdr u (by rw [show n - 1 + 1 = n by omega] at hu; exact hu)
                · rw [intAt_eq (z := (n : Int) - 1) rfl, intAt_eq (z := (n : Int)) rfl]
                  omega
              · rw [decide_eq_false hlt]
                refine iteF ⟨n, rfl, rfl, hn, hdr, fun u _ hu => ?_⟩
                rw [hy] at hu
                cases hu
                exact hlt
          · rintro σ H7 ⟨n, rfl, rfl, hn, hdr, hst⟩
            have keep : (∃ y, 0 < n ∧ ms[n - 1]? = some y ∧ y = q) → ∃ o6 o7 wo2 ms2, [some (.ref lt), some (.ref lp), some (.ref pf), o3, o4, some (.ref po), some x, some (.int (n : Int)), none] = [some (.ref lt), some (.ref lp), some (.ref pf), o3, o4, some (.ref po), o6, o7, none] ∧ Same H H7 ∧ H7 pf = some (.lst wl) ∧ Paired (RatV K H7) wl fs ∧ H7 po = some (.lst wo2) ∧ Paired (RatV K H7) wo2 ms2 ∧ ms2.Pairwise (· < ·) ∧ ms2.length ≤ i + 1 ∧ ∀ x, x ∈ ms2 ↔ x ∈ fs.take (i + 1) := fun ⟨y, _, hy, e⟩ =>
              ⟨_, _, wo, ms, rfl, S6, hf6, hw6, ho6, hm6, hsort, by omega, fun u => by
                rw [hix]
                constructor
                · exact .inl
                · rintro (h | rfl)
                  · exact h
                  · rw [← e]
                    exact List.mem_of_getElem? hy⟩
            have putin : (∀ y, 0 < n → ms[n - 1]? = some y → y < q) → ∃ (l : Addr) (xs : List V) (i1 : Int) (y : V), V.ref po = .ref l ∧ [V.int (n : Int), x] = [.int i1, y] ∧ H7 l = some (.lst xs) ∧ xs.length < sizeLine ∧ 0 ≤ i1 ∧ i1 < 2 ^ 63 ∧
                ∃ o6 o7 wo2 ms2, [some (.ref lt), some (.ref lp), some (.ref pf), o3, o4, some (.ref po), some x, some (.int (n : Int)), none] = [some (.ref lt), some (.ref lp), some (.ref pf), o3, o4, some (.ref po), o6, o7, none] ∧ Same H (upd H7 l (.lst (xs.take i1.toNat ++ [y] ++ xs.drop i1.toNat))) ∧ (upd H7 l (.lst (xs.take i1.toNat ++ [y] ++ xs.drop i1.toNat))) pf = some (.lst wl) ∧ Paired (RatV K (upd H7 l (.lst (xs.take i1.toNat ++ [y] ++ xs.drop i1.toNat)))) wl fs ∧ (upd H7 l (.lst (xs.take i1.toNat ++ [y] ++ xs.drop i1.toNat))) po = some (.lst wo2) ∧ Paired (RatV K (upd H7 l (.lst (xs.take i1.toNat ++ [y] ++ xs.drop i1.toNat)))) wo2 ms2 ∧ ms2.Pairwise (· < ·) ∧ ms2.length ≤ i + 1 ∧ ∀ x, x ∈ ms2 ↔ x ∈ fs.take (i + 1) := fun hlt => by
              have T7 : Tup K H7 (upd H7 po (.lst (wo.take n ++ [x] ++ wo.drop n))) := Tup.lst ho6
              refine ⟨po, wo, n, x, rfl, rfl, ho6, small (by omega), by omega, by omega, _, _, wo.take n ++ [x] ++ wo.drop n, ms.take n ++ [q] ++ ms.drop n, rfl, same_upd S6 noH, ?_, rats_tup T7 hw6, upd_same, ?_, sorted_ins hsort hn hdr hlt, ?_, fun u => ?_⟩
              · rw [upd_ne nof.symm]
                exact hf6
              · exact rats_tup T7 (pair_app (pair_snoc (pair_take n hm6) hxq) (pair_drop n hm6))
              · simp only [List.length_append, List.length_take, List.length_drop, List.length_singleton]
                omega
              · rw [mem_ins, hix]
            refine ⟨_, rfl, _, _, rfl, rfl, _, rfl, ?_⟩
            by_cases hn0 : n = 0
            · subst hn0
              refine ite2 (fun c => ?_) (fun c => absurd (decide_eq_true rfl) c)
              exact iteT ⟨_, rfl, .inl ⟨rfl, _, SqL.of ho6⟩, _, rfl, _, rfl, putin fun y h => absurd h (by decide)⟩
            · refine ite2 (fun c => absurd (of_decide_eq_true c) (by omega)) (fun c => ?_)
              obtain ⟨y, hy⟩ : ∃ y, ms[n - 1]? = some y := ⟨_, List.getElem?_eq_getElem (by omega)⟩
              obtain ⟨v, hv, hvy⟩ := pair_get' hm6 hy
              refine ⟨_, rfl, _, rfl, _, _, rfl, rfl, po, wo, _, v, rfl, rfl, SqL.of ho6, at_of (j := n - 1) (by omega) hv, _, rfl, ratD y, ratD q, hvy.dp, hxq.dp, rat_shaped _, rat_shaped _, _, rfl, ?_⟩
              rw [rat_eqv]
              by_cases e : y = q
              · rw [decide_eq_true e]
                exact iteF (keep ⟨y, by omega, hy, e⟩)
              · rw [decide_eq_false e]
                refine iteT ⟨_, rfl, .inl ⟨rfl, _, SqL.of ho6⟩, _, rfl, _, rfl, putin fun u h hu => ?_⟩
                rw [hy] at hu
                cases hu
                have := hst y h hy
                grind
          · cases k with
            | false => exact hQ _ _ q
            | true =>
              obtain ⟨a1, b1, a2, b2, a3, b3, i1, j1, c1, c2, p1, xs1, z1, v0, d1, d2, d3, d4, v1, u1, x1, y1, f1, f2, f3, f4, c, f5, q⟩ := q
              exact ⟨a1, b1, a2, b2, a3, b3, i1, j1, c1, c2, p1, xs1, z1, v0, d1, d2, d3, d4, v1, u1, x1, y1, f1, f2, f3, f4, c, f5, hQ _ _ q⟩
        · rintro σ H6 ⟨o6, o7, wo, ms, rfl, S6, hf6, hw6, ho6, hm6, hsort, hml, hmm⟩
          have hwl := pair_len hw6
          rw [hwl, List.take_length] at hmm
          exact ⟨_, rfl, k po H6 wo ms S6 noH ho6 hm6 hsort (by omega) fun x => (hmm x).trans (hmem x)⟩
end
end SW

set_option Elab.async false
set_option linter.all false
set_option maxRecDepth 100000
set_option maxHeartbeats 4000000
set_option exponentiation.threshold 300
namespace SW
open PySem PySem.Spec PyProof.Rows L2
theorem scaled_take (A : List (Jb Str)) (l : Str → Rat) (m : Rat) {i : Nat} {j : Jb Str} (h : A[i]? = some j) : scaledJ (A.take (i + 1)) l m = scaledJ (A.take i) l m ++ (if l j.nm ≠ 0 then [⟨j.nm, 0, j.du * (m.den : Int) - m.num, l j.nm⟩] else []) := by
  obtain ⟨h1, h2⟩ := List.getElem?_eq_some_iff.mp h
  unfold scaledJ
  rw [List.take_succ_eq_append_getElem h1, h2, List.filter_append, List.map_append]
  congr 1
  by_cases e : l j.nm ≠ 0
  · rw [if_pos e]
    simp only [List.filter_cons, decide_eq_true e, if_true, List.filter_nil, List.map_cons, List.map_nil]
  · rw [if_neg e]
    simp only [List.filter_cons, decide_eq_false e, List.filter_nil]
    rfl
theorem scaled_len (A : List (Jb Str)) (l : Str → Rat) (m : Rat) : (scaledJ A l m).length ≤ A.length := by
  unfold scaledJ
  rw [List.length_map]
  exact List.length_filter_le _ _
section
variable {P : Program} {w : World} {K : PySem.W.Frag} {mg : Str → Option Value} {base : Heap}
theorem scSc : FnScope ["jobs", "left", "moment", "part", "found", "name", "comes", "due", "work"] ["jobs", "left", "moment"] (defScope (top 26)) := ⟨rfl, rfl, rfl, by decide +kernel, rfl, by decide +kernel, by decide +kernel⟩
def spSca (K : PySem.W.Frag) : Sp := fun vs H Q _ => ∃ lj uj A ld l vm m, vs = [.ref lj, .ref ld, vm] ∧ SqL K H lj uj ∧ Paired (JiV K H) uj A ∧ A.length ≤ 1000 ∧ LeftD K H ld A l ∧ RatV K H vm m ∧ Sm m ∧ (∀ j ∈ A, j.du.natAbs < 2 ^ 600) ∧
  ∀ r H' ws, Same H H' → H' r = some (.lst ws) → Paired (JrV K H') ws (scaledJ A l m) → Q (.ref r) H'
theorem ok_sca (T : TF K mg "scaled" (top 26) ["jobs", "left", "moment"]) (Z : ZeroG K mg) : Def P w K mg base "scaled" ["jobs", "left", "moment"] [] 1 (spSca K) := by
  obtain ⟨z, gz, hz⟩ := Z
  refine T.ok scSc (fun vs H Q E h => ?_) (fun f cdv A0 outer s H vs Q E hr h => ⟨_, (pss_cons (ps_set (i := 3) scSc.nd rfl (.inl rfl) (pe_ix ix_tup (pv 2) pe_int (fun _ _ => rfl))) (pss_cons (ps_set (i := 4) scSc.nd rfl (.inl rfl) (pe_lst pa_nil)) (pss_cons (ps_for PassesOwn.never rfl (pi_list (pv 0)) (pg_tup rfl (pgs_cons (pg_name (i := 5) scSc.nd rfl (.inl rfl)) (pgs_cons (pg_name (i := 6) scSc.nd rfl (.inl rfl)) (pgs_cons (pg_name (i := 7) scSc.nd rfl (.inl rfl)) (pgs_cons (pg_name (i := 8) scSc.nd rfl (.inl rfl)) pgs_nil))))) (pss_one (ps_if (pt_cmpR (op_neD hr.units) (pe_dget (Room.u1 hr) (pv 1) (pv 5) (fun _ _ => rfl)) (pe_glob (by rfl) gz (v := .ref z) rfl) (nomark _)) (pss_one (ps_expr (pe_bm PySem.F.plainAttrs_list PySem.F.slot_list_append PySem.F.type_list_append mt_append (pv 4) (pa_cons (pe_tup (pa_cons (pv 5) (pa_cons pe_int (pa_cons (pe_op op_sub (pe_op op_mulW (pv 7) (pv 3)) (pe_ix ix_tup (pv 2) pe_int (fun _ _ => rfl))) (pa_cons (pe_dget (Room.u1 hr) (pv 1) (pv 5) (fun _ _ => rfl)) pa_nil))))) pa_nil)))) pss_nil))) (pss_one (ps_ret (pv 4)))))), ?_⟩)
  · obtain ⟨_, _, _, _, _, _, _, rfl, _⟩ := h
    rfl
  · obtain ⟨lj, uj, A, ld, l, vm, m, rfl, hj, hjp, hA, hL, hm, sm, hdu, k⟩ := h
    obtain ⟨pm, rfl, hpm⟩ := hm
    refine ⟨_, rfl, pm, _, _, _, rfl, rfl, hpm, rfl, ?_⟩
    refine ⟨Nat.zero_le _, fun pf nf => ?_⟩
    have S0 := same_new (o := .lst []) nf
    refine ⟨_, rfl, lj, rfl, ⟨_, S0.seq hj⟩, for_list (K := K) (a := lj) (xs := uj) (fun i σ H' => ∃ o5 o6 o7 o8 wf, σ = [some (.ref lj), some (.ref ld), some (.ref pm), some (.int (m.den : Int)), some (.ref pf), o5, o6, o7, o8] ∧ Same H H' ∧ H' pf = some (.lst wf) ∧ Paired (JrV K H') wf (scaledJ (A.take i) l m))
      ⟨none, none, none, none, [], rfl, S0, upd_same, .nil⟩ (fun i σ H' _ ⟨_, _, _, _, _, _, e, _⟩ => e.seq hj) ?_ ?_⟩
    · rintro i x σ H' hi ⟨o5, o6, o7, o8, wf, rfl, S', hf, hwf⟩
      obtain ⟨j, hj', a, zi, rfl, ha, hzi⟩ := pair_get hjp hi
      have hmem : j ∈ A := List.mem_of_getElem? hj'
      obtain ⟨kvs, h1, h2, h3, h4⟩ := hL.ex
      obtain ⟨v, hv, hvr⟩ := h3 j hmem
      have hD' := S' _ _ h1
      have hwl := pair_len hwf
      have hsl := scaled_len (A.take i) l m
      rw [List.length_take] at hsl
      refine ⟨a, _, rfl, sqT_same S' ha, rfl, _, _, rfl, _, _, rfl, _, _, rfl, _, _, rfl, rfl, ?_⟩
      refine ⟨_, rfl, _, rfl, ld, v, rfl, (by rw [← hv]; exact DGet.k (k := .inr j.nm) hD'), ?_⟩
      refine ⟨ratD (l j.nm), ratD 0, (hvr.same S').dp, (zero_rat (hz _)).dp, rat_shaped _, rat_shaped _, _, rfl, ?_⟩
      rw [rat_eqv]
      by_cases e : l j.nm = 0
      · rw [decide_eq_true e]
        refine iteF ⟨_, _, _, _, wf, rfl, S', hf, ?_⟩
        rw [scaled_take A l m hj', if_neg (by simpa using e), List.append_nil]
        exact hwf
      · rw [decide_eq_false e]
        refine iteT ?_
        refine ⟨_, rfl, .inl ⟨rfl, _, SqL.of hf⟩, _, rfl, _, rfl, _, rfl, _, _, rfl, rfl, cm (Nat.lt_trans (hdu j hmem) (Nat.pow_lt_pow_right (by decide) (by decide))) sm.d, ?_⟩
        refine ⟨_, rfl, pm, _, _, _, rfl, rfl, sqT_same S' hpm, rfl, _, _, rfl, rfl, _, rfl, _, rfl, ld, v, rfl, (by rw [← hv]; exact DGet.k (k := .inr j.nm) hD'), (by show 4 ≤ sizeLine; decide), fun t nt => ?_⟩
        obtain ⟨a1, a2, a3, a4, a5⟩ := app_tup (K := K) (xs := [.str j.nm, .int 0, .int (j.du * (m.den : Int) - m.num), v]) S' nf hf nt
        refine ⟨pf, wf, .ref t, rfl, rfl, a1, small (by omega), _, _, _, _, _, rfl, a2, a4, ?_⟩
        rw [scaled_take A l m hj', if_pos (by simpa using e)]
        exact pair_snoc (jrs_tup a3 hwf) ⟨t, v, rfl, a5, (hvr.same S').tup a3⟩
    · rintro σ H' ⟨o5, o6, o7, o8, wf, rfl, S', hf, hwf⟩
      rw [pair_len hjp, List.take_length] at hwf
      exact ⟨_, rfl, k pf H' wf S' hf hwf⟩
/-! spent_until -/
theorem scSu : FnScope ["plan", "moment", "spent", "start", "stop", "_", "speed"] ["plan", "moment"] (defScope (top 28)) := ⟨rfl, rfl, rfl, by decide +kernel, rfl, by decide +kernel, by decide +kernel⟩
def sqOf (q : Pc (Option Str)) : Rat := q.sp * q.sp * (q.en - q.st)
def spSu (K : PySem.W.Frag) : Sp := fun vs H Q _ => ∃ lp up ps vm m, vs = [.ref lp, vm] ∧ SqT K H lp up ∧ Paired (PcV K H) up ps ∧ ps.length ≤ 100000 ∧ RatV K H vm m ∧ Sm m ∧ StrSm ps 0 m ∧
  (∀ q ∈ stretches ps 0 m, Sm (q.sp * q.sp) ∧ Sm (sqOf q)) ∧ (∀ i, Sm (ls sqOf ((stretches ps 0 m).take i))) ∧ ∀ v H', Same H H' → RatV K H' v (spentUntil ps m) → Q v H'
theorem ok_su (T : TF K mg "spent_until" (top 28) ["plan", "moment"]) (Z : ZeroG K mg) (S : Def P w K mg base "stretches" ["plan", "begin", "end"] [] 3 (spStr K)) (Pl : Def P w K mg base "plus" ["a", "b"] [] 2 (spR2 K (· + ·) C2)) (Ti : Def P w K mg base "times" ["a", "b"] [] 2 (spR2 K (· * ·) C2)) (Mi : Def P w K mg base "minus" ["a", "b"] [] 2 (spR2 K (· - ·) C2)) :
    Def P w K mg base "spent_until" ["plan", "moment"] [] 4 (spSu K) := by
  obtain ⟨z, gz, hz⟩ := Z
  refine T.ok scSu (fun vs H Q E h => ?_) (fun f cdv A0 outer s H vs Q E hr h => ⟨_, (pss_cons (ps_set (i := 2) scSu.nd rfl (.inl rfl) (pe_glob (by rfl) gz (v := .ref z) rfl)) (pss_cons (ps_for PassesOwn.never rfl (pi_list (pe_def S (hr.mono (by decide)) (pa_cons (pv 0) (pa_cons (pe_glob (by rfl) gz (v := .ref z) rfl) (pa_cons (pv 1) pa_nil))))) (pg_tup rfl (pgs_cons (pg_name (i := 3) scSu.nd rfl (.inl rfl)) (pgs_cons (pg_name (i := 4) scSu.nd rfl (.inl rfl)) (pgs_cons (pg_name (i := 5) scSu.nd rfl (.inl rfl)) (pgs_cons (pg_name (i := 6) scSu.nd rfl (.inl rfl)) pgs_nil))))) (pss_one (ps_set (i := 2) scSu.nd rfl (.inl rfl) (pe_def Pl (hr.mono (by decide)) (pa_cons (pv 2) (pa_cons (pe_def Ti (hr.mono (by decide)) (pa_cons (pe_def Ti (hr.mono (by decide)) (pa_cons (pv 6) (pa_cons (pv 6) pa_nil))) (pa_cons (pe_def Mi (hr.mono (by decide)) (pa_cons (pv 4) (pa_cons (pv 3) pa_nil))) pa_nil))) pa_nil)))))) (pss_one (ps_ret (pv 2))))), ?_⟩)
  · obtain ⟨_, _, _, _, _, rfl, _⟩ := h
    rfl
  · obtain ⟨lp, up, ps, vm, m, rfl, hlp, hpp, hpl, hm, sm, hstr, hq1, hq2, k⟩ := h
    refine ⟨_, rfl, _, rfl, lp, up, ps, .ref z, vm, 0, m, rfl, hlp, hpp, hstr.p, zero_rat (hz _), hm, zero_sm, sm, hpl, fun r H3 ws S3 n3 h3 p3 => ?_⟩
    have hq := hstr.q
    have hk : spentUntil ps m = ls sqOf (stretches ps 0 m) := rfl
    rw [hk] at k
    generalize stretches ps 0 m = qs at *
    refine ⟨r, rfl, ⟨_, SqL.of h3⟩, for_list (K := K) (a := r) (xs := ws) (fun i σ H' => ∃ v o3 o4 o5 o6, σ = [some (.ref lp), some vm, some v, o3, o4, o5, o6] ∧ Same H3 H' ∧ RatV K H' v (ls sqOf (qs.take i)))
      ⟨.ref z, none, none, none, none, rfl, fun _ _ h => h, zero_rat (hz _)⟩ (fun i σ H' _ ⟨_, _, _, _, _, _, e, _⟩ => e.seq (SqL.of h3)) ?_ ?_⟩
    · rintro i x σ H' hi ⟨v, o3, o4, o5, o6, rfl, S', hv⟩
      obtain ⟨q, hq', a, vst, ven, vsp, rfl, ha, h1, h2, h4⟩ := pair_get p3 hi
      have hmem : q ∈ qs := List.mem_of_getElem? hq'
      obtain ⟨s1, s2, s3, s4, s5⟩ := hq q hmem
      obtain ⟨s6, s7⟩ := hq1 q hmem
      refine ⟨a, _, rfl, sqT_same S' ha, rfl, _, _, rfl, _, _, rfl, _, _, rfl, _, _, rfl, rfl, ?_⟩
      have h1' := h1.same S'
      have h2' := h2.same S'
      have h4' := h4.same S'
      refine ⟨_, rfl, _, rfl, _, rfl, vsp, vsp, _, _, rfl, h4', h4', ⟨s3, s3⟩, fun r1 H4 S4 hr1 => ?_⟩
      refine ⟨_, rfl, _, rfl, ven, vst, _, _, rfl, h2'.same S4, h1'.same S4, ⟨s2, s1⟩, fun r2 H5 S5 hr2 => ?_⟩
      refine ⟨r1, r2, _, _, rfl, hr1.same S5, hr2, ⟨s6, s4⟩, fun r3 H6 S6 hr3 => ?_⟩
      refine ⟨v, r3, _, _, rfl, ((hv.same S4).same S5).same S6, hr3, ⟨hq2 i, s7⟩, fun r4 H7 S7 hr4 => ?_⟩
      refine ⟨r4, _, _, _, _, rfl, (((S'.trans S4).trans S5).trans S6).trans S7, ?_⟩
      rw [ls_take sqOf hq']
      exact hr4
    · rintro σ H' ⟨v, o3, o4, o5, o6, rfl, S', hv⟩
      rw [pair_len p3, List.take_length] at hv
      exact ⟨_, rfl, k v H' (S3.trans S') hv⟩
/-! in_order -/
theorem scIo : FnScope ["pieces", "ordered", "piece", "at"] ["pieces"] (defScope (top 33)) := ⟨rfl, rfl, rfl, by decide +kernel, rfl, by decide +kernel, by decide +kernel⟩
def spIo (K : PySem.W.Frag) : Sp := fun vs H Q _ => ∃ lp up ps, vs = [.ref lp] ∧ SqL K H lp up ∧ Paired (PcV K H) up ps ∧ ps.length ≤ 100000 ∧ (∀ p ∈ ps, Sm p.st) ∧ ∀ r H' ws qs, Same H H' → H' r = some (.lst ws) → Paired (PcV K H') ws qs → qs.Perm ps → Q (.ref r) H'
theorem ok_io (T : TF K mg "in_order" (top 33) ["pieces"]) (gL : mg "len" = none) (L : Def P w K mg base "less" ["a", "b"] [] 1 (spLess K)) : Def P w K mg base "in_order" ["pieces"] [] 2 (spIo K) := by
  refine T.ok scIo (fun vs H Q E h => ?_) (fun f cdv A0 outer s H vs Q E hr h => ⟨_, (pss_cons (ps_set (i := 1) scIo.nd rfl (.inl rfl) (pe_lst pa_nil)) (pss_cons (ps_for PassesOwn.never rfl (pi_list (pv 0)) (pg_name (i := 2) scIo.nd rfl (.inl rfl)) (pss_cons (ps_set (i := 3) scIo.nd rfl (.inl rfl) (pe_callB call_len_seq (by rfl) gL (by decide +kernel) (pa_cons (pv 1) pa_nil))) (pss_cons (ps_while PassesOwn.never (PW.pt (pw_and (pt_cmpR op_gt (pv 3) pe_int (nomark _)) (pw_and1 (pt_val (pe_def L (hr.mono (by decide)) (pa_cons (pe_ix ix_tup (pv 2) pe_int (fun _ _ => rfl)) (pa_cons (pe_ix ix_tup (pe_ix ix_list (pv 1) (pe_op op_sub (pv 3) pe_int) (fun _ _ => rfl)) pe_int (fun _ _ => rfl)) pa_nil))))))) (pss_one (ps_aug (i := 3) scIo.nd rfl (.inl rfl) pe_int ip_sub))) (pss_one (ps_expr (pe_bm PySem.F.plainAttrs_list PySem.F.slot_list_insert PySem.F.type_list_insert mt_insert (pv 1) (pa_cons (pv 3) (pa_cons (pv 2) pa_nil)))))))) (pss_one (ps_ret (pv 1))))), ?_⟩)
  · obtain ⟨_, _, _, rfl, _⟩ := h
    rfl
  · obtain ⟨lp, up, ps, rfl, hlp, hpp, hpl, hsm, k⟩ := h
    refine ⟨Nat.zero_le _, fun po no => ?_⟩
    have S0 := same_new (o := .lst []) no
    refine ⟨_, rfl, lp, rfl, ⟨_, S0.seq hlp⟩, for_list (K := K) (a := lp) (xs := up) (fun i σ H' => ∃ o2 o3 wo qs, σ = [some (.ref lp), some (.ref po), o2, o3] ∧ Same H H' ∧ H' po = some (.lst wo) ∧ Paired (PcV K H') wo qs ∧ qs.Perm (ps.take i))
      ⟨none, none, [], [], rfl, S0, upd_same, .nil, by simp⟩ (fun i σ H' _ ⟨_, _, _, _, _, e, _⟩ => e.seq hlp) ?_ ?_⟩
    · rintro i x σ H6 hi ⟨o2, o3, wo, qs, rfl, S6, ho6, hm6, hperm⟩
      obtain ⟨pc, hpc, a, st, en, sp, rfl, ha, h1, h2, h3⟩ := pair_get hpp hi
      obtain ⟨hpc1, hpc2⟩ := List.getElem?_eq_some_iff.mp hpc
      have hol := pair_len hm6
      have hql := hperm.length_eq
      rw [List.length_take] at hql
      have ha6 := sqT_same S6 ha
      refine ⟨_, rfl, po, wo, rfl, .inl (SqL.of ho6), ?_⟩
      refine while_ex (fun σ H' => ∃ n : Nat, σ = [some (.ref lp), some (.ref po), some (.ref a), some (.int (n : Int))] ∧ H' = H6 ∧ n ≤ qs.length) (intAt 3)
        (fun σ H' => ∃ n : Nat, σ = [some (.ref lp), some (.ref po), some (.ref a), some (.int (n : Int))] ∧ H' = H6 ∧ n ≤ qs.length)
        ⟨wo.length, rfl, rfl, by omega⟩ ?_ ?_ (fun σ H Q Q' hQ ⟨v, e, i, j, e1, e2, k, e3, q⟩ => ⟨v, e, i, j, e1, e2, k, e3, ?_⟩)
      · rintro σ H7 ⟨n, rfl, rfl, hn⟩
        refine ⟨_, rfl, _, _, rfl, rfl, _, rfl, ?_⟩
        by_cases hn0 : n = 0
        · subst hn0
          refine ite2 (fun c => absurd (of_decide_eq_true c) (by decide)) (fun c => ?_)
          exact iteF ⟨0, rfl, rfl, hn⟩
        · refine ite2 (fun c => ?_) (fun c => absurd (decide_eq_true (by omega)) c)
          obtain ⟨y, hy⟩ : ∃ y, qs[n - 1]? = some y := ⟨_, List.getElem?_eq_getElem (by omega)⟩
          obtain ⟨v, hv, b, st2, en2, sp2, rfl, hb, g1, g2, g3⟩ := pair_get' hm6 hy
          have hyp : y ∈ ps := List.mem_of_mem_take (hperm.mem_iff.mp (List.mem_of_getElem? hy))
          refine ⟨_, rfl, a, _, _, _, rfl, rfl, ha6, rfl, _, rfl, _, rfl, _, _, rfl, rfl, po, wo, _, .ref b, rfl, rfl, SqL.of ho6, at_of (j := n - 1) (by omega) hv, b, _, _, _, rfl, rfl, hb, rfl, st, st2, _, _, rfl, h1.same S6, g1, ⟨hsm pc (List.mem_of_getElem? hpc), hsm y hyp⟩, _, rfl, ?_⟩
          refine ite2 (fun c => ?_) (fun c => ?_)
          · refine ⟨_, rfl, _, _, rfl, rfl, ⟨n - 1, ?_, rfl, by omega⟩, ?_⟩
            · have : ((n - 1 : Nat) : Int) = (n : Int) - 1 := by omega
              rw [this]
              rfl
            · rw [intAt_eq (z := (n : Int) - 1) rfl, intAt_eq (z := (n : Int)) rfl]
              omega
          · exact ⟨n, rfl, rfl, hn⟩
      · rintro σ H7 ⟨n, rfl, rfl, hn⟩
        have T7 : Tup K H7 (upd H7 po (.lst (wo.take n ++ [.ref a] ++ wo.drop n))) := Tup.lst ho6
        refine ⟨_, rfl, .inl ⟨rfl, _, SqL.of ho6⟩, _, rfl, _, rfl, po, wo, n, .ref a, rfl, rfl, ho6, small (by omega), by omega, by omega, _, _, wo.take n ++ [.ref a] ++ wo.drop n, qs.take n ++ [pc] ++ qs.drop n, rfl, same_upd S6 no, upd_same, ?_, ?_⟩
        · exact pcs_tup T7 (pair_app (pair_snoc (pair_take n hm6) ⟨a, st, en, sp, rfl, ha6, h1.same S6, h2.same S6, h3.same S6⟩) (pair_drop n hm6))
        · rw [List.take_succ_eq_append_getElem hpc1, hpc2, List.append_assoc]
          refine (List.perm_middle (l₁ := qs.take n) (l₂ := qs.drop n)).trans ?_
          rw [List.take_append_drop]
          exact (hperm.cons pc).trans (List.perm_append_comm (l₁ := [pc]))
      · cases k with
        | false => exact hQ _ _ q
        | true =>
          obtain ⟨a1, b1, p1, xs1, z1, v1, d1, d2, d3, d4, a2, b2, a3, b3, i1, j1, c1, c2, p2, xs2, z2, v2, g1, g2, g3, g4, p3, xs3, z3, v3, k1, k2, k3, k4, v4, u4, x4, y4, f1, f2, f3, f4, c, f5, q⟩ := q
          exact ⟨a1, b1, p1, xs1, z1, v1, d1, d2, d3, d4, a2, b2, a3, b3, i1, j1, c1, c2, p2, xs2, z2, v2, g1, g2, g3, g4, p3, xs3, z3, v3, k1, k2, k3, k4, v4, u4, x4, y4, f1, f2, f3, f4, c, f5, hQ _ _ q⟩
    · rintro σ H6 ⟨o2, o3, wo, qs, rfl, S6, ho6, hm6, hperm⟩
      rw [pair_len hpp, List.take_length] at hperm
      exact ⟨_, rfl, k po H6 wo qs S6 ho6 hm6 hperm⟩
end
end SW

set_option Elab.async false
set_option linter.all false
set_option maxRecDepth 100000
set_option maxHeartbeats 4000000
set_option exponentiation.threshold 300
namespace SW
open PySem PySem.Spec PyProof.Rows L2
/-- what left_at needs to be small -/
structure LtOk (A : List (Jb Str)) (ps : List (Pc Str)) (m : Rat) (wk : Str → Rat) : Prop where
  len : ps.length ≤ 100000
  str : StrSm ps 0 m
  left : ∀ j ∈ A, ∀ i, Sm (((stretches ps 0 m).take i).foldl ltStep wk j.nm)
theorem LtOk.all {A : List (Jb Str)} {ps : List (Pc Str)} {m : Rat} {wk : Str → Rat} (h : LtOk A ps m wk) : ∀ j ∈ A, Sm (leftAt wk ps m j.nm) := fun j hj => by
  have := h.left j hj (stretches ps 0 m).length
  rw [List.take_length] at this
  exact this
def stT (l x : Str → Rat) (m : Rat) (rd : Rnd Str) (j : Jb Str) : Rat := if rd.a < j.du * (m.den : Int) - m.num ∧ j.du * (m.den : Int) - m.num ≤ rd.b then 2 * (m.den : Rat) * rd.sp * (l j.nm - 2 * x j.nm) else 0
theorem storeV_st (A : List (Jb Str)) (l x : Str → Rat) (m : Rat) (rds : List (Rnd Str)) : storeV A l x m rds = ls (fun rd => ls (stT l x m rd) A) rds := rfl
structure StoreSm (A : List (Jb Str)) (l x : Str → Rat) (m : Rat) (rds : List (Rnd Str)) : Prop where
  x2 : ∀ j ∈ A, Sm (2 * x j.nm)
  more : ∀ j ∈ A, Sm (l j.nm - 2 * x j.nm)
  sp : ∀ rd ∈ rds, Sm rd.sp ∧ Sm (2 * (m.den : Rat) * rd.sp)
  term : ∀ rd ∈ rds, ∀ j ∈ A, Sm (2 * (m.den : Rat) * rd.sp * (l j.nm - 2 * x j.nm))
  sums : ∀ i rd k, rds[i]? = some rd → Sm (ls (fun rd => ls (stT l x m rd) A) (rds.take i) + ls (stT l x m rd) (A.take k))
theorem int_rat (K : PySem.W.Frag) (H : Hp) (z : Int) {t : Addr} (h : SqT K H t [.int z, .int 1]) : RatV K H (.ref t) (z : Rat) := ⟨t, rfl, h⟩
theorem two_part (m : Rat) : ((2 * (m.den : Int) : Int) : Rat) = 2 * (m.den : Rat) := by
  rw [Rat.intCast_mul, Rat.intCast_natCast]
  rfl
theorem sm_two : Sm 2 := ⟨by decide +kernel, by decide +kernel⟩
theorem sm_part {m : Rat} (h : Sm m) : Sm (2 * (m.den : Rat)) := by
  rw [← two_part]
  refine ⟨?_, ?_⟩
  · show 1 < _
    exact Nat.one_lt_two_pow (by decide)
  · show (2 * (m.den : Int)).natAbs < _
    have := h.1
    rw [Int.natAbs_mul, Int.natAbs_natCast]
    have h2 : (2 : Nat) ^ 4600 = 2 ^ 4400 * 2 ^ 200 := by rw [← Nat.pow_add]
    rw [h2]
    have h3 : (2 : Nat) ^ 4400 * 2 ≤ 2 ^ 4400 * 2 ^ 200 := Nat.mul_le_mul_left _ (by decide)
    have h4 : (2 : Int).natAbs = 2 := rfl
    rw [h4]
    omega
section
variable {P : Program} {w : World} {K : PySem.W.Frag} {mg : Str → Option Value} {base : Heap}
theorem scSt : FnScope ["jobs", "done", "rival", "moment", "left", "other", "part", "found", "speed", "names", "given", "a", "b", "name", "comes", "due", "work", "more"] ["jobs", "done", "rival", "moment"] (defScope (top 27)) := ⟨rfl, rfl, rfl, by decide +kernel, rfl, by decide +kernel, by decide +kernel⟩
def spSt (K : PySem.W.Frag) : Sp := fun vs H Q _ => ∃ lj uj A l1 u1 ps1 l2 u2 ps2 vm m wk S, vs = [.ref lj, .ref l1, .ref l2, vm] ∧ SqL K H lj uj ∧ Paired (JiV K H) uj A ∧ A.length ≤ 8 ∧ SqT K H l1 u1 ∧ Paired (PcV K H) u1 ps1 ∧ SqT K H l2 u2 ∧ Paired (PcV K H) u2 ps2 ∧ RatV K H vm m ∧ Sm m ∧
  (∀ j ∈ A, wk j.nm = j.wk) ∧ LtOk A ps1 m wk ∧ LtOk A ps2 m wk ∧ (∀ j ∈ A, j.du.natAbs < 2 ^ 600) ∧ JobsB (scaledJ A (leftAt wk ps1 m) m) S ∧ (∀ rds, RoundsOf (scaledJ A (leftAt wk ps1 m) m) rds → StoreSm A (leftAt wk ps1 m) (leftAt wk ps2 m) m rds) ∧
  ∀ v H' rds, Same H H' → RoundsOf (scaledJ A (leftAt wk ps1 m) m) rds → RatV K H' v (storeV A (leftAt wk ps1 m) (leftAt wk ps2 m) m rds) → Q v H'
theorem ok_st (T : TF K mg "store" (top 27) ["jobs", "done", "rival", "moment"]) (Z : ZeroG K mg) (LA : Def P w K mg base "left_at" ["jobs", "plan", "moment"] [] 5 (spLA K)) (SC : Def P w K mg base "scaled" ["jobs", "left", "moment"] [] 1 (spSca K)) (RW : Def P w K mg base "rounds_with" ["jobs"] [] 4 (spRW K))
    (Pl : Def P w K mg base "plus" ["a", "b"] [] 2 (spR2 K (· + ·) C2)) (Ti : Def P w K mg base "times" ["a", "b"] [] 2 (spR2 K (· * ·) C2)) (Mi : Def P w K mg base "minus" ["a", "b"] [] 2 (spR2 K (· - ·) C2)) :
    Def P w K mg base "store" ["jobs", "done", "rival", "moment"] [] 6 (spSt K) := by
  obtain ⟨z, gz, hz⟩ := Z
  refine T.ok scSt (fun vs H Q E h => ?_) (fun f cdv A0 outer s H vs Q E hr h => ⟨_, (pss_cons (ps_set (i := 4) scSt.nd rfl (.inl rfl) (pe_def LA (hr.mono (by decide)) (pa_cons (pv 0) (pa_cons (pv 1) (pa_cons (pv 3) pa_nil))))) (pss_cons (ps_set (i := 5) scSt.nd rfl (.inl rfl) (pe_def LA (hr.mono (by decide)) (pa_cons (pv 0) (pa_cons (pv 2) (pa_cons (pv 3) pa_nil))))) (pss_cons (ps_set (i := 6) scSt.nd rfl (.inl rfl) (pe_ix ix_tup (pv 3) pe_int (fun _ _ => rfl))) (pss_cons (ps_set (i := 7) scSt.nd rfl (.inl rfl) (pe_glob (by rfl) gz (v := .ref z) rfl)) (pss_cons (ps_for PassesOwn.never rfl (pi_list (pe_def RW (hr.mono (by decide)) (pa_cons (pe_def SC (hr.mono (by decide)) (pa_cons (pv 0) (pa_cons (pv 4) (pa_cons (pv 3) pa_nil)))) pa_nil))) (pg_tup rfl (pgs_cons (pg_name (i := 8) scSt.nd rfl (.inl rfl)) (pgs_cons (pg_name (i := 9) scSt.nd rfl (.inl rfl)) (pgs_cons (pg_name (i := 10) scSt.nd rfl (.inl rfl)) (pgs_cons (pg_name (i := 11) scSt.nd rfl (.inl rfl)) (pgs_cons (pg_name (i := 12) scSt.nd rfl (.inl rfl)) pgs_nil)))))) (pss_one (ps_for PassesOwn.never rfl (pi_list (pv 0)) (pg_tup rfl (pgs_cons (pg_name (i := 13) scSt.nd rfl (.inl rfl)) (pgs_cons (pg_name (i := 14) scSt.nd rfl (.inl rfl)) (pgs_cons (pg_name (i := 15) scSt.nd rfl (.inl rfl)) (pgs_cons (pg_name (i := 16) scSt.nd rfl (.inl rfl)) pgs_nil))))) (pss_one (ps_if (pt_chain op_lt op_le (pv 11) (pe_op op_sub (pe_op op_mulW (pv 15) (pv 6)) (pe_ix ix_tup (pv 3) pe_int (fun _ _ => rfl))) (pv 12)) (pss_cons (ps_set (i := 17) scSt.nd rfl (.inl rfl) (pe_def Mi (hr.mono (by decide)) (pa_cons (pe_dget (Room.u1 hr) (pv 4) (pv 13) (fun _ _ => rfl)) (pa_cons (pe_def Ti (hr.mono (by decide)) (pa_cons (pe_tup (pa_cons pe_int (pa_cons pe_int pa_nil))) (pa_cons (pe_dget (Room.u1 hr) (pv 5) (pv 13) (fun _ _ => rfl)) pa_nil))) pa_nil)))) (pss_one (ps_set (i := 7) scSt.nd rfl (.inl rfl) (pe_def Pl (hr.mono (by decide)) (pa_cons (pv 7) (pa_cons (pe_def Ti (hr.mono (by decide)) (pa_cons (pe_def Ti (hr.mono (by decide)) (pa_cons (pe_tup (pa_cons (pe_op op_mulW pe_int (pv 6)) (pa_cons pe_int pa_nil))) (pa_cons (pv 8) pa_nil))) (pa_cons (pv 17) pa_nil))) pa_nil)))))) pss_nil))))) (pss_one (ps_ret (pv 7)))))))), ?_⟩)
  · obtain ⟨_, _, _, _, _, _, _, _, _, _, _, _, _, rfl, _⟩ := h
    rfl
  · obtain ⟨lj, uj, A, l1, u1, ps1, l2, u2, ps2, vm, m, wk, S, rfl, hj, hjp, hA, h1, hp1, h2, hp2, hm, sm, hwk, o1, o2, hdu, B, hst, k⟩ := h
    obtain ⟨pm, rfl, hpm⟩ := hm
    refine ⟨_, rfl, _, rfl, _, rfl, lj, uj, A, l1, u1, ps1, _, m, wk, rfl, hj, hjp, by omega, h1, hp1, o1.len, ⟨pm, rfl, hpm⟩, sm, o1.str, hwk, o1.left, fun d1 H1 S1 n1 L1 => ?_⟩
    refine ⟨_, rfl, _, rfl, _, rfl, lj, uj, A, l2, u2, ps2, _, m, wk, rfl, S1.seq hj, jis_tup (Tup.same S1) hjp, by omega, sqT_same S1 h2, pcs_tup (Tup.same S1) hp2, o2.len, ⟨pm, rfl, sqT_same S1 hpm⟩, sm, o2.str, hwk, o2.left, fun d2 H2 S2 n2 L2 => ?_⟩
    have S12 := S1.trans S2
    refine ⟨_, rfl, pm, _, _, _, rfl, rfl, sqT_same S12 hpm, rfl, ?_⟩
    refine ⟨_, rfl, _, rfl, _, rfl, lj, uj, A, d1, leftAt wk ps1 m, _, m, rfl, S12.seq hj, jis_tup (Tup.same S12) hjp, by omega, L1.same S2, ⟨pm, rfl, sqT_same S12 hpm⟩, sm, hdu, fun rs H3 us S3 hrs hus => ?_⟩
    have sl1 := o1.all
    have sl2 := o2.all
    have L1' := (L1.same S2).same S3
    have L2' := L2.same S3
    generalize leftAt wk ps1 m = la at *
    generalize leftAt wk ps2 m = lb at *
    refine ⟨rs, us, _, S, rfl, SqL.of hrs, hus, B, fun r H4 ws rds S4 n4 h4 p4 hrl hR => ?_⟩
    have SS := hst rds hR
    have S04 := (S12.trans S3).trans S4
    have L1' := L1'.same S4
    have L2' := L2'.same S4
    have hj4 := S04.seq hj
    have hjp4 := jis_tup (Tup.same S04) hjp
    have hpm4 := sqT_same S04 hpm
    clear hst B L1 L2 hj hjp hpm hrs hus S3 S12 S1 S2
    refine ⟨r, rfl, ⟨_, SqL.of h4⟩, for_list (K := K) (a := r) (xs := ws) (fun i σ H' => ∃ v o8 o9 o10 o11 o12 o13 o14 o15 o16 o17, σ = [some (.ref lj), some (.ref l1), some (.ref l2), some (.ref pm), some (.ref d1), some (.ref d2), some (.int (m.den : Int)), some v, o8, o9, o10, o11, o12, o13, o14, o15, o16, o17] ∧ Same H4 H' ∧ RatV K H' v (ls (fun rd => ls (stT la lb m rd) A) (rds.take i)))
      ⟨.ref z, none, none, none, none, none, none, none, none, none, none, rfl, fun _ _ h => h, zero_rat (hz _)⟩ (fun i σ H' _ ⟨_, _, _, _, _, _, _, _, _, _, _, _, e, _⟩ => e.seq (SqL.of h4)) ?_ ?_⟩
    · rintro i x σ H5 hi ⟨v, o8, o9, o10, o11, o12, o13, o14, o15, o16, o17, rfl, S5, hv⟩
      obtain ⟨rd, hrd, a, vsp, nt, gt, gs, rfl, ha, hsp, hnt, hgt, hgs⟩ := pair_get p4 hi
      have hrmem : rd ∈ rds := List.mem_of_getElem? hrd
      refine ⟨a, _, rfl, sqT_same S5 ha, rfl, _, _, rfl, _, _, rfl, _, _, rfl, _, _, rfl, _, _, rfl, rfl, ?_⟩
      refine ⟨_, rfl, lj, rfl, ⟨_, S5.seq hj4⟩, for_list (K := K) (a := lj) (xs := uj) (fun n σ H' => ∃ v o13 o14 o15 o16 o17, σ = [some (.ref lj), some (.ref l1), some (.ref l2), some (.ref pm), some (.ref d1), some (.ref d2), some (.int (m.den : Int)), some v, some vsp, some (.ref nt), some (.ref gt), some (.int rd.a), some (.int rd.b), o13, o14, o15, o16, o17] ∧ Same H4 H' ∧ RatV K H' v (ls (fun rd => ls (stT la lb m rd) A) (rds.take i) + ls (stT la lb m rd) (A.take n)))
        ⟨v, o13, o14, o15, o16, o17, rfl, S5, (by rw [List.take_zero]; simpa only [ls, Rat.add_zero] using hv)⟩ (fun i σ H' _ ⟨_, _, _, _, _, _, _, e, _⟩ => e.seq hj4) ?_ ?_⟩
      · rintro n y σ H6 hn ⟨v, o13, o14, o15, o16, o17, rfl, S6, hv⟩
        obtain ⟨j, hj', b, zi, rfl, hb, hzi⟩ := pair_get hjp4 hn
        have hmem : j ∈ A := List.mem_of_getElem? hj'
        refine ⟨b, _, rfl, sqT_same S6 hb, rfl, _, _, rfl, _, _, rfl, _, _, rfl, _, _, rfl, rfl, ?_⟩
        refine ⟨_, rfl, _, rfl, _, rfl, _, _, rfl, rfl, cm (Nat.lt_trans (hdu j hmem) (Nat.pow_lt_pow_right (by decide) (by decide))) sm.d, ?_⟩
        refine ⟨_, rfl, pm, _, _, _, rfl, rfl, sqT_same S6 hpm4, rfl, _, _, rfl, rfl, _, _, rfl, rfl, _, rfl, ?_⟩
        have hstep : ∀ (t : Rat) (H7 : Hp) (u : V) (o : Option V), Same H4 H7 → stT la lb m rd j = t → RatV K H7 u (ls (fun rd => ls (stT la lb m rd) A) (rds.take i) + ls (stT la lb m rd) (A.take n) + t) →
            ∃ v o13 o14 o15 o16 o17, [some (V.ref lj), some (.ref l1), some (.ref l2), some (.ref pm), some (.ref d1), some (.ref d2), some (.int (m.den : Int)), some u, some vsp, some (.ref nt), some (.ref gt), some (.int rd.a), some (.int rd.b), some (.str j.nm), some (.int j.cm), some (.int j.du), some (.int zi), o] = [some (.ref lj), some (.ref l1), some (.ref l2), some (.ref pm), some (.ref d1), some (.ref d2), some (.int (m.den : Int)), some v, some vsp, some (.ref nt), some (.ref gt), some (.int rd.a), some (.int rd.b), o13, o14, o15, o16, o17] ∧ Same H4 H7 ∧ RatV K H7 v (ls (fun rd => ls (stT la lb m rd) A) (rds.take i) + ls (stT la lb m rd) (A.take (n + 1))) := fun t H7 u o S7 ht hu => by
          refine ⟨u, _, _, _, _, o, rfl, S7, ?_⟩
          rw [ls_take _ hj', ht, ← Rat.add_assoc]
          exact hu
        by_cases c1 : rd.a < j.du * (m.den : Int) - m.num
        · rw [decide_eq_true c1]
          refine iteT ⟨_, rfl, _, _, rfl, rfl, _, rfl, ?_⟩
          by_cases c2 : j.du * (m.den : Int) - m.num ≤ rd.b
          · rw [decide_eq_true c2]
            refine iteT ?_
            have hT : stT la lb m rd j = 2 * (m.den : Rat) * rd.sp * (la j.nm - 2 * lb j.nm) := if_pos ⟨c1, c2⟩
            obtain ⟨k1, e1, _, in1, _⟩ := L1'.ex
            obtain ⟨k2, e2, _, in2, _⟩ := L2'.ex
            obtain ⟨w1, q1, r1⟩ := in1 j hmem
            obtain ⟨w2, q2, r2⟩ := in2 j hmem
            refine ⟨_, rfl, _, rfl, d1, w1, rfl, (by rw [← q1]; exact DGet.k (k := .inr j.nm) (S6 _ _ e1)), ?_⟩
            refine ⟨(by show 2 ≤ sizeLine; decide), fun t nt => ?_⟩
            have S7 := same_new (o := .tup [V.int 2, V.int 1]) nt
            have ht : SqT K (upd H6 t (.tup [V.int 2, V.int 1])) t [.int 2, .int 1] := SqT.of upd_same
            generalize upd H6 t (.tup [V.int 2, V.int 1]) = H7 at *
            have S67 := S6.trans S7
            refine ⟨_, rfl, _, rfl, d2, w2, rfl, (by rw [← q2]; exact DGet.k (k := .inr j.nm) (S67 _ _ e2)), ?_⟩
            refine ⟨.ref t, w2, ((2 : Int) : Rat), _, rfl, ⟨t, rfl, ht⟩, r2.same S67, ⟨sm_two, sl2 j hmem⟩, fun y1 H8 S8 hy1 => ?_⟩
            refine ⟨w1, y1, _, _, rfl, (r1.same S67).same S8, hy1, ⟨sl1 j hmem, SS.x2 j hmem⟩, fun y2 H9 S9 hy2 => ?_⟩
            have S69 := (S67.trans S8).trans S9
            refine ⟨_, rfl, _, rfl, _, _, rfl, rfl, cm (by decide) sm.d, (by show 2 ≤ sizeLine; decide), fun t2 nt2 => ?_⟩
            have S10 := same_new (o := .tup [V.int (2 * (m.den : Int)), V.int 1]) nt2
            have ht2 : SqT K (upd H9 t2 (.tup [V.int (2 * (m.den : Int)), V.int 1])) t2 [.int (2 * (m.den : Int)), .int 1] := SqT.of upd_same
            generalize upd H9 t2 (.tup [V.int (2 * (m.den : Int)), V.int 1]) = H10 at *
            have hpt : RatV K H10 (.ref t2) (2 * (m.den : Rat)) := by
              rw [← two_part]
              exact ⟨t2, rfl, ht2⟩
            refine ⟨_, rfl, .ref t2, vsp, _, _, rfl, hpt, (hsp.same S69).same S10, ⟨sm_part sm, (SS.sp rd hrmem).1⟩, fun y3 H11 S11 hy3 => ?_⟩
            refine ⟨_, rfl, y3, y2, _, _, rfl, hy3, (hy2.same S10).same S11, ⟨(SS.sp rd hrmem).2, SS.more j hmem⟩, fun y4 H12 S12 hy4 => ?_⟩
            refine ⟨v, y4, _, _, rfl, ((((((hv.same S7).same S8).same S9).same S10).same S11).same S12), hy4, ⟨SS.sums i rd n hrd, SS.term rd hrmem j hmem⟩, fun y5 H13 S13 hy5 => ?_⟩
            exact hstep _ H13 y5 _ ((((S69.trans S10).trans S11).trans S12).trans S13) hT hy5
          · rw [decide_eq_false c2]
            refine iteF ?_
            exact hstep 0 H6 v _ S6 (if_neg fun q => c2 q.2) (by rw [Rat.add_zero]; exact hv)
        · rw [decide_eq_false c1]
          refine iteF ⟨_, rfl, iteF ?_⟩
          exact hstep 0 H6 v _ S6 (if_neg fun q => c1 q.1) (by rw [Rat.add_zero]; exact hv)
      · rintro σ H6 ⟨v, o13, o14, o15, o16, o17, rfl, S6, hv⟩
        rw [pair_len hjp4, List.take_length] at hv
        refine ⟨v, _, _, _, _, _, _, _, _, _, _, rfl, S6, ?_⟩
        rw [ls_take _ hrd]
        exact hv
    · rintro σ H5 ⟨v, o8, o9, o10, o11, o12, o13, o14, o15, o16, o17, rfl, S5, hv⟩
      rw [pair_len p4, List.take_length] at hv
      exact ⟨_, rfl, k v H5 rds (S04.trans S5) hR hv⟩
end
end SW

set_option Elab.async false
set_option linter.all false
set_option maxRecDepth 100000
set_option maxHeartbeats 4000000
set_option exponentiation.threshold 300
namespace SW
open PySem PySem.Spec PyProof.Rows L2
/-- what spent_until needs to be small -/
structure SuOk (ps : List (Pc Str)) (m : Rat) : Prop where
  q : ∀ q ∈ stretches ps 0 m, Sm (q.sp * q.sp) ∧ Sm (sqOf q)
  sums : ∀ i, Sm (ls sqOf ((stretches ps 0 m).take i))
def isMom (J : List (Jb Str)) (ps1 ps2 : List (Pc Str)) (m : Rat) : Prop := m = 0 ∨ (∃ j ∈ J, m = (j.cm : Rat)) ∨ ∃ ps ∈ [ps1, ps2], ∃ p ∈ ps, m = p.st ∨ m = p.en
structure AccOk (J : List (Jb Str)) (ps1 ps2 : List (Pc Str)) (wk : Str → Rat) (m : Rat) : Prop where
  sm : Sm m
  l1 : LtOk (At J m) ps1 m wk
  l2 : LtOk (At J m) ps2 m wk
  s1 : SuOk ps1 m
  s2 : SuOk ps2 m
  jb : ∃ S, JobsB (scaledJ (At J m) (leftAt wk ps1 m) m) S
  st : ∀ rds, RoundsOf (scaledJ (At J m) (leftAt wk ps1 m) m) rds → StoreSm (At J m) (leftAt wk ps1 m) (leftAt wk ps2 m) m rds
/-- a row: the time, the two costs, the store -/
def AccRow (J : List (Jb Str)) (ps1 ps2 : List (Pc Str)) (wk : Str → Rat) (m : Rat) (st : Rat) : Prop := ∃ rds, RoundsOf (scaledJ (At J m) (leftAt wk ps1 m) m) rds ∧ st = storeV (At J m) (leftAt wk ps1 m) (leftAt wk ps2 m) m rds
def RowV (ps1 ps2 : List (Pc Str)) (K : PySem.W.Frag) (H : Hp) (v : V) (x : Rat × Rat) : Prop := ∃ a vm v1 v2 v3, v = .ref a ∧ SqT K H a [vm, v1, v2, v3] ∧ RatV K H vm x.1 ∧ RatV K H v1 (spentUntil ps1 x.1) ∧ RatV K H v2 (spentUntil ps2 x.1) ∧ RatV K H v3 x.2
theorem RowV.tup {ps1 ps2 : List (Pc Str)} {K : PySem.W.Frag} {H H' : Hp} {v : V} {x : Rat × Rat} (e : Tup K H H') (h : RowV ps1 ps2 K H v x) : RowV ps1 ps2 K H' v x := by
  obtain ⟨a, vm, v1, v2, v3, rfl, h0, h1, h2, h3, h4⟩ := h
  exact ⟨a, vm, v1, v2, v3, rfl, e _ _ h0, h1.tup e, h2.tup e, h3.tup e, h4.tup e⟩
theorem rows_tup {ps1 ps2 : List (Pc Str)} {K : PySem.W.Frag} {H H' : Hp} {vs : List V} {xs : List (Rat × Rat)} (e : Tup K H H') (h : Paired (RowV ps1 ps2 K H) vs xs) : Paired (RowV ps1 ps2 K H') vs xs := pair_mono (fun _ _ q => q.tup e) h
theorem at_take (J : List (Jb Str)) (m : Rat) {i : Nat} {j : Jb Str} (h : J[i]? = some j) : At (J.take (i + 1)) m = At (J.take i) m ++ (if m < (j.cm : Rat) then [] else [j]) := by
  obtain ⟨h1, h2⟩ := List.getElem?_eq_some_iff.mp h
  unfold At
  rw [List.take_succ_eq_append_getElem h1, h2, List.filter_append]
  congr 1
  by_cases e : m < (j.cm : Rat)
  · rw [if_pos e]
    have : ¬ (j.cm : Rat) ≤ m := by grind
    simp only [List.filter_cons, decide_eq_false this, List.filter_nil]
    rfl
  · rw [if_neg e]
    have : (j.cm : Rat) ≤ m := by grind
    simp only [List.filter_cons, decide_eq_true this, List.filter_nil]
    rfl
theorem at_len (J : List (Jb Str)) (m : Rat) : (At J m).length ≤ J.length := List.length_filter_le _ _
section
variable {P : Program} {w : World} {K : PySem.W.Frag} {mg : Str → Option Value} {base : Heap}
theorem scAc : FnScope ["taken", "done", "rival", "rows", "moment", "jobs", "kept", "job"] ["taken", "done", "rival"] (defScope (top 29)) := ⟨rfl, rfl, rfl, by decide +kernel, rfl, by decide +kernel, by decide +kernel⟩
def spAc (K : PySem.W.Frag) : Sp := fun vs H Q _ => ∃ lt ut J l1 u1 ps1 l2 u2 ps2 wk, vs = [.ref lt, .ref l1, .ref l2] ∧ SqT K H lt ut ∧ Paired (JiV K H) ut J ∧ J.length ≤ 8 ∧ SqT K H l1 u1 ∧ Paired (PcV K H) u1 ps1 ∧ SqT K H l2 u2 ∧ Paired (PcV K H) u2 ps2 ∧ ps1.length ≤ 20000 ∧ ps2.length ≤ 20000 ∧
  (∀ j ∈ J, wk j.nm = j.wk) ∧ (∀ j ∈ J, j.du.natAbs < 2 ^ 600 ∧ Sm (j.cm : Rat)) ∧ (∀ p ∈ ps1, Sm p.st ∧ Sm p.en) ∧ (∀ p ∈ ps2, Sm p.st ∧ Sm p.en) ∧ (∀ m, isMom J ps1 ps2 m → AccOk J ps1 ps2 wk m) ∧
  ∀ r H' ws rows, Same H H' → SqT K H' r ws → Paired (RowV ps1 ps2 K H') ws rows → (rows.map (·.1)).Pairwise (· < ·) → (∀ m, m ∈ rows.map (·.1) ↔ isMom J ps1 ps2 m) → (∀ x ∈ rows, AccRow J ps1 ps2 wk x.1 x.2) → Q (.ref r) H'
theorem ok_ac (T : TF K mg "account" (top 29) ["taken", "done", "rival"]) (gT : mg "tuple" = none) (R : Def P w K mg base "ratio" ["top", "bottom"] [.int 1] 1 (spRatio K)) (L : Def P w K mg base "less" ["a", "b"] [] 1 (spLess K)) (MO : Def P w K mg base "moments" ["taken", "plans"] [] 2 (spMo K))
    (ST : Def P w K mg base "store" ["jobs", "done", "rival", "moment"] [] 6 (spSt K)) (SU : Def P w K mg base "spent_until" ["plan", "moment"] [] 4 (spSu K)) : Def P w K mg base "account" ["taken", "done", "rival"] [] 7 (spAc K) := by
  refine T.ok scAc (fun vs H Q E h => ?_) (fun f cdv A0 outer s H vs Q E hr h => ⟨_, (pss_cons (ps_set (i := 3) scAc.nd rfl (.inl rfl) (pe_lst pa_nil)) (pss_cons (ps_for PassesOwn.never rfl (pi_list (pe_def MO (hr.mono (by decide)) (pa_cons (pv 0) (pa_cons (pe_tup (pa_cons (pv 1) (pa_cons (pv 2) pa_nil))) pa_nil)))) (pg_name (i := 4) scAc.nd rfl (.inr rfl)) (pss_cons (ps_setLc (i := 5) (own := [("job", 7)]) (tt := tNot (tB (tCall (spLess K) [] E0 (tCons (tVar 4) (tCons (tCall (spRatio K) [.int 1] E0 (tCons (tOp (rIxT K) (tVar 7) (tC (.int 1))) tNil)) tNil))))) rfl scAc.nd rfl rfl (sw_true rfl rfl rfl (by decide +kernel)) (pi_tup (pv 0)) (blkOk_by (own := [("job", 7)]) (N := ["taken", "done", "rival", "rows", "moment", "jobs", "kept", "job"]) (sc := defScope (top 29)) (by decide +kernel)) (fun _ _ _ _ _ => by exact (pg_name (i := 7) scAc.nd rfl (.inl rfl))) (fun _ _ _ _ _ => by exact (pts_one (pt_not (pt_val (pe_def L (hr.mono (by decide)) (pa_cons (pv 4 (hv := Or.inr (Or.inl rfl))) (pa_cons (pe_def R (hr.mono (by decide)) (pa_cons (pe_ix ix_tup (pv 7) pe_int (fun _ _ => rfl)) pa_nil)) pa_nil))))))) (fun _ _ _ _ _ => by exact (pv 7))) (pss_cons (ps_set (i := 6) scAc.nd rfl (.inl rfl) (pe_def ST (hr.mono (by decide)) (pa_cons (pv 5) (pa_cons (pv 1) (pa_cons (pv 2) (pa_cons (pv 4 (hv := Or.inr (Or.inl rfl))) pa_nil)))))) (pss_one (ps_expr (pe_bm PySem.F.plainAttrs_list PySem.F.slot_list_append PySem.F.type_list_append mt_append (pv 3) (pa_cons (pe_tup (pa_cons (pv 4 (hv := Or.inr (Or.inl rfl))) (pa_cons (pe_def SU (hr.mono (by decide)) (pa_cons (pv 1) (pa_cons (pv 4 (hv := Or.inr (Or.inl rfl))) pa_nil))) (pa_cons (pe_def SU (hr.mono (by decide)) (pa_cons (pv 2) (pa_cons (pv 4 (hv := Or.inr (Or.inl rfl))) pa_nil))) (pa_cons (pv 6) pa_nil))))) pa_nil))))))) (pss_one (ps_ret (pe_callTy call_tuple_of (by rfl) gT (by decide +kernel) (pa_cons (pv 3) pa_nil)))))), ?_⟩)
  · obtain ⟨_, _, _, _, _, _, _, _, _, _, rfl, _⟩ := h
    rfl
  · obtain ⟨lt, ut, J, l1, u1, ps1, l2, u2, ps2, wk, rfl, ht, htp, hJ, h1, hp1, h2, hp2, hl1, hl2, hwk, hdu, sp1, sp2, hok, k⟩ := h
    refine ⟨Nat.zero_le _, fun pr nr => ⟨_, rfl, _, rfl, _, rfl, (by show 2 ≤ sizeLine; decide), fun tp ntp => ?_⟩⟩
    have S0 := same_new (o := .lst []) nr
    have S1 := same_new (o := .tup [V.ref l1, V.ref l2]) ntp
    have hr0 : upd H pr (.lst []) pr = some (.lst []) := upd_same
    have hr1 := S1 _ _ hr0
    have htp1 : SqT K (upd (upd H pr (.lst [])) tp (.tup [V.ref l1, V.ref l2])) tp [.ref l1, .ref l2] := SqT.of upd_same
    have S01 := S0.trans S1
    clear hr0 S0 S1 ntp
    generalize upd (upd H pr (.lst [])) tp (.tup [V.ref l1, V.ref l2]) = H1 at *
    refine ⟨lt, ut, J, tp, [.ref l1, .ref l2], [ps1, ps2], rfl, sqT_same S01 ht, jis_tup (Tup.same S01) htp, by omega, htp1, .cons ⟨l1, u1, rfl, sqT_same S01 h1, pcs_tup (Tup.same S01) hp1⟩ (.cons ⟨l2, u2, rfl, sqT_same S01 h2, pcs_tup (Tup.same S01) hp2⟩ .nil), ?_, fun j hj => (hdu j hj).2, ?_, fun rm H2 wm ms S2 nm hm hmp hsort hml hmm => ?_⟩
    · have e1 : ∀ ps : List (Pc Str), (ps.flatMap ends).length = 2 * ps.length := fun ps => by
        induction ps with
        | nil => rfl
        | cons a r ih => rw [List.flatMap_cons, List.length_append, ih, List.length_cons]; show 2 + _ = _; omega
      simp only [List.flatMap_cons, List.flatMap_nil, List.length_append, e1, List.length_nil]
      omega
    · intro ps hps p hp
      simp only [List.mem_cons, List.not_mem_nil, or_false] at hps
      rcases hps with rfl | rfl
      · exact sp1 p hp
      · exact sp2 p hp
    have S02 := S01.trans S2
    have hr2 := S2 _ _ hr1
    refine ⟨rm, rfl, ⟨_, SqL.of hm⟩, for_list (K := K) (a := rm) (xs := wm) (fun i σ H' => ∃ o4 o5 o6 wr rows, σ = [some (.ref lt), some (.ref l1), some (.ref l2), some (.ref pr), o4, o5, o6, none] ∧ Same H H' ∧ H' rm = some (.lst wm) ∧ Paired (RatV K H') wm ms ∧ H' pr = some (.lst wr) ∧ Paired (RowV ps1 ps2 K H') wr rows ∧ rows.map (·.1) = ms.take i ∧ ∀ x ∈ rows, AccRow J ps1 ps2 wk x.1 x.2)
      ⟨none, none, none, [], [], rfl, S02, hm, hmp, hr2, .nil, by simp, fun x hx => absurd hx (by simp)⟩ (fun i σ H' _ ⟨_, _, _, _, _, _, _, e, _⟩ => SqL.of e) ?_ ?_⟩
    · rintro i x σ H3 hi ⟨o4, o5, o6, wr, rows, rfl, S3, hm3, hmp3, hr3, hrp, hrm, hrow⟩
      obtain ⟨m, hmi, hmv⟩ := pair_get hmp3 hi
      obtain ⟨hmi1, hmi2⟩ := List.getElem?_eq_some_iff.mp hmi
      have hmem := (hmm m).mp (List.mem_of_getElem? hmi)
      have O := hok m hmem
      refine ⟨_, rfl, lt, rfl, ⟨_, sqT_same S3 ht⟩, fun D nD => ?_⟩
      have htp3 := jis_tup (Tup.same S3) htp
      refine lc_tup (K := K) (a := lt) (xs := ut) (fun n H4 => ∃ ws, H4 D = some (.lst ws) ∧ Same H3 H4 ∧ Paired (JiV K H4) ws (At (J.take n) m)) ⟨[], upd_same, same_new nD, .nil⟩ (fun n H4 _ ⟨_, _, e, _⟩ => sqT_same e (sqT_same S3 ht)) ?_ ?_
      · rintro n y H4 hn ⟨ws, hD, e, hws⟩
        obtain ⟨j, hj, a, zi, rfl, ha, hzi⟩ := pair_get htp3 hn
        obtain ⟨hj1, hj2⟩ := List.getElem?_eq_some_iff.mp hj
        have hjm := List.mem_of_getElem? hj
        refine ⟨wp (wp0 _ _), ?_⟩
        refine ⟨_, rfl, _, rfl, a, _, _, _, rfl, rfl, sqT_same e ha, rfl, j.cm, 1, rfl, by decide, by decide, fun r H5 S5 hr5 => ?_⟩
        rw [rat_one] at hr5
        refine ⟨x, r, m, _, rfl, (hmv.same e).same S5, hr5, ⟨O.sm, (hdu j hjm).2⟩, ?_⟩
        have e5 := e.trans S5
        have hD5 := S5 _ _ hD
        refine ⟨_, rfl, ?_⟩
        by_cases c : m < (j.cm : Rat)
        · rw [decide_eq_true c]
          refine iteF ⟨ws, hD5, e5, ?_⟩
          rw [at_take J m hj, if_pos c, List.append_nil]
          exact jis_tup (Tup.same S5) hws
        · rw [decide_eq_false c]
          have hwl := pair_len hws
          have hal := at_len (J.take n) m
          rw [List.length_take] at hal
          obtain ⟨a1, a2, a3⟩ := app_val (K := K) (v := .ref a) e5 nD hD5
          refine iteT ⟨_, rfl, ws, hD5, small (by omega), _, a3, a1, ?_⟩
          rw [at_take J m hj, if_neg c]
          exact pair_snoc (jis_tup ((Tup.same S5).trans a2) hws) ⟨a, zi, rfl, a2 _ _ (sqT_same e5 ha), hzi⟩
      · rintro H4 ⟨ws, hD, S4, hws⟩
        rw [pair_len htp3, List.take_length] at hws
        have S34 := S3.trans S4
        obtain ⟨S, hB⟩ := O.jb
        have hal := at_len J m
        have hsub : ∀ j ∈ At J m, j ∈ J := fun j hj => (List.mem_filter.mp hj).1
        refine ⟨_, rfl, _, rfl, _, rfl, _, rfl, D, ws, At J m, l1, u1, ps1, l2, u2, ps2, x, m, wk, S, rfl, SqL.of hD, hws, by omega, sqT_same S34 h1, pcs_tup (Tup.same S34) hp1, sqT_same S34 h2, pcs_tup (Tup.same S34) hp2, hmv.same S4, O.sm, fun j hj => hwk j (hsub j hj), O.l1, O.l2, fun j hj => (hdu j (hsub j hj)).1, hB, O.st, fun vk H5 rds S5 hR hvk => ?_⟩
        have S35 := S34.trans S5
        refine ⟨_, rfl, .inl ⟨rfl, _, SqL.of (S5 _ _ (S4 _ _ hr3))⟩, _, rfl, _, rfl, _, rfl, l1, u1, ps1, x, m, rfl, sqT_same S35 h1, pcs_tup (Tup.same S35) hp1, by omega, (hmv.same S4).same S5, O.sm, O.l1.str, O.s1.q, O.s1.sums, fun v1 H6 S6 hv1 => ?_⟩
        have S36 := S35.trans S6
        refine ⟨_, rfl, _, rfl, l2, u2, ps2, x, m, rfl, sqT_same S36 h2, pcs_tup (Tup.same S36) hp2, by omega, ((hmv.same S4).same S5).same S6, O.sm, O.l2.str, O.s2.q, O.s2.sums, fun v2 H7 S7 hv2 => ?_⟩
        have S47 := ((S4.trans S5).trans S6).trans S7
        refine ⟨_, rfl, (by show 4 ≤ sizeLine; decide), fun t nt => ?_⟩
        obtain ⟨a1, a2, a3, a4, a5⟩ := app_tup (K := K) (xs := [x, v1, v2, vk]) (S3.trans S47) nr (S47 _ _ hr3) nt
        have T3 := (Tup.same (K := K) S47).trans a3
        have T7 := (Tup.same (K := K) S7).trans a3
        have T67 := (Tup.same (K := K) S6).trans T7
        have hrl := pair_len hrp
        have hrl2 : rows.length = (ms.take i).length := by rw [← hrm, List.length_map]
        rw [List.length_take] at hrl2
        have nrm : rm ≠ pr := fun e => by
          rw [e, hr1] at nm
          cases nm
        refine ⟨pr, wr, .ref t, rfl, rfl, a1, small (by omega), _, _, _, _, rows ++ [(m, _)], rfl, a2, ?_, rats_tup T3 hmp3, a4, pair_snoc (rows_tup T3 hrp) ⟨t, x, v1, v2, vk, rfl, a5, hmv.tup T3, hv1.tup T7, hv2.tup a3, hvk.tup T67⟩, ?_, ?_⟩
        · rw [upd_ne nrm, upd_ne (ne_of_none (S47 _ _ hm3) nt)]
          exact S47 _ _ hm3
        · rw [List.map_append, hrm, List.take_succ_eq_append_getElem hmi1, hmi2]
          rfl
        · intro y hy
          rcases List.mem_append.mp hy with hy | hy
          · exact hrow y hy
          · rw [List.mem_singleton.mp hy]
            exact ⟨rds, hR, rfl⟩
    · rintro σ H3 ⟨o4, o5, o6, wr, rows, rfl, S3, hm3, hmp3, hr3, hrp, hrm, hrow⟩
      rw [pair_len hmp, List.take_length] at hrm
      refine ⟨_, rfl, pr, wr, rfl, .inl ⟨SqL.of hr3, fun t nt => ?_⟩⟩
      have S4 := same_new (o := .tup wr) nt
      refine k t _ wr rows (S3.trans S4) (SqT.of upd_same) (rows_tup (Tup.same S4) hrp) (by rw [hrm]; exact hsort) (fun m => by rw [hrm]; exact hmm m) hrow
end
end SW

set_option Elab.async false
set_option linter.all false
set_option maxRecDepth 100000
set_option maxHeartbeats 4000000
set_option exponentiation.threshold 300
namespace SW
open PySem PySem.Spec PyProof.Rows L2
def FdV (K : PySem.W.Frag) (H : Hp) (v : V) : Option (Jb Str) → Prop
  | none => v = .non
  | some j => JrV K H v j
theorem FdV.same {K : PySem.W.Frag} {H H' : Hp} {v : V} {o : Option (Jb Str)} (e : Same H H') (h : FdV K H v o) : FdV K H' v o := by
  cases o with
  | none => exact h
  | some j => exact JrV.tup (Tup.same e) h
section
variable {P : Program} {w : World} {K : PySem.W.Frag} {mg : Str → Option Value} {base : Heap}
theorem scFd : FnScope ["jobs", "left", "now", "chosen", "job"] ["jobs", "left", "now"] (defScope (top 31)) := ⟨rfl, rfl, rfl, by decide +kernel, rfl, by decide +kernel, by decide +kernel⟩
def spFd (K : PySem.W.Frag) : Sp := fun vs H Q _ => ∃ lj uj own ld l vy y, vs = [.ref lj, .ref ld, vy] ∧ SqL K H lj uj ∧ Paired (JrV K H) uj own ∧ LeftD K H ld own l ∧ RatV K H vy y ∧ Sm y ∧ (∀ j ∈ own, Sm (j.du : Rat) ∧ Sm (j.cm : Rat)) ∧
  ∀ v H', Same H H' → FdV K H' v (firstDue own l y) → Q v H'
theorem ok_fd (T : TF K mg "first_due" (top 31) ["jobs", "left", "now"]) (Z : ZeroG K mg) (R : Def P w K mg base "ratio" ["top", "bottom"] [.int 1] 1 (spRatio K)) (L : Def P w K mg base "less" ["a", "b"] [] 1 (spLess K)) : Def P w K mg base "first_due" ["jobs", "left", "now"] [] 2 (spFd K) := by
  obtain ⟨z, gz, hz⟩ := Z
  refine T.ok scFd (fun vs H Q E h => ?_) (fun f cdv A0 outer s H vs Q E hr h => ⟨_, (pss_cons (ps_set (i := 3) scFd.nd rfl (.inl rfl) pe_non) (pss_cons (ps_for PassesOwn.never rfl (pi_list (pv 0)) (pg_name (i := 4) scFd.nd rfl (.inl rfl)) (pss_one (ps_if (PW.pt (pw_and (pt_val (pe_def L (hr.mono (by decide)) (pa_cons (pv 2) (pa_cons (pe_def R (hr.mono (by decide)) (pa_cons (pe_ix ix_tup (pv 4) pe_int (fun _ _ => rfl)) pa_nil)) pa_nil)))) (pw_and (pt_not (pt_val (pe_def L (hr.mono (by decide)) (pa_cons (pv 2) (pa_cons (pe_def R (hr.mono (by decide)) (pa_cons (pe_ix ix_tup (pv 4) pe_int (fun _ _ => rfl)) pa_nil)) pa_nil))))) (pw_and1 (pt_cmpR (op_neD hr.units) (pe_dget (Room.u1 hr) (pv 1) (pe_ix ix_tup (pv 4) pe_int (fun _ _ => rfl)) (fun _ _ => rfl)) (pe_glob (by rfl) gz (v := .ref z) rfl) (nomark _)))))) (pss_one (ps_if (PW.pt (pw_or (pt_cmpR op_isN (pv 3) pe_non (nomark _)) (pw_or1 (pt_cmpR op_lt (pe_ix ix_tup (pv 4) pe_int (fun _ _ => rfl)) (pe_ix ix_tup (pv 3) pe_int (fun _ _ => rfl)) (nomark _))))) (pss_one (ps_set (i := 3) scFd.nd rfl (.inl rfl) (pv 4))) pss_nil)) pss_nil))) (pss_one (ps_ret (pv 3))))), ?_⟩)
  · obtain ⟨_, _, _, _, _, _, _, rfl, _⟩ := h
    rfl
  · obtain ⟨lj, uj, own, ld, l, vy, y, rfl, hj, hjp, hL, hy, sy, hsm, k⟩ := h
    refine ⟨_, rfl, lj, rfl, ⟨_, hj⟩, for_list (K := K) (a := lj) (xs := uj) (fun i σ H' => ∃ v o4, σ = [some (.ref lj), some (.ref ld), some vy, some v, o4] ∧ Same H H' ∧ FdV K H' v ((own.take i).foldl (fdStep l y) none))
      ⟨.non, none, rfl, fun _ _ h => h, rfl⟩ (fun i σ H' _ ⟨_, _, _, e, _⟩ => e.seq hj) ?_ ?_⟩
    · rintro i x σ H' hi ⟨v, o4, rfl, S', hv⟩
      obtain ⟨j, hj', a, q, rfl, ha, hq⟩ := pair_get hjp hi
      have hmem : j ∈ own := List.mem_of_getElem? hj'
      obtain ⟨s1, s2⟩ := hsm j hmem
      have hfold := fold_take (fdStep l y) none hj'
      have keep : ∀ H2, Same H H2 → FdV K H2 v ((own.take i).foldl (fdStep l y) none) → fdStep l y ((own.take i).foldl (fdStep l y) none) j = (own.take i).foldl (fdStep l y) none → ∃ v2 o4, [some (V.ref lj), some (.ref ld), some vy, some v, some (.ref a)] = [some (.ref lj), some (.ref ld), some vy, some v2, o4] ∧ Same H H2 ∧ FdV K H2 v2 ((own.take (i + 1)).foldl (fdStep l y) none) := fun H2 S2 h2 e =>
        ⟨v, _, rfl, S2, by rw [hfold, e]; exact h2⟩
      refine ⟨_, rfl, _, rfl, a, _, _, _, rfl, rfl, sqT_same S' ha, rfl, j.du, 1, rfl, by decide, by decide, fun r1 H1 S1 hr1 => ?_⟩
      rw [rat_one] at hr1
      refine ⟨vy, r1, y, _, rfl, (hy.same S').same S1, hr1, ⟨sy, s1⟩, _, rfl, ?_⟩
      have S01 := S'.trans S1
      have hv1 := hv.same S1
      by_cases c1 : y < (j.du : Rat)
      · rw [decide_eq_true c1]
        refine iteT ?_
        refine ⟨_, rfl, _, rfl, a, _, _, _, rfl, rfl, sqT_same S01 ha, rfl, j.cm, 1, rfl, by decide, by decide, fun r2 H2 S2 hr2 => ?_⟩
        rw [rat_one] at hr2
        refine ⟨vy, r2, y, _, rfl, (hy.same S01).same S2, hr2, ⟨sy, s2⟩, _, rfl, ?_⟩
        have S02 := S01.trans S2
        have hv2 := hv1.same S2
        by_cases c2 : y < (j.cm : Rat)
        · rw [decide_eq_true c2]
          refine iteF ?_
          refine iteF (keep _ S02 hv2 ?_)
          unfold fdStep
          rw [if_neg fun q => q.2.1 c2]
        · rw [decide_eq_false c2]
          refine iteT ?_
          obtain ⟨kvs, e1, _, in1, _⟩ := hL.ex
          obtain ⟨u, q1, hu⟩ := in1 j hmem
          refine ⟨_, rfl, _, rfl, a, _, _, _, rfl, rfl, sqT_same S02 ha, rfl, ld, u, rfl, (by rw [← q1]; exact DGet.k (k := .inr j.nm) (S02 _ _ e1)), ?_⟩
          refine ⟨ratD (l j.nm), ratD 0, (hu.same S02).dp, (zero_rat (hz _)).dp, rat_shaped _, rat_shaped _, _, rfl, ?_⟩
          rw [rat_eqv]
          by_cases c3 : l j.nm = 0
          · rw [decide_eq_true c3]
            refine iteF (keep _ S02 hv2 ?_)
            unfold fdStep
            rw [if_neg fun q => q.2.2 c3]
          · rw [decide_eq_false c3]
            have hav : avail l y j := ⟨c1, c2, c3⟩
            refine iteT ?_
            have take : fdStep l y ((own.take i).foldl (fdStep l y) none) j = some j → ∃ v2 o4, [some (V.ref lj), some (.ref ld), some vy, some (.ref a), some (.ref a)] = [some (.ref lj), some (.ref ld), some vy, some v2, o4] ∧ Same H H2 ∧ FdV K H2 v2 ((own.take (i + 1)).foldl (fdStep l y) none) := fun e =>
              ⟨_, _, rfl, S02, by rw [hfold, e]; exact ⟨a, q, rfl, sqT_same S02 ha, hq.same S02⟩⟩
            cases hc : (own.take i).foldl (fdStep l y) none with
            | none =>
              rw [hc] at hv2 keep take
              have hvn : v = .non := hv2
              subst hvn
              refine ⟨_, rfl, rfl, _, rfl, ite2 (fun _ => iteT ⟨_, rfl, take ?_⟩) (fun c => absurd (decide_eq_true rfl) c)⟩
              unfold fdStep
              rw [if_pos hav]
            | some j0 =>
              rw [hc] at hv2 keep take
              obtain ⟨b, q0, rfl, hb, hq0⟩ := hv2
              refine ⟨_, rfl, rfl, _, rfl, ite2 (fun c => absurd (of_decide_eq_true c) (by simp)) (fun _ => ?_)⟩
              refine ⟨_, rfl, a, _, _, _, rfl, rfl, sqT_same S02 ha, rfl, _, rfl, b, _, _, _, rfl, rfl, hb, rfl, _, _, rfl, rfl, _, rfl, ?_⟩
              by_cases c4 : j.du < j0.du
              · rw [decide_eq_true c4]
                refine iteT ⟨_, rfl, take ?_⟩
                unfold fdStep
                rw [if_pos hav]
                simp only [if_pos c4]
              · rw [decide_eq_false c4]
                refine iteF (keep _ S02 ⟨b, q0, rfl, hb, hq0⟩ ?_)
                unfold fdStep
                rw [if_pos hav]
                simp only [if_neg c4]
      · rw [decide_eq_false c1]
        refine iteF ?_
        refine iteF (keep _ S01 hv1 ?_)
        unfold fdStep
        rw [if_neg fun q => c1 q.1]
    · rintro σ H' ⟨v, o4, rfl, S', hv⟩
      rw [pair_len hjp, List.take_length] at hv
      exact ⟨_, rfl, k v H' S' hv⟩
end
end SW

set_option Elab.async false
set_option linter.all false
set_option maxRecDepth 100000
set_option maxHeartbeats 4000000
set_option exponentiation.threshold 300
namespace SW
open PySem PySem.Spec PyProof.Rows L2
/-- D parts make it an integer -/
def Dv (D : Nat) (q : Rat) : Prop := ∃ z : Int, q * (D : Rat) = (z : Rat)
theorem Dv.add {D : Nat} {x y : Rat} (h1 : Dv D x) (h2 : Dv D y) : Dv D (x + y) := by
  obtain ⟨a, ha⟩ := h1
  obtain ⟨b, hb⟩ := h2
  exact ⟨a + b, by rw [Rat.add_mul, ha, hb, Rat.intCast_add]⟩
theorem Dv.sub {D : Nat} {x y : Rat} (h1 : Dv D x) (h2 : Dv D y) : Dv D (x - y) := by
  obtain ⟨a, ha⟩ := h1
  obtain ⟨b, hb⟩ := h2
  exact ⟨a - b, by rw [Rat.intCast_sub, ← ha, ← hb]; grind⟩
theorem Dv.int (D : Nat) (z : Int) : Dv D (z : Rat) := ⟨z * (D : Int), by rw [Rat.intCast_mul, Rat.intCast_natCast]⟩
theorem Dv.zero (D : Nat) : Dv D 0 := ⟨0, by simp⟩
theorem Dv.mulz {D : Nat} {x : Rat} (h : Dv D x) (z : Int) : Dv D (x * (z : Rat)) := by
  obtain ⟨a, ha⟩ := h
  exact ⟨a * z, by rw [Rat.intCast_mul, ← ha]; grind⟩
theorem Dv.up {D D' : Nat} {x : Rat} (h : Dv D x) (hd : D ∣ D') : Dv D' x := by
  obtain ⟨a, ha⟩ := h
  obtain ⟨c, rfl⟩ := hd
  exact ⟨a * (c : Int), by rw [Rat.natCast_mul, Rat.intCast_mul, ← ha, Rat.intCast_natCast]; grind⟩
theorem Dv.mul {D E : Nat} {x y : Rat} (h1 : Dv D x) (h2 : Dv E y) : Dv (D * E) (x * y) := by
  obtain ⟨a, ha⟩ := h1
  obtain ⟨b, hb⟩ := h2
  exact ⟨a * b, by rw [Rat.natCast_mul, Rat.intCast_mul, ← ha, ← hb]; grind⟩
theorem Dv.ls {α : Type} {D : Nat} {f : α → Rat} : ∀ {A : List α}, (∀ a ∈ A, Dv D (f a)) → Dv D (SW.ls f A)
  | [], _ => Dv.zero D
  | a :: r, h => Dv.add (h a List.mem_cons_self) (Dv.ls fun b hb => h b (List.mem_cons_of_mem _ hb))
theorem natAbs_le {z : Int} {M : Nat} (h0 : -(M : Rat) ≤ (z : Rat)) (h : (z : Rat) ≤ (M : Rat)) : z.natAbs ≤ M := by
  have e : (M : Rat) = ((M : Int) : Rat) := (Rat.intCast_natCast M).symm
  rw [e] at h0 h
  have h1 := Rat.intCast_le_intCast.mp h
  rw [← Rat.intCast_neg] at h0
  have h2 := Rat.intCast_le_intCast.mp h0
  omega
theorem sm_frac {a b : Int} (hb : 0 < b) (h1 : b.natAbs < 2 ^ 4400) (h2 : a.natAbs < 2 ^ 4600) : Sm ((a : Rat) / (b : Rat)) := by
  obtain ⟨e1, e2⟩ := ratio_pos (a := a) hb
  have hg := gcd_pos (a := a) (b := b) (by omega)
  constructor
  · have h3 : ((((a : Rat) / (b : Rat)).den : Nat) : Int) ≤ b := by
      rw [e2]
      exact Int.ediv_le_self _ (by omega)
    have : ((a : Rat) / (b : Rat)).den ≤ b.natAbs := by omega
    exact Nat.lt_of_le_of_lt this h1
  · rw [e1]
    exact Nat.lt_of_le_of_lt (Int.natAbs_ediv_le_natAbs _ _) h2
theorem pow_split {a b c : Nat} (h : a + b ≤ c) {x y : Nat} (hx : x ≤ 2 ^ a) (hy : y < 2 ^ b) : x * y < 2 ^ c := by
  have h1 : x * y ≤ 2 ^ a * y := Nat.mul_le_mul_right _ hx
  have h2 : 2 ^ a * y < 2 ^ a * 2 ^ b := Nat.mul_lt_mul_of_pos_left hy (Nat.two_pow_pos a)
  rw [← Nat.pow_add] at h2
  exact Nat.lt_of_lt_of_le (Nat.lt_of_le_of_lt h1 h2) (Nat.pow_le_pow_right (by decide) h)
/-- 2^200 as a ratio -/
def huge : Rat := ((2 ^ 200 : Nat) : Rat)
theorem sm_d {D : Nat} {q : Rat} (h0 : 0 < D) (hD : D < 2 ^ 4400) (h : Dv D q) (h1 : -huge ≤ q) (h2 : q ≤ huge) : Sm q := by
  obtain ⟨z, hz⟩ := h
  have hp : (0 : Rat) < (D : Rat) := Rat.natCast_pos.mpr h0
  have e : q = (z : Rat) / ((D : Int) : Rat) := by
    rw [Rat.intCast_natCast, ← hz]
    have := div_mul (x := q * (D : Rat)) hp
    generalize q * (D : Rat) / (D : Rat) = u at *
    have h5 : (q - u) * (D : Rat) = 0 := by grind
    rcases Rat.mul_eq_zero.mp h5 with h6 | h6 <;> grind
  have hM : ((2 ^ 200 * D : Nat) : Rat) = huge * (D : Rat) := Rat.natCast_mul _ _
  have hn : z.natAbs ≤ 2 ^ 200 * D := natAbs_le (by
    rw [hM, ← hz]
    have := Rat.mul_le_mul_of_nonneg_right h1 (Rat.le_of_lt hp)
    grind) (by
    rw [hM, ← hz]
    exact Rat.mul_le_mul_of_nonneg_right h2 (Rat.le_of_lt hp))
  rw [e]
  exact sm_frac (by omega) (by rw [Int.natAbs_natCast]; exact hD) (Nat.lt_of_le_of_lt hn (pow_split (a := 200) (b := 4400) (by decide) (Nat.le_refl _) hD))
/-- a time that fits with the speed s in D parts -/
structure Gd (D : Nat) (s q : Rat) : Prop where
  dv : Dv D (s * q)
  lo : -huge ≤ s * q
  hi : s * q ≤ huge
theorem Gd.sm {D : Nat} {s q : Rat} (g : Gd D s q) (h0 : 0 < D) (hD : D < 2 ^ 4000) (hs : 0 < s) (ds : Dv D s) (sb : s ≤ huge) : Sm q := by
  obtain ⟨z, hz⟩ := g.dv
  obtain ⟨c, hc⟩ := ds
  have hp : (0 : Rat) < (D : Rat) := Rat.natCast_pos.mpr h0
  have hM : ((2 ^ 200 * D : Nat) : Rat) = huge * (D : Rat) := Rat.natCast_mul _ _
  have hcp : (0 : Rat) < (c : Rat) := by rw [← hc]; exact Rat.mul_pos hs hp
  have hc0 : 0 < c := by
    have : ((0 : Int) : Rat) < (c : Rat) := by simpa using hcp
    exact Rat.intCast_lt_intCast.mp this
  have e : q = (z : Rat) / (c : Rat) := by
    have := div_mul (x := (z : Rat)) hcp
    generalize (z : Rat) / (c : Rat) = u at *
    have h5 : (q - u) * (c : Rat) = 0 := by grind
    rcases Rat.mul_eq_zero.mp h5 with h6 | h6 <;> grind
  have hn : z.natAbs ≤ 2 ^ 200 * D := natAbs_le (by
    rw [hM, ← hz]
    have := Rat.mul_le_mul_of_nonneg_right g.lo (Rat.le_of_lt hp)
    grind) (by
    rw [hM, ← hz]
    exact Rat.mul_le_mul_of_nonneg_right g.hi (Rat.le_of_lt hp))
  have hn2 : c.natAbs ≤ 2 ^ 200 * D := natAbs_le (by
    have : (0 : Rat) ≤ ((2 ^ 200 * D : Nat) : Rat) := Rat.natCast_nonneg
    grind) (by
    rw [hM, ← hc]
    exact Rat.mul_le_mul_of_nonneg_right sb (Rat.le_of_lt hp))
  have hb := pow_split (a := 200) (b := 4000) (c := 4200) (by decide) (Nat.le_refl _) hD
  rw [e]
  exact sm_frac hc0 (Nat.lt_trans (Nat.lt_of_le_of_lt hn2 hb) (Nat.pow_lt_pow_right (by decide) (by decide))) (Nat.lt_trans (Nat.lt_of_le_of_lt hn hb) (Nat.pow_lt_pow_right (by decide) (by decide)))
theorem Gd.min {D : Nat} {s a b : Rat} (h1 : Gd D s a) (h2 : Gd D s b) : Gd D s (rmin a b) := by
  unfold rmin
  split <;> assumption
theorem huge_ge : (4398046511104 : Rat) ≤ huge := by
  have : ((4398046511104 : Nat) : Rat) ≤ ((2 ^ 200 : Nat) : Rat) := Rat.natCast_le_natCast.mpr (by decide)
  unfold huge
  simpa using this
/-- a time and a speed of everyday size -/
theorem good_of {D : Nat} {s q : Rat} (h : Dv D (s * q)) (hs : 0 ≤ s) (hs1 : s ≤ 1048576) (hq : 0 ≤ q) (hq1 : q ≤ 1048576) : Gd D s q := by
  have h1 := Rat.mul_nonneg hs hq
  have h2 := Rat.mul_le_mul_of_nonneg_left hq1 hs
  have := huge_ge
  exact ⟨h, by grind, by grind⟩
theorem sm_int {z : Int} (h : z.natAbs < 2 ^ 4600) : Sm (z : Rat) := ⟨by show 1 < _; exact Nat.one_lt_two_pow (by decide), h⟩
end SW

set_option Elab.async false
set_option linter.all false
set_option maxRecDepth 100000
set_option maxHeartbeats 4000000
set_option exponentiation.threshold 300
namespace SW
open PySem PySem.Spec PyProof.Rows L2
/-- a while with a falling rank -/
theorem while_rk {c : TT} {tb : TS} {D : Ends} {σ : L2.St} {H : Hp} (Wr : Nat → L2.St → Hp → Prop) (Ex : L2.St → Hp → Prop) (h0 : ∃ m, Wr m σ H)
    (hs : ∀ m σ H, Wr m σ H → c σ H fun b G => if b = true then tb { D with nx := fun τ G' => ∃ m', m' < m ∧ Wr m' τ G', ct := fun τ G' => ∃ m', m' < m ∧ Wr m' τ G', bk := D.nx } σ G else Ex σ G) (hex : ∀ σ H, Ex σ H → D.nx σ H)
    (mono : ∀ σ H Q Q', (∀ b G, Q b G → Q' b G) → c σ H Q → c σ H Q') : tWhile c tb D σ H := by
  refine ⟨Wr, h0, fun m τ G p => mono τ G _ _ (fun b G' q => ?_) (hs m τ G p)⟩
  cases b with
  | true => exact ⟨_, fun _ _ z => z, q⟩
  | false => exact hex _ _ q
theorem runs_snoc {own : List (Jb Str)} {s : Rat} : ∀ {gv : List (Int × Int)} {l l1 l2 : Str → Rat} {ps qs : List (Pc Str)} {a b : Int}, Runs own s gv l ps l1 → Run own s a b l1 qs l2 → Runs own s (gv ++ [(a, b)]) l (ps ++ qs) l2
  | _, _, _, _, _, qs, _, _, .nil, h => by
    have := Runs.cons h Runs.nil
    rw [List.append_nil] at this
    exact this
  | _, _, _, _, _, _, _, _, .cons h t, h2 => by
    rw [List.append_assoc]
    exact Runs.cons h (runs_snoc t h2)
theorem turns_le (own : List (Jb Str)) (l : Str → Rat) (y : Rat) : turns own l y ≤ 2 * own.length := by
  unfold turns
  have h1 := List.countP_le_length (p := fun j : Jb Str => decide (l j.nm ≠ 0)) (l := own)
  have h2 := List.countP_le_length (p := fun j : Jb Str => decide (y < (j.cm : Rat))) (l := own)
  omega
/-- a piece of a round of the speed s, in D parts -/
def Pn (own : List (Jb Str)) (s : Rat) (D : Nat) (p : Pc Str) : Prop := p.sp = s ∧ Gd D s p.st ∧ Gd D s p.en ∧ ∃ j ∈ own, p.nm = j.nm
/-- what a round needs to be reckoned with -/
structure RpOk (own : List (Jb Str)) (s : Rat) (gv : List (Int × Int)) (D : Nat) : Prop where
  d0 : 0 < D
  d1 : D < 2 ^ 4000
  s0 : 0 < s
  s1 : s ≤ 1048576
  sd : Dv D s
  wk : ∀ j ∈ own, Dv D j.wk ∧ 0 ≤ j.wk ∧ j.wk ≤ 1048576
  tm : ∀ j ∈ own, 0 ≤ j.cm ∧ j.cm ≤ 1048576 ∧ 0 ≤ j.du ∧ j.du ≤ 1048576
  gv : ∀ z ∈ gv, 0 ≤ z.1 ∧ z.1 ≤ z.2 ∧ z.2 ≤ 1048576
section
variable {P : Program} {w : World} {K : PySem.W.Frag} {mg : Str → Option Value} {base : Heap}
theorem scRp : FnScope ["own", "speed", "given", "job", "left", "pieces", "begin", "finish", "now", "until", "other"] ["own", "speed", "given"] (defScope (top 32)) := ⟨rfl, rfl, rfl, by decide +kernel, rfl, by decide +kernel, by decide +kernel⟩
def spRP (K : PySem.W.Frag) : Sp := fun vs H Q _ => ∃ lo uo own vsp s lg ug gv free l0 D, vs = [.ref lo, vsp, .ref lg] ∧ SqL K H lo uo ∧ Paired (JrV K H) uo own ∧ own.length ≤ 8 ∧ RatV K H vsp s ∧ SqT K H lg ug ∧ Paired (IpV K H) ug gv ∧ gv.length ≤ 1000 ∧
  EdfCx own free s ∧ FreeOk gv ∧ (∀ x, inF gv x → inF free x) ∧ (∀ {x : Int × Int} {r : List (Int × Int)}, gv = x :: r → Feas own s (fun j => (Fi free j : Rat)) (fun j => (La free j : Rat)) (castP gv) x.1 l0) ∧ (∀ j ∈ own, l0 j.nm = j.wk) ∧ RpOk own s gv D ∧
  ∀ r H' ws ps l', Same H H' → H' r = some (.lst ws) → Paired (PcV K H') ws ps → Runs own s gv l0 ps l' → ps.length ≤ 17 * gv.length → (∀ p ∈ ps, Pn own s D p) → Q (.ref r) H'
theorem ok_rp (T : TF K mg "round_pieces" (top 32) ["own", "speed", "given"]) (R : Def P w K mg base "ratio" ["top", "bottom"] [.int 1] 1 (spRatio K)) (L : Def P w K mg base "less" ["a", "b"] [] 1 (spLess K)) (Mn : Def P w K mg base "least" ["a", "b"] [] 2 (spMin K rmin))
    (Pl : Def P w K mg base "plus" ["a", "b"] [] 2 (spR2 K (· + ·) C2)) (Ti : Def P w K mg base "times" ["a", "b"] [] 2 (spR2 K (· * ·) C2)) (Mi : Def P w K mg base "minus" ["a", "b"] [] 2 (spR2 K (· - ·) C2))
    (Ov : Def P w K mg base "over" ["a", "b"] [] 2 (spR2 K (· / ·) fun x y => Sm x ∧ Sm y ∧ y ≠ 0 ∧ ((x.den : Int) * y.num).natAbs < 2 ^ 9000)) (FD : Def P w K mg base "first_due" ["jobs", "left", "now"] [] 2 (spFd K)) :
    Def P w K mg base "round_pieces" ["own", "speed", "given"] [] 3 (spRP K) := by
  refine T.ok scRp (fun vs H Q E h => ?_) (fun f cdv A0 outer s_ H vs Q E hr h => ⟨_, (pss_cons (ps_setDc (n := 4) (own := [("job", 3)]) (tk := (tOp (rIxT K) (tVar 3) (tC (.int 0)))) (tv := (tOp (rIxT K) (tVar 3) (tC (.int 3)))) rfl scRp.nd rfl rfl (sw_dict rfl rfl rfl (by decide +kernel)) (pi_list (pv 0)) (blkOk_by (own := [("job", 3)]) (N := ["own", "speed", "given", "job", "left", "pieces", "begin", "finish", "now", "until", "other"]) (sc := defScope (top 32)) (by decide +kernel)) (fun _ _ _ _ _ => by exact (pg_name (i := 3) scRp.nd rfl (.inl rfl))) (fun _ _ _ _ _ => by exact pts_nil) (fun _ _ _ _ _ => by exact (pe_ix ix_tup (pv 3) pe_int (fun _ _ => rfl))) (fun _ _ _ _ _ => by exact (pe_ix ix_tup (pv 3) pe_int (fun _ _ => rfl)))) (pss_cons (ps_set (i := 5) scRp.nd rfl (.inl rfl) (pe_lst pa_nil)) (pss_cons (ps_for PassesOwn.never rfl (pi_tup (pv 2)) (pg_tup rfl (pgs_cons (pg_name (i := 6) scRp.nd rfl (.inl rfl)) (pgs_cons (pg_name (i := 7) scRp.nd rfl (.inl rfl)) pgs_nil))) (pss_cons (ps_set (i := 8) scRp.nd rfl (.inl rfl) (pe_def R (hr.mono (by decide)) (pa_cons (pv 6) pa_nil))) (pss_one (ps_while PassesOwn.never (pt_val (pe_def L (hr.mono (by decide)) (pa_cons (pv 8) (pa_cons (pe_def R (hr.mono (by decide)) (pa_cons (pv 7) pa_nil)) pa_nil)))) (pss_cons (ps_set (i := 3) scRp.nd rfl (.inl rfl) (pe_def FD (hr.mono (by decide)) (pa_cons (pv 0) (pa_cons (pv 4) (pa_cons (pv 8) pa_nil))))) (pss_cons (ps_set (i := 9) scRp.nd rfl (.inl rfl) (pe_def Mn (hr.mono (by decide)) (pa_cons (pe_def R (hr.mono (by decide)) (pa_cons (pv 7) pa_nil)) (pa_cons (pe_def Pl (hr.mono (by decide)) (pa_cons (pv 8) (pa_cons (pe_def Ov (hr.mono (by decide)) (pa_cons (pe_dget (Room.u1 hr) (pv 4) (pe_ix ix_tup (pv 3) pe_int (fun _ _ => rfl)) (fun _ _ => rfl)) (pa_cons (pv 1) pa_nil))) pa_nil))) pa_nil)))) (pss_cons (ps_for PassesOwn.never rfl (pi_list (pv 0)) (pg_name (i := 10) scRp.nd rfl (.inl rfl)) (pss_one (ps_if (pt_val (pe_def L (hr.mono (by decide)) (pa_cons (pv 8) (pa_cons (pe_def R (hr.mono (by decide)) (pa_cons (pe_ix ix_tup (pv 10) pe_int (fun _ _ => rfl)) pa_nil)) pa_nil)))) (pss_one (ps_set (i := 9) scRp.nd rfl (.inl rfl) (pe_def Mn (hr.mono (by decide)) (pa_cons (pv 9) (pa_cons (pe_def R (hr.mono (by decide)) (pa_cons (pe_ix ix_tup (pv 10) pe_int (fun _ _ => rfl)) pa_nil)) pa_nil))))) pss_nil))) (pss_cons (ps_dput (Room.u1 hr) (pv 4) (pe_ix ix_tup (pv 3) pe_int (fun _ _ => rfl)) (pe_def Mi (hr.mono (by decide)) (pa_cons (pe_dget (Room.u1 hr) (pv 4) (pe_ix ix_tup (pv 3) pe_int (fun _ _ => rfl)) (fun _ _ => rfl)) (pa_cons (pe_def Ti (hr.mono (by decide)) (pa_cons (pv 1) (pa_cons (pe_def Mi (hr.mono (by decide)) (pa_cons (pv 9) (pa_cons (pv 8) pa_nil))) pa_nil))) pa_nil))) (by rfl)) (pss_cons (ps_expr (pe_bm PySem.F.plainAttrs_list PySem.F.slot_list_append PySem.F.type_list_append mt_append (pv 5) (pa_cons (pe_tup (pa_cons (pv 8) (pa_cons (pv 9) (pa_cons (pe_ix ix_tup (pv 3) pe_int (fun _ _ => rfl)) (pa_cons (pv 1) pa_nil))))) pa_nil))) (pss_one (ps_set (i := 8) scRp.nd rfl (.inl rfl) (pv 9)))))))))))) (pss_one (ps_ret (pv 5)))))), ?_⟩)
  · obtain ⟨_, _, _, _, _, _, _, _, _, _, _, rfl, _⟩ := h
    rfl
  · obtain ⟨lo, uo, own, vsp, s, lg, ug, gv, free, l0, D, rfl, hlo, hop, hown, hsp, hlg, hgp, hgl, C, hgv, hin, hZ, hl0, O, k⟩ := h
    have hs := O.s0
    have hsn : s ≠ 0 := by grind
    have hsb : s ≤ huge := by have := huge_ge; have := O.s1; grind
    have smS : Sm s := sm_d O.d0 (Nat.lt_trans O.d1 (Nat.pow_lt_pow_right (by decide) (by decide))) O.sd (by have := huge_ge; grind) hsb
    have gsm : ∀ {q}, Gd D s q → Sm q := fun g => g.sm O.d0 O.d1 hs O.sd hsb
    have gint : ∀ {z : Int}, 0 ≤ z → z ≤ 1048576 → Gd D s (z : Rat) := fun {z} h1 h2 => good_of (O.sd.mulz z) (Rat.le_of_lt hs) O.s1 (by have := Rat.intCast_le_intCast.mpr h1; simpa using this) (by have := Rat.intCast_le_intCast.mpr h2; simpa using this)
    have D4 : D < 2 ^ 4400 := Nat.lt_trans O.d1 (Nat.pow_lt_pow_right (by decide) (by decide))
    refine ⟨_, rfl, lo, rfl, ⟨_, hlo⟩, fun d nd => ?_⟩
    refine dc_list (Kk := K) (at_ := lo) (us := uo) (fun i H2 => Same H H2 ∧ ∃ kvs : List (Key × V), H2 d = some (.dK kvs) ∧ kvs.length ≤ i ∧ (∀ j ∈ own.take i, ∃ v, valV kvs (.inr j.nm) = some v ∧ RatV K H2 v (l0 j.nm)) ∧ ∀ k : Key, (∀ j ∈ own.take i, k ≠ .inr j.nm) → valV kvs k = none)
      ⟨same_new nd, [], upd_same, Nat.le_refl _, fun j hj => absurd hj (by simp), fun _ _ => rfl⟩ (fun i H2 _ ⟨e, _⟩ => e.seq hlo) ?_ ?_
    · rintro i x H2 hi ⟨S2, kvs, hD, hlen, hin, hout⟩
      obtain ⟨j, hj', a, q, rfl, ha, hq⟩ := pair_get hop hi
      obtain ⟨hj1, hj2⟩ := List.getElem?_eq_some_iff.mp hj'
      have ha2 := sqT_same S2 ha
      refine ⟨wp (wp0 _ _), ?_⟩
      refine tyes ?_
      refine iteT ?_
      refine ⟨_, rfl, a, _, _, _, rfl, rfl, ha2, rfl, ?_⟩
      refine ⟨_, rfl, a, _, _, _, rfl, rfl, ha2, rfl, ?_⟩
      have hq2 := hq.same S2
      rw [← hl0 j (List.mem_of_getElem? hj')] at hq2
      refine ⟨kvs, .inr j.nm, rfl, hD, small (by omega), ?_⟩
      have S4 := same_upd S2 nd (o := .dK (putK kvs (.inr j.nm) q))
      have T4 : Tup K H2 (upd H2 d (.dK (putK kvs (.inr j.nm) q))) := tup_dk hD _
      refine ⟨S4, _, upd_same, Nat.le_trans (putK_le _ _ _) (by omega), ?_, ?_⟩
      · intro j2 hj2'
        rw [valV_put]
        by_cases e : (Sum.inr j2.nm : Key) = .inr j.nm
        · rw [if_pos e]
          rw [Sum.inr.inj e]
          exact ⟨_, rfl, hq2.tup T4⟩
        · rw [if_neg e]
          rw [List.take_succ_eq_append_getElem hj1, hj2] at hj2'
          rcases List.mem_append.mp hj2' with q | q
          · obtain ⟨v, q1, q2⟩ := hin j2 q
            exact ⟨v, q1, q2.tup T4⟩
          · rw [List.mem_singleton.mp q] at e
            exact absurd rfl e
      · intro k2 hk2
        rw [valV_put]
        rw [List.take_succ_eq_append_getElem hj1, hj2] at hk2
        rw [if_neg (hk2 j (by simp))]
        exact hout k2 fun j3 h3 => hk2 j3 (List.mem_append_left _ h3)
    · rintro H2 ⟨S2, kvs, hD, hlen, hin2, hout⟩
      rw [pair_len hop, List.take_length] at hin2 hout
      have hL : LeftD K H2 d own l0 := ⟨kvs, hD, by rw [pair_len hop] at hlen; omega, hin2, hout⟩
      refine ⟨Nat.zero_le _, fun pr nr => ?_⟩
      have S3 := same_new (o := .lst []) nr
      have hr3 : upd H2 pr (.lst []) pr = some (.lst []) := upd_same
      have nrd : pr ≠ d := fun e => by
        rw [e, hD] at nr
        cases nr
      have hL3 := hL.same S3
      have S03 := S2.trans S3
      have nrH : H pr = none := S2.free nr
      clear hin2 hout hlen hD hL nr S2 S3
      generalize upd H2 pr (.lst []) = H3 at *
      refine ⟨_, rfl, lg, rfl, ⟨_, sqT_same S03 hlg⟩, for_tup (K := K) (a := lg) (xs := ug) (fun i σ H' => ∃ o3 o6 o7 o8 o9 o10 wp_ ps l, σ = [some (.ref lo), some vsp, some (.ref lg), o3, some (.ref d), some (.ref pr), o6, o7, o8, o9, o10] ∧ Same H H' ∧ LeftD K H' d own l ∧ H' pr = some (.lst wp_) ∧ Paired (PcV K H') wp_ ps ∧ ps.length ≤ 17 * i ∧
          Runs own s (gv.take i) l0 ps l ∧ (∀ p ∈ ps, Pn own s D p) ∧ (∀ j ∈ own, Dv D (l j.nm) ∧ 0 ≤ l j.nm ∧ l j.nm ≤ 1048576) ∧ ∀ x r, gv.drop i = x :: r → Feas own s (fun j => (Fi free j : Rat)) (fun j => (La free j : Rat)) (castP (x :: r)) x.1 l)
        ⟨none, none, none, none, none, none, [], [], l0, rfl, S03, hL3, hr3, .nil, Nat.zero_le _, Runs.nil, fun p hp => absurd hp (by simp), fun j hj => by rw [hl0 j hj]; exact O.wk j hj, fun x r e => by
          rw [List.drop_zero] at e
          have := hZ e
          rw [e] at this
          exact this⟩ (fun i σ H' _ ⟨_, _, _, _, _, _, _, _, _, _, e, _⟩ => sqT_same e hlg) ?_ ?_⟩
      · rintro i x σ H4 hi ⟨o3, o6, o7, o8, o9, o10, wp_, ps, l, rfl, S4, hL4, hr4, hps, hpl, hruns, hpn, hl, hF⟩
        obtain ⟨⟨a, b⟩, hab, ia, rfl, hia⟩ := pair_get hgp hi
        obtain ⟨hab1, hab2⟩ := List.getElem?_eq_some_iff.mp hab
        have habm : (a, b) ∈ gv := List.mem_of_getElem? hab
        obtain ⟨ta, tab, tb⟩ := O.gv _ habm
        simp only at ta tab tb
        have hdrop : gv.drop i = (a, b) :: gv.drop (i + 1) := by rw [List.drop_eq_getElem_cons hab1, hab2]
        have Z0 := hF _ _ hdrop
        generalize hrest : gv.drop (i + 1) = rest at *
        have hpw : (∀ z ∈ rest, b ≤ z.1) ∧ rest.Pairwise (fun x y => x.2 ≤ y.1) := by
          have h1 : (gv.drop i).Pairwise fun x y => x.2 ≤ y.1 := List.Pairwise.sublist (List.drop_sublist i gv) hgv.1
          rw [hdrop] at h1
          exact List.pairwise_cons.mp h1
        have hrm : ∀ z ∈ rest, z ∈ gv := fun z hz => by rw [← hrest] at hz; exact List.mem_of_mem_drop hz
        have hrr : ∀ x ∈ castP rest, (b : Rat) ≤ x.1 ∧ x.1 ≤ x.2 := fun x hx => by
          obtain ⟨z, hz, rfl⟩ := List.mem_map.mp hx
          exact ⟨Rat.intCast_le_intCast.mpr (hpw.1 z hz), Rat.intCast_le_intCast.mpr (O.gv z (hrm z hz)).2.1⟩
        have hinb : ∀ x : Rat, (a : Rat) ≤ x → x < (b : Rat) → inF free x := fun x h1 h2 => hin x ⟨(a, b), habm, h1, h2⟩
        have gb : Gd D s (b : Rat) := gint (by omega) tb
        refine ⟨ia, _, rfl, sqT_same S4 hia, rfl, _, _, rfl, _, _, rfl, rfl, ?_⟩
        refine ⟨_, rfl, a, 1, rfl, by decide, by decide, fun va H5 S5 hva => ?_⟩
        rw [rat_one] at hva
        let Inv5 : Rat → (Str → Rat) → L2.St → Hp → Prop := fun y l σ H' => ∃ o3 vy o9 o10 wp_ ps, σ = [some (.ref lo), some vsp, some (.ref lg), o3, some (.ref d), some (.ref pr), some (.int a), some (.int b), some vy, o9, o10] ∧ Same H H' ∧ LeftD K H' d own l ∧ H' pr = some (.lst wp_) ∧ Paired (PcV K H') wp_ ps ∧ RatV K H' vy y ∧
          (a : Rat) ≤ y ∧ y ≤ (b : Rat) ∧ Gd D s y ∧ (∀ j ∈ own, Dv D (l j.nm) ∧ 0 ≤ l j.nm ∧ l j.nm ≤ 1048576) ∧ Feas own s (fun j => (Fi free j : Rat)) (fun j => (La free j : Rat)) ((y, (b : Rat)) :: castP rest) y l ∧ (y < (b : Rat) → ps.length + turns own l y ≤ 17 * i + 16) ∧ ps.length ≤ 17 * (i + 1) ∧ (∀ p ∈ ps, Pn own s D p) ∧
          ∀ more l2, Run own s y b l more l2 → Runs own s (gv.take (i + 1)) l0 (ps ++ more) l2
        refine while_rk (fun m σ H' => ∃ y l, m = turns own l y + (if y < (b : Rat) then 1 else 0) ∧ Inv5 y l σ H') (fun σ H' => ∃ y l, ¬ y < (b : Rat) ∧ Inv5 y l σ H')
          ⟨_, a, l, rfl, o3, va, o9, o10, wp_, ps, rfl, S4.trans S5, hL4.same S5, S5 _ _ hr4, pcs_tup (Tup.same S5) hps, hva, Rat.le_refl, Rat.intCast_le_intCast.mpr tab, gint ta (by omega), hl, Z0, fun _ => by have := turns_le own l (a : Rat); omega, by omega, hpn, fun more l2 hm => ?_⟩ ?_ ?_ ?_
        · have e1 : gv.take (i + 1) = gv.take i ++ [(a, b)] := by rw [List.take_succ_eq_append_getElem hab1, hab2]
          rw [e1]
          exact runs_snoc hruns hm
        · clear hva hL4 hr4 hps hpl hruns hpn hl hF Z0 S4 S5
          rintro m σ H6 ⟨y, l, rfl, o3, vy, o9, o10, wp_, ps, rfl, S6, hL6, hr6, hps, hy, hay, hyb, gy, hl, Z, hcnt, hpl, hpn, hmore⟩
          have hlo6 := S6.seq hlo
          have hop6 := jrs_tup (Tup.same S6) hop
          refine ⟨_, rfl, _, rfl, b, 1, rfl, by decide, by decide, fun r1 H7 S7 hr1 => ?_⟩
          rw [rat_one] at hr1
          refine ⟨vy, r1, y, b, rfl, hy.same S7, hr1, ⟨gsm gy, gsm gb⟩, _, rfl, ?_⟩
          by_cases hlt : y < (b : Rat)
          · rw [decide_eq_true hlt]
            refine iteT ?_
            obtain ⟨j, hfd, hjm, hav, hmin, hu⟩ := edf_turn C Z hrr hlt fun x h1 h2 => hinb x (by grind) h2
            have hcnt' := hcnt hlt
            have S67 := S6.trans S7
            refine ⟨_, rfl, _, rfl, _, rfl, lo, uo, own, d, l, vy, y, rfl, S67.seq hlo, jrs_tup (Tup.same S67) hop, hL6.same S7, hy.same S7, gsm gy, fun i hi => ⟨gsm (gint (O.tm i hi).2.2.1 (O.tm i hi).2.2.2), gsm (gint (O.tm i hi).1 (O.tm i hi).2.1)⟩, fun vj H8 S8 hvj => ?_⟩
            rw [hfd] at hvj
            obtain ⟨aj, qj, rfl, haj, hqj⟩ := hvj
            have hL8 := (hL6.same S7).same S8
            obtain ⟨kvs, hD8, hlen8, hin8, hout8⟩ := hL8.ex
            obtain ⟨vl, q1, hvl⟩ := hin8 j hjm
            obtain ⟨dl1, dl2, dl3⟩ := hl j hjm
            have hhuge := huge_ge
            have smL : Sm (l j.nm) := sm_d O.d0 D4 dl1 (by grind) (by grind)
            -- until
            refine ⟨_, rfl, b, 1, rfl, by decide, by decide, fun r2 H9 S9 hr2 => ?_⟩
            rw [rat_one] at hr2
            have S89 := S8.trans S9
            refine ⟨_, rfl, _, rfl, _, rfl, aj, _, _, _, rfl, rfl, sqT_same S9 haj, rfl, d, vl, rfl, (by rw [← q1]; exact DGet.k (k := .inr j.nm) (S9 _ _ hD8)), _, rfl, vl, vsp, l j.nm, s, rfl, hvl.same S9, ((hsp.same S67).same S8).same S9, ⟨smL, smS, hsn, ?_⟩, fun r3 H10 S10 hr3 => ?_⟩
            · rw [Int.natAbs_mul, Int.natAbs_natCast]
              have := Nat.mul_lt_mul'' smL.1 smS.2
              rw [← Nat.pow_add] at this
              exact this
            have hquot : s * (l j.nm / s) = l j.nm := by
              have := div_mul (x := l j.nm) hs
              grind
            have gq : Gd D s (l j.nm / s) := ⟨by rw [hquot]; exact dl1, by rw [hquot]; grind, by rw [hquot]; grind⟩
            have hy0 : 0 ≤ s * y := Rat.mul_nonneg (Rat.le_of_lt hs) (by
              have : ((0 : Int) : Rat) ≤ (a : Rat) := Rat.intCast_le_intCast.mpr ta
              have e0 : ((0 : Int) : Rat) = 0 := rfl
              grind)
            have hsy : s * y ≤ 1099511627776 := by
              have h1 := Rat.mul_le_mul_of_nonneg_left hyb (Rat.le_of_lt hs)
              have h2 : (b : Rat) ≤ ((1048576 : Int) : Rat) := Rat.intCast_le_intCast.mpr tb
              have h3 := Rat.mul_le_mul_of_nonneg_left h2 (Rat.le_of_lt hs)
              have h4 : s * ((1048576 : Int) : Rat) ≤ 1048576 * ((1048576 : Int) : Rat) := Rat.mul_le_mul_of_nonneg_right O.s1 (by decide +kernel)
              have h5 : (1048576 : Rat) * ((1048576 : Int) : Rat) = 1099511627776 := by decide +kernel
              grind
            have gsum : Gd D s (y + l j.nm / s) := by
              have e : s * (y + l j.nm / s) = s * y + l j.nm := by rw [Rat.mul_add, hquot]
              exact ⟨by rw [e]; exact gy.dv.add dl1, by rw [e]; grind, by rw [e]; grind⟩
            refine ⟨vy, r3, _, _, rfl, (((hy.same S7).same S8).same S9).same S10, hr3, ⟨gsm gy, gsm gq⟩, fun r4 H11 S11 hr4 => ?_⟩
            refine ⟨r2, r4, _, _, rfl, (hr2.same S10).same S11, hr4, ⟨gsm gb, gsm gsum⟩, fun r5 hr5 => ?_⟩
            have S611 := ((((S7.trans S8).trans S9).trans S10).trans S11)
            have gu0 : Gd D s (rmin (b : Rat) (y + l j.nm / s)) := gb.min gsum
            have hS11 := S6.trans S611
            have hL11 := ((hL8.same S9).same S10).same S11
            have hy11 := hy.same S611
            have haj11 := sqT_same ((S9.trans S10).trans S11) haj
            have hr11 := S611 _ _ hr6
            have hps11 := pcs_tup (Tup.same S611) hps
            clear hr2 hr3 hr4 hvl q1 hin8 hout8 hlen8 hD8 hL8 S89 S7 S8 S9 S10 S11 hr1
            have hop11 := jrs_tup (Tup.same hS11) hop
            -- the other jobs
            refine ⟨_, rfl, lo, rfl, ⟨_, hS11.seq hlo⟩, for_list (K := K) (a := lo) (xs := uo) (fun n σ H' => ∃ vu o10, σ = [some (.ref lo), some vsp, some (.ref lg), some (.ref aj), some (.ref d), some (.ref pr), some (.int a), some (.int b), some vy, some vu, o10] ∧ Same H11 H' ∧ RatV K H' vu ((own.take n).foldl (unStep y) (rmin (b : Rat) (y + l j.nm / s))) ∧ Gd D s ((own.take n).foldl (unStep y) (rmin (b : Rat) (y + l j.nm / s))))
              ⟨r5, o10, rfl, fun _ _ h => h, hr5, gu0⟩ (fun n σ H' _ ⟨_, _, _, e, _⟩ => (hS11.trans e).seq hlo) ?_ ?_⟩
            · rintro n z σ H12 hn ⟨vu, o10, rfl, S12, hvu, gu⟩
              obtain ⟨jo, hjo, ao, qo, rfl, hao, hqo⟩ := pair_get hop11 hn
              have hjom := List.mem_of_getElem? hjo
              have gcm := gint (O.tm jo hjom).1 (O.tm jo hjom).2.1
              have hfold := fold_take (unStep y) (rmin (b : Rat) (y + l j.nm / s)) hjo
              refine ⟨_, rfl, _, rfl, ao, _, _, _, rfl, rfl, sqT_same S12 hao, rfl, jo.cm, 1, rfl, by decide, by decide, fun r6 H13 S13 hr6' => ?_⟩
              rw [rat_one] at hr6'
              refine ⟨vy, r6, y, _, rfl, (hy11.same S12).same S13, hr6', ⟨gsm gy, gsm gcm⟩, _, rfl, ?_⟩
              by_cases c : y < (jo.cm : Rat)
              · rw [decide_eq_true c]
                refine iteT ?_
                refine ⟨_, rfl, _, rfl, ao, _, _, _, rfl, rfl, sqT_same (S12.trans S13) hao, rfl, jo.cm, 1, rfl, by decide, by decide, fun r7 H14 S14 hr7 => ?_⟩
                rw [rat_one] at hr7
                refine ⟨vu, r7, _, _, rfl, (hvu.same S13).same S14, hr7, ⟨gsm gu, gsm gcm⟩, fun r8 hr8 => ?_⟩
                refine ⟨r8, _, rfl, (S12.trans S13).trans S14, ?_, ?_⟩
                · rw [hfold]
                  unfold unStep
                  rw [if_pos c]
                  exact hr8
                · rw [hfold]
                  unfold unStep
                  rw [if_pos c]
                  exact gu.min gcm
              · rw [decide_eq_false c]
                refine iteF ⟨vu, _, rfl, S12.trans S13, ?_, ?_⟩
                · rw [hfold]
                  unfold unStep
                  rw [if_neg c]
                  exact hvu.same S13
                · rw [hfold]
                  unfold unStep
                  rw [if_neg c]
                  exact gu
            · rintro σ H12 ⟨vu, o10, rfl, S12, hvu, gu⟩
              rw [pair_len hop, List.take_length] at hvu gu
              have hue : own.foldl (unStep y) (rmin (b : Rat) (y + l j.nm / s)) = untilF own y (rmin (b : Rat) (y + l j.nm / s)) := rfl
              rw [hue] at hvu gu
              obtain ⟨u1, u2, u3, u4, u5, u6, u7, u8⟩ := hu _ rfl
              generalize untilF own y (rmin (b : Rat) (y + l j.nm / s)) = u at *
              have hL12 := hL11.same S12
              obtain ⟨kvs, hD12, hlen12, hin12, hout12⟩ := hL12.ex
              obtain ⟨vl, q1, hvl⟩ := hin12 j hjm
              have haj12 := sqT_same S12 haj11
              have hy12 := hy11.same S12
              have hS12 := hS11.trans S12
              have dsu : Dv D (s * (u - y)) := by
                have e : s * (u - y) = s * u - s * y := by grind
                rw [e]
                exact gu.dv.sub gy.dv
              have su0 : 0 ≤ s * (u - y) := Rat.mul_nonneg (Rat.le_of_lt hs) (by grind)
              have smuy : Sm (u - y) := gsm ⟨dsu, by grind, by grind⟩
              have smsu : Sm (s * (u - y)) := sm_d O.d0 D4 dsu (by grind) (by grind)
              refine ⟨_, rfl, _, rfl, aj, _, _, _, rfl, rfl, haj12, rfl, d, vl, rfl, (by rw [← q1]; exact DGet.k (k := .inr j.nm) hD12), ?_⟩
              refine ⟨_, rfl, _, rfl, _, rfl, vu, vy, u, y, rfl, hvu, hy12, ⟨gsm gu, gsm gy⟩, fun r6 H13 S13 hr6' => ?_⟩
              refine ⟨vsp, r6, s, u - y, rfl, (hsp.same hS12).same S13, hr6', ⟨smS, smuy⟩, fun r7 H14 S14 hr7 => ?_⟩
              refine ⟨vl, r7, l j.nm, s * (u - y), rfl, (hvl.same S13).same S14, hr7, ⟨smL, smsu⟩, fun r8 H15 S15 hr8 => ?_⟩
              have S1215 := (S13.trans S14).trans S15
              have hD15 := S1215 _ _ hD12
              have haj15 := sqT_same S1215 haj12
              refine ⟨_, rfl, _, rfl, aj, _, _, _, rfl, rfl, haj15, rfl, d, _, rfl, DPut.k (k := .inr j.nm) hD15 (small (by omega)), ?_⟩
              have T16 : Tup K H15 (upd H15 d (.dK (putK kvs (.inr j.nm) r8))) := tup_dk hD15 _
              have hL16 : LeftD K (upd H15 d (.dK (putK kvs (.inr j.nm) r8))) d own (less1 l j.nm (s * (u - y))) := (hL12.same S1215).put hD15 ⟨j, hjm, rfl⟩ hr8 fun j2 _ => by
                unfold less1
                by_cases e : j2.nm = j.nm
                · rw [if_pos e, if_pos e, e]
                · rw [if_neg e, if_neg e]
              have hS16 : Same H (upd H15 d (.dK (putK kvs (.inr j.nm) r8))) := same_upd (hS12.trans S1215) nd
              have hr16 : (upd H15 d (.dK (putK kvs (.inr j.nm) r8))) pr = some (.lst wp_) := by
                rw [upd_ne nrd]
                exact S1215 _ _ (S12 _ _ hr11)
              have hy16 := (hy12.same S1215).tup T16
              have hu16 := (hvu.same S1215).tup T16
              have hs16 := ((hsp.same hS12).same S1215).tup T16
              have hps16 := pcs_tup T16 (pcs_tup (Tup.same (S12.trans S1215)) hps11)
              have haj16 := T16 _ _ haj15
              generalize upd H15 d (.dK (putK kvs (.inr j.nm) r8)) = H16 at *
              refine ⟨_, rfl, .inl ⟨rfl, _, SqL.of hr16⟩, _, rfl, _, rfl, _, rfl, aj, _, _, _, rfl, rfl, haj16, rfl, _, rfl, (by show 4 ≤ sizeLine; decide), fun t nt => ?_⟩
              obtain ⟨a1, a2, a3, a4, a5⟩ := app_tup (K := K) (xs := [vy, vu, .str j.nm, vsp]) hS16 nrH hr16 nt
              have hpl2 := pair_len hps16
              refine ⟨pr, wp_, .ref t, rfl, rfl, a1, small (by omega), ?_⟩
              have hL17 := hL16.keep a3 (by rw [upd_ne nrd.symm, upd_ne (ne_of_none hL16.ex.choose_spec.1 nt)])
              refine ⟨_, rfl, _, ?_, u, less1 l j.nm (s * (u - y)), rfl, some (.ref aj), vu, _, _, _, ps ++ [⟨y, u, j.nm, s⟩], rfl, a2, hL17, a4, pair_snoc (pcs_tup a3 hps16) ⟨t, vy, vu, vsp, rfl, a5, hy16.tup a3, hu16.tup a3, hs16.tup a3⟩, hu16.tup a3, by grind, u2, gu, fun i hi => ?_, u6, fun hub => ?_, ?_, fun p hp => ?_, fun more l2 hm => ?_⟩
              · rw [if_pos hlt]
                by_cases hub : u < (b : Rat)
                · rw [if_pos hub]
                  have := u7 hub
                  omega
                · rw [if_neg hub]
                  omega
              · obtain ⟨i1, i2, i3⟩ := hl i hi
                unfold less1
                by_cases e : i.nm = j.nm
                · rw [if_pos e, e]
                  exact ⟨dl1.sub dsu, by grind, by grind⟩
                · rw [if_neg e]
                  exact ⟨i1, i2, i3⟩
              · have := u7 hub
                rw [List.length_append, List.length_singleton]
                omega
              · rw [List.length_append, List.length_singleton]
                omega
              · rcases List.mem_append.mp hp with hp | hp
                · exact hpn p hp
                · rw [List.mem_singleton.mp hp]
                  exact ⟨rfl, gy, gu, j, hjm, rfl⟩
              · rw [List.append_assoc]
                exact hmore _ _ (Run.go hlt hjm hav hmin u1 u2 u3 u4 u5 hm)
          · rw [decide_eq_false hlt]
            exact iteF ⟨y, l, hlt, o3, vy, o9, o10, wp_, ps, rfl, S6.trans S7, hL6.same S7, S7 _ _ hr6, pcs_tup (Tup.same S7) hps, hy.same S7, hay, hyb, gy, hl, Z, hcnt, hpl, hpn, hmore⟩
        · rintro σ H6 ⟨y, l, hlt, o3, vy, o9, o10, wp_, ps, rfl, S6, hL6, hr6, hps, hy, hay, hyb, gy, hl, Z, hcnt, hpl, hpn, hmore⟩
          have hye : y = (b : Rat) := by grind
          subst hye
          have hR := hmore [] l (Run.stop hlt)
          rw [List.append_nil] at hR
          refine ⟨o3, _, _, _, o9, o10, wp_, ps, l, rfl, S6, hL6, hr6, hps, hpl, hR, hpn, hl, fun z r e => ?_⟩
          subst e
          refine Feas.next (a := (z.1 : Rat)) (b := (z.2 : Rat)) (rest := castP r) Z (Rat.intCast_le_intCast.mpr (hpw.1 z List.mem_cons_self)) fun w' hw => ?_
          obtain ⟨v, hv, rfl⟩ := List.mem_map.mp hw
          have a1 := (List.pairwise_cons.mp hpw.2).1 v hv
          have a2 := (O.gv z (hrm z List.mem_cons_self)).2.1
          exact Rat.intCast_le_intCast.mpr (by omega)
        · rintro σ H Q Q' hQ ⟨v8, e8, v7, e7, a', b', e, b0, bw, f⟩
          refine ⟨v8, e8, v7, e7, a', b', e, b0, bw, fun v H' S r => ?_⟩
          obtain ⟨v1, u1, x1, y1, f1, f2, f3, f4, c, f5, q⟩ := f v H' S r
          exact ⟨v1, u1, x1, y1, f1, f2, f3, f4, c, f5, hQ _ _ q⟩
      · rintro σ H4 ⟨o3, o6, o7, o8, o9, o10, wp_, ps, l, rfl, S4, hL4, hr4, hps, hpl, hruns, hpn, hl, hF⟩
        rw [pair_len hgp, List.take_length] at hruns
        rw [pair_len hgp] at hpl
        exact ⟨_, rfl, k pr H4 wp_ ps l S4 hr4 hps hruns hpl hpn⟩
end
end SW

set_option Elab.async false
set_option linter.all false
set_option maxRecDepth 100000
set_option maxHeartbeats 4000000
set_option exponentiation.threshold 300
namespace SW
open PySem PySem.Spec PyProof.Rows L2
theorem den_dvd {D : Nat} {q : Rat} (h : Dv D q) : q.den ∣ D := by
  obtain ⟨z, hz⟩ := h
  have h1 := num_eq q
  have h2 : ((q.num * (D : Int) : Int) : Rat) = ((z * (q.den : Int) : Int) : Rat) := by
    rw [Rat.intCast_mul, Rat.intCast_mul, Rat.intCast_natCast, Rat.intCast_natCast, ← hz, ← h1]
    grind
  have h3 := Rat.intCast_inj.mp h2
  have h4 : q.num.natAbs * D = z.natAbs * q.den := by
    have := congrArg Int.natAbs h3
    rw [Int.natAbs_mul, Int.natAbs_mul, Int.natAbs_natCast, Int.natAbs_natCast] at this
    exact this
  exact (Nat.Coprime.dvd_of_dvd_mul_left q.reduced.symm ⟨z.natAbs, by rw [h4, Nat.mul_comm]⟩)
theorem ls_le_len {α : Type} {f : α → Rat} {c : Rat} : ∀ {A : List α}, (∀ a ∈ A, f a ≤ c) → ls f A ≤ (A.length : Rat) * c
  | [], _ => by simp [ls]
  | a :: r, h => by
    have h1 := h a List.mem_cons_self
    have h2 := ls_le_len (A := r) fun b hb => h b (List.mem_cons_of_mem _ hb)
    have e : (((a :: r).length : Nat) : Rat) = (r.length : Rat) + 1 := by
      rw [List.length_cons, Rat.natCast_add]
      rfl
    rw [e]
    simp only [ls]
    grind
theorem plan_snoc {jobs : List (Jb Str)} {rd : Rnd Str} {qs : List (Pc Str)} {l' : Str → Rat} : ∀ {rds : List (Rnd Str)} {ps : List (Pc Str)}, PlanOf jobs rds ps → Runs (jobs.filter fun j => decide (j.nm ∈ rd.nms)) rd.sp rd.gv (wkOf jobs) qs l' → PlanOf jobs (rds ++ [rd]) (ps ++ qs)
  | _, _, .nil, h => by
    have := PlanOf.cons h PlanOf.nil
    rw [List.append_nil] at this
    exact this
  | _, _, .cons h t, h2 => by
    rw [List.append_assoc]
    exact PlanOf.cons h (plan_snoc t h2)
/-- jobs that a plan is made of, B parts -/
structure PwOk (jobs : List (Jb Str)) (B : Nat) : Prop where
  ok : JobsOk jobs
  few : jobs.length ≤ 8
  b0 : 0 < B
  b1 : B < 2 ^ 3000
  dv : ∀ j ∈ jobs, Dv B j.wk
  wb : ∀ j ∈ jobs, j.wk ≤ 100000
  du : ∀ j ∈ jobs, j.du ≤ 10000
  str : ∀ j ∈ jobs, PyData.strOk j.nm = true
theorem PwOk.load {jobs : List (Jb Str)} {B : Nat} (h : PwOk jobs B) : ls (fun j => j.wk) jobs ≤ 800000 := by
  have h1 := ls_le_len (c := 100000) h.wb
  have h2 : (jobs.length : Rat) ≤ ((8 : Nat) : Rat) := Rat.natCast_le_natCast.mpr h.few
  have h3 := Rat.mul_le_mul_of_nonneg_right h2 (show (0 : Rat) ≤ 100000 by decide +kernel)
  have h4 : ((8 : Nat) : Rat) * 100000 = 800000 := by decide +kernel
  grind
theorem PwOk.jb {jobs : List (Jb Str)} {B : Nat} (h : PwOk jobs B) : JobsB jobs B where
  ok := h.ok
  few := h.few
  pos := h.b0
  dvd := fun j hj => den_dvd (h.dv j hj)
  sS := Nat.lt_trans h.b1 (Nat.pow_lt_pow_right (by decide) (by decide))
  sw := fun j hj => sm_d h.b0 (Nat.lt_trans h.b1 (Nat.pow_lt_pow_right (by decide) (by decide))) (h.dv j hj) (by have := h.ok.wk j hj; have := huge_ge; grind) (by have := h.wb j hj; have := huge_ge; grind)
  sum := by
    have hp : (0 : Rat) < (B : Rat) := Rat.natCast_pos.mpr h.b0
    have h1 := Rat.mul_le_mul_of_nonneg_right h.load (Rat.le_of_lt hp)
    have h2 : (800000 : Rat) * (B : Rat) = ((800000 * B : Nat) : Rat) := by rw [Rat.natCast_mul]; rfl
    have h3 : 800000 * B < 2 ^ 4500 := pow_split (a := 20) (b := 3000) (by decide) (by decide) h.b1
    have h4 : ((800000 * B : Nat) : Rat) < ((2 ^ 4500 : Nat) : Rat) := Rat.natCast_lt_natCast.mpr h3
    rw [h2] at h1
    generalize ((2 ^ 4500 : Nat) : Rat) = u at *
    generalize ((800000 * B : Nat) : Rat) = v at *
    grind
  due := fun j hj => by
    have h1 := h.du j hj
    have h2 := h.ok.cm j hj
    have : j.du.natAbs < 10001 := by omega
    exact Nat.lt_trans this (by decide)
/-- a piece whose numbers are reckoned in D parts -/
structure Nc (D : Nat) (jobs : List (Jb Str)) (p : Pc Str) : Prop where
  sp : Dv D p.sp
  st : Dv D (p.sp * p.st)
  en : Dv D (p.sp * p.en)
  s0 : 0 < p.sp
  s1 : p.sp ≤ 1048576
  sm : Sm p.st ∧ Sm p.en
  nm : ∃ j ∈ jobs, p.nm = j.nm
theorem Nc.up {D D' : Nat} {jobs : List (Jb Str)} {p : Pc Str} (h : Nc D jobs p) (hd : D ∣ D') : Nc D' jobs p := ⟨h.sp.up hd, h.st.up hd, h.en.up hd, h.s0, h.s1, h.sm, h.nm⟩
theorem nc_td {D : Nat} {jobs : List (Jb Str)} : ∀ (ps acc : List (Pc Str)), (∀ p ∈ acc, Nc D jobs p) → (∀ p ∈ ps, Nc D jobs p) → ∀ p ∈ ps.foldl tdStep acc, Nc D jobs p
  | [], acc, h, _ => h
  | q :: r, acc, h, h2 => by
    rw [List.foldl_cons]
    refine nc_td r _ ?_ fun p hp => h2 p (List.mem_cons_of_mem _ hp)
    intro p hp
    have hq := h2 q List.mem_cons_self
    rcases td_cases acc q with e | ⟨dl, q0, ea, e1, e2, e3, e⟩
    · rw [e] at hp
      rcases List.mem_append.mp hp with hp | hp
      · exact h p hp
      · rw [List.mem_singleton.mp hp]
        exact hq
    · rw [e] at hp
      rcases List.mem_append.mp hp with hp | hp
      · exact h p (by rw [ea]; exact List.mem_append_left _ hp)
      · have h0 := h q0 (by rw [ea]; simp)
        rw [List.mem_singleton.mp hp]
        refine ⟨hq.sp, ?_, hq.en, hq.s0, hq.s1, ⟨h0.sm.1, hq.sm.2⟩, hq.nm⟩
        show Dv D (q.sp * q0.st)
        rw [← e3]
        exact h0.st
theorem nc_tidy {D : Nat} {jobs : List (Jb Str)} {ps : List (Pc Str)} (h : ∀ p ∈ ps, Nc D jobs p) : ∀ p ∈ tidy ps, Nc D jobs p := nc_td ps [] (fun _ hp => absurd hp (by simp)) h
theorem pow14 {i : Nat} {B D L : Nat} (h : D ≤ B * (2 ^ 14) ^ i) (hL : L ≤ 2 ^ 14) : D * L ≤ B * (2 ^ 14) ^ (i + 1) := by
  rw [Nat.pow_succ, ← Nat.mul_assoc]
  exact Nat.mul_le_mul h hL
/-- what one round needs -/
theorem rp_of {jobs ws : List (Jb Str)} {B : Nat} (h : PwOk jobs B) {free : List (Int × Int)} {a b : Int} (D : Dens free ws a b) (hf : FreeOk free) (hw : ∀ j ∈ ws, Win free j) {q : Jb Str → Bool} (hq : ws = jobs.filter q) (hE : ∀ z ∈ free, z.2 ≤ 10000) :
    0 < lenF free a b ∧ lenF free a b ≤ 10000 ∧ RpOk (jobs.filter fun j => decide (j.nm ∈ (ws.filter fun j => inn free a b j).map (·.nm))) (loadR free ws a b / (lenF free a b : Rat)) (freePart free a b) (B * (lenF free a b).natAbs) := by
  have hlen := D.len hw
  have hsub : ∀ j ∈ ws, j ∈ jobs := fun j hj => by rw [hq] at hj; exact (List.mem_filter.mp hj).1
  have hl0 : 0 < lenF free a b := by
    have : ((0 : Int) : Rat) < ((lenF free a b : Int) : Rat) := hlen
    exact Rat.intCast_lt_intCast.mp this
  have hl1 := (lenF_small hf hE (by decide) a b).2
  have hwk : ∀ j ∈ jobs, 0 ≤ j.wk := fun j hj => by have := h.ok.wk j hj; grind
  obtain ⟨q1, q2⟩ := load_le (free := free) (ws := ws) (fun j hj => hwk j (hsub j hj)) a b
  have q3 : ls (fun j => j.wk) ws ≤ ls (fun j => j.wk) jobs := by rw [hq]; exact ls_filter_le hwk q
  have q4 := h.load
  have hsp := D.speed hw
  have hdm := div_mul (x := loadR free ws a b) hlen
  have hcast : (((lenF free a b).natAbs : Nat) : Rat) = (lenF free a b : Rat) := by
    rw [← Rat.intCast_natCast]
    congr 1
    omega
  have hdl : Dv B (loadR free ws a b) := Dv.ls fun j hj => by
    split
    · exact h.dv j (hsub j hj)
    · exact Dv.zero B
  refine ⟨hl0, hl1, ?_⟩
  have hone : (1 : Rat) ≤ (lenF free a b : Rat) := by
    have : ((1 : Int) : Rat) ≤ ((lenF free a b : Int) : Rat) := Rat.intCast_le_intCast.mpr (by omega)
    simpa using this
  refine ⟨Nat.mul_pos h.b0 (by omega), ?_, hsp, ?_, ?_, fun j hj => ?_, fun j hj => ?_, fun z hz => ?_⟩
  · have : (lenF free a b).natAbs ≤ 2 ^ 14 := by
      have : (lenF free a b).natAbs ≤ 10000 := by omega
      exact Nat.le_trans this (by decide)
    rw [Nat.mul_comm]
    exact pow_split (a := 14) (b := 3000) (by decide) this h.b1
  · have := Rat.mul_le_mul_of_nonneg_left hone (Rat.le_of_lt hsp)
    grind
  · obtain ⟨z, hz⟩ := hdl
    refine ⟨z, ?_⟩
    rw [Rat.natCast_mul, hcast, ← hz]
    grind
  · have hj' := (List.mem_filter.mp hj).1
    have := h.wb j hj'
    exact ⟨(h.dv j hj').up (Nat.dvd_mul_right _ _), hwk j hj', by grind⟩
  · have hj' := (List.mem_filter.mp hj).1
    have h1 := h.du j hj'
    have h2 := h.ok.cm j hj'
    omega
  · obtain ⟨y, hy, h2, rfl⟩ := part_mem.mp hz
    have h3 := hE y hy
    have h4 := hf.2 y hy
    simp only
    omega
end SW

set_option Elab.async false
set_option linter.all false
set_option maxRecDepth 100000
set_option maxHeartbeats 4000000
set_option exponentiation.threshold 300
namespace SW
open PySem PySem.Spec PyProof.Rows L2
section
variable {P : Program} {w : World} {K : PySem.W.Frag} {mg : Str → Option Value} {base : Heap}
theorem scPw : FnScope ["jobs", "pieces", "speed", "names", "given", "a", "b", "job"] ["jobs"] (defScope (top 34)) := ⟨rfl, rfl, rfl, by decide +kernel, rfl, by decide +kernel, by decide +kernel⟩
/-- what plan_with finds -/
structure PlanFound (jobs : List (Jb Str)) (B : Nat) (plan : List (Pc Str)) (D : Nat) : Prop where
  ex : ∃ rds pcs tl, RoundsOf jobs rds ∧ PlanOf jobs rds pcs ∧ pcs.Perm tl ∧ plan = tidy tl
  d0 : 0 < D
  dB : B ∣ D
  d1 : D ≤ B * (2 ^ 14) ^ jobs.length
  nc : ∀ p ∈ plan, Nc D jobs p
  len : plan.length ≤ 17 * 2 ^ jobs.length
def spPW (K : PySem.W.Frag) : Sp := fun vs H Q _ => ∃ l us jobs B, vs = [.ref l] ∧ SqL K H l us ∧ Paired (JrV K H) us jobs ∧ PwOk jobs B ∧ ∀ r H' ws plan D, Same H H' → SqT K H' r ws → Paired (PcV K H') ws plan → PlanFound jobs B plan D → Q (.ref r) H'
theorem ok_pw (T : TF K mg "plan_with" (top 34) ["jobs"]) (RW : Def P w K mg base "rounds_with" ["jobs"] [] 4 (spRW K)) (RP : Def P w K mg base "round_pieces" ["own", "speed", "given"] [] 3 (spRP K)) (IO : Def P w K mg base "in_order" ["pieces"] [] 2 (spIo K)) (TD : Def P w K mg base "tidy" ["plan"] [] 1 (spTidy K)) :
    Def P w K mg base "plan_with" ["jobs"] [] 5 (spPW K) := by
  refine T.ok scPw (fun vs H Q E h => ?_) (fun f cdv A0 outer s_ H vs Q E hr h => ⟨_, (pss_cons (ps_set (i := 1) scPw.nd rfl (.inl rfl) (pe_lst pa_nil)) (pss_cons (ps_for PassesOwn.never rfl (pi_list (pe_def RW (hr.mono (by decide)) (pa_cons (pv 0) pa_nil))) (pg_tup rfl (pgs_cons (pg_name (i := 2) scPw.nd rfl (.inl rfl)) (pgs_cons (pg_name (i := 3) scPw.nd rfl (.inr rfl)) (pgs_cons (pg_name (i := 4) scPw.nd rfl (.inl rfl)) (pgs_cons (pg_name (i := 5) scPw.nd rfl (.inl rfl)) (pgs_cons (pg_name (i := 6) scPw.nd rfl (.inl rfl)) pgs_nil)))))) (pss_one (ps_expr (pe_bm PySem.F.plainAttrs_list PySem.F.slot_list_extend PySem.F.type_list_extend mt_extend (pv 1) (pa_cons (pe_def RP (hr.mono (by decide)) (pa_cons (pe_lc (own := [("job", 7)]) (tt := tTest (tOp (rIn K false) (tOp (rIxT K) (tVar 7) (tC (.int 0))) (tVar 3))) rfl scPw.nd (pi_list (pv 0)) (blkOk_by (own := [("job", 7)]) (N := ["jobs", "pieces", "speed", "names", "given", "a", "b", "job"]) (sc := defScope (top 34)) (by decide +kernel)) (fun _ _ _ _ _ => by exact (pg_name (i := 7) scPw.nd rfl (.inl rfl))) (fun _ _ _ _ _ => by exact (pts_one (pt_cmpR op_in_seq (pe_ix ix_tup (pv 7) pe_int (fun _ _ => rfl)) (pv 3 (hv := Or.inr (Or.inl rfl))) (by rfl)))) (fun _ _ _ _ _ => by exact (pv 7))) (pa_cons (pv 2) (pa_cons (pv 4) pa_nil)))) pa_nil))))) (pss_one (ps_ret (pe_def TD (hr.mono (by decide)) (pa_cons (pe_def IO (hr.mono (by decide)) (pa_cons (pv 1) pa_nil)) pa_nil)))))), ?_⟩)
  · obtain ⟨_, _, _, _, rfl, _⟩ := h
    rfl
  · obtain ⟨l, us, jobs, B, rfl, hl, hp, O, k⟩ := h
    have hnd := O.ok.nd
    have hwk : ∀ j ∈ jobs, 0 ≤ j.wk := fun j hj => by have := O.ok.wk j hj; grind
    refine ⟨Nat.zero_le _, fun pp np => ?_⟩
    have S0 := same_new (o := .lst []) np
    have hp0 : upd H pp (.lst []) pp = some (.lst []) := upd_same
    generalize upd H pp (.lst []) = H0 at *
    refine ⟨_, rfl, l, us, jobs, B, rfl, S0.seq hl, jrs_tup (Tup.same S0) hp, O.jb, fun r H1 ws rds S1 nr hr1 hpr hrl hR => ?_⟩
    have S01 := S0.trans S1
    have hp1 := S1 _ _ hp0
    have hrpp : r ≠ pp := fun e => by
      rw [e, hp0] at nr
      cases nr
    have hfew := O.few
    have hstart : ∃ ws free, Rounds ws free rds ∧ FreeOk free ∧ (∀ j ∈ ws, Win free j) ∧ (∃ q, ws = jobs.filter q) ∧ (∀ z ∈ free, z.2 ≤ 10000) ∧ free.length ≤ 1 := by
      rcases hR with ⟨rfl, rfl⟩ | ⟨c, e, ⟨jc, hjc, rfl⟩, ⟨je, hje, rfl⟩, hcb, hR⟩
      · exact ⟨[], [], Rounds.nil _, ⟨List.Pairwise.nil, fun _ h => absurd h (by simp)⟩, fun _ h => absurd h (by simp), ⟨fun _ => true, rfl⟩, fun _ h => absurd h (by simp), by simp⟩
      · obtain ⟨f1, f2⟩ := one_ok O.ok hjc hcb
        refine ⟨jobs, _, hR, f1, f2, ⟨fun _ => true, (List.filter_eq_self.mpr fun _ _ => rfl).symm⟩, fun z hz => ?_, Nat.le_refl _⟩
        rw [List.mem_singleton.mp hz]
        exact O.du je hje
    refine ⟨r, rfl, ⟨_, SqL.of hr1⟩, for_list (K := K) (a := r) (xs := ws) (fun i σ H' => ∃ o2 o3 o4 o5 o6 wp_ pcs D, σ = [some (.ref l), some (.ref pp), o2, o3, o4, o5, o6, none] ∧ Same H H' ∧ H' r = some (.lst ws) ∧ Paired (RdV K H') ws rds ∧ H' pp = some (.lst wp_) ∧ Paired (PcV K H') wp_ pcs ∧ pcs.length + 17 ≤ 17 * 2 ^ i ∧
        PlanOf jobs (rds.take i) pcs ∧ 0 < D ∧ B ∣ D ∧ D ≤ B * (2 ^ 14) ^ i ∧ (∀ p ∈ pcs, Nc D jobs p) ∧ ∃ wj free, Rounds wj free (rds.drop i) ∧ FreeOk free ∧ (∀ j ∈ wj, Win free j) ∧ (∃ q, wj = jobs.filter q) ∧ (∀ z ∈ free, z.2 ≤ 10000) ∧ free.length ≤ 2 ^ i)
      ⟨none, none, none, none, none, [], [], B, rfl, S01, hr1, hpr, hp1, .nil, (by decide), PlanOf.nil, O.b0, Nat.dvd_refl _, by simp, fun p hp => absurd hp (by simp), by simpa using hstart⟩ (fun i σ H' _ ⟨_, _, _, _, _, _, _, _, _, _, e, _⟩ => SqL.of e) ?_ ?_⟩
    · rintro i x σ H2 hi ⟨o2, o3, o4, o5, o6, wp_, pcs, D, rfl, S2, hr2, hpr2, hp2, hpc, hpl, hplan, d0, dB, d1, hnc, wj, free, hRd, hfo, hwin, ⟨q, hq⟩, hE, hfl⟩
      obtain ⟨rd, hrd, a, vsp, nt, gt, gs, rfl, ha, hsp, hnt, hgt, hgs⟩ := pair_get hpr2 hi
      obtain ⟨hrd1, hrd2⟩ := List.getElem?_eq_some_iff.mp hrd
      rw [List.drop_eq_getElem_cons hrd1, hrd2] at hRd
      have hi8 : i < 8 := by omega
      have hfl2 : free.length ≤ 256 := by
        have h28 : 2 ^ i ≤ 2 ^ 8 := Nat.pow_le_pow_right (by decide) (by omega)
        omega
      cases hRd with
      | cons D1 hRest =>
      rename_i b1 b2
      obtain ⟨hl0, hl1, hRp⟩ := rp_of O D1 hfo hwin hq hE
      have hsub : ∀ j ∈ wj, j ∈ jobs := fun j hj => by rw [hq] at hj; exact (List.mem_filter.mp hj).1
      obtain ⟨c1, c2, c3, c4⟩ := round_start hnd D1 hfo hwin (fun j hj => hwk j (hsub j hj)) hq
      generalize hrdE : (⟨loadR free wj b1 b2 / (lenF free b1 b2 : Rat), (wj.filter fun j => inn free b1 b2 j).map (·.nm), freePart free b1 b2, b1, b2⟩ : Rnd Str) = rd at *
      have e1 : loadR free wj b1 b2 / (lenF free b1 b2 : Rat) = rd.sp := by rw [← hrdE]
      have e2 : (wj.filter fun j => inn free b1 b2 j).map (·.nm) = rd.nms := by rw [← hrdE]
      have e3 : freePart free b1 b2 = rd.gv := by rw [← hrdE]
      rw [e1, e2] at c1
      rw [e1, e2, e3] at hRp
      rw [e3] at c2 c3
      rw [e1, e2, e3] at c4
      have hgl : rd.gv.length ≤ free.length := by rw [← e3]; exact part_len _ _ _
      refine ⟨a, _, rfl, ha, rfl, _, _, rfl, _, _, rfl, _, _, rfl, _, _, rfl, _, _, rfl, rfl, ?_⟩
      refine ⟨_, rfl, .inl ⟨rfl, _, SqL.of hp2⟩, ?_⟩
      -- own
      refine ⟨_, rfl, l, rfl, ⟨_, S2.seq hl⟩, fun Dn nDn => ?_⟩
      have hp2' := jrs_tup (Tup.same S2) hp
      refine lc_list (K := K) (a := l) (xs := us) (fun n H3 => ∃ vs, H3 Dn = some (.lst vs) ∧ Same H2 H3 ∧ Paired (JrV K H3) vs ((jobs.take n).filter fun j => decide (j.nm ∈ rd.nms))) ⟨[], upd_same, same_new nDn, .nil⟩ (fun n H3 _ ⟨_, _, e, _⟩ => e.seq (S2.seq hl)) ?_ ?_
      · rintro n y H3 hn ⟨vs, hDn, S3, hvs⟩
        obtain ⟨j, hj, tr, zr, rfl, htr, hzr⟩ := pair_get hp2' hn
        obtain ⟨hj1, hj2⟩ := List.getElem?_eq_some_iff.mp hj
        refine ⟨wp (wp0 _ _), _, rfl, tr, _, _, _, rfl, rfl, sqT_same S3 htr, rfl, _, rfl, nt, _, rfl, .inr (sqT_same S3 hnt), rfl, by simp [List.all_map, Function.comp_def, flatV], ?_⟩
        rw [inV_str]
        have hvl : vs.length ≤ n := by
          rw [pair_len hvs]
          exact Nat.le_trans (List.length_filter_le _ _) (by rw [List.length_take]; omega)
        refine ⟨_, rfl, ?_⟩
        by_cases hin : j.nm ∈ rd.nms
        · rw [decide_eq_true hin]
          refine iteT ⟨_, rfl, vs, hDn, small (by omega), ?_⟩
          obtain ⟨a1, a2, a3⟩ := app_val (K := K) (v := .ref tr) S3 nDn hDn
          refine ⟨_, a3, a1, ?_⟩
          rw [List.take_succ_eq_append_getElem hj1, hj2, List.filter_append, List.filter_cons_of_pos (by simp [hin])]
          exact pair_snoc (jrs_tup a2 hvs) ⟨tr, zr, rfl, a2 _ _ (sqT_same S3 htr), (hzr.same S3).tup a2⟩
        · rw [decide_eq_false hin]
          refine iteF ⟨vs, hDn, S3, ?_⟩
          rw [List.take_succ_eq_append_getElem hj1, hj2, List.filter_append, List.filter_cons_of_neg (by simp [hin]), List.filter_nil, List.append_nil]
          exact hvs
      · rintro H3 ⟨vs, hDn, S3, hvs⟩
        rw [pair_len hp2', List.take_length] at hvs
        refine ⟨_, rfl, _, rfl, Dn, vs, _, vsp, rd.sp, gt, gs, rd.gv, free, wkOf jobs, B * (lenF free b1 b2).natAbs, rfl, SqL.of hDn, hvs, Nat.le_trans (List.length_filter_le _ _) hfew, hsp.same S3, sqT_same S3 hgt, ips_tup (Tup.same S3) hgs, by omega, c1, c2, c3, c4, fun j hj => wkOf_eq hnd (List.mem_filter.mp hj).1, hRp, fun rr H4 wr ps l' S4 hrr hps hruns hpsl hpn => ?_⟩
        have S24 := S3.trans S4
        have hp4 := S24 _ _ hp2
        have hpcl := pair_len hpc
        have hpsl2 := pair_len hps
        have h28 : 2 ^ i ≤ 2 ^ 8 := Nat.pow_le_pow_right (by decide) (by omega)
        refine ⟨pp, rr, wp_, wr, rfl, rfl, hp4, hrr, small' (by omega), _, _, _, _, _, wp_ ++ wr, pcs ++ ps, D * (lenF free b1 b2).natAbs, rfl, same_upd (S2.trans S24) np, ?_, ?_, upd_same, ?_, ?_, ?_, Nat.mul_pos d0 (by omega), Nat.dvd_trans dB (Nat.dvd_mul_right _ _), pow14 d1 ?_, ?_, ?_⟩
        · rw [upd_ne hrpp]
          exact S24 _ _ hr2
        · exact rds_tup ((Tup.same S24).trans (Tup.lst hp4)) hpr2
        · exact pcs_tup (Tup.lst hp4) (pair_app (pcs_tup (Tup.same S24) hpc) hps)
        · rw [List.length_append, Nat.pow_succ]
          omega
        · rw [List.take_succ_eq_append_getElem hrd1, hrd2]
          exact plan_snoc hplan hruns
        · have : (lenF free b1 b2).natAbs ≤ 10000 := by omega
          exact Nat.le_trans this (by decide)
        · intro p hp'
          rcases List.mem_append.mp hp' with hp' | hp'
          · exact (hnc p hp').up (Nat.dvd_mul_right _ _)
          · obtain ⟨p1, p2, p3, j, hj, p4⟩ := hpn p hp'
            have hdd : B * (lenF free b1 b2).natAbs ∣ D * (lenF free b1 b2).natAbs := Nat.mul_dvd_mul_right dB _
            have hsb : rd.sp ≤ huge := by have := huge_ge; have := hRp.s1; grind
            refine ⟨by rw [p1]; exact hRp.sd.up hdd, by rw [p1]; exact p2.dv.up hdd, by rw [p1]; exact p3.dv.up hdd, by rw [p1]; exact hRp.s0, by rw [p1]; exact hRp.s1, ⟨p2.sm hRp.d0 hRp.d1 hRp.s0 hRp.sd hsb, p3.sm hRp.d0 hRp.d1 hRp.s0 hRp.sd hsb⟩, j, (List.mem_filter.mp hj).1, p4⟩
        · refine ⟨_, _, hRest, taken_ok hfo (Int.le_of_lt D1.lt), fun j hj => win_of (taken_ok hfo (Int.le_of_lt D1.lt)) (next_win hfo hwin j hj), ⟨fun j => (!inn free b1 b2 j) && q j, by rw [hq, List.filter_filter]⟩, takenAway_hi hE, ?_⟩
          have := takenAway_len free b1 b2
          rw [Nat.pow_succ]
          omega
    · rintro σ H2 ⟨o2, o3, o4, o5, o6, wp_, pcs, D, rfl, S2, hr2, hpr2, hp2, hpc, hpl, hplan, d0, dB, d1, hnc, _⟩
      have hwl := pair_len hpr2
      rw [hwl, List.take_length] at hplan
      rw [hwl] at hpl d1
      have h28 : 2 ^ rds.length ≤ 2 ^ jobs.length := Nat.pow_le_pow_right (by decide) hrl
      have h29 : 2 ^ jobs.length ≤ 2 ^ 8 := Nat.pow_le_pow_right (by decide) hfew
      refine ⟨_, rfl, pp, wp_, pcs, rfl, SqL.of hp2, hpc, by omega, fun p hp => (hnc p hp).sm.1, fun ro H3 wo tl S3 ho hto hperm => ?_⟩
      have htl := hperm.length_eq
      have hnct : ∀ p ∈ tl, Nc D jobs p := fun p hp => hnc p (hperm.mem_iff.mp hp)
      refine ⟨ro, wo, tl, rfl, SqL.of ho, hto, fun p hp => ?_, by omega, fun rt H4 wt S4 ht htt => ?_⟩
      · obtain ⟨j, hj, e⟩ := (hnct p hp).nm
        rw [e]
        exact O.str j hj
      · have htd := td_len tl []
        simp only [List.length_nil] at htd
        have htd2 : (tidy tl).length ≤ 0 + tl.length := htd
        refine k rt H4 wt (tidy tl) D ((S2.trans S3).trans S4) ht htt ⟨⟨rds, pcs, tl, hR, hplan, hperm.symm, rfl⟩, d0, dB, Nat.le_trans d1 (Nat.mul_le_mul_left _ (Nat.pow_le_pow_right (by decide) hrl)), nc_tidy hnct, by omega⟩
/-! best_plan -/
theorem scBp : FnScope ["jobs"] ["jobs"] (defScope (top 35)) := ⟨rfl, rfl, rfl, by decide +kernel, rfl, by decide +kernel, by decide +kernel⟩
def spBP (K : PySem.W.Frag) : Sp := fun vs H Q _ => ∃ l us jobs, vs = [.ref l] ∧ SqT K H l us ∧ Paired (JiV K H) us jobs ∧ PwOk jobs 1 ∧ ∀ r H' ws plan D, Same H H' → SqT K H' r ws → Paired (PcV K H') ws plan → PlanFound jobs 1 plan D → Q (.ref r) H'
theorem ok_bp (T : TF K mg "best_plan" (top 35) ["jobs"]) (WR : Def P w K mg base "with_ratios" ["jobs"] [] 2 (spWR K)) (PW : Def P w K mg base "plan_with" ["jobs"] [] 5 (spPW K)) : Def P w K mg base "best_plan" ["jobs"] [] 6 (spBP K) := by
  refine T.ok scBp (fun vs H Q E h => ?_) (fun f cdv A0 outer s_ H vs Q E hr h => ⟨_, (pss_one (ps_ret (pe_def PW (hr.mono (by decide)) (pa_cons (pe_def WR (hr.mono (by decide)) (pa_cons (pv 0) pa_nil)) pa_nil)))), ?_⟩)
  · obtain ⟨_, _, _, rfl, _⟩ := h
    rfl
  · obtain ⟨l, us, jobs, rfl, hl, hp, O, k⟩ := h
    have := O.few
    refine ⟨_, rfl, l, us, jobs, rfl, hl, hp, by omega, fun r H1 ws S1 h1 p1 => ?_⟩
    exact ⟨r, ws, jobs, 1, rfl, SqL.of h1, p1, O, fun r2 H2 w2 plan D S2 h2 p2 F => k r2 H2 w2 plan D (S1.trans S2) h2 p2 F⟩
end
end SW

set_option Elab.async false
set_option linter.all false
set_option maxRecDepth 100000
set_option maxHeartbeats 4000000
set_option exponentiation.threshold 300
namespace SW
open PySem PySem.Spec PyProof.Rows L2
/-- how a runner lies in the heap; H0: what stood before it -/
structure RA (K : PySem.W.Frag) (C : Addr) (H0 H : Hp) (x dx : Addr) (fs : List (Str × V)) (lr lw lp la lh : Addr) (ur up ua uh : List V) (now : Int) : Prop where
  hx : H x = some (.ins C dx fs)
  fl : fs.length ≤ 20
  fc : fs.lookup ("cap" : Str) = some .non
  fn : fs.lookup ("now" : Str) = some (.int now)
  fr : fs.lookup ("rows" : Str) = some (.ref lr)
  fw : fs.lookup ("work_left" : Str) = some (.ref lw)
  fp : fs.lookup ("pieces" : Str) = some (.ref lp)
  fa : fs.lookup ("ahead" : Str) = some (.ref la)
  fh : fs.lookup ("history" : Str) = some (.ref lh)
  m1 : fs.lookup ("advance" : Str) = none
  m2 : fs.lookup ("offer" : Str) = none
  m3 : fs.lookup ("done" : Str) = none
  m4 : fs.lookup ("waiting" : Str) = none
  m5 : fs.lookup ("too_late" : Str) = none
  hr : H lr = some (.lst ur)
  hw : ∃ kvs : List (Key × V), H lw = some (.dK kvs)
  hp : H lp = some (.lst up)
  ha : SqT K H la ua
  hh : H lh = some (.lst uh)
  n1 : lr ≠ lp
  n2 : lr ≠ lh
  n3 : lp ≠ lh
  s : Same H0 H
  zx : H0 x = none
  zr : H0 lr = none
  zw : H0 lw = none
  zp : H0 lp = none
  zh : H0 lh = none
section
variable {K : PySem.W.Frag} {C : Addr} {H0 H H' : Hp} {x dx : Addr} {fs : List (Str × V)} {lr lw lp la lh : Addr} {ur up ua uh : List V} {now : Int}
theorem RA.same (R : RA K C H0 H x dx fs lr lw lp la lh ur up ua uh now) (e : Same H H') : RA K C H0 H' x dx fs lr lw lp la lh ur up ua uh now := by
  obtain ⟨kvs, hw⟩ := R.hw
  exact { R with hx := e _ _ R.hx, hr := e _ _ R.hr, hw := ⟨kvs, e _ _ hw⟩, hp := e _ _ R.hp, ha := sqT_same e R.ha, hh := e _ _ R.hh, s := R.s.trans e }
theorem ne_ho {a b : Addr} {o u : HO} (h1 : H a = some o) (h2 : H b = some u) (n : o ≠ u) : a ≠ b := fun e => by
  subst e
  rw [h1] at h2
  exact n (Option.some.inj h2)
theorem RA.nxr (R : RA K C H0 H x dx fs lr lw lp la lh ur up ua uh now) : x ≠ lr := ne_ho R.hx R.hr (by simp)
theorem RA.nxp (R : RA K C H0 H x dx fs lr lw lp la lh ur up ua uh now) : x ≠ lp := ne_ho R.hx R.hp (by simp)
theorem RA.nxh (R : RA K C H0 H x dx fs lr lw lp la lh ur up ua uh now) : x ≠ lh := ne_ho R.hx R.hh (by simp)
theorem RA.nxw (R : RA K C H0 H x dx fs lr lw lp la lh ur up ua uh now) : x ≠ lw := by
  obtain ⟨kvs, hw⟩ := R.hw
  exact ne_ho R.hx hw (by simp)
theorem RA.nwr (R : RA K C H0 H x dx fs lr lw lp la lh ur up ua uh now) : lw ≠ lr := by
  obtain ⟨kvs, hw⟩ := R.hw
  exact ne_ho hw R.hr (by simp)
theorem RA.nwp (R : RA K C H0 H x dx fs lr lw lp la lh ur up ua uh now) : lw ≠ lp := by
  obtain ⟨kvs, hw⟩ := R.hw
  exact ne_ho hw R.hp (by simp)
theorem RA.nwh (R : RA K C H0 H x dx fs lr lw lp la lh ur up ua uh now) : lw ≠ lh := by
  obtain ⟨kvs, hw⟩ := R.hw
  exact ne_ho hw R.hh (by simp)
/-- a piece more -/
theorem RA.pieces (R : RA K C H0 H x dx fs lr lw lp la lh ur up ua uh now) (v : V) : RA K C H0 (upd H lp (.lst (up ++ [v]))) x dx fs lr lw lp la lh ur (up ++ [v]) ua uh now ∧ Tup K H (upd H lp (.lst (up ++ [v]))) := by
  obtain ⟨kvs, hw⟩ := R.hw
  have T : Tup K H (upd H lp (.lst (up ++ [v]))) := Tup.lst R.hp
  exact ⟨{ R with hx := by rw [upd_ne R.nxp]; exact R.hx, hr := by rw [upd_ne R.n1]; exact R.hr, hw := ⟨kvs, by rw [upd_ne R.nwp]; exact hw⟩, hp := upd_same, ha := T _ _ R.ha, hh := by rw [upd_ne R.n3.symm]; exact R.hh, s := same_upd R.s R.zp }, T⟩
theorem RA.rows (R : RA K C H0 H x dx fs lr lw lp la lh ur up ua uh now) (v : V) : RA K C H0 (upd H lr (.lst (ur ++ [v]))) x dx fs lr lw lp la lh (ur ++ [v]) up ua uh now ∧ Tup K H (upd H lr (.lst (ur ++ [v]))) := by
  obtain ⟨kvs, hw⟩ := R.hw
  have T : Tup K H (upd H lr (.lst (ur ++ [v]))) := Tup.lst R.hr
  exact ⟨{ R with hx := by rw [upd_ne R.nxr]; exact R.hx, hr := upd_same, hw := ⟨kvs, by rw [upd_ne R.nwr]; exact hw⟩, hp := by rw [upd_ne R.n1.symm]; exact R.hp, ha := T _ _ R.ha, hh := by rw [upd_ne R.n2.symm]; exact R.hh, s := same_upd R.s R.zr }, T⟩
theorem RA.hist (R : RA K C H0 H x dx fs lr lw lp la lh ur up ua uh now) (v : V) : RA K C H0 (upd H lh (.lst (uh ++ [v]))) x dx fs lr lw lp la lh ur up ua (uh ++ [v]) now ∧ Tup K H (upd H lh (.lst (uh ++ [v]))) := by
  obtain ⟨kvs, hw⟩ := R.hw
  have T : Tup K H (upd H lh (.lst (uh ++ [v]))) := Tup.lst R.hh
  exact ⟨{ R with hx := by rw [upd_ne R.nxh]; exact R.hx, hr := by rw [upd_ne R.n2]; exact R.hr, hw := ⟨kvs, by rw [upd_ne R.nwh]; exact hw⟩, hp := by rw [upd_ne R.n3]; exact R.hp, ha := T _ _ R.ha, hh := upd_same, s := same_upd R.s R.zh }, T⟩
theorem RA.left (R : RA K C H0 H x dx fs lr lw lp la lh ur up ua uh now) (k2 : List (Key × V)) : RA K C H0 (upd H lw (.dK k2)) x dx fs lr lw lp la lh ur up ua uh now ∧ Tup K H (upd H lw (.dK k2)) := by
  obtain ⟨kvs, hw⟩ := R.hw
  have T : Tup K H (upd H lw (.dK k2)) := tup_dk hw _
  exact ⟨{ R with hx := by rw [upd_ne R.nxw]; exact R.hx, hr := by rw [upd_ne R.nwr.symm]; exact R.hr, hw := ⟨k2, upd_same⟩, hp := by rw [upd_ne R.nwp.symm]; exact R.hp, ha := T _ _ R.ha, hh := by rw [upd_ne R.nwh.symm]; exact R.hh, s := same_upd R.s R.zw }, T⟩
theorem tup_ins {a : Addr} {f1 : List (Str × V)} (h : H a = some (.ins C dx f1)) (o : HO) : Tup K H (upd H a o) := fun b xs q => by
  rcases q with (q | ⟨u, q⟩) | q
  · exact .inl (.inl (by rw [upd_ne (by rintro rfl; rw [h] at q; cases q)]; exact q))
  · exact .inl (.inr ⟨u, by rw [upd_ne (by rintro rfl; rw [h] at q; cases q)]; exact q⟩)
  · exact .inr q
theorem lk {f m : Str} {v : V} {fs : List (Str × V)} (n : ¬ m = f) : (putF f v fs).lookup m = fs.lookup m := by rw [lookup_putF, if_neg n]
theorem putF_at {f : Str} {v u : V} : ∀ {fs : List (Str × V)}, fs.lookup f = some u → (putF f v fs).length = fs.length
  | [], h => by cases h
  | (g, y) :: r, h => by
    unfold putF
    by_cases e : g = f
    · rw [if_pos e]
      rfl
    · rw [if_neg e]
      have e2 : (f == g) = false := beq_eq_false_iff_ne.mpr fun z => e z.symm
      have h2 : r.lookup f = some u := by
        simp only [List.lookup, e2] at h
        exact h
      simp only [List.length_cons, putF_at h2]
/-- the course anew -/
theorem RA.ahead (R : RA K C H0 H x dx fs lr lw lp la lh ur up ua uh now) {l2 : Addr} {u2 : List V} (h2 : SqT K H l2 u2) : RA K C H0 (upd H x (.ins C dx (putF "ahead" (.ref l2) fs))) x dx (putF "ahead" (.ref l2) fs) lr lw lp l2 lh ur up u2 uh now ∧ Tup K H (upd H x (.ins C dx (putF "ahead" (.ref l2) fs))) := by
  obtain ⟨kvs, hw⟩ := R.hw
  have T : Tup K H (upd H x (.ins C dx (putF "ahead" (.ref l2) fs))) := tup_ins R.hx _
  exact ⟨{ R with
    hx := upd_same
    fl := by rw [putF_at R.fa]; exact R.fl
    fc := by rw [lk (by decide +kernel)]; exact R.fc
    fn := by rw [lk (by decide +kernel)]; exact R.fn
    fr := by rw [lk (by decide +kernel)]; exact R.fr
    fw := by rw [lk (by decide +kernel)]; exact R.fw
    fp := by rw [lk (by decide +kernel)]; exact R.fp
    fa := by rw [lookup_putF, if_pos rfl]
    fh := by rw [lk (by decide +kernel)]; exact R.fh
    m1 := by rw [lk (by decide +kernel)]; exact R.m1
    m2 := by rw [lk (by decide +kernel)]; exact R.m2
    m3 := by rw [lk (by decide +kernel)]; exact R.m3
    m4 := by rw [lk (by decide +kernel)]; exact R.m4
    m5 := by rw [lk (by decide +kernel)]; exact R.m5
    hr := by rw [upd_ne R.nxr.symm]; exact R.hr
    hw := ⟨kvs, by rw [upd_ne R.nxw.symm]; exact hw⟩
    hp := by rw [upd_ne R.nxp.symm]; exact R.hp
    ha := T _ _ h2
    hh := by rw [upd_ne R.nxh.symm]; exact R.hh
    s := same_upd R.s R.zx }, T⟩
theorem RA.time (R : RA K C H0 H x dx fs lr lw lp la lh ur up ua uh now) (t : Int) : RA K C H0 (upd H x (.ins C dx (putF "now" (.int t) fs))) x dx (putF "now" (.int t) fs) lr lw lp la lh ur up ua uh t ∧ Tup K H (upd H x (.ins C dx (putF "now" (.int t) fs))) := by
  obtain ⟨kvs, hw⟩ := R.hw
  have T : Tup K H (upd H x (.ins C dx (putF "now" (.int t) fs))) := tup_ins R.hx _
  exact ⟨{ R with
    hx := upd_same
    fl := by rw [putF_at R.fn]; exact R.fl
    fc := by rw [lk (by decide +kernel)]; exact R.fc
    fn := by rw [lookup_putF, if_pos rfl]
    fr := by rw [lk (by decide +kernel)]; exact R.fr
    fw := by rw [lk (by decide +kernel)]; exact R.fw
    fp := by rw [lk (by decide +kernel)]; exact R.fp
    fa := by rw [lk (by decide +kernel)]; exact R.fa
    fh := by rw [lk (by decide +kernel)]; exact R.fh
    m1 := by rw [lk (by decide +kernel)]; exact R.m1
    m2 := by rw [lk (by decide +kernel)]; exact R.m2
    m3 := by rw [lk (by decide +kernel)]; exact R.m3
    m4 := by rw [lk (by decide +kernel)]; exact R.m4
    m5 := by rw [lk (by decide +kernel)]; exact R.m5
    hr := by rw [upd_ne R.nxr.symm]; exact R.hr
    hw := ⟨kvs, by rw [upd_ne R.nxw.symm]; exact hw⟩
    hp := by rw [upd_ne R.nxp.symm]; exact R.hp
    ha := T _ _ R.ha
    hh := by rw [upd_ne R.nxh.symm]; exact R.hh
    s := same_upd R.s R.zx }, T⟩
end
/-- the numbers of a runner -/
structure RNice (D : Nat) (J : List (Jb Str)) (l : Str → Rat) (pcs ahead : List (Pc Str)) (n : Nat) : Prop where
  d0 : 0 < D
  d1 : D ≤ (2 ^ 84) ^ J.length
  lf : ∀ j ∈ J, Dv D (l j.nm)
  lb : ∀ j ∈ J, 0 ≤ l j.nm ∧ l j.nm ≤ 100000
  few : J.length ≤ 6
  pc : ∀ p ∈ pcs, Nc D J p
  ah : ∀ p ∈ ahead, Nc D J p
  pl : pcs.length ≤ 1088 * n
  al : ahead.length ≤ 1088
  nb : n ≤ 100
/-- a runner stands at x -/
def RunnerAt (K : PySem.W.Frag) (C : Addr) (H0 H : Hp) (x : Addr) (now : Nat) (J : List (Jb Str)) (l : Str → Rat) (pcs ahead : List (Pc Str)) (D n : Nat) : Prop :=
  ∃ dx fs lr lw lp la lh ur up ua uh, RA K C H0 H x dx fs lr lw lp la lh ur up ua uh (now : Int) ∧ Paired (JiV K H) ur J ∧ LeftD K H lw J l ∧ Paired (PcV K H) up pcs ∧ Paired (PcV K H) ua ahead ∧ uh.length ≤ n + 1 ∧ RNice D J l pcs ahead n
structure TxR (K : PySem.W.Frag) (mg : Str → Option Value) (C : Addr) : Prop where
  cl : Cls K C
  n1 : NoAttr K C "cap"
  n2 : NoAttr K C "now"
  n3 : NoAttr K C "rows"
  n4 : NoAttr K C "work_left"
  n5 : NoAttr K C "pieces"
  n6 : NoAttr K C "ahead"
  n7 : NoAttr K C "history"
  mgC : mg "Runner" = some (.ref C)
abbrev sRuI : Stmt := inClass (top 41) 0
abbrev sRuD : Stmt := inClass (top 41) 4
abbrev sRuA : Stmt := inClass (top 41) 7
abbrev sRuW : Stmt := inClass (top 41) 8
abbrev sRuT : Stmt := inClass (top 41) 9
abbrev sRuO : Stmt := inClass (top 41) 10
end SW

set_option Elab.async false
set_option linter.all false
set_option maxRecDepth 100000
set_option maxHeartbeats 4000000
set_option exponentiation.threshold 300
namespace SW
open PySem PySem.Spec PyProof.Rows L2
def IDef0 (P : Program) (w : World) (K : PySem.W.Frag) (mg : Str → Option Value) (base : Heap) (x : Str) (C : Addr) (ps : List Str) (dvs : List V) (k : Nat) (sp : Sp) : Prop :=
  ∃ f fd ds, mg x = some (.ref C) ∧ Mk K C f ∧ FnOk P w K mg base CX0 k f fd ps sp ∧ Binds K fd ps ds ∧ Vals dvs ds
theorem pe_mk0 {X : Cx} {x : Str} {C : Addr} {ps : List Str} {dvs : List V} {k : Nat} {sp : Sp} {p pos : Pos} (D : IDef0 X.prog X.w X.K X.mg X.base x C ps dvs k sp) (hr : Room (k + 1) X.A) (hg : Gl X x := by rfl) (hdb : (x == ("__debug__" : Str)) = false := by decide) :
    PE X (.Call (.Name x p) [] [] pos) (tMake C sp dvs E0 tNil) := by
  obtain ⟨f, fd, ds, g, M, F, b, hv⟩ := D
  exact pe_make0 M F hr hg g b hv pass0 hdb
section
variable {P : Program} {w : World} {K : PySem.W.Frag} {mg : Str → Option Value} {base : Heap}
theorem scRuI : FnScope ["self", "cap"] ["self", "cap"] (defScope sRuI) := ⟨rfl, rfl, rfl, by decide +kernel, rfl, by decide +kernel, by decide +kernel⟩
def spRuI (K : PySem.W.Frag) (C : Addr) : Sp := fun vs H Q _ => ∃ x dx H0, vs = [.ref x, .non] ∧ H x = some (.ins C dx []) ∧ Same H0 H ∧ H0 x = none ∧ ∀ H' l, RunnerAt K C H0 H' x 0 [] l [] [] 1 0 → Q .non H'
theorem ok_ruI {C f : Addr} {fd : FuncData} (F : FunD K "__init__" "Runner.__init__" (defArgs sRuI) (defBody sRuI) (defScope sRuI) [.non] [] f fd) (T : TxR K mg C) : FnOk P w K mg base CX0 1 f fd ["self", "cap"] (spRuI K C) := by
  refine F.ok scRuI (fun vs H Q E h => ?_) (fun cdv A outer s H vs Q E hr h => ⟨_, PSs.nox (pss_cons (ps_fld (pv 0) (pv 1) rfl) (pss_cons (ps_fld (pv 0) pe_int rfl) (pss_cons (ps_fld (pv 0) (pe_lst pa_nil) rfl) (pss_cons (ps_fld (pv 0) pe_dnewK rfl) (pss_cons (ps_fld (pv 0) (pe_lst pa_nil) rfl) (pss_cons (ps_fld (pv 0) (pe_tup pa_nil) rfl) (pss_one (ps_fld (pv 0) (pe_lst (pa_cons (pe_ifExp (pt_cmpR op_isN (pv 1) pe_non (nomark _)) pe_str (pe_joined (.cons pe_str (.cons (pe_fmt (pv 1)) .nil)))) pa_nil)) rfl)))))))), ?_⟩)
  · obtain ⟨_, _, _, rfl, _⟩ := h
    rfl
  · obtain ⟨x, dx, H0, rfl, hx, S0, zx, k⟩ := h
    refine ⟨_, rfl, _, rfl, x, C, dx, [], rfl, hx, T.cl, T.n1, (by show 0 < 1000; decide), ?_⟩
    have e1 : putF "cap" V.non [] = [(("cap" : Str), V.non)] := rfl
    rw [e1]
    have S1 := same_upd (o := .ins C dx [(("cap" : Str), V.non)]) S0 zx
    have hx1 : upd H x (.ins C dx [(("cap" : Str), V.non)]) x = some (.ins C dx [(("cap" : Str), V.non)]) := upd_same
    generalize upd H x (.ins C dx [(("cap" : Str), V.non)]) = H1 at *
    refine ⟨_, rfl, x, C, dx, _, rfl, hx1, T.cl, T.n2, (by show 1 < 1000; decide), ?_⟩
    have e2 : putF "now" (V.int 0) [(("cap" : Str), V.non)] = [(("cap" : Str), V.non), (("now" : Str), V.int 0)] := rfl
    rw [e2]
    have S2 := same_upd (o := .ins C dx [(("cap" : Str), V.non), (("now" : Str), V.int 0)]) S1 zx
    have hx2 : upd H1 x (.ins C dx [(("cap" : Str), V.non), (("now" : Str), V.int 0)]) x = some (.ins C dx [(("cap" : Str), V.non), (("now" : Str), V.int 0)]) := upd_same
    generalize upd H1 x (.ins C dx [(("cap" : Str), V.non), (("now" : Str), V.int 0)]) = H2 at *
    refine ⟨Nat.zero_le _, fun lr nr => ?_⟩
    have Sr := same_new (o := .lst []) nr
    have zr := S2.free nr
    have hr : upd H2 lr (.lst []) lr = some (.lst []) := upd_same
    have nxr : x ≠ lr := ne_of_none hx2 nr
    have hx2 := Sr _ _ hx2
    have S2 := S2.trans Sr
    generalize upd H2 lr (.lst []) = H3 at *
    refine ⟨_, rfl, x, C, dx, _, rfl, hx2, T.cl, T.n3, (by show 2 < 1000; decide), ?_⟩
    have e3 : putF "rows" (V.ref lr) [(("cap" : Str), V.non), (("now" : Str), V.int 0)] = [(("cap" : Str), V.non), (("now" : Str), V.int 0), (("rows" : Str), V.ref lr)] := rfl
    rw [e3]
    generalize hf3 : [(("cap" : Str), V.non), (("now" : Str), V.int 0), (("rows" : Str), V.ref lr)] = f3 at *
    have S4 := same_upd (o := .ins C dx f3) S2 zx
    have hx4 : upd H3 x (.ins C dx f3) x = some (.ins C dx f3) := upd_same
    have hr4 : upd H3 x (.ins C dx f3) lr = some (.lst []) := by rw [upd_ne nxr.symm]; exact hr
    generalize upd H3 x (.ins C dx f3) = H4 at *
    intro lw nw
    have Sw := same_new (o := .dK []) nw
    have zw := S4.free nw
    have nxw : x ≠ lw := ne_of_none hx4 nw
    have hw : upd H4 lw (.dK []) lw = some (.dK []) := upd_same
    have hx4 := Sw _ _ hx4
    have hr4 := Sw _ _ hr4
    have S4 := S4.trans Sw
    generalize upd H4 lw (.dK []) = H5 at *
    refine ⟨_, rfl, x, C, dx, _, rfl, hx4, T.cl, T.n4, (by rw [← hf3]; show 3 < 1000; decide), ?_⟩
    have e4 : putF "work_left" (V.ref lw) f3 = f3 ++ [(("work_left" : Str), V.ref lw)] := by rw [← hf3]; rfl
    rw [e4]
    generalize hf4 : f3 ++ [(("work_left" : Str), V.ref lw)] = f4 at *
    have S5 := same_upd (o := .ins C dx f4) S4 zx
    have hx5 : upd H5 x (.ins C dx f4) x = some (.ins C dx f4) := upd_same
    have hr5 : upd H5 x (.ins C dx f4) lr = some (.lst []) := by rw [upd_ne nxr.symm]; exact hr4
    have hw5 : upd H5 x (.ins C dx f4) lw = some (.dK []) := by rw [upd_ne nxw.symm]; exact hw
    generalize upd H5 x (.ins C dx f4) = H6 at *
    refine ⟨Nat.zero_le _, fun lp np => ?_⟩
    have Sp := same_new (o := .lst []) np
    have zp := S5.free np
    have nxp : x ≠ lp := ne_of_none hx5 np
    have nrp : lr ≠ lp := ne_of_none hr5 np
    have hp : upd H6 lp (.lst []) lp = some (.lst []) := upd_same
    have hx5 := Sp _ _ hx5
    have hr5 := Sp _ _ hr5
    have hw5 := Sp _ _ hw5
    have S5 := S5.trans Sp
    generalize upd H6 lp (.lst []) = H7 at *
    refine ⟨_, rfl, x, C, dx, _, rfl, hx5, T.cl, T.n5, (by rw [← hf4, ← hf3]; show 4 < 1000; decide), ?_⟩
    have e5 : putF "pieces" (V.ref lp) f4 = f4 ++ [(("pieces" : Str), V.ref lp)] := by rw [← hf4, ← hf3]; rfl
    rw [e5]
    generalize hf5 : f4 ++ [(("pieces" : Str), V.ref lp)] = f5 at *
    have S6 := same_upd (o := .ins C dx f5) S5 zx
    have hx6 : upd H7 x (.ins C dx f5) x = some (.ins C dx f5) := upd_same
    have hr6 : upd H7 x (.ins C dx f5) lr = some (.lst []) := by rw [upd_ne nxr.symm]; exact hr5
    have hw6 : upd H7 x (.ins C dx f5) lw = some (.dK []) := by rw [upd_ne nxw.symm]; exact hw5
    have hp6 : upd H7 x (.ins C dx f5) lp = some (.lst []) := by rw [upd_ne nxp.symm]; exact hp
    generalize upd H7 x (.ins C dx f5) = H8 at *
    refine ⟨Nat.zero_le _, fun la na => ?_⟩
    have Sa := same_new (o := .tup []) na
    have nxa : x ≠ la := ne_of_none hx6 na
    have ha : upd H8 la (.tup []) la = some (.tup []) := upd_same
    have hx6 := Sa _ _ hx6
    have hr6 := Sa _ _ hr6
    have hw6 := Sa _ _ hw6
    have hp6 := Sa _ _ hp6
    have S6 := S6.trans Sa
    generalize upd H8 la (.tup []) = H9 at *
    refine ⟨_, rfl, x, C, dx, _, rfl, hx6, T.cl, T.n6, (by rw [← hf5, ← hf4, ← hf3]; show 5 < 1000; decide), ?_⟩
    have e6 : putF "ahead" (V.ref la) f5 = f5 ++ [(("ahead" : Str), V.ref la)] := by rw [← hf5, ← hf4, ← hf3]; rfl
    rw [e6]
    generalize hf6 : f5 ++ [(("ahead" : Str), V.ref la)] = f6 at *
    have S7 := same_upd (o := .ins C dx f6) S6 zx
    have hx7 : upd H9 x (.ins C dx f6) x = some (.ins C dx f6) := upd_same
    have hr7 : upd H9 x (.ins C dx f6) lr = some (.lst []) := by rw [upd_ne nxr.symm]; exact hr6
    have hw7 : upd H9 x (.ins C dx f6) lw = some (.dK []) := by rw [upd_ne nxw.symm]; exact hw6
    have hp7 : upd H9 x (.ins C dx f6) lp = some (.lst []) := by rw [upd_ne nxp.symm]; exact hp6
    have ha7 : upd H9 x (.ins C dx f6) la = some (.tup []) := by rw [upd_ne nxa.symm]; exact ha
    generalize upd H9 x (.ins C dx f6) = H10 at *
    refine ⟨_, rfl, rfl, _, rfl, ite2 (fun _ => ?_) (fun c => absurd (decide_eq_true rfl) c)⟩
    refine ⟨(by show 1 ≤ sizeLine; decide), fun lh nh => ?_⟩
    generalize hs0 : ([V.str "runner"] : List V) = hist0 at *
    have Sh := same_new (o := .lst hist0) nh
    have zh := S7.free nh
    have nxh : x ≠ lh := ne_of_none hx7 nh
    have nrh : lr ≠ lh := ne_of_none hr7 nh
    have nph : lp ≠ lh := ne_of_none hp7 nh
    have hh : upd H10 lh (.lst hist0) lh = some (.lst hist0) := upd_same
    have hx7 := Sh _ _ hx7
    have hr7 := Sh _ _ hr7
    have hw7 := Sh _ _ hw7
    have hp7 := Sh _ _ hp7
    have ha7 := Sh _ _ ha7
    have S7 := S7.trans Sh
    generalize upd H10 lh (.lst hist0) = H11 at *
    refine ⟨_, rfl, x, C, dx, _, rfl, hx7, T.cl, T.n7, (by rw [← hf6, ← hf5, ← hf4, ← hf3]; show 6 < 1000; decide), ?_⟩
    have e7 : putF "history" (V.ref lh) f6 = [(("cap" : Str), V.non), (("now" : Str), V.int 0), (("rows" : Str), V.ref lr), (("work_left" : Str), V.ref lw), (("pieces" : Str), V.ref lp), (("ahead" : Str), V.ref la), (("history" : Str), V.ref lh)] := by rw [← hf6, ← hf5, ← hf4, ← hf3]; rfl
    rw [e7]
    refine k _ (fun _ => 0) ⟨dx, _, lr, lw, lp, la, lh, [], [], [], hist0, ⟨upd_same, (by show 7 ≤ 20; decide), rfl, rfl, rfl, rfl, rfl, rfl, rfl, rfl, rfl, rfl, rfl, rfl, ?_, ⟨[], ?_⟩, ?_, ?_, ?_, nrp, nrh, nph, same_upd S7 zx, zx, zr, zw, zp, zh⟩, .nil, ?_, .nil, .nil, ?_, ?_⟩
    · rw [upd_ne nxr.symm]; exact hr7
    · rw [upd_ne nxw.symm]; exact hw7
    · rw [upd_ne nxp.symm]; exact hp7
    · exact SqT.of (by rw [upd_ne nxa.symm]; exact ha7)
    · rw [upd_ne nxh.symm]; exact hh
    · exact ⟨[], by rw [upd_ne nxw.symm]; exact hw7, by simp, fun _ h => absurd h (by simp), fun _ _ => rfl⟩
    · rw [← hs0]; exact Nat.le_refl _
    · exact ⟨by decide, by decide, fun _ h => absurd h (by simp), fun _ h => absurd h (by simp), by simp, fun _ h => absurd h (by simp), fun _ h => absurd h (by simp), by simp, by simp, by decide⟩
end
end SW

set_option Elab.async false
set_option linter.all false
set_option maxRecDepth 100000
set_option maxHeartbeats 4000000
set_option exponentiation.threshold 300
namespace SW
open PySem PySem.Spec PyProof.Rows L2
theorem RNice.dlt {D n : Nat} {J : List (Jb Str)} {l : Str → Rat} {pcs ahead : List (Pc Str)} (N : RNice D J l pcs ahead n) : D < 2 ^ 600 := by
  have h1 : (2 ^ 84) ^ J.length ≤ (2 ^ 84) ^ 6 := Nat.pow_le_pow_right (by decide) N.few
  have h2 : ((2 : Nat) ^ 84) ^ 6 = 2 ^ 504 := by rw [← Nat.pow_mul]
  rw [h2] at h1
  exact Nat.lt_of_le_of_lt (Nat.le_trans N.d1 h1) (Nat.pow_lt_pow_right (by decide) (by decide))
theorem p600 {D k : Nat} (h : D < 2 ^ 600) (hk : 600 ≤ k) : D < 2 ^ k := Nat.lt_of_lt_of_le h (Nat.pow_le_pow_right (by decide) hk)
/-- where a named stretch comes from -/
theorem str_from {ps : List (Pc Str)} {b e : Rat} {q : Pc (Option Str)} {n : Str} (hq : q ∈ stretches ps b e) (hn : q.nm = some n) : ∃ p ∈ ps, p.nm = n ∧ q.sp = p.sp ∧ q.st = rmax p.st b ∧ q.en = rmin p.en e ∧ q.st < q.en := by
  have h : (⟨q.st, q.en, n, q.sp⟩ : Pc Str) ∈ (stretches ps b e).filterMap named := List.mem_filterMap.mpr ⟨q, hq, by unfold named; rw [hn]⟩
  rw [str_named] at h
  obtain ⟨p, hp, hc⟩ := List.mem_filterMap.mp h
  unfold clip at hc
  by_cases c : rmax p.st b < rmin p.en e
  · rw [if_pos c] at hc
    have := Option.some.inj hc
    refine ⟨p, hp, (congrArg Pc.nm this), (congrArg Pc.sp this).symm, (congrArg Pc.st this).symm, (congrArg Pc.en this).symm, ?_⟩
    have e1 := congrArg Pc.st this
    have e2 := congrArg Pc.en this
    simp only at e1 e2
    rw [← e1, ← e2]
    exact c
  · rw [if_neg c] at hc
    cases hc
theorem sm_sp {D : Nat} {J : List (Jb Str)} {p : Pc Str} (h0 : 0 < D) (hD : D < 2 ^ 600) (h : Nc D J p) : Sm p.sp := sm_d h0 (p600 hD (by decide)) h.sp (by have := h.s0; have := huge_ge; grind) (by have := h.s1; have := huge_ge; grind)
/-- a clipped piece between whole times -/
theorem nc_clip {D : Nat} {J : List (Jb Str)} {p : Pc Str} (h0 : 0 < D) (hD : D < 2 ^ 600) (h : Nc D J p) {b e : Nat} (he : e ≤ 1048576) {st en : Rat} (h1 : st = rmax p.st (b : Rat)) (h2 : en = rmin p.en (e : Rat)) (h3 : st < en) :
    Nc D J ⟨st, en, p.nm, p.sp⟩ ∧ Sm (en - st) ∧ Sm (p.sp * (en - st)) ∧ Dv D (p.sp * (en - st)) ∧ 0 ≤ p.sp * (en - st) := by
  have hdi : ∀ m : Nat, Dv D (p.sp * (m : Rat)) := fun m => by
    have := h.sp.mulz (m : Int)
    rw [Rat.intCast_natCast] at this
    exact this
  have smn : ∀ m : Nat, m ≤ 1048576 → Sm (m : Rat) := fun m hm => by
    have := sm_int (z := (m : Int)) (by rw [Int.natAbs_natCast]; exact Nat.lt_of_le_of_lt hm (by
      have : (1048576 : Nat) = 2 ^ 20 := by decide
      rw [this]
      exact Nat.pow_lt_pow_right (by decide) (by decide)))
    rw [Rat.intCast_natCast] at this
    exact this
  have b0 : (0 : Rat) ≤ (b : Rat) := Rat.natCast_nonneg
  have e1 : (e : Rat) ≤ ((1048576 : Nat) : Rat) := Rat.natCast_le_natCast.mpr he
  have e2 : ((1048576 : Nat) : Rat) = 1048576 := rfl
  rw [e2] at e1
  have hb : (b : Rat) ≤ st := by rw [h1]; unfold rmax; grind
  have hen : en ≤ (e : Rat) := by rw [h2]; unfold rmin; grind
  have hble : b ≤ 1048576 := by
    have : (b : Rat) ≤ ((1048576 : Nat) : Rat) := by rw [e2]; grind
    exact Rat.natCast_le_natCast.mp this
  have d1 : Dv D (p.sp * st) := by
    rw [h1]
    unfold rmax
    split
    · exact hdi b
    · exact h.st
  have d2 : Dv D (p.sp * en) := by
    rw [h2]
    unfold rmin
    split
    · first | exact hdi e | exact h.en
    · first | exact h.en | exact hdi e
  have d3 : Dv D (p.sp * (en - st)) := by
    have e : p.sp * (en - st) = p.sp * en - p.sp * st := by grind
    rw [e]
    exact d2.sub d1
  have n3 : 0 ≤ p.sp * (en - st) := Rat.mul_nonneg (Rat.le_of_lt h.s0) (by grind)
  have g := good_of d3 (Rat.le_of_lt h.s0) h.s1 (by grind) (by grind)
  have hsb : p.sp ≤ huge := by have := huge_ge; have := h.s1; grind
  refine ⟨⟨h.sp, d1, d2, h.s0, h.s1, ⟨by rw [h1]; exact rmax_sm h.sm.1 (smn b hble), by rw [h2]; exact rmin_sm h.sm.2 (smn e he)⟩, h.nm⟩, g.sm h0 (p600 hD (by decide)) h.s0 h.sp hsb, sm_d h0 (p600 hD (by decide)) d3 (by have := huge_ge; grind) g.hi, d3, n3⟩
theorem ls_take_le {α : Type} {f : α → Rat} (h : ∀ a, 0 ≤ f a) : ∀ (A : List α) (i : Nat), 0 ≤ ls f (A.take i) ∧ ls f (A.take i) ≤ ls f A
  | A, 0 => by
    have := ls_nonneg (f := f) (A := A) fun a _ => h a
    simp only [List.take_zero, ls]
    exact ⟨Rat.le_refl, this⟩
  | [], i + 1 => by simp [ls]
  | a :: r, i + 1 => by
    obtain ⟨h1, h2⟩ := ls_take_le h r i
    have := h a
    simp only [List.take_succ_cons, ls]
    constructor <;> grind
theorem ls_take_le' {α : Type} {f : α → Rat} : ∀ (A : List α) (i : Nat), (∀ a ∈ A, 0 ≤ f a) → 0 ≤ ls f (A.take i) ∧ ls f (A.take i) ≤ ls f A
  | A, 0, h => by
    have := ls_nonneg (f := f) (A := A) h
    simp only [List.take_zero, ls]
    exact ⟨Rat.le_refl, this⟩
  | [], i + 1, _ => by simp [ls]
  | a :: r, i + 1, h => by
    obtain ⟨h1, h2⟩ := ls_take_le' r i fun b hb => h b (List.mem_cons_of_mem _ hb)
    have := h a List.mem_cons_self
    simp only [List.take_succ_cons, ls]
    constructor <;> grind
/-- what advance reckons with -/
theorem adv_pure {J : List (Jb Str)} {now T : Nat} {l : Str → Rat} {pcs ahead : List (Pc Str)} {D n : Nat} (R : RunSt J now l pcs ahead) (hT : now ≤ T) (hT2 : T ≤ 10000) (N : RNice D J l pcs ahead n) :
    (∀ q ∈ stretches ahead now T, ∀ nm, q.nm = some nm → (Sm q.st ∧ Sm q.en ∧ Sm q.sp ∧ Sm (q.en - q.st) ∧ Sm (q.sp * (q.en - q.st))) ∧ Nc D J ⟨q.st, q.en, nm, q.sp⟩) ∧
    (∀ i, ∀ j ∈ J, Dv D (((stretches ahead now T).take i).foldl ltStep l j.nm) ∧ 0 ≤ ((stretches ahead now T).take i).foldl ltStep l j.nm ∧ ((stretches ahead now T).take i).foldl ltStep l j.nm ≤ 100000) ∧
    (stretches ahead now T).foldl ltStep l = lfAdv l ahead T ∧ (stretches ahead now T).filterMap named = clipL now T ahead := by
  obtain ⟨p, Cr⟩ := R.course
  have hD := N.dlt
  have one : ∀ q ∈ stretches ahead now T, ∀ nm, q.nm = some nm → Nc D J ⟨q.st, q.en, nm, q.sp⟩ ∧ Sm (q.en - q.st) ∧ Sm (q.sp * (q.en - q.st)) ∧ Dv D (q.sp * (q.en - q.st)) ∧ 0 ≤ q.sp * (q.en - q.st) := fun q hq nm hn => by
    obtain ⟨p, hp, e1, e2, e3, e4, e5⟩ := str_from hq hn
    have := nc_clip N.d0 hD (N.ah p hp) (by omega) e3 e4 e5
    rw [← e2, e1] at this
    exact this
  have tot : (stretches ahead now T).foldl ltStep l = lfAdv l ahead T := by
    funext n
    rw [lt_fold, lfAdv_eq (fun q hq => ⟨(Cr.from_ q hq).1, (Cr.from_ q hq).2.1⟩)]
    rw [ls_named (g := fun q => if q.nm = n then q.sp * (q.en - q.st) else 0) (fun q _ e => by rw [e, if_neg (by simp)]) (fun q _ n' e => by rw [e]; simp), str_named]
    rfl
  refine ⟨fun q hq nm hn => ?_, fun i j hj => ?_, tot, str_named _ _ _⟩
  · obtain ⟨h1, h2, h3, _⟩ := one q hq nm hn
    exact ⟨⟨h1.sm.1, h1.sm.2, sm_sp N.d0 hD h1, h2, h3⟩, h1⟩
  · have hterm : ∀ q ∈ stretches ahead now T, Dv D (if q.nm = some j.nm then q.sp * (q.en - q.st) else 0) ∧ 0 ≤ (if q.nm = some j.nm then q.sp * (q.en - q.st) else 0) := fun q hq => by
      split
      · rename_i e
        exact (one q hq _ e).2.2.2
      · exact ⟨Dv.zero D, Rat.le_refl⟩
    have hfin := (run_advance R hT).rest j hj
    rw [← tot, lt_fold] at hfin
    obtain ⟨t1, t2⟩ := ls_take_le' (f := fun q : Pc (Option Str) => if q.nm = some j.nm then q.sp * (q.en - q.st) else 0) (stretches ahead now T) i fun q hq => (hterm q hq).2
    have hl := N.lb j hj
    have hf := hfin.1
    rw [lt_fold]
    refine ⟨(N.lf j hj).sub (Dv.ls fun q hq => (hterm q (List.mem_of_mem_take hq)).1), by grind, by grind⟩
end SW

set_option Elab.async false
set_option linter.all false
set_option maxRecDepth 100000
set_option maxHeartbeats 4000000
set_option exponentiation.threshold 300
namespace SW
open PySem PySem.Spec PyProof.Rows L2
theorem num_len {i : Int} (h : i.natAbs ≤ 100000) : i.natAbs.log2 < 1920 ∧ (toString i : Str).length ≤ 1921 := by
  have h1 : i.natAbs.log2 < 1920 := by
    by_cases e : i.natAbs = 0
    · rw [e]
      decide
    · have h2 : i.natAbs < 2 ^ 17 := Nat.lt_of_le_of_lt h (by decide)
      have := (Nat.log2_lt e).mpr h2
      omega
  exact ⟨h1, int_text_len_1921 h1⟩
theorem fit3 {a b : Str} {m n : Nat} (ha : a.length ≤ m) (hb : b.length ≤ n) : (a ++ b).length ≤ m + n := by
  rw [Str.length_append]
  omega
section
variable {P : Program} {w : World} {K : PySem.W.Frag} {mg : Str → Option Value} {base : Heap}
theorem scRuA : FnScope ["self", "time", "last", "piece", "job", "one"] ["self", "time"] (defScope sRuA) := ⟨rfl, rfl, rfl, by decide +kernel, rfl, by decide +kernel, by decide +kernel⟩
structure RunIn (J : List (Jb Str)) : Prop where
  du : ∀ j ∈ J, 0 ≤ j.du ∧ j.du ≤ 10000
def spRuA (K : PySem.W.Frag) (C : Addr) : Sp := fun vs H Q _ => ∃ x T H0 now J l pcs ahead D n, vs = [.ref x, .int ((T : Nat) : Int)] ∧ RunnerAt K C H0 H x now J l pcs ahead D n ∧ RunSt J now l pcs ahead ∧ now ≤ T ∧ T ≤ 10000 ∧ RunIn J ∧ n + 1 ≤ 100 ∧
  ∀ H' ahead', RunnerAt K C H0 H' x T J (lfAdv l ahead T) (pcs ++ clipL now T ahead) ahead' D (n + 1) → Q .non H'
theorem ok_ruA {C : Addr} (M : TM K C "advance" "Runner.advance" sRuA ["self", "time"]) (T : TxR K mg C) (gT : mg "tuple" = none) (gMax : mg "max" = none) (R : Def P w K mg base "ratio" ["top", "bottom"] [.int 1] 1 (spRatio K)) (S : Def P w K mg base "stretches" ["plan", "begin", "end"] [] 3 (spStr K))
    (Mi : Def P w K mg base "minus" ["a", "b"] [] 2 (spR2 K (· - ·) C2)) (W : Def P w K mg base "work_of" ["piece"] [] 4 (spWork (Option Str) nV K)) : MDef P w K mg base C "advance" ["self", "time"] 5 (spRuA K C) := by
  refine M.ok scRuA (fun vs H Q E h => ?_) (fun f cdv A outer s_ H vs Q E hr h => ⟨_, (pss_cons (ps_set (i := 2) scRuA.nd rfl (.inl rfl) (pe_def R (hr.mono (by decide)) (pa_cons (pe_callB (cr_max rfl) (by rfl) gMax (by decide +kernel) (pa_cons (pe_op op_cat (pe_lst (pa_cons (pv 1) pa_nil)) (pe_lc (own := [("job", 4)]) (te := (tOp (rIxT K) (tVar 4) (tC (.int 2)))) rfl scRuA.nd (pi_list (pe_fld (pv 0) rfl)) (blkOk_by (own := [("job", 4)]) (N := ["self", "time", "last", "piece", "job", "one"]) (sc := defScope sRuA) (by decide +kernel)) (fun _ _ _ _ _ => by exact (pg_name (i := 4) scRuA.nd rfl (.inl rfl))) (fun _ _ _ _ _ => by exact pts_nil) (fun _ _ _ _ _ => by exact (pe_ix ix_tup (pv 4) pe_int (fun _ _ => rfl))))) pa_nil)) pa_nil))) (pss_cons (ps_for PassesOwn.never rfl (pi_list (pe_def S (hr.mono (by decide)) (pa_cons (pe_fld (pv 0) rfl) (pa_cons (pe_def R (hr.mono (by decide)) (pa_cons (pe_fld (pv 0) rfl) pa_nil)) (pa_cons (pe_def R (hr.mono (by decide)) (pa_cons (pv 1) pa_nil)) pa_nil))))) (pg_name (i := 3) scRuA.nd rfl (.inl rfl)) (pss_one (ps_if (pt_cmpR op_notN (pe_ix ix_tup (pv 3) pe_int (fun _ _ => rfl)) pe_non (nomark _)) (pss_cons (ps_expr (pe_bm PySem.F.plainAttrs_list PySem.F.slot_list_append PySem.F.type_list_append mt_append (pe_fld (pv 0) rfl) (pa_cons (pv 3) pa_nil))) (pss_one (ps_dput (Room.u1 hr) (pe_fld (pv 0) rfl) (pe_ix ix_tup (pv 3) pe_int (fun _ _ => rfl)) (pe_def Mi (hr.mono (by decide)) (pa_cons (pe_dget (Room.u1 hr) (pe_fld (pv 0) rfl) (pe_ix ix_tup (pv 3) pe_int (fun _ _ => rfl)) (fun _ _ => rfl)) (pa_cons (pe_def W (hr.mono (by decide)) (pa_cons (pv 3) pa_nil)) pa_nil))) (by rfl)))) pss_nil))) (pss_cons (ps_fld (pv 0) (pe_callTy call_tuple_of (by rfl) gT (by decide +kernel) (pa_cons (pe_lc (own := [("one", 5)]) (tt := tTest (tOp (fun x y H Q => y = .non ∧ Q (.bl (!decide (x = .non))) H) (tOp (rIxT K) (tVar 5) (tC (.int 2))) (tC .non))) rfl scRuA.nd (pi_list (pe_def S (hr.mono (by decide)) (pa_cons (pe_fld (pv 0) rfl) (pa_cons (pe_def R (hr.mono (by decide)) (pa_cons (pv 1) pa_nil)) (pa_cons (pv 2) pa_nil))))) (blkOk_by (own := [("one", 5)]) (N := ["self", "time", "last", "piece", "job", "one"]) (sc := defScope sRuA) (by decide +kernel)) (fun _ _ _ _ _ => by exact (pg_name (i := 5) scRuA.nd rfl (.inl rfl))) (fun _ _ _ _ _ => by exact (pts_one (pt_cmpR op_notN (pe_ix ix_tup (pv 5) pe_int (fun _ _ => rfl)) pe_non (nomark _)))) (fun _ _ _ _ _ => by exact (pv 5))) pa_nil)) rfl) (pss_cons (ps_fld (pv 0) (pv 1) rfl) (pss_one (ps_expr (pe_bm PySem.F.plainAttrs_list PySem.F.slot_list_append PySem.F.type_list_append mt_append (pe_fld (pv 0) rfl) (pa_cons (pe_joined (.cons pe_str (.cons (pe_fmt (pv 1)) .nil))) pa_nil)))))))), ?_⟩)
  · obtain ⟨_, _, _, _, _, _, _, _, _, _, rfl, _⟩ := h
    rfl
  · obtain ⟨x, Tm, H0, now, J, l, pcs, ahead, D, n, rfl, ⟨dx, fs, lr, lw, lp, la, lh, ur, up, ua, uh, RR, hJ, hL, hP, hA, hn, N⟩, RS, hT, hT2, hin, hn1, k⟩ := h
    obtain ⟨ap1, ap2, ap3, ap4⟩ := adv_pure RS hT hT2 N
    have hdlt := N.dlt
    have hfew := N.few
    -- last
    refine ⟨_, rfl, (by show 1 ≤ sizeLine; decide), fun p0 n0 => ?_⟩
    have S0 := same_new (o := .lst [V.int (Tm : Int)]) n0
    have h0 : upd H p0 (.lst [V.int (Tm : Int)]) p0 = some (.lst [V.int (Tm : Int)]) := upd_same
    have R0 := RR.same S0
    have hJ0 := jis_tup (Tup.same S0) hJ
    generalize upd H p0 (.lst [V.int (Tm : Int)]) = H1 at *
    refine ⟨_, rfl, x, C, dx, fs, _, rfl, R0.hx, T.cl, T.n3, R0.fr, lr, rfl, ⟨_, SqL.of R0.hr⟩, fun Dm nDm => ?_⟩
    refine lc_list (K := K) (a := lr) (xs := ur) (fun i H5 => H5 Dm = some (.lst (((J.take i).map (·.du)).map V.int)) ∧ Same H1 H5) ⟨upd_same, same_new nDm⟩ (fun i H5 _ ⟨_, e⟩ => e.seq (SqL.of R0.hr)) ?_ ?_
    · rintro i y H5 hi ⟨hDm, S5⟩
      obtain ⟨j, hj, tr, zr, rfl, htr, hzr⟩ := pair_get hJ0 hi
      obtain ⟨hj1, hj2⟩ := List.getElem?_eq_some_iff.mp hj
      refine ⟨wp (wp0 _ _), ?_⟩
      refine tyes ?_
      refine iteT ?_
      refine ⟨_, rfl, tr, _, _, _, rfl, rfl, sqT_same S5 htr, rfl, _, hDm, small (by rw [List.length_map, List.length_map, List.length_take]; omega), ?_, ?_⟩
      · rw [upd_same, List.take_succ_eq_append_getElem hj1, hj2, List.map_append, List.map_append]
        rfl
      · exact same_upd S5 nDm
    · rintro H5 ⟨hDm, S5⟩
      rw [pair_len hJ0, List.take_length] at hDm
      refine ⟨p0, Dm, _, _, rfl, rfl, S5 _ _ h0, hDm, small' (by simp; omega), fun pc nc => ?_⟩
      have S6 := same_new (o := .lst ([V.int (Tm : Int)] ++ (J.map (·.du)).map V.int)) nc
      have hpc : upd H5 pc (.lst ([V.int (Tm : Int)] ++ (J.map (·.du)).map V.int)) pc = some (.lst (((Tm : Int) :: J.map (·.du)).map V.int)) := upd_same
      have R6 := (R0.same S5).same S6
      have S06 := (S0.trans S5).trans S6
      generalize upd H5 pc (.lst ([V.int (Tm : Int)] ++ (J.map (·.du)).map V.int)) = H6 at *
      refine ⟨pc, _, rfl, SqL.of hpc, by simp, fun m hm1 hm2 => ?_⟩
      have hm : 0 ≤ m ∧ m ≤ 10000 := by
        rcases List.mem_cons.mp hm1 with rfl | h
        · omega
        · obtain ⟨j, hj, rfl⟩ := List.mem_map.mp h
          exact hin.du j hj
      refine ⟨m, 1, rfl, by decide, by decide, fun vm H7 S7 hvm => ?_⟩
      rw [rat_one] at hvm
      have R7 := R6.same S7
      have S07 := S06.trans S7
      have smI : ∀ z : Int, 0 ≤ z → z ≤ 10000 → Sm (z : Rat) := fun z h1 h2 => sm_int (Nat.lt_of_le_of_lt (show z.natAbs ≤ 10000 by omega) (Nat.lt_of_lt_of_le (show 10000 < 2 ^ 14 by decide) (Nat.pow_le_pow_right (by decide) (by decide))))
      -- the stretches until the time
      refine ⟨_, rfl, x, C, dx, fs, _, rfl, R7.hx, T.cl, T.n6, R7.fa, ?_⟩
      refine ⟨_, rfl, x, C, dx, fs, _, rfl, R7.hx, T.cl, T.n2, R7.fn, (now : Int), 1, rfl, by decide, by decide, fun vnow H8 S8 hvnow => ?_⟩
      rw [rat_one, Rat.intCast_natCast] at hvnow
      refine ⟨_, rfl, (Tm : Int), 1, rfl, by decide, by decide, fun vT H9 S9 hvT => ?_⟩
      rw [rat_one, Rat.intCast_natCast] at hvT
      have R9 := (R7.same S8).same S9
      have S09 := (S07.trans S8).trans S9
      have smT : Sm ((Tm : Nat) : Rat) := by rw [← Rat.intCast_natCast]; exact smI _ (by omega) (by omega)
      have smN : Sm ((now : Nat) : Rat) := by rw [← Rat.intCast_natCast]; exact smI _ (by omega) (by omega)
      refine ⟨la, ua, ahead, vnow, vT, now, Tm, rfl, R9.ha, pcs_tup (Tup.same S09) hA, fun p hp => (N.ah p hp).sm, hvnow.same S9, hvT, smN, smT, Nat.le_trans N.al (by decide), fun r H10 ws S10 nr10 hr10 hws => ?_⟩
      have R10 := R9.same S10
      have S010 := S09.trans S10
      have hvm10 := ((hvm.same S8).same S9).same S10
      have hnrp : r ≠ lp := fun e => by
        rw [e, R9.hp] at nr10
        cases nr10
      have hnrw : r ≠ lw := fun e => by
        obtain ⟨kv, q⟩ := R9.hw
        rw [e, q] at nr10
        cases nr10
      have hslen := str_len (now : Rat) (Tm : Rat) ahead ([], (now : Rat))
      have hslen2 : (stretches ahead now Tm).length ≤ 2 * ahead.length + 1 := by
        unfold stretches strEnd
        simp only [List.length_nil] at hslen
        split
        · rw [List.length_append]
          simp only [List.length_cons, List.length_nil]
          omega
        · omega
      have hal := N.al
      have hpl := N.pl
      have hnb := N.nb
      generalize hqs : stretches ahead now Tm = qs at *
      refine ⟨r, rfl, ⟨_, SqL.of hr10⟩, for_list (K := K) (a := r) (xs := ws) (fun i σ H' => ∃ o3 up', σ = [some (.ref x), some (.int (Tm : Int)), some vm, o3, none, none] ∧ RA K C H0 H' x dx fs lr lw lp la lh ur up' ua uh now ∧ Tup K H10 H' ∧ H' r = some (.lst ws) ∧ LeftD K H' lw J ((qs.take i).foldl ltStep l) ∧ Paired (PcV K H') up' (pcs ++ (qs.take i).filterMap named))
        ⟨none, up, rfl, R10, Tup.refl _ _, hr10, (hL.same S010), by simpa using pcs_tup (Tup.same S010) hP⟩ (fun i σ H' _ ⟨_, _, _, _, _, e, _⟩ => SqL.of e) ?_ ?_⟩
      · rintro i y σ H11 hi ⟨o3, up', rfl, R11, T11, hr11, hL11, hP11⟩
        obtain ⟨q, hq, a, vst, ven, vsp, rfl, ha, h1, h2, h4⟩ := pair_get hws hi
        obtain ⟨hq1, hq2⟩ := List.getElem?_eq_some_iff.mp hq
        have hmem : q ∈ qs := List.mem_of_getElem? hq
        have hfold := fold_take ltStep l hq
        have hfm : (qs.take (i + 1)).filterMap named = (qs.take i).filterMap named ++ [q].filterMap named := by rw [List.take_succ_eq_append_getElem hq1, hq2, List.filterMap_append]
        have ha11 := T11 _ _ ha
        refine ⟨_, rfl, a, _, _, _, rfl, rfl, ha11, rfl, rfl, _, rfl, ?_⟩
        cases hnm : q.nm with
        | none =>
          refine iteF ⟨_, up', rfl, R11, T11, hr11, ?_, ?_⟩
          · have e : (qs.take (i + 1)).foldl ltStep l = (qs.take i).foldl ltStep l := by
              rw [hfold]
              funext n
              unfold ltStep
              rw [hnm, if_neg (by simp)]
            rw [e]
            exact hL11
          · have e : [q].filterMap named = [] := by
              simp only [List.filterMap_cons, List.filterMap_nil]
              unfold named
              rw [hnm]
            rw [hfm, e, List.append_nil]
            exact hP11
        | some nm =>
          obtain ⟨⟨s1, s2, s3, s4, s5⟩, hNc⟩ := ap1 q hmem nm hnm
          obtain ⟨j, hj, hjn⟩ := hNc.nm
          simp only at hjn
          subst hjn
          obtain ⟨dv, b0, b1⟩ := ap2 i j hj
          refine iteT ?_
          refine ⟨_, rfl, x, C, dx, fs, _, rfl, R11.hx, T.cl, T.n5, R11.fp, .inl ⟨rfl, _, SqL.of R11.hp⟩, _, rfl, ?_⟩
          have hul := pair_len hP11
          have hfl : ((qs.take i).filterMap named).length ≤ i := Nat.le_trans (List.length_filterMap_le _ _) (by rw [List.length_take]; omega)
          rw [List.length_append] at hul
          refine ⟨lp, up', .ref a, rfl, rfl, R11.hp, small (by omega), ?_⟩
          obtain ⟨R12, T12⟩ := R11.pieces (.ref a)
          have hr12 : (upd H11 lp (.lst (up' ++ [.ref a]))) r = some (.lst ws) := by rw [upd_ne hnrp]; exact hr11
          have hL12 : LeftD K (upd H11 lp (.lst (up' ++ [.ref a]))) lw J ((qs.take i).foldl ltStep l) := hL11.keep T12 (by rw [upd_ne R11.nwp])
          generalize upd H11 lp (.lst (up' ++ [.ref a])) = H12 at *
          have hq12 : SpV K H12 (.ref a) q := ⟨a, vst, ven, vsp, rfl, T12 _ _ ha11, (h1.tup T11).tup T12, (h2.tup T11).tup T12, (h4.tup T11).tup T12⟩
          obtain ⟨kvs, hD, hlen, hin2, hout⟩ := hL12.ex
          obtain ⟨v, q1, q2⟩ := hin2 j hj
          have ha12 := T12 _ _ ha11
          refine ⟨_, rfl, x, C, dx, fs, _, rfl, R12.hx, T.cl, T.n4, R12.fw, _, rfl, a, _, _, _, rfl, rfl, ha12, rfl, lw, v, rfl, ?_, _, rfl, .ref a, q, rfl, hq12, s1, s2, s3, s4, fun r2 H13 S13 hr2 => ?_⟩
          · rw [hnm, ← q1]
            exact DGet.k (k := .inr j.nm) hD
          refine ⟨v, r2, _, _, rfl, q2.same S13, hr2, ⟨sm_d N.d0 (p600 hdlt (by decide)) dv (by have := huge_ge; grind) (by have := huge_ge; grind), s5⟩, fun r5 H14 S14 hr5 => ?_⟩
          have S1214 := S13.trans S14
          have hD14 := S1214 _ _ hD
          have R14 := R12.same S1214
          obtain ⟨R15, T15⟩ := R14.left (putK kvs (.inr j.nm) r5)
          refine ⟨_, rfl, x, C, dx, fs, _, rfl, R14.hx, T.cl, T.n4, R14.fw, _, rfl, a, _, _, _, rfl, rfl, sqT_same S1214 ha12, rfl, lw, _, rfl, (by rw [hnm]; exact DPut.k (k := .inr j.nm) hD14 (small (by omega))), _, up' ++ [.ref a], rfl, R15, ((T11.trans T12).trans (Tup.same S1214)).trans T15, ?_, ?_, ?_⟩
          · rw [upd_ne hnrw]
            exact S1214 _ _ hr12
          · refine (hL12.same S1214).put hD14 ⟨j, hj, rfl⟩ hr5 fun j2 hj2 => ?_
            rw [hfold]
            unfold ltStep
            rw [hnm]
            by_cases e : j2.nm = j.nm
            · rw [if_pos e, if_pos (by rw [e]), e]
            · rw [if_neg e, if_neg (fun z => e (Option.some.inj z).symm)]
          · have e : [q].filterMap named = [⟨q.st, q.en, j.nm, q.sp⟩] := by
              simp only [List.filterMap_cons, List.filterMap_nil]
              unfold named
              rw [hnm]
            rw [hfm, e, ← List.append_assoc]
            have T1115 := (T12.trans (Tup.same S1214)).trans T15
            refine pair_snoc (pcs_tup T1115 hP11) ⟨a, vst, ven, vsp, rfl, ?_, (h1.tup T11).tup T1115, (h2.tup T11).tup T1115, (h4.tup T11).tup T1115⟩
            have := T1115 _ _ ha11
            rw [hnm] at this
            exact this
      · rintro σ H11 ⟨o3, up', rfl, R11, T11, hr11, hL11, hP11⟩
        rw [pair_len hws, List.take_length] at hL11 hP11
        rw [ap3] at hL11
        rw [ap4] at hP11
        have hvm11 := hvm10.tup T11
        have hA11 := pcs_tup ((Tup.same S010).trans T11) hA
        have hJ11 := jis_tup ((Tup.same S010).trans T11) hJ
        -- the course anew
        refine ⟨_, rfl, x, C, dx, fs, _, rfl, R11.hx, T.cl, T.n6, R11.fa, _, rfl, (Tm : Int), 1, rfl, by decide, by decide, fun vT2 H12 S12 hvT2 => ?_⟩
        rw [rat_one, Rat.intCast_natCast] at hvT2
        have R12 := R11.same S12
        refine ⟨_, rfl, la, ua, ahead, vT2, vm, Tm, m, rfl, R12.ha, pcs_tup (Tup.same S12) hA11, fun p hp => (N.ah p hp).sm, hvT2, hvm11.same S12, smT, smI m hm.1 hm.2, Nat.le_trans N.al (by decide), fun r2 H13 ws2 S13 nr13 hr13 hws2 => ?_⟩
        refine ⟨r2, rfl, ⟨_, SqL.of hr13⟩, fun Dn nDn => ?_⟩
        refine lc_list (K := K) (a := r2) (xs := ws2) (fun i H14 => ∃ vs, H14 Dn = some (.lst vs) ∧ Same H13 H14 ∧ Paired (PcV K H14) vs (((stretches ahead Tm m).take i).filterMap named)) ⟨[], upd_same, same_new nDn, .nil⟩ (fun i H14 _ ⟨_, _, e, _⟩ => e.seq (SqL.of hr13)) ?_ ?_
        · rintro i y H14 hi ⟨vs, hDn, S14, hvs⟩
          obtain ⟨q, hq, a, vst, ven, vsp, rfl, ha, h1, h2, h4⟩ := pair_get hws2 hi
          obtain ⟨hq1, hq2⟩ := List.getElem?_eq_some_iff.mp hq
          have hfm : ((stretches ahead Tm m).take (i + 1)).filterMap named = ((stretches ahead Tm m).take i).filterMap named ++ [q].filterMap named := by rw [List.take_succ_eq_append_getElem hq1, hq2, List.filterMap_append]
          have ha14 := sqT_same S14 ha
          refine ⟨wp (wp0 _ _), _, rfl, a, _, _, _, rfl, rfl, ha14, rfl, rfl, _, rfl, ?_⟩
          cases hnm : q.nm with
          | none =>
            refine iteF ⟨vs, hDn, S14, ?_⟩
            have e : [q].filterMap named = [] := by
              simp only [List.filterMap_cons, List.filterMap_nil]
              unfold named
              rw [hnm]
            rw [hfm, e, List.append_nil]
            exact hvs
          | some nm =>
            have hvl : vs.length ≤ 2 * ahead.length + 1 := by
              have e1 := pair_len hvs
              have e2 : (((stretches ahead Tm m).take i).filterMap named).length ≤ ((stretches ahead Tm m).filterMap named).length := by
                have : stretches ahead Tm m = (stretches ahead Tm m).take i ++ (stretches ahead Tm m).drop i := (List.take_append_drop i _).symm
                rw [this, List.filterMap_append, List.length_append]
                simp only [List.take_append_drop]
                omega
              rw [str_named] at e2
              have := List.length_filterMap_le (clip (Tm : Rat) (m : Rat)) ahead
              omega
            obtain ⟨a1, a2, a3⟩ := app_val (K := K) (v := .ref a) S14 nDn hDn
            refine iteT ⟨_, rfl, vs, hDn, small (by omega), _, a3, a1, ?_⟩
            have e : [q].filterMap named = [⟨q.st, q.en, nm, q.sp⟩] := by
              simp only [List.filterMap_cons, List.filterMap_nil]
              unfold named
              rw [hnm]
            rw [hfm, e]
            rw [hnm] at ha14
            exact pair_snoc (pcs_tup a2 hvs) ⟨a, vst, ven, vsp, rfl, a2 _ _ ha14, (h1.same S14).tup a2, (h2.same S14).tup a2, (h4.same S14).tup a2⟩
        · rintro H14 ⟨vs, hDn, S14, hvs⟩
          rw [pair_len hws2, List.take_length, str_named] at hvs
          refine ⟨Dn, vs, rfl, .inl ⟨SqL.of hDn, fun la2 nla => ?_⟩⟩
          have S15 := same_new (o := .tup vs) nla
          have hla2 : SqT K (upd H14 la2 (.tup vs)) la2 vs := SqT.of upd_same
          have hvs15 := pcs_tup (Tup.same S15) hvs
          have R15 := ((R12.same S13).same S14).same S15
          have T1115 : Tup K H11 (upd H14 la2 (.tup vs)) := Tup.same (((S12.trans S13).trans S14).trans S15)
          have hL15 := (((hL11.same S12).same S13).same S14).same S15
          generalize upd H14 la2 (.tup vs) = H15 at *
          obtain ⟨R16, T16⟩ := R15.ahead hla2
          have hfl := Nat.zero_le fs.length
          refine ⟨_, rfl, x, C, dx, fs, rfl, R15.hx, T.cl, T.n6, Nat.lt_of_le_of_lt R15.fl (by decide), ?_⟩
          have hL16 : LeftD K (upd H15 x (.ins C dx (putF "ahead" (.ref la2) fs))) lw J (lfAdv l ahead Tm) := hL15.keep T16 (by rw [upd_ne R15.nxw.symm])
          generalize upd H15 x (.ins C dx (putF "ahead" (.ref la2) fs)) = H16 at *
          obtain ⟨R17, T17⟩ := R16.time (Tm : Int)
          refine ⟨_, rfl, _, rfl, x, C, dx, _, rfl, R16.hx, T.cl, T.n2, Nat.lt_of_le_of_lt R16.fl (by decide), ?_⟩
          have hL17 : LeftD K (upd H16 x (.ins C dx (putF "now" (.int (Tm : Int)) (putF "ahead" (.ref la2) fs)))) lw J (lfAdv l ahead Tm) := hL16.keep T17 (by rw [upd_ne R16.nxw.symm])
          generalize upd H16 x (.ins C dx (putF "now" (.int (Tm : Int)) (putF "ahead" (.ref la2) fs))) = H17 at *
          obtain ⟨nl1, nl2⟩ := num_len (i := (Tm : Int)) (by omega)
          refine ⟨_, rfl, x, C, dx, _, _, rfl, R17.hx, T.cl, T.n7, R17.fh, .inl ⟨rfl, _, SqL.of R17.hh⟩, ?_⟩
          refine ⟨_, rfl, (by decide), _, rfl, .inr ⟨_, rfl, nl1, _, rfl, ?_, ?_⟩⟩
          · exact Nat.le_trans (fit3 (m := 100) (n := 1921) (by decide) nl2) (by decide)
          · have hul := hn
            refine ⟨lh, uh, _, rfl, rfl, R17.hh, small (by omega), ?_⟩
            obtain ⟨R18, T18⟩ := R17.hist (.str (Str.empty ++ Str.ofString "advance " ++ Str.ofString (toString (Tm : Int))))
            have hL18 := hL17.keep T18 (by rw [upd_ne R17.nwh])
            have T1118 := ((T1115.trans T16).trans T17).trans T18
            have T1518 := (T16.trans T17).trans T18
            have hcl := List.length_filterMap_le (clip (now : Rat) (Tm : Rat)) ahead
            have hcl2 := List.length_filterMap_le (clip (Tm : Rat) (m : Rat)) ahead
            refine k _ (clipL Tm m ahead) ⟨dx, _, lr, lw, lp, la2, lh, ur, up', vs, _, R18, jis_tup T1118 hJ11, hL18, pcs_tup T1118 hP11, pcs_tup T1518 hvs15, ?_, ⟨N.d0, N.d1, fun j hj => ?_, fun j hj => ?_, N.few, fun p hp => ?_, fun p hp => ?_, ?_, ?_, hn1⟩⟩
            · rw [List.length_append, List.length_singleton]
              omega
            · have := (ap2 qs.length j hj).1
              rw [List.take_length, ap3] at this
              exact this
            · have := (ap2 qs.length j hj).2
              rw [List.take_length, ap3] at this
              exact this
            · rcases List.mem_append.mp hp with hp | hp
              · exact N.pc p hp
              · rw [← ap4] at hp
                obtain ⟨q, hq, e⟩ := List.mem_filterMap.mp hp
                unfold named at e
                cases hnm : q.nm with
                | none =>
                  rw [hnm] at e
                  cases e
                | some nm =>
                  rw [hnm] at e
                  rw [← Option.some.inj e]
                  exact (ap1 q hq nm hnm).2
            · obtain ⟨p0, hp0, e⟩ := List.mem_filterMap.mp hp
              unfold clip at e
              by_cases c : rmax p0.st (Tm : Rat) < rmin p0.en (m : Rat)
              · rw [if_pos c] at e
                rw [← Option.some.inj e]
                have hmt : (m : Rat) = ((m.toNat : Nat) : Rat) := by
                  rw [← Rat.intCast_natCast]
                  congr 1
                  omega
                refine (nc_clip (e := m.toNat) N.d0 hdlt (N.ah p0 hp0) (by omega) rfl (by rw [hmt]) c).1
              · rw [if_neg c] at e
                cases e
            · rw [List.length_append]
              show _ + (ahead.filterMap _).length ≤ _
              omega
            · show (ahead.filterMap _).length ≤ _
              omega
end
end SW

set_option Elab.async false
set_option linter.all false
set_option maxRecDepth 100000
set_option maxHeartbeats 4000000
set_option exponentiation.threshold 300
namespace SW
open PySem PySem.Spec PyProof.Rows L2
/-- the jobs with left work, as jobs that come at t -/
def waitJ (J : List (Jb Str)) (l : Str → Rat) (t : Nat) : List (Jb Str) := (J.filter fun i => decide (l i.nm ≠ 0)).map fun i => ⟨i.nm, (t : Int), i.du, l i.nm⟩
theorem wait_take (A : List (Jb Str)) (l : Str → Rat) (t : Nat) {i : Nat} {j : Jb Str} (h : A[i]? = some j) : waitJ (A.take (i + 1)) l t = waitJ (A.take i) l t ++ (if l j.nm ≠ 0 then [⟨j.nm, (t : Int), j.du, l j.nm⟩] else []) := by
  obtain ⟨h1, h2⟩ := List.getElem?_eq_some_iff.mp h
  unfold waitJ
  rw [List.take_succ_eq_append_getElem h1, h2, List.filter_append, List.map_append]
  congr 1
  by_cases e : l j.nm ≠ 0
  · rw [if_pos e]
    simp only [List.filter_cons, decide_eq_true e, if_true, List.filter_nil, List.map_cons, List.map_nil]
  · rw [if_neg e]
    simp only [List.filter_cons, decide_eq_false e, List.filter_nil]
    rfl
theorem wait_len (A : List (Jb Str)) (l : Str → Rat) (t : Nat) : (waitJ A l t).length ≤ A.length := by
  unfold waitJ
  rw [List.length_map]
  exact List.length_filter_le _ _
structure OfferOk (J : List (Jb Str)) (j : Jb Str) (t : Nat) (wk : Int) : Prop where
  fresh : ∀ i ∈ J, i.nm ≠ j.nm
  cm : j.cm = (t : Int)
  du : j.cm < j.du ∧ j.du ≤ 10000
  wk : j.wk = (wk : Rat) ∧ 0 < wk ∧ wk ≤ 10000
  few : J.length ≤ 5
  str : PyData.strOk j.nm = true
  alls : ∀ i ∈ J, PyData.strOk i.nm = true
  len : j.nm.length ≤ 100
theorem wk_bound {j : Jb Str} {wk : Int} (h : j.wk = (wk : Rat) ∧ 0 < wk ∧ wk ≤ 10000) : 0 < j.wk ∧ j.wk ≤ 100000 := by
  rw [h.1]
  have h1 : ((0 : Int) : Rat) < (wk : Rat) := Rat.intCast_lt_intCast.mpr h.2.1
  have h2 : (wk : Rat) ≤ ((10000 : Int) : Rat) := Rat.intCast_le_intCast.mpr h.2.2
  have e0 : ((0 : Int) : Rat) = 0 := rfl
  have e1 : ((10000 : Int) : Rat) = 10000 := rfl
  rw [e0] at h1
  rw [e1] at h2
  exact ⟨h1, by grind⟩
theorem LeftD.add {K : PySem.W.Frag} {H : Hp} {a : Addr} {A : List (Jb Str)} {l : Str → Rat} (h : LeftD K H a A l) {kvs : List (Key × V)} (hk : H a = some (.dK kvs)) {j : Jb Str} {v : V} {q : Rat} (hv : RatV K H v q) (hq : j.wk = q) :
    LeftD K (upd H a (.dK (putK kvs (.inr j.nm) v))) a (A ++ [j]) (lfOff l j) := by
  obtain ⟨kvs2, h1, h2, h3, h4⟩ := h.ex
  rw [hk] at h1
  cases h1
  have T := tup_dk (K := K) hk (.dK (putK kvs (.inr j.nm) v))
  refine ⟨_, upd_same, Nat.le_trans (putK_le _ _ _) (by rw [List.length_append, List.length_singleton]; omega), fun i hi => ?_, fun k hk2 => ?_⟩
  · rw [valV_put]
    unfold lfOff
    by_cases e : i.nm = j.nm
    · rw [if_pos (by rw [e]), if_pos e, hq]
      exact ⟨v, rfl, hv.tup T⟩
    · rw [if_neg (fun z => e (Sum.inr.inj z)), if_neg e]
      rcases List.mem_append.mp hi with hi | hi
      · obtain ⟨u, q1, q2⟩ := h3 i hi
        exact ⟨u, q1, q2.tup T⟩
      · exact absurd (by rw [List.mem_singleton.mp hi]) e
  · rw [valV_put, if_neg (hk2 j (by simp))]
    exact h4 k fun i hi => hk2 i (List.mem_append_left _ hi)
theorem waiting_mem {J : List (Jb Str)} {l : Str → Rat} {t : Nat} {j w : Jb Str} (hw : w ∈ waitingJ J l t j) : (∃ i ∈ J, w = ⟨i.nm, (t : Int), i.du, l i.nm⟩) ∨ w = ⟨j.nm, (t : Int), j.du, j.wk⟩ := by
  rcases List.mem_append.mp hw with h | h
  · obtain ⟨i, hi, rfl⟩ := List.mem_map.mp h
    exact .inl ⟨i, (List.mem_filter.mp hi).1, rfl⟩
  · exact .inr (List.mem_singleton.mp h)
theorem waiting_len (J : List (Jb Str)) (l : Str → Rat) (t : Nat) (j : Jb Str) : (waitingJ J l t j).length ≤ J.length + 1 := by
  unfold waitingJ
  rw [List.length_append, List.length_map, List.length_singleton]
  have := List.length_filter_le (fun i : Jb Str => decide (l i.nm ≠ 0)) J
  omega
section
variable {J : List (Jb Str)} {j : Jb Str} {t n D : Nat} {wk : Int} {l : Str → Rat} {pcs ahead : List (Pc Str)}
theorem offer_pw (Md : MidSt J t l pcs) (O : OfferOk J j t wk) (hin : RunIn J) (N : RNice D J l pcs ahead n) : PwOk (waitingJ J l t j) D := by
  have hb := wk_bound O.wk
  have hw := waiting_ok Md O.fresh ⟨O.cm, O.du.1, hb.1⟩
  have hl := waiting_len J l t j
  have hf := O.few
  refine ⟨hw.1, by omega, N.d0, p600 N.dlt (by decide), fun w h => ?_, fun w h => ?_, fun w h => ?_, fun w h => ?_⟩ <;> rcases waiting_mem h with ⟨i, hi, rfl⟩ | rfl
  · exact N.lf i hi
  · rw [O.wk.1]
    exact Dv.int D wk
  · exact (N.lb i hi).2
  · exact hb.2
  · exact (hin.du i hi).2
  · exact O.du.2
  · exact O.alls i hi
  · exact O.str
theorem offer_nice (Md : MidSt J t l pcs) (O : OfferOk J j t wk) (hin : RunIn J) (N : RNice D J l pcs ahead n) (hn1 : n + 1 ≤ 100) {plan : List (Pc Str)} {D' : Nat} (F : PlanFound (waitingJ J l t j) D plan D') : RNice D' (J ++ [j]) (lfOff l j) pcs plan (n + 1) := by
  have hb := wk_bound O.wk
  have hl := waiting_len J l t j
  have hf := O.few
  have hpl := N.pl
  have hjl : (J ++ [j]).length = J.length + 1 := by simp
  have hw6 : (waitingJ J l t j).length ≤ 6 := by omega
  refine ⟨F.d0, ?_, fun i hi => ?_, fun i hi => ?_, by omega, fun p hp => ?_, fun p hp => ?_, by omega, ?_, hn1⟩
  · rw [hjl, Nat.pow_succ]
    have h1 : (2 ^ 14) ^ (waitingJ J l t j).length ≤ (2 ^ 14) ^ 6 := Nat.pow_le_pow_right (by decide) hw6
    have h2 : ((2 : Nat) ^ 14) ^ 6 = 2 ^ 84 := by rw [← Nat.pow_mul]
    rw [h2] at h1
    exact Nat.le_trans F.d1 (Nat.mul_le_mul N.d1 h1)
  · unfold lfOff
    split
    · rw [O.wk.1]
      exact Dv.int D' wk
    · rename_i e
      rcases List.mem_append.mp hi with hi | hi
      · exact (N.lf i hi).up F.dB
      · exact absurd (by rw [List.mem_singleton.mp hi]) e
  · unfold lfOff
    split
    · exact ⟨Rat.le_of_lt hb.1, hb.2⟩
    · rename_i e
      rcases List.mem_append.mp hi with hi | hi
      · exact N.lb i hi
      · exact absurd (by rw [List.mem_singleton.mp hi]) e
  · have h := (N.pc p hp).up F.dB
    obtain ⟨i, hi, e⟩ := h.nm
    exact { h with nm := ⟨i, List.mem_append_left _ hi, e⟩ }
  · have h := F.nc p hp
    obtain ⟨w, hw, e⟩ := h.nm
    refine { h with nm := ?_ }
    rcases waiting_mem hw with ⟨i, hi, rfl⟩ | rfl
    · exact ⟨i, List.mem_append_left _ hi, e⟩
    · exact ⟨j, by simp, e⟩
  · have h1 : 2 ^ (waitingJ J l t j).length ≤ 2 ^ 6 := Nat.pow_le_pow_right (by decide) hw6
    have := F.len
    omega
end
section
variable {P : Program} {w : World} {K : PySem.W.Frag} {mg : Str → Option Value} {base : Heap}
theorem scRuW : FnScope ["self", "found", "name", "comes", "due", "work"] ["self"] (defScope sRuW) := ⟨rfl, rfl, rfl, by decide +kernel, rfl, by decide +kernel, by decide +kernel⟩
def spRuW (K : PySem.W.Frag) (C : Addr) : Sp := fun vs H Q _ => ∃ x H0 dx fs lr lw lp la lh ur up ua uh t J l, vs = [.ref x] ∧ RA K C H0 H x dx fs lr lw lp la lh ur up ua uh ((t : Nat) : Int) ∧ Paired (JiV K H) ur J ∧ LeftD K H lw J l ∧ J.length ≤ 100 ∧
  ∀ r H' ws, Same H H' → H' r = some (.lst ws) → Paired (JrV K H') ws (waitJ J l t) → Q (.ref r) H'
theorem ok_ruW {C : Addr} (M : TM K C "waiting" "Runner.waiting" sRuW ["self"]) (T : TxR K mg C) (Z : ZeroG K mg) : MDef P w K mg base C "waiting" ["self"] 1 (spRuW K C) := by
  obtain ⟨z, gz, hz⟩ := Z
  refine M.ok scRuW (fun vs H Q E h => ?_) (fun f cdv A outer s_ H vs Q E hr h => ⟨_, (pss_cons (ps_set (i := 1) scRuW.nd rfl (.inl rfl) (pe_lst pa_nil)) (pss_cons (ps_for PassesOwn.never rfl (pi_list (pe_fld (pv 0) rfl)) (pg_tup rfl (pgs_cons (pg_name (i := 2) scRuW.nd rfl (.inl rfl)) (pgs_cons (pg_name (i := 3) scRuW.nd rfl (.inl rfl)) (pgs_cons (pg_name (i := 4) scRuW.nd rfl (.inl rfl)) (pgs_cons (pg_name (i := 5) scRuW.nd rfl (.inl rfl)) pgs_nil))))) (pss_one (ps_if (pt_cmpR (op_neD hr.units) (pe_dget (Room.u1 hr) (pe_fld (pv 0) rfl) (pv 2) (fun _ _ => rfl)) (pe_glob (by rfl) gz (v := .ref z) rfl) (nomark _)) (pss_one (ps_expr (pe_bm PySem.F.plainAttrs_list PySem.F.slot_list_append PySem.F.type_list_append mt_append (pv 1) (pa_cons (pe_tup (pa_cons (pv 2) (pa_cons (pe_fld (pv 0) rfl) (pa_cons (pv 4) (pa_cons (pe_dget (Room.u1 hr) (pe_fld (pv 0) rfl) (pv 2) (fun _ _ => rfl)) pa_nil))))) pa_nil)))) pss_nil))) (pss_one (ps_ret (pv 1))))), ?_⟩)
  · obtain ⟨_, _, _, _, _, _, _, _, _, _, _, _, _, _, _, _, rfl, _⟩ := h
    rfl
  · obtain ⟨x, H0, dx, fs, lr, lw, lp, la, lh, ur, up, ua, uh, t, J, l, rfl, RR, hJ, hL, hfew, k⟩ := h
    refine ⟨Nat.zero_le _, fun pf nf => ?_⟩
    have S0 := same_new (o := .lst []) nf
    refine ⟨_, rfl, x, C, dx, fs, _, rfl, (RR.same S0).hx, T.cl, T.n3, RR.fr, lr, rfl, ⟨_, S0.seq (SqL.of RR.hr)⟩, for_list (K := K) (a := lr) (xs := ur) (fun i σ H' => ∃ o2 o3 o4 o5 wf, σ = [some (.ref x), some (.ref pf), o2, o3, o4, o5] ∧ Same H H' ∧ H' pf = some (.lst wf) ∧ Paired (JrV K H') wf (waitJ (J.take i) l t))
      ⟨none, none, none, none, [], rfl, S0, upd_same, .nil⟩ (fun i σ H' _ ⟨_, _, _, _, _, _, e, _⟩ => e.seq (SqL.of RR.hr)) ?_ ?_⟩
    · rintro i y σ H' hi ⟨o2, o3, o4, o5, wf, rfl, S', hf, hwf⟩
      obtain ⟨j, hj', a, zi, rfl, ha, hzi⟩ := pair_get hJ hi
      have hmem : j ∈ J := List.mem_of_getElem? hj'
      obtain ⟨kvs, h1, h2, h3, h4⟩ := hL.ex
      obtain ⟨v, hv, hvr⟩ := h3 j hmem
      have hD' := S' _ _ h1
      have R' := RR.same S'
      have hwl := pair_len hwf
      have hsl := wait_len (J.take i) l t
      rw [List.length_take] at hsl
      refine ⟨a, _, rfl, sqT_same S' ha, rfl, _, _, rfl, _, _, rfl, _, _, rfl, _, _, rfl, rfl, ?_⟩
      refine ⟨_, rfl, x, C, dx, fs, _, rfl, R'.hx, T.cl, T.n4, R'.fw, _, rfl, lw, v, rfl, (by rw [← hv]; exact DGet.k (k := .inr j.nm) hD'), ?_⟩
      refine ⟨ratD (l j.nm), ratD 0, (hvr.same S').dp, (zero_rat (hz _)).dp, rat_shaped _, rat_shaped _, _, rfl, ?_⟩
      rw [rat_eqv]
      by_cases e : l j.nm = 0
      · rw [decide_eq_true e]
        refine iteF ⟨_, _, _, _, wf, rfl, S', hf, ?_⟩
        rw [wait_take J l t hj', if_neg (by simpa using e), List.append_nil]
        exact hwf
      · rw [decide_eq_false e]
        refine iteT ?_
        refine ⟨_, rfl, .inl ⟨rfl, _, SqL.of hf⟩, _, rfl, _, rfl, x, C, dx, fs, _, rfl, R'.hx, T.cl, T.n2, R'.fn, _, rfl, _, rfl, x, C, dx, fs, _, rfl, R'.hx, T.cl, T.n4, R'.fw, _, rfl, lw, v, rfl, (by rw [← hv]; exact DGet.k (k := .inr j.nm) hD'), (by show 4 ≤ sizeLine; decide), fun q nq => ?_⟩
        obtain ⟨a1, a2, a3, a4, a5⟩ := app_tup (K := K) (xs := [.str j.nm, .int (t : Int), .int j.du, v]) S' nf hf nq
        refine ⟨pf, wf, .ref q, rfl, rfl, a1, small (by omega), _, _, _, _, _, rfl, a2, a4, ?_⟩
        rw [wait_take J l t hj', if_pos (by simpa using e)]
        exact pair_snoc (jrs_tup a3 hwf) ⟨q, v, rfl, a5, (hvr.same S').tup a3⟩
    · rintro σ H' ⟨o2, o3, o4, o5, wf, rfl, S', hf, hwf⟩
      rw [pair_len hJ, List.take_length] at hwf
      exact ⟨_, rfl, k pf H' wf S' hf hwf⟩
/-! too_late: without a cap there is nothing to do -/
theorem scRuT : FnScope ["self", "jobs", "job", "due", "work"] ["self", "jobs"] (defScope sRuT) := ⟨rfl, rfl, rfl, by decide +kernel, rfl, by decide +kernel, by decide +kernel⟩
def spRuT (K : PySem.W.Frag) (C : Addr) : Sp := fun vs H Q _ => ∃ x v dx fs, vs = [.ref x, v] ∧ H x = some (.ins C dx fs) ∧ fs.lookup ("cap" : Str) = some .non ∧ Q .non H
theorem ok_ruT {C : Addr} (M : TM K C "too_late" "Runner.too_late" sRuT ["self", "jobs"]) (T : TxR K mg C) : MDef P w K mg base C "too_late" ["self", "jobs"] 1 (spRuT K C) := by
  refine M.ok scRuT (fun vs H Q E h => ?_) (fun f cdv A outer s_ H vs Q E hr h => ⟨_, (pss_cons (ps_if (pt_cmpR op_isN (pe_fld (pv 0) rfl) pe_non (nomark _)) (pss_one (ps_ret pe_non)) pss_nil) (pss_cons ps_never (pss_one ps_never))), ?_⟩)
  · obtain ⟨_, _, _, _, rfl, _⟩ := h
    rfl
  · obtain ⟨x, v, dx, fs, rfl, hx, hc, k⟩ := h
    exact ⟨_, rfl, x, C, dx, fs, _, rfl, hx, T.cl, T.n1, hc, rfl, _, rfl, ite2 (fun _ => k) (fun c => absurd (decide_eq_true rfl) c)⟩
/-! done -/
theorem scRuD : FnScope ["self"] ["self"] (defScope sRuD) := ⟨rfl, rfl, rfl, by decide +kernel, rfl, by decide +kernel, by decide +kernel⟩
def spRuD (K : PySem.W.Frag) (C : Addr) : Sp := fun vs H Q _ => ∃ x H0 now J l pcs ahead D n, vs = [.ref x] ∧ RunnerAt K C H0 H x now J l pcs ahead D n ∧ (∀ j ∈ J, PyData.strOk j.nm = true) ∧ n ≤ 90 ∧ ∀ r H' ws, Same H H' → SqT K H' r ws → Paired (PcV K H') ws (tidy pcs) → Q (.ref r) H'
theorem ok_ruD {C : Addr} (M : TM K C "done" "Runner.done" sRuD ["self"]) (T : TxR K mg C) (TD : Def P w K mg base "tidy" ["plan"] [] 1 (spTidy K)) : MDef P w K mg base C "done" ["self"] 2 (spRuD K C) := by
  refine M.ok scRuD (fun vs H Q E h => ?_) (fun f cdv A outer s_ H vs Q E hr h => ⟨_, (pss_one (ps_ret (pe_def TD (hr.mono (by decide)) (pa_cons (pe_fld (pv 0) rfl) pa_nil)))), ?_⟩)
  · obtain ⟨_, _, _, _, _, _, _, _, _, rfl, _⟩ := h
    rfl
  · obtain ⟨x, H0, now, J, l, pcs, ahead, D, n, rfl, ⟨dx, fs, lr, lw, lp, la, lh, ur, up, ua, uh, RR, hJ, hL, hP, hA, hn, N⟩, hst, hn9, k⟩ := h
    have hpl := N.pl
    refine ⟨_, rfl, x, C, dx, fs, _, rfl, RR.hx, T.cl, T.n5, RR.fp, lp, up, pcs, rfl, SqL.of RR.hp, hP, fun p hp => ?_, by omega, k⟩
    obtain ⟨j, hj, e⟩ := (N.pc p hp).nm
    rw [e]
    exact hst j hj
/-! offer -/
theorem scRuO : FnScope ["self", "name", "due", "work", "jobs", "answer"] ["self", "name", "due", "work"] (defScope sRuO) := ⟨rfl, rfl, rfl, by decide +kernel, rfl, by decide +kernel, by decide +kernel⟩
def spRuO (K : PySem.W.Frag) (C : Addr) : Sp := fun vs H Q _ => ∃ x H0 t J l pcs ahead D n j wk, vs = [.ref x, .str j.nm, .int j.du, .int wk] ∧ RunnerAt K C H0 H x t J l pcs ahead D n ∧ MidSt J t l pcs ∧ OfferOk J j t wk ∧ RunIn J ∧ n + 1 ≤ 100 ∧
  ∀ H' plan D', PlanFound (waitingJ J l t j) D plan D' → RunnerAt K C H0 H' x t (J ++ [j]) (lfOff l j) pcs plan D' (n + 1) → Q .non H'
theorem ok_ruO {C : Addr} (M : TM K C "offer" "Runner.offer" sRuO ["self", "name", "due", "work"]) (T : TxR K mg C) (gL : mg "len" = none) (gM : ∃ tk, mg "MOST_JOBS" = some (.int 12 tk)) (R : Def P w K mg base "ratio" ["top", "bottom"] [.int 1] 1 (spRatio K)) (PW : Def P w K mg base "plan_with" ["jobs"] [] 5 (spPW K))
    (WA : MDef P w K mg base C "waiting" ["self"] 1 (spRuW K C)) (TL : MDef P w K mg base C "too_late" ["self", "jobs"] 1 (spRuT K C)) : MDef P w K mg base C "offer" ["self", "name", "due", "work"] 6 (spRuO K C) := by
  obtain ⟨tk, gM⟩ := gM
  refine M.ok scRuO (fun vs H Q E h => ?_) (fun f cdv A outer s_ H vs Q E hr h => ⟨_, (pss_cons (ps_if (pt_cmp (pc_dinN (Room.u1 hr) (pv 1) (pe_fld (pv 0) rfl))) (pss_one ps_never) pss_nil) (pss_cons (ps_if (pt_cmp (pc_eqI (pe_callB call_len_seq (by rfl) gL (by decide +kernel) (pa_cons (pe_fld (pv 0) rfl) pa_nil)) (pe_glob (by rfl) gM (v := .int 12) ⟨_, rfl⟩))) (pss_one ps_never) pss_nil) (pss_cons (ps_set (i := 4) scRuO.nd rfl (.inl rfl) (pe_op op_cat (pe_mdef0 WA T.cl (pv 0) (hr.mono (by decide))) (pe_lst (pa_cons (pe_tup (pa_cons (pv 1) (pa_cons (pe_fld (pv 0) rfl) (pa_cons (pv 2) (pa_cons (pe_def R (hr.mono (by decide)) (pa_cons (pv 3) pa_nil)) pa_nil))))) pa_nil)))) (pss_cons (ps_set (i := 5) scRuO.nd rfl (.inl rfl) (pe_mdef TL T.cl (pv 0) (hr.mono (by decide)) (pa_cons (pv 4) pa_nil))) (pss_cons (ps_if (pt_cmpR op_isN (pv 5) pe_non (nomark _)) (pss_cons (ps_expr (pe_bm PySem.F.plainAttrs_list PySem.F.slot_list_append PySem.F.type_list_append mt_append (pe_fld (pv 0) rfl) (pa_cons (pe_tup (pa_cons (pv 1) (pa_cons (pe_fld (pv 0) rfl) (pa_cons (pv 2) (pa_cons (pv 3) pa_nil))))) pa_nil))) (pss_cons (ps_dput (Room.u1 hr) (pe_fld (pv 0) rfl) (pv 1) (pe_def R (hr.mono (by decide)) (pa_cons (pv 3) pa_nil)) (by rfl)) (pss_one (ps_fld (pv 0) (pe_def PW (hr.mono (by decide)) (pa_cons (pv 4) pa_nil)) rfl)))) pss_nil) (pss_cons (ps_expr (pe_bm PySem.F.plainAttrs_list PySem.F.slot_list_append PySem.F.type_list_append mt_append (pe_fld (pv 0) rfl) (pa_cons (pe_joined (.cons pe_str (.cons (pe_fmt (pv 1)) (.cons pe_str (.cons (pe_fmt (pv 2)) (.cons pe_str (.cons (pe_fmt (pv 3)) .nil))))))) pa_nil))) (pss_one (ps_ret (pv 5))))))))), ?_⟩)
  · obtain ⟨_, _, _, _, _, _, _, _, _, _, _, rfl, _⟩ := h
    rfl
  · obtain ⟨x, H0, t, J, l, pcs, ahead, D, n, j, wk, rfl, ⟨dx, fs, lr, lw, lp, la, lh, ur, up, ua, uh, RR, hJ, hL, hP, hA, hn, N⟩, Md, O, hin, hn1, k⟩ := h
    obtain ⟨kvs, hD, hlen, hin2, hout⟩ := hL.ex
    have hnone : valV kvs (.inr j.nm) = none := hout _ fun i hi e => O.fresh i hi (Sum.inr.inj e).symm
    have hjl := pair_len hJ
    have hfew := O.few
    refine ⟨_, rfl, _, rfl, x, C, dx, fs, _, rfl, RR.hx, T.cl, T.n4, RR.fw, .inl ⟨lw, none, rfl, (by rw [← hnone]; exact DGet.k (k := .inr j.nm) hD), _, rfl, iteF ?_⟩⟩
    refine ⟨_, rfl, x, C, dx, fs, _, rfl, RR.hx, T.cl, T.n3, RR.fr, lr, ur, rfl, .inl (SqL.of RR.hr), _, _, rfl, rfl, _, rfl, ?_⟩
    refine ite2 (fun c => absurd (of_decide_eq_true c) (by omega)) (fun _ => ?_)
    -- the jobs
    refine ⟨_, rfl, x, dx, fs, rfl, RR.hx, RR.m4, x, H0, dx, fs, lr, lw, lp, la, lh, ur, up, ua, uh, t, J, l, rfl, RR, hJ, hL, by omega, fun rw_ H1 ww S1 hw1 hww => ?_⟩
    have R1 := RR.same S1
    refine ⟨_, rfl, _, rfl, x, C, dx, fs, _, rfl, R1.hx, T.cl, T.n2, R1.fn, _, rfl, _, rfl, wk, 1, rfl, by decide, by decide, fun vq H2 S2 hvq => ?_⟩
    rw [rat_one] at hvq
    have R2 := R1.same S2
    refine ⟨(by show 4 ≤ sizeLine; decide), fun tp ntp => ⟨(by show 1 ≤ sizeLine; decide), fun lt nlt => ?_⟩⟩
    have S3 := same_new (o := .tup [V.str j.nm, V.int (t : Int), V.int j.du, vq]) ntp
    have htp : SqT K (upd H2 tp (.tup [V.str j.nm, V.int (t : Int), V.int j.du, vq])) tp [V.str j.nm, V.int (t : Int), V.int j.du, vq] := SqT.of upd_same
    generalize upd H2 tp (.tup [V.str j.nm, V.int (t : Int), V.int j.du, vq]) = H3 at *
    have S4 := same_new (o := .lst [V.ref tp]) nlt
    have hlt : upd H3 lt (.lst [V.ref tp]) lt = some (.lst [V.ref tp]) := upd_same
    generalize upd H3 lt (.lst [V.ref tp]) = H4 at *
    have S24 := S3.trans S4
    have S14 := S2.trans S24
    have hwl := pair_len hww
    have hwl2 := wait_len J l t
    refine ⟨rw_, lt, _, _, rfl, rfl, S14 _ _ hw1, hlt, small' (by simp; omega), fun lj nlj => ?_⟩
    have S5 := same_new (o := .lst (ww ++ [V.ref tp])) nlj
    have hlj : upd H4 lj (.lst (ww ++ [V.ref tp])) lj = some (.lst (ww ++ [V.ref tp])) := upd_same
    generalize upd H4 lj (.lst (ww ++ [V.ref tp])) = H5 at *
    have S15 := S14.trans S5
    have S05 := S1.trans S15
    have hvq5 := ((hvq.same S24).same S5)
    have hjobs : Paired (JrV K H5) (ww ++ [V.ref tp]) (waitingJ J l t j) := pair_snoc (jrs_tup (Tup.same S15) hww) ⟨tp, vq, rfl, sqT_same S5 (sqT_same S4 htp), by rw [O.wk.1]; exact hvq5⟩
    have R5 := R2.same (S24.trans S5)
    have hL5 := hL.same S05
    have hJ5 := jis_tup (Tup.same S05) hJ
    have hP5 := pcs_tup (Tup.same S05) hP
    -- the answer
    refine ⟨_, rfl, x, dx, fs, rfl, R5.hx, R5.m5, _, rfl, x, _, dx, fs, rfl, R5.hx, R5.fc, ?_⟩
    refine ⟨_, rfl, rfl, _, rfl, ite2 (fun _ => ?_) (fun c => absurd (decide_eq_true rfl) c)⟩
    refine ⟨_, rfl, x, C, dx, fs, _, rfl, R5.hx, T.cl, T.n3, R5.fr, .inl ⟨rfl, _, SqL.of R5.hr⟩, _, rfl, _, rfl, x, C, dx, fs, _, rfl, R5.hx, T.cl, T.n2, R5.fn, _, rfl, _, rfl, (by show 4 ≤ sizeLine; decide), fun q nq => ?_⟩
    have S6 := same_new (o := .tup [V.str j.nm, V.int (t : Int), V.int j.du, V.int wk]) nq
    have hq6 : SqT K (upd H5 q (.tup [V.str j.nm, V.int (t : Int), V.int j.du, V.int wk])) q [V.str j.nm, V.int (t : Int), V.int j.du, V.int wk] := SqT.of upd_same
    have R6 := R5.same S6
    have nljr : lj ≠ lr := fun e => by
      rw [e, (R2.same S24).hr] at nlj
      cases nlj
    have nljw : lj ≠ lw := fun e => by
      obtain ⟨kv, z⟩ := (R2.same S24).hw
      rw [e, z] at nlj
      cases nlj
    have hlj6 := S6 _ _ hlj
    have T56 : Tup K H5 (upd H5 q (.tup [V.str j.nm, V.int (t : Int), V.int j.du, V.int wk])) := Tup.same S6
    have hL6 := hL5.same S6
    generalize upd H5 q (.tup [V.str j.nm, V.int (t : Int), V.int j.du, V.int wk]) = H6 at *
    refine ⟨lr, ur, .ref q, rfl, rfl, R6.hr, small (by omega), ?_⟩
    obtain ⟨R7, T67⟩ := R6.rows (.ref q)
    have hL7 := hL6.keep T67 (by rw [upd_ne R6.nwr])
    have hlj7 : upd H6 lr (.lst (ur ++ [.ref q])) lj = some (.lst (ww ++ [V.ref tp])) := by rw [upd_ne nljr]; exact hlj6
    have hq7 := T67 _ _ hq6
    generalize upd H6 lr (.lst (ur ++ [.ref q])) = H7 at *
    refine ⟨_, rfl, wk, 1, rfl, by decide, by decide, fun vr H8 S8 hvr => ?_⟩
    rw [rat_one] at hvr
    have R8 := R7.same S8
    have hL8 := hL7.same S8
    obtain ⟨kv8, hD8, hlen8, hin8, hout8⟩ := hL8.ex
    refine ⟨_, rfl, x, C, dx, fs, _, rfl, R8.hx, T.cl, T.n4, R8.fw, _, rfl, lw, _, rfl, DPut.k (k := .inr j.nm) hD8 (small (by omega)), ?_⟩
    obtain ⟨R9, T89⟩ := R8.left (putK kv8 (.inr j.nm) vr)
    have hL9 : LeftD K (upd H8 lw (.dK (putK kv8 (.inr j.nm) vr))) lw (J ++ [j]) (lfOff l j) := LeftD.add hL8 hD8 hvr (by rw [O.wk.1])
    have hlj9 : upd H8 lw (.dK (putK kv8 (.inr j.nm) vr)) lj = some (.lst (ww ++ [V.ref tp])) := by
      rw [upd_ne nljw]
      exact S8 _ _ hlj7
    have T59 := ((T56.trans T67).trans (Tup.same S8)).trans T89
    have hq9 := T89 _ _ (sqT_same S8 hq7)
    generalize upd H8 lw (.dK (putK kv8 (.inr j.nm) vr)) = H9 at *
    have hPw := offer_pw Md O hin N
    refine ⟨_, rfl, lj, _, waitingJ J l t j, D, rfl, SqL.of hlj9, jrs_tup T59 hjobs, hPw, fun la2 H10 wa plan D' S10 hla2 hwa F => ?_⟩
    have R10 := R9.same S10
    obtain ⟨R11, T11⟩ := R10.ahead hla2
    refine ⟨_, rfl, x, C, dx, fs, rfl, R10.hx, T.cl, T.n6, Nat.lt_of_le_of_lt R10.fl (by decide), ?_⟩
    have hL11 : LeftD K (upd H10 x (.ins C dx (putF "ahead" (.ref la2) fs))) lw (J ++ [j]) (lfOff l j) := (hL9.same S10).keep T11 (by rw [upd_ne R10.nxw.symm])
    generalize upd H10 x (.ins C dx (putF "ahead" (.ref la2) fs)) = H11 at *
    obtain ⟨nl1, nl2⟩ := num_len (i := j.du) (by have := O.du; have := O.cm; omega)
    obtain ⟨nl3, nl4⟩ := num_len (i := wk) (by have := O.wk; omega)
    have l0 : (Str.empty ++ Str.ofString "offer ").length ≤ 100 := by decide
    have l1 := fit3 l0 O.len
    have l2 := fit3 (b := Str.ofString " ") (n := 100) l1 (by decide)
    have l3 := fit3 l2 nl2
    have l4 := fit3 (b := Str.ofString " ") (n := 100) l3 (by decide)
    have l5 := fit3 l4 nl4
    have big2 : 5000 ≤ sizeLine := by decide
    have hol := O.len
    refine ⟨_, rfl, x, C, dx, _, _, rfl, R11.hx, T.cl, T.n7, R11.fh, .inl ⟨rfl, _, SqL.of R11.hh⟩, ?_⟩
    refine ⟨_, rfl, by omega, _, rfl, .inl ⟨_, rfl, by omega, _, rfl, by omega, _, rfl, by omega, _, rfl, .inr ⟨_, rfl, nl1, _, rfl, by omega, _, rfl, by omega, _, rfl, .inr ⟨_, rfl, nl3, _, rfl, by omega, ?_⟩⟩⟩⟩
    refine ⟨lh, uh, _, rfl, rfl, R11.hh, small (by have := N.nb; omega), ?_⟩
    obtain ⟨R12, T12⟩ := R11.hist (.str (Str.empty ++ Str.ofString "offer " ++ j.nm ++ Str.ofString " " ++ Str.ofString (toString j.du) ++ Str.ofString " " ++ Str.ofString (toString wk)))
    have hL12 := hL11.keep T12 (by rw [upd_ne R11.nwh])
    have T912 := ((Tup.same (K := K) S10).trans T11).trans T12
    have T512 := T59.trans T912
    have T1012 := T11.trans T12
    refine ⟨_, rfl, k _ plan D' F ⟨dx, _, lr, lw, lp, la2, lh, _, up, wa, _, R12, pair_snoc (jis_tup T512 hJ5) ⟨q, wk, rfl, ?_, O.wk.1⟩, hL12, pcs_tup T512 hP5, pcs_tup T1012 hwa, ?_, offer_nice Md O hin N hn1 F⟩⟩
    · have := T912 _ _ hq9
      rw [O.cm]
      exact this
    · rw [List.length_append, List.length_singleton]
      omega
end
end SW

set_option Elab.async false
set_option linter.all false
set_option maxRecDepth 100000
set_option maxHeartbeats 4000000
set_option exponentiation.threshold 300
namespace SW
open PySem PySem.Spec PyProof.Rows L2
/-- the pool of draws at p, at most b draws so far -/
def PoolAt (K : PySem.W.Frag) (sl : Addr) (H : Hp) (p : Addr) (b : Nat) : Prop := ∃ (ns : List Int) (i r c k : Int), H p = some (.lst [.ref sl, .int i, .int r, .int c, .int k]) ∧ H sl = some (.lst (ns.map V.int)) ∧ sl ≠ p ∧ 0 ≤ i ∧ 0 ≤ r ∧ 0 ≤ c ∧ c < 2 ^ 60 ∧ 0 ≤ k ∧ k ≤ (b : Int)
theorem PoolAt.mono {K : PySem.W.Frag} {sl : Addr} {H : Hp} {p : Addr} {b c : Nat} (h : PoolAt K sl H p b) (hb : b ≤ c) : PoolAt K sl H p c := by
  obtain ⟨ns, i, r, c', k, h1, h2, h3, h4, h5, h6, h7, h8, h9⟩ := h
  exact ⟨ns, i, r, c', k, h1, h2, h3, h4, h5, h6, h7, h8, by omega⟩
theorem PoolAt.same {K : PySem.W.Frag} {sl : Addr} {H H' : Hp} {p : Addr} {b : Nat} (h : PoolAt K sl H p b) (e : Same H H') : PoolAt K sl H' p b := by
  obtain ⟨ns, i, r, c', k, h1, h2, h3⟩ := h
  exact ⟨ns, i, r, c', k, e _ _ h1, e _ _ h2, h3⟩
theorem PoolAt.lst {K : PySem.W.Frag} {sl : Addr} {H : Hp} {p : Addr} {b : Nat} (h : PoolAt K sl H p b) : ∃ xs, H p = some (.lst xs) := by
  obtain ⟨ns, i, r, c', k, h1, _⟩ := h
  exact ⟨_, h1⟩
theorem sl_keep {H : Hp} {sl p : Addr} {u : HO} (n : sl ≠ p) (h : H sl = some u) (o : HO) : (upd H p o) sl = some u := by
  rw [upd_ne n]
  exact h
section
variable {P : Program} {w : World} {K : PySem.W.Frag} {mg : Str → Option Value} {base : Heap}
theorem scPo : FnScope ["_law_script"] ["_law_script"] (defScope (top 43)) := ⟨rfl, rfl, rfl, by decide +kernel, rfl, by decide +kernel, by decide +kernel⟩
def spPo (K : PySem.W.Frag) : Sp := fun vs H Q _ => ∃ (sl : Addr) (ns : List Int), vs = [.ref sl] ∧ SqL K H sl (ns.map V.int) ∧ ∀ p l H', Same H H' → H p = none → H l = none → PoolAt K l H' p 0 → Q (.ref p) H'
theorem ok_po (T : TF K mg "_law_pool" (top 43) ["_law_script"]) (gLi : mg "list" = none) : Def P w K mg base "_law_pool" ["_law_script"] [] 1 (spPo K) := by
  refine T.ok scPo (fun vs H Q E h => ?_) (fun f cdv A outer s_ H vs Q E hr h => ⟨_, (pss_one (ps_ret (pe_lst (pa_cons (pe_callTy call_list_of (by rfl) gLi (by decide +kernel) (pa_cons (pv 0) pa_nil)) (pa_cons pe_int (pa_cons pe_int (pa_cons pe_int (pa_cons pe_int pa_nil)))))))), ?_⟩)
  · obtain ⟨_, _, rfl, _⟩ := h
    rfl
  · obtain ⟨sl, ns, rfl, hs, k⟩ := h
    refine ⟨_, rfl, sl, _, rfl, .inl hs, fun l nl => ⟨(by show 5 ≤ sizeLine; decide), fun p np => ?_⟩⟩
    have S1 := same_new (o := .lst (ns.map V.int)) nl
    have S2 := same_new (o := .lst [V.ref l, .int 0, .int 0, .int 0, .int 0]) np
    have nlp : l ≠ p := fun e => by
      subst e
      rw [upd_same] at np
      cases np
    exact k p l _ (S1.trans S2) (S1.free np) nl ⟨ns, 0, 0, 0, 0, upd_same, (by rw [upd_ne nlp]; exact upd_same), nlp, by decide, by decide, by decide, by decide, by decide, by decide⟩
/-! a draw -/
theorem scDr : FnScope ["_law_pool_here", "_law_many", "_law_found", "_law_cell", "_law_mixed"] ["_law_pool_here", "_law_many"] (defScope (top 44)) := ⟨rfl, rfl, rfl, by decide +kernel, rfl, by decide +kernel, by decide +kernel⟩
def spDr (K : PySem.W.Frag) : Sp := fun vs H Q _ => ∃ p m b, vs = [.ref p, .int m] ∧ ∃ sl, PoolAt K sl H p b ∧ b ≤ 1000000 ∧ 0 < m ∧ m < 2 ^ 60 ∧ ∀ r H', 0 ≤ r → r < m → SameBut p H H' → PoolAt K sl H' p (b + 1) → Q (.int r) H'
theorem ok_dr (T : TF K mg "_law_draw" (top 44) ["_law_pool_here", "_law_many"]) (gI : mg "int" = none) (gA : mg "abs" = none) (gL : mg "len" = none) : Def P w K mg base "_law_draw" ["_law_pool_here", "_law_many"] [] 1 (spDr K) := by
  refine T.ok scDr (fun vs H Q E h => ?_) (fun f cdv A outer s_ H vs Q E hr h => ?_)
  · obtain ⟨_, _, _, rfl, _⟩ := h
    rfl
  · obtain ⟨p, m, b, rfl, sl, ⟨ns, i, r, c, k, hp, hs, nsp, hi, hr0, hc, hc2, hk, hkb⟩, hb, hm, hm2, kk⟩ := h
    have hma : m.natAbs < 2 ^ 60 := by omega
    have hdv : ∀ z, CDivW z m := fun z => wide_div (b := 60) hm hma (by decide) (by decide)
    have hmod : ∀ z : Int, 0 ≤ z % m ∧ z % m < m := fun z => ⟨Int.emod_nonneg z (by omega), Int.emod_lt_of_pos z hm⟩
    -- the end: two mixings
    have fin : ∃ tr, PSs (cxOf CX0 P w K mg base ["_law_pool_here", "_law_many", "_law_found", "_law_cell", "_law_mixed"] "_law_draw" (defScope (top 44)) f cdv A outer s_ H E).nox ((defBody (top 44)).drop 2) tr ∧
        ∀ (H1 : Hp) (i1 r1 c1 : Int) (o2 o3 : Option V), SameBut p H H1 → H1 p = some (.lst [.ref sl, .int i1, .int r1, .int c1, .int k]) → H1 sl = some (.lst (ns.map V.int)) → 0 ≤ i1 → 0 ≤ r1 → 0 ≤ c1 → c1 < 2 ^ 60 →
        tr { nx := fun _ H' => Q .non H', rt := Q } [some (V.ref p), some (.int m), o2, o3, none] H1 := by
      refine ⟨_, (pss_cons (ps_asg (pe_op op_add (pe_ix ix_list (pv 0) pe_int (fun _ _ => rfl)) pe_int) (pg_sub (pv 0) pe_int set_list)) (pss_cons (ps_set (i := 4) scDr.nd rfl (.inl rfl) (pe_op op_mod (pe_callTy call_int1 (by rfl) gI (by decide +kernel) (pa_cons (pe_op op_add (pe_op op_add (pe_op op_mulW (pe_ix ix_list (pv 0) pe_int (fun _ _ => rfl)) pe_int) (pe_op op_mulW (pe_ix ix_list (pv 0) pe_int (fun _ _ => rfl)) pe_int)) pe_int) pa_nil)) pe_int)) (pss_cons (ps_set (i := 4) scDr.nd rfl (.inl rfl) (pe_op op_mod (pe_callTy call_int1 (by rfl) gI (by decide +kernel) (pa_cons (pe_op op_add (pe_op op_mulW (pv 4) (pv 4)) (pe_op op_mulW (pe_ix ix_list (pv 0) pe_int (fun _ _ => rfl)) pe_int)) pa_nil)) pe_int)) (pss_one (ps_ret (pe_op op_mod (pe_callTy call_int1 (by rfl) gI (by decide +kernel) (pa_cons (pv 4) pa_nil)) (pv 1))))))), ?_⟩
      intro H1 i1 r1 c1 o2 o3 SB hp1 hs1 hi1 hr1 hc1 hc12
      refine ⟨_, rfl, p, _, _, _, rfl, rfl, SqL.of hp1, at_of (j := 4) rfl rfl, _, _, rfl, rfl, ?_⟩
      refine ⟨_, rfl, p, _, 4, 4, rfl, rfl, hp1, rfl, ?_⟩
      have hl1 : ([.ref sl, .int i1, .int r1, .int c1, .int k] : List V).set 4 (.int (k + 1)) = [.ref sl, .int i1, .int r1, .int c1, .int (k + 1)] := rfl
      rw [hl1]
      have hp2 : upd H1 p (.lst [.ref sl, .int i1, .int r1, .int c1, .int (k + 1)]) p = some (.lst [.ref sl, .int i1, .int r1, .int c1, .int (k + 1)]) := upd_same
      have SB2 : SameBut p H (upd H1 p (.lst [.ref sl, .int i1, .int r1, .int c1, .int (k + 1)])) := fun d o n e => by
        rw [upd_ne n]
        exact SB d o n e
      have hs2 := sl_keep nsp hs1 (.lst [.ref sl, .int i1, .int r1, .int c1, .int (k + 1)])
      generalize upd H1 p (.lst [.ref sl, .int i1, .int r1, .int c1, .int (k + 1)]) = H2 at *
      have small4 : ∀ z : Int, z.natAbs < 2 ^ 100 → z.natAbs < 2 ^ 4600 := fun z h => Nat.lt_trans h (Nat.pow_lt_pow_right (by decide) (by decide))
      have hpow : (2 : Int) ^ 60 = 1152921504606846976 := by decide
      have hpowN : (2 : Nat) ^ 100 = 1267650600228229401496703205376 := by decide
      have hml : ∀ z w : Int, 0 ≤ z → z < 2 ^ 60 → 0 ≤ w → w < 2 ^ 60 → CMulW z w := fun z w h1 h2 h3 h4 => cm (small4 _ (by omega)) (small4 _ (by omega))
      have hkb2 : k + 1 < 2 ^ 60 := by omega
      refine ⟨_, rfl, p, _, _, _, rfl, rfl, SqL.of hp2, at_of (j := 3) rfl rfl, _, _, rfl, rfl, hml _ _ hc1 hc12 (by decide) (by decide), _, rfl, p, _, _, _, rfl, rfl, SqL.of hp2, at_of (j := 4) rfl rfl, _, _, rfl, rfl, hml _ _ (by omega) hkb2 (by decide) (by decide), _, _, rfl, rfl, _, _, rfl, rfl, .inl ⟨_, rfl, _, _, rfl, rfl, (show (0 : Int) < 2147483647 by decide), ?_⟩⟩
      have hm1 : 0 ≤ (c1 * 48271 + (k + 1) * 69621 + 7919) % 2147483647 ∧ (c1 * 48271 + (k + 1) * 69621 + 7919) % 2147483647 < 2147483647 := ⟨Int.emod_nonneg _ (by decide), Int.emod_lt_of_pos _ (by decide)⟩
      refine ⟨_, rfl, _, rfl, _, _, rfl, rfl, hml _ _ hm1.1 (by omega) hm1.1 (by omega), _, rfl, p, _, _, _, rfl, rfl, SqL.of hp2, at_of (j := 4) rfl rfl, _, _, rfl, rfl, hml _ _ (by omega) hkb2 (by decide) (by decide), _, _, rfl, rfl, .inl ⟨_, rfl, _, _, rfl, rfl, (show (0 : Int) < 2147483399 by decide), ?_⟩⟩
      refine ⟨_, rfl, .inl ⟨_, rfl, _, rfl, _, _, rfl, rfl, hm, ?_⟩⟩
      exact kk _ H2 (hmod _).1 (hmod _).2 SB2 ⟨ns, i1, r1, c1, k + 1, hp2, hs2, nsp, hi1, hr1, hc1, hc12, by omega, by omega⟩
    obtain ⟨tr, hr1, hr2⟩ := fin
    refine ⟨_, (pss_cons (ps_if (pt_cmpR op_gt (pe_ix ix_list (pv 0) pe_int (fun _ _ => rfl)) pe_int (nomark _)) (pss_cons (ps_set (i := 2) scDr.nd rfl (.inl rfl) (pe_op op_mod (pe_callTy call_int1 (by rfl) gI (by decide +kernel) (pa_cons (pe_ix ix_list (pv 0) pe_int (fun _ _ => rfl)) pa_nil)) (pv 1))) (pss_cons (ps_asg (pe_op op_fdivW (pe_ix ix_list (pv 0) pe_int (fun _ _ => rfl)) (pv 1)) (pg_sub (pv 0) pe_int set_list)) (pss_one (ps_ret (pv 2))))) pss_nil) (pss_cons (ps_if (PW.pt (pw_and (pt_cmp (pc_eqI (pe_op op_mod (pe_callTy call_int1 (by rfl) gI (by decide +kernel) (pa_cons (pe_ix ix_list (pv 0) pe_int (fun _ _ => rfl)) pa_nil)) pe_int) pe_int)) (pw_and1 (pt_cmpR op_lt (pe_ix ix_list (pv 0) pe_int (fun _ _ => rfl)) (pe_callB call_len_seq (by rfl) gL (by decide +kernel) (pa_cons (pe_ix ix_list (pv 0) pe_int (fun _ _ => rfl)) pa_nil)) (nomark _))))) (pss_cons (ps_set (i := 3) scDr.nd rfl (.inl rfl) (pe_callB call_abs (by rfl) gA (by decide +kernel) (pa_cons (pe_ix ix_list (pe_ix ix_list (pv 0) pe_int (fun _ _ => rfl)) (pe_ix ix_list (pv 0) pe_int (fun _ _ => rfl)) (fun _ _ => rfl)) pa_nil))) (pss_cons (ps_asg (pe_op op_add (pe_ix ix_list (pv 0) pe_int (fun _ _ => rfl)) pe_int) (pg_sub (pv 0) pe_int set_list)) (pss_cons (ps_if (pt_cmpR op_ge (pv 3) (pe_op op_pow pe_int pe_int) (nomark _)) (pss_cons (ps_asg (pe_op op_fdivW (pv 3) (pv 1)) (pg_sub (pv 0) pe_int set_list)) (pss_one (ps_ret (pe_op op_mod (pe_callTy call_int1 (by rfl) gI (by decide +kernel) (pa_cons (pv 3) pa_nil)) (pv 1))))) pss_nil) (pss_one (ps_asg (pv 3) (pg_sub (pv 0) pe_int set_list)))))) pss_nil) hr1)), ?_⟩
    refine ⟨_, rfl, p, _, _, _, rfl, rfl, SqL.of hp, at_of (j := 2) rfl rfl, _, _, rfl, rfl, _, rfl, ?_⟩
    refine ite2 (fun c0 => ?_) (fun _ => ?_)
    · refine ⟨_, rfl, p, _, _, _, rfl, rfl, SqL.of hp, at_of (j := 2) rfl rfl, .inl ⟨r, rfl, _, rfl, _, _, rfl, rfl, hm, ?_⟩⟩
      refine ⟨_, rfl, p, _, _, _, rfl, rfl, SqL.of hp, at_of (j := 2) rfl rfl, _, rfl, _, _, rfl, rfl, hdv _, ?_⟩
      refine ⟨_, rfl, p, _, 2, 2, rfl, rfl, hp, rfl, ?_⟩
      refine ⟨_, rfl, kk _ _ (hmod _).1 (hmod _).2 (fun d o n e => by rw [upd_ne n]; exact e) ?_⟩
      exact ⟨ns, i, r / m, c, k, upd_same, sl_keep nsp hs _, nsp, hi, Int.ediv_nonneg hr0 (by omega), hc, hc2, hk, by omega⟩
    · refine ⟨_, rfl, p, _, _, _, rfl, rfl, SqL.of hp, at_of (j := 4) rfl rfl, .inl ⟨_, rfl, _, _, rfl, rfl, (show (0 : Int) < 8 by decide), _, _, rfl, rfl, _, rfl, ?_⟩⟩
      have stay : tr { nx := fun _ H' => Q .non H', rt := Q } [some (V.ref p), some (.int m), none, none, none] H := hr2 H i r c none none (fun _ _ _ e => e) hp hs hi hr0 hc hc2
      refine ite2 (fun _ => ?_) (fun _ => iteF stay)
      refine ⟨_, rfl, p, _, _, _, rfl, rfl, SqL.of hp, at_of (j := 1) rfl rfl, _, rfl, p, _, _, _, rfl, rfl, SqL.of hp, at_of (j := 0) rfl rfl, sl, _, rfl, .inl (SqL.of hs), _, _, rfl, rfl, _, rfl, ?_⟩
      rw [List.length_map]
      refine ite2 (fun c1 => ?_) (fun _ => stay)
      have c1 := of_decide_eq_true c1
      obtain ⟨z, hz⟩ : ∃ z, ns[i.toNat]? = some z := ⟨_, List.getElem?_eq_getElem (by omega)⟩
      have hz2 : (ns.map V.int)[i.toNat]? = some (.int z) := by rw [List.getElem?_map, hz]; rfl
      refine ⟨_, rfl, p, _, _, _, rfl, rfl, SqL.of hp, at_of (j := 0) rfl rfl, _, rfl, p, _, _, _, rfl, rfl, SqL.of hp, at_of (j := 1) rfl rfl, sl, _, _, _, rfl, rfl, SqL.of hs, at_of (j := i.toNat) (by omega) hz2, z, rfl, ?_⟩
      have hz0 : 0 ≤ (if z < 0 then -z else z) := by split <;> omega
      generalize (if z < 0 then -z else z) = zc at *
      refine ⟨_, rfl, p, _, _, _, rfl, rfl, SqL.of hp, at_of (j := 1) rfl rfl, _, _, rfl, rfl, ?_⟩
      refine ⟨_, rfl, p, _, 1, 1, rfl, rfl, hp, rfl, ?_⟩
      have hl1 : ([.ref sl, .int i, .int r, .int c, .int k] : List V).set 1 (.int (i + 1)) = [.ref sl, .int (i + 1), .int r, .int c, .int k] := rfl
      rw [hl1]
      have hp2 : upd H p (.lst [.ref sl, .int (i + 1), .int r, .int c, .int k]) p = some (.lst [.ref sl, .int (i + 1), .int r, .int c, .int k]) := upd_same
      have SB2 : SameBut p H (upd H p (.lst [.ref sl, .int (i + 1), .int r, .int c, .int k])) := fun d o n e => by
        rw [upd_ne n]
        exact e
      have hs2 := sl_keep nsp hs (.lst [.ref sl, .int (i + 1), .int r, .int c, .int k])
      generalize upd H p (.lst [.ref sl, .int (i + 1), .int r, .int c, .int k]) = H2 at *
      refine ⟨_, rfl, _, _, rfl, rfl, ⟨by decide, by decide, by decide⟩, _, _, rfl, rfl, _, rfl, ?_⟩
      refine ite2 (fun _ => ?_) (fun c2 => ?_)
      · refine ⟨_, rfl, _, rfl, _, _, rfl, rfl, hdv _, ?_⟩
        refine ⟨_, rfl, p, _, 2, 2, rfl, rfl, hp2, rfl, ?_⟩
        refine ⟨_, rfl, .inl ⟨_, rfl, _, rfl, _, _, rfl, rfl, hm, ?_⟩⟩
        exact kk _ _ (hmod _).1 (hmod _).2 (fun d o n e => by rw [upd_ne n]; exact SB2 d o n e) ⟨ns, i + 1, zc / m, c, k, upd_same, sl_keep nsp hs2 _, nsp, by omega, Int.ediv_nonneg hz0 (by omega), hc, hc2, hk, by omega⟩
      · have c2' : zc < 2 ^ 60 := by
          have c3 : ¬ (10 : Int) ^ (18 : Int).toNat ≤ zc := fun q => c2 (decide_eq_true q)
          have e18 : (10 : Int) ^ (18 : Int).toNat = 1000000000000000000 := by decide
          rw [e18] at c3
          omega
        refine ⟨_, rfl, _, rfl, p, _, 3, 3, rfl, rfl, hp2, rfl, ?_⟩
        exact hr2 _ (i + 1) r zc none (some (.int zc)) (fun d o n e => by rw [upd_ne n]; exact SB2 d o n e) upd_same (sl_keep nsp hs2 _) (by omega) hr0 hz0 c2'
end
end SW

set_option Elab.async false
set_option linter.all false
set_option maxRecDepth 100000
set_option maxHeartbeats 4000000
set_option exponentiation.threshold 300
namespace SW
open PySem PySem.Spec PyProof.Rows L2
theorem gcd_step {a b i M : Nat} (hb : b ≠ 0) (h1 : 1 ≤ i → b < a ∧ a * b * 2 ^ (i - 1) ≤ M) (h0 : i = 0 → b * b ≤ M) : a % b < b ∧ b * (a % b) * 2 ^ i ≤ M ∧ (1 ≤ i → 2 ^ (i - 1) ≤ M) := by
  have hr : a % b < b := Nat.mod_lt _ (Nat.pos_of_ne_zero hb)
  refine ⟨hr, ?_, fun h => ?_⟩
  · by_cases hi : i = 0
    · subst hi
      have := h0 rfl
      have h2 : b * (a % b) ≤ b * b := Nat.mul_le_mul_left _ (Nat.le_of_lt hr)
      omega
    · obtain ⟨h2, h3⟩ := h1 (by omega)
      have e : 2 ^ i = 2 * 2 ^ (i - 1) := by
        have : i = i - 1 + 1 := by omega
        rw [this, Nat.pow_succ, Nat.add_sub_cancel]
        omega
      have h4 : 2 * (a % b) ≤ a := by
        have h5 := Nat.div_add_mod a b
        have h6 : 1 ≤ a / b := (Nat.one_le_div_iff (Nat.pos_of_ne_zero hb)).mpr (Nat.le_of_lt h2)
        have h7 : b * 1 ≤ b * (a / b) := Nat.mul_le_mul_left _ h6
        omega
      rw [e]
      calc b * (a % b) * (2 * 2 ^ (i - 1)) = 2 * (a % b) * b * 2 ^ (i - 1) := by
            rw [Nat.mul_comm b, Nat.mul_assoc, Nat.mul_assoc, Nat.mul_assoc, Nat.mul_left_comm b 2, Nat.mul_left_comm (a % b) 2]
        _ ≤ a * b * 2 ^ (i - 1) := Nat.mul_le_mul_right _ (Nat.mul_le_mul_right _ h4)
        _ ≤ M := h3
  · obtain ⟨h2, h3⟩ := h1 h
    have h4 : 1 ≤ a * b := Nat.mul_pos (by omega) (Nat.pos_of_ne_zero hb)
    have := Nat.mul_le_mul_right (2 ^ (i - 1)) h4
    omega
theorem num_pos' {x : Rat} (h : 0 < x) : 0 < x.num := by
  have h1 := num_eq x
  have h2 := rat_den_pos x
  have h3 := Rat.mul_pos h h2
  rw [h1] at h3
  have e0 : ((0 : Int) : Rat) = 0 := rfl
  rw [← e0] at h3
  exact Rat.intCast_lt_intCast.mp h3
theorem dd_pos (x y : Rat) : 0 < (x.den : Int) * (y.den : Int) := Int.mul_pos (by have := x.den_pos; omega) (by have := y.den_pos; omega)
section
variable {P : Program} {w : World} {K : PySem.W.Frag} {mg : Str → Option Value} {base : Heap}
theorem scGc : FnScope ["_law_a", "_law_b", "_law_k"] ["_law_a", "_law_b"] (defScope (top 45)) := ⟨rfl, rfl, rfl, by decide +kernel, rfl, by decide +kernel, by decide +kernel⟩
def spGc (K : PySem.W.Frag) : Sp := fun vs H Q _ => ∃ a b : Nat, vs = [.int (a : Int), .int (b : Int)] ∧ b < 2 ^ 40000 ∧ Q (.int ((Nat.gcd a b : Nat) : Int)) H
theorem ok_gc (T : TF K mg "_law_gcd" (top 45) ["_law_a", "_law_b"]) (gI : mg "int" = none) (gR : mg "range" = none) : Def P w K mg base "_law_gcd" ["_law_a", "_law_b"] [] 1 (spGc K) := by
  refine T.ok scGc (fun vs H Q E h => ?_) (fun f cdv A outer s_ H vs Q E hr h => ⟨_, (pss_cons (ps_for PassesOwn.never rfl (pi_range1 (by rfl) gR (pa_cons pe_int pa_nil)) (pg_name (i := 2) scGc.nd rfl (.inl rfl)) (pss_cons (ps_if (pt_cmp (pc_eqI (pv 1) pe_int)) (pss_one (ps_ret (pv 0))) pss_nil) (pss_one (ps_par (i := 0) (j := 1) rfl scGc.nd rfl rfl (by decide) rfl rfl (pa_cons (pv 1) (pa_cons (pe_op op_mod (pe_callTy call_int1 (by rfl) gI (by decide +kernel) (pa_cons (pv 0) pa_nil)) (pv 1)) pa_nil)) (by rfl))))) (pss_one ps_never)), ?_⟩)
  · obtain ⟨_, _, rfl, _⟩ := h
    rfl
  · obtain ⟨a, b, rfl, hb, k⟩ := h
    refine ⟨100000, rfl, by decide, by decide, for_range (lo := 0) (n := (100000 : Int).toNat) (fun i σ H' => ∃ (x y : Nat) (o : Option V), σ = [some (.int (x : Int)), some (.int (y : Int)), o] ∧ H' = H ∧ Nat.gcd x y = Nat.gcd a b ∧ (1 ≤ i → y < x ∧ x * y * 2 ^ (i - 1) ≤ b * b) ∧ (i = 0 → y = b) ∧ (2 ≤ i → 2 ^ (i - 2) ≤ b * b))
      ⟨a, b, none, rfl, rfl, rfl, fun h => absurd h (by decide), fun _ => rfl, fun h => absurd h (by decide)⟩ ?_ ?_⟩
    · rintro i σ H' hi ⟨x, y, o, rfl, rfl, hg, h1, h0, h2⟩
      refine ⟨_, rfl, _, _, rfl, rfl, _, rfl, ?_⟩
      by_cases hy : y = 0
      · subst hy
        refine ite2 (fun _ => ?_) (fun c => absurd (decide_eq_true rfl) c)
        rw [Nat.gcd_zero_right] at hg
        refine ⟨_, rfl, ?_⟩
        rw [hg]
        exact k
      · refine ite2 (fun c => absurd (of_decide_eq_true c) (by omega)) (fun _ => ?_)
        obtain ⟨s1, s2, s3⟩ := gcd_step hy h1 (fun e => by rw [h0 e]; exact Nat.le_refl _)
        refine ⟨_, rfl, _, rfl, .inl ⟨_, rfl, _, rfl, _, _, rfl, rfl, (show (0 : Int) < (y : Int) by omega), _, _, rfl, ?_⟩⟩
        refine ⟨y, x % y, some (.int (0 + (i : Int))), ?_, rfl, ?_, fun _ => ⟨s1, s2⟩, fun e => absurd e (by omega), fun h => s3 (by omega)⟩
        · rw [Int.natCast_emod]
          rfl
        · rw [← hg, Nat.gcd_comm x y, Nat.gcd_rec y x, Nat.gcd_comm]
    · rintro σ H' ⟨x, y, o, rfl, rfl, hg, h1, h0, h2⟩
      exfalso
      have h3 := h2 (by decide)
      have h4 : b * b < 2 ^ 40000 * 2 ^ 40000 := Nat.mul_lt_mul'' hb hb
      rw [← Nat.pow_add] at h4
      have h5 := Nat.lt_of_le_of_lt h3 h4
      have h6 := (Nat.pow_lt_pow_iff_right (a := 2) (by decide)).mp h5
      exact absurd h6 (by decide)
theorem scLR : FnScope ["_law_top", "_law_bottom", "_law_common"] ["_law_top", "_law_bottom"] (defScope (top 46)) := ⟨rfl, rfl, rfl, by decide +kernel, rfl, by decide +kernel, by decide +kernel⟩
def spLR (K : PySem.W.Frag) : Sp := fun vs H Q _ => ∃ a b : Int, vs = [.int a, .int b] ∧ 0 < b ∧ b.natAbs < 2 ^ 9000 ∧ ∀ v H', Same H H' → RatV K H' v ((a : Rat) / (b : Rat)) → Q v H'
theorem ok_lr (T : TF K mg "_law_ratio" (top 46) ["_law_top", "_law_bottom"]) (gA : mg "abs" = none) (G : Def P w K mg base "_law_gcd" ["_law_a", "_law_b"] [] 1 (spGc K)) : Def P w K mg base "_law_ratio" ["_law_top", "_law_bottom"] [] 2 (spLR K) := by
  refine T.ok scLR (fun vs H Q E h => ?_) (fun f cdv A outer s_ H vs Q E hr h => ⟨_, (pss_cons (ps_set (i := 2) scLR.nd rfl (.inl rfl) (pe_def G (hr.mono (by decide)) (pa_cons (pe_callB call_abs (by rfl) gA (by decide +kernel) (pa_cons (pv 0) pa_nil)) (pa_cons (pe_callB call_abs (by rfl) gA (by decide +kernel) (pa_cons (pv 1) pa_nil)) pa_nil)))) (pss_cons (ps_if (pt_cmpR op_lt (pv 1) pe_int (nomark _)) (pss_one (ps_set (i := 2) scLR.nd rfl (.inl rfl) (pe_op op_sub pe_int (pv 2)))) pss_nil) (pss_one (ps_ret (pe_tup (pa_cons (pe_op op_fdivW (pv 0) (pv 2)) (pa_cons (pe_op op_fdivW (pv 1) (pv 2)) pa_nil))))))), ?_⟩)
  · obtain ⟨_, _, rfl, _⟩ := h
    rfl
  · obtain ⟨a, b, rfl, hb, hw, k⟩ := h
    have abs_eq : ∀ z : Int, (if z < 0 then -z else z) = ((z.natAbs : Nat) : Int) := fun z => by split <;> omega
    have cw := fun c => gcd_wide (a := a) (n := 9000) (by omega) hw (by decide) (by decide) c
    refine ⟨_, rfl, a, rfl, _, rfl, b, rfl, a.natAbs, b.natAbs, by rw [abs_eq, abs_eq]; rfl, Nat.lt_trans hw (Nat.pow_lt_pow_right (by decide) (by decide)), ?_⟩
    refine ⟨_, rfl, _, _, rfl, rfl, _, rfl, ?_⟩
    refine ite2 (fun c => absurd (of_decide_eq_true c) (by omega)) (fun _ => ?_)
    refine ⟨_, rfl, _, rfl, _, _, rfl, rfl, cw _, _, rfl, _, rfl, _, _, rfl, rfl, cw _, (by show 2 ≤ sizeLine; decide), fun p np => ?_⟩
    obtain ⟨e1, e2⟩ := ratio_pos (a := a) hb
    refine k _ _ (same_new np) ⟨p, rfl, ?_⟩
    rw [e1, e2]
    exact SqT.of upd_same
theorem scLplus : FnScope ["_law_a", "_law_b"] ["_law_a", "_law_b"] (defScope (top 47)) := ⟨rfl, rfl, rfl, by decide +kernel, rfl, by decide +kernel, by decide +kernel⟩
theorem ok_lplus (T : TF K mg "_law_plus" (top 47) ["_law_a", "_law_b"]) (R : Def P w K mg base "_law_ratio" ["_law_top", "_law_bottom"] [] 2 (spLR K)) : Def P w K mg base "_law_plus" ["_law_a", "_law_b"] [] 3 (spR2 K (· + ·) C2) := by
  refine T.ok scLplus (fun vs H Q E h => ?_) (fun f cdv A outer s H vs Q E hr h => ⟨_, pss_one (ps_ret (pe_def R hr (pa_cons
    (pe_op op_add (pe_op op_mulW (pe_ix ix_tup (pv 0) pe_int (fun _ _ => rfl)) (pe_ix ix_tup (pv 1) pe_int (fun _ _ => rfl))) (pe_op op_mulW (pe_ix ix_tup (pv 1) pe_int (fun _ _ => rfl)) (pe_ix ix_tup (pv 0) pe_int (fun _ _ => rfl))))
    (pa_cons (pe_op op_mulW (pe_ix ix_tup (pv 0) pe_int (fun _ _ => rfl)) (pe_ix ix_tup (pv 1) pe_int (fun _ _ => rfl))) pa_nil)))), ?_⟩)
  · obtain ⟨_, _, _, _, rfl, _⟩ := h
    rfl
  · obtain ⟨_, _, x, y, rfl, ⟨p, rfl, hp⟩, ⟨q, rfl, hq⟩, ⟨hx, hy⟩, k⟩ := h
    refine ⟨_, rfl, p, _, _, _, rfl, rfl, hp, rfl, _, rfl, q, _, _, _, rfl, rfl, hq, rfl, _, _, rfl, rfl, cm hx.n hy.d, ?_⟩
    refine ⟨_, rfl, q, _, _, _, rfl, rfl, hq, rfl, _, rfl, p, _, _, _, rfl, rfl, hp, rfl, _, _, rfl, rfl, cm hy.n hx.d, _, _, rfl, rfl, ?_⟩
    refine ⟨_, rfl, p, _, _, _, rfl, rfl, hp, rfl, _, rfl, q, _, _, _, rfl, rfl, hq, rfl, _, _, rfl, rfl, cm hx.d hy.d, ?_⟩
    refine ⟨_, _, rfl, dd_pos x y, dd_small hx hy, ?_⟩
    rw [add_ratio]
    exact k
theorem scLminus : FnScope ["_law_a", "_law_b"] ["_law_a", "_law_b"] (defScope (top 48)) := ⟨rfl, rfl, rfl, by decide +kernel, rfl, by decide +kernel, by decide +kernel⟩
theorem ok_lminus (T : TF K mg "_law_minus" (top 48) ["_law_a", "_law_b"]) (R : Def P w K mg base "_law_ratio" ["_law_top", "_law_bottom"] [] 2 (spLR K)) : Def P w K mg base "_law_minus" ["_law_a", "_law_b"] [] 3 (spR2 K (· - ·) C2) := by
  refine T.ok scLminus (fun vs H Q E h => ?_) (fun f cdv A outer s H vs Q E hr h => ⟨_, pss_one (ps_ret (pe_def R hr (pa_cons
    (pe_op op_sub (pe_op op_mulW (pe_ix ix_tup (pv 0) pe_int (fun _ _ => rfl)) (pe_ix ix_tup (pv 1) pe_int (fun _ _ => rfl))) (pe_op op_mulW (pe_ix ix_tup (pv 1) pe_int (fun _ _ => rfl)) (pe_ix ix_tup (pv 0) pe_int (fun _ _ => rfl))))
    (pa_cons (pe_op op_mulW (pe_ix ix_tup (pv 0) pe_int (fun _ _ => rfl)) (pe_ix ix_tup (pv 1) pe_int (fun _ _ => rfl))) pa_nil)))), ?_⟩)
  · obtain ⟨_, _, _, _, rfl, _⟩ := h
    rfl
  · obtain ⟨_, _, x, y, rfl, ⟨p, rfl, hp⟩, ⟨q, rfl, hq⟩, ⟨hx, hy⟩, k⟩ := h
    refine ⟨_, rfl, p, _, _, _, rfl, rfl, hp, rfl, _, rfl, q, _, _, _, rfl, rfl, hq, rfl, _, _, rfl, rfl, cm hx.n hy.d, ?_⟩
    refine ⟨_, rfl, q, _, _, _, rfl, rfl, hq, rfl, _, rfl, p, _, _, _, rfl, rfl, hp, rfl, _, _, rfl, rfl, cm hy.n hx.d, _, _, rfl, rfl, ?_⟩
    refine ⟨_, rfl, p, _, _, _, rfl, rfl, hp, rfl, _, rfl, q, _, _, _, rfl, rfl, hq, rfl, _, _, rfl, rfl, cm hx.d hy.d, ?_⟩
    refine ⟨_, _, rfl, dd_pos x y, dd_small hx hy, ?_⟩
    rw [sub_ratio]
    exact k
theorem scLtimes : FnScope ["_law_a", "_law_b"] ["_law_a", "_law_b"] (defScope (top 49)) := ⟨rfl, rfl, rfl, by decide +kernel, rfl, by decide +kernel, by decide +kernel⟩
theorem ok_ltimes (T : TF K mg "_law_times" (top 49) ["_law_a", "_law_b"]) (R : Def P w K mg base "_law_ratio" ["_law_top", "_law_bottom"] [] 2 (spLR K)) : Def P w K mg base "_law_times" ["_law_a", "_law_b"] [] 3 (spR2 K (· * ·) C2) := by
  refine T.ok scLtimes (fun vs H Q E h => ?_) (fun f cdv A outer s H vs Q E hr h => ⟨_, pss_one (ps_ret (pe_def R hr (pa_cons
    (pe_op op_mulW (pe_ix ix_tup (pv 0) pe_int (fun _ _ => rfl)) (pe_ix ix_tup (pv 1) pe_int (fun _ _ => rfl)))
    (pa_cons (pe_op op_mulW (pe_ix ix_tup (pv 0) pe_int (fun _ _ => rfl)) (pe_ix ix_tup (pv 1) pe_int (fun _ _ => rfl))) pa_nil)))), ?_⟩)
  · obtain ⟨_, _, _, _, rfl, _⟩ := h
    rfl
  · obtain ⟨_, _, x, y, rfl, ⟨p, rfl, hp⟩, ⟨q, rfl, hq⟩, ⟨hx, hy⟩, k⟩ := h
    refine ⟨_, rfl, p, _, _, _, rfl, rfl, hp, rfl, _, rfl, q, _, _, _, rfl, rfl, hq, rfl, _, _, rfl, rfl, cm hx.n hy.n, ?_⟩
    refine ⟨_, rfl, p, _, _, _, rfl, rfl, hp, rfl, _, rfl, q, _, _, _, rfl, rfl, hq, rfl, _, _, rfl, rfl, cm hx.d hy.d, ?_⟩
    refine ⟨_, _, rfl, dd_pos x y, dd_small hx hy, ?_⟩
    rw [mul_ratio]
    exact k
theorem scLover : FnScope ["_law_a", "_law_b"] ["_law_a", "_law_b"] (defScope (top 50)) := ⟨rfl, rfl, rfl, by decide +kernel, rfl, by decide +kernel, by decide +kernel⟩
theorem ok_lover (T : TF K mg "_law_over" (top 50) ["_law_a", "_law_b"]) (R : Def P w K mg base "_law_ratio" ["_law_top", "_law_bottom"] [] 2 (spLR K)) : Def P w K mg base "_law_over" ["_law_a", "_law_b"] [] 3 (spR2 K (· / ·) fun x y => Sm x ∧ Sm y ∧ 0 < y ∧ ((x.den : Int) * y.num).natAbs < 2 ^ 9000) := by
  refine T.ok scLover (fun vs H Q E h => ?_) (fun f cdv A outer s H vs Q E hr h => ⟨_, pss_one (ps_ret (pe_def R hr (pa_cons
    (pe_op op_mulW (pe_ix ix_tup (pv 0) pe_int (fun _ _ => rfl)) (pe_ix ix_tup (pv 1) pe_int (fun _ _ => rfl)))
    (pa_cons (pe_op op_mulW (pe_ix ix_tup (pv 0) pe_int (fun _ _ => rfl)) (pe_ix ix_tup (pv 1) pe_int (fun _ _ => rfl))) pa_nil)))), ?_⟩)
  · obtain ⟨_, _, _, _, rfl, _⟩ := h
    rfl
  · obtain ⟨_, _, x, y, rfl, ⟨p, rfl, hp⟩, ⟨q, rfl, hq⟩, ⟨hx, hy, h0, hs⟩, k⟩ := h
    refine ⟨_, rfl, p, _, _, _, rfl, rfl, hp, rfl, _, rfl, q, _, _, _, rfl, rfl, hq, rfl, _, _, rfl, rfl, cm hx.n hy.d, ?_⟩
    refine ⟨_, rfl, p, _, _, _, rfl, rfl, hp, rfl, _, rfl, q, _, _, _, rfl, rfl, hq, rfl, _, _, rfl, rfl, cm hx.d hy.n, ?_⟩
    refine ⟨_, _, rfl, Int.mul_pos (by have := x.den_pos; omega) (num_pos' h0), hs, ?_⟩
    rw [div_ratio (show y ≠ 0 by grind)]
    exact k
theorem scLless : FnScope ["_law_a", "_law_b"] ["_law_a", "_law_b"] (defScope (top 51)) := ⟨rfl, rfl, rfl, by decide +kernel, rfl, by decide +kernel, by decide +kernel⟩
theorem ok_lless (T : TF K mg "_law_less" (top 51) ["_law_a", "_law_b"]) : Def P w K mg base "_law_less" ["_law_a", "_law_b"] [] 1 (spLess K) := by
  refine T.ok scLless (fun vs H Q E h => ?_) (fun f cdv A outer s H vs Q E hr h => ⟨_, pss_one (ps_ret (pe_cmpR op_lt
    (pe_op op_mulW (pe_ix ix_tup (pv 0) pe_int (fun _ _ => rfl)) (pe_ix ix_tup (pv 1) pe_int (fun _ _ => rfl)))
    (pe_op op_mulW (pe_ix ix_tup (pv 1) pe_int (fun _ _ => rfl)) (pe_ix ix_tup (pv 0) pe_int (fun _ _ => rfl))) (nomark _))), ?_⟩)
  · obtain ⟨_, _, _, _, rfl, _⟩ := h
    rfl
  · obtain ⟨_, _, x, y, rfl, ⟨p, rfl, hp⟩, ⟨q, rfl, hq⟩, ⟨hx, hy⟩, k⟩ := h
    refine ⟨_, rfl, p, _, _, _, rfl, rfl, hp, rfl, _, rfl, q, _, _, _, rfl, rfl, hq, rfl, _, _, rfl, rfl, cm hx.n hy.d, ?_⟩
    refine ⟨_, rfl, q, _, _, _, rfl, rfl, hq, rfl, _, rfl, p, _, _, _, rfl, rfl, hp, rfl, _, _, rfl, rfl, cm hy.n hx.d, _, _, rfl, rfl, ?_⟩
    have e : decide (x.num * (y.den : Int) < y.num * (x.den : Int)) = decide (x < y) := decide_eq_decide.mpr (Rat.lt_iff x y).symm
    show Q (.bl (decide (x.num * (y.den : Int) < y.num * (x.den : Int)))) H
    rw [e]
    exact k
theorem scLS : FnScope ["_law_rows", "_law_found", "_law_row"] ["_law_rows"] (defScope (top 52)) := ⟨rfl, rfl, rfl, by decide +kernel, rfl, by decide +kernel, by decide +kernel⟩
def spLS (K : PySem.W.Frag) : Sp := fun vs H Q _ => ∃ l us xs, vs = [.ref l] ∧ SqL K H l us ∧ Paired (RatV K H) us xs ∧ (∀ x ∈ xs, Sm x) ∧ (∀ i, Sm (ls (fun x => x) (xs.take i))) ∧ ∀ v H', Same H H' → RatV K H' v (ls (fun x => x) xs) → Q v H'
theorem ok_ls (T : TF K mg "_law_sum" (top 52) ["_law_rows"]) (Pl : Def P w K mg base "_law_plus" ["_law_a", "_law_b"] [] 3 (spR2 K (· + ·) C2)) : Def P w K mg base "_law_sum" ["_law_rows"] [] 4 (spLS K) := by
  refine T.ok scLS (fun vs H Q E h => ?_) (fun f cdv A outer s_ H vs Q E hr h => ⟨_, (pss_cons (ps_set (i := 1) scLS.nd rfl (.inl rfl) (pe_tup (pa_cons pe_int (pa_cons pe_int pa_nil)))) (pss_cons (ps_for PassesOwn.never rfl (pi_list (pv 0)) (pg_name (i := 2) scLS.nd rfl (.inl rfl)) (pss_one (ps_set (i := 1) scLS.nd rfl (.inl rfl) (pe_def Pl (hr.mono (by decide)) (pa_cons (pv 1) (pa_cons (pv 2) pa_nil)))))) (pss_one (ps_ret (pv 1))))), ?_⟩)
  · obtain ⟨_, _, _, rfl, _⟩ := h
    rfl
  · obtain ⟨l, us, xs, rfl, hl, hp, hx, hs, k⟩ := h
    refine ⟨(by show 2 ≤ sizeLine; decide), fun z nz => ?_⟩
    have S0 := same_new (o := .tup [V.int 0, V.int 1]) nz
    have hz : RatV K (upd H z (.tup [V.int 0, V.int 1])) (.ref z) 0 := ⟨z, rfl, SqT.of upd_same⟩
    generalize upd H z (.tup [V.int 0, V.int 1]) = H0 at *
    refine ⟨_, rfl, l, rfl, ⟨_, S0.seq hl⟩, for_list (K := K) (a := l) (xs := us) (fun i σ H' => ∃ v o, σ = [some (.ref l), some v, o] ∧ Same H H' ∧ RatV K H' v (ls (fun x => x) (xs.take i)))
      ⟨.ref z, none, rfl, S0, hz⟩ (fun i σ H' _ ⟨_, _, _, e, _⟩ => e.seq hl) ?_ ?_⟩
    · rintro i x σ H' hi ⟨v, o, rfl, S', hv⟩
      obtain ⟨q, hq, hxq⟩ := pair_get hp hi
      refine ⟨_, rfl, _, rfl, v, x, _, q, rfl, hv, hxq.same S', ⟨hs i, hx q (List.mem_of_getElem? hq)⟩, fun r H2 S2 hr2 => ?_⟩
      refine ⟨r, _, rfl, S'.trans S2, ?_⟩
      rw [ls_take _ hq]
      exact hr2
    · rintro σ H' ⟨v, o, rfl, S', hv⟩
      rw [pair_len hp, List.take_length] at hv
      exact ⟨_, rfl, k v H' S' hv⟩
end
end SW

set_option Elab.async false
set_option linter.all false
set_option maxRecDepth 100000
set_option maxHeartbeats 4000000
set_option exponentiation.threshold 300
namespace SW
open PySem PySem.Spec PyProof.Rows L2
def letters : Str := "abcdefghijklmnopqrst"
def headsL : List Str := ["", "u", "vw", "xyz"]
def tailsL : List Str := ["", "z", "yy"]
def nameOf (i h t : Nat) : Str := headsL.getD h "" ++ ⟨#[letters.cps.toList.getD i 0]⟩ ++ tailsL.getD t ""
theorem name_facts : ∀ i, i < 8 → ∀ h, h < 4 → ∀ t, t < 3 → PyData.strOk (nameOf i h t) = true ∧ (nameOf i h t).length ≤ 100 := by decide +kernel
def letterIn (s : Str) : Option Nat := s.cps.toList.find? fun c => decide (97 ≤ c ∧ c ≤ 104)
theorem name_letter : ∀ i, i < 8 → ∀ h, h < 4 → ∀ t, t < 3 → letterIn (nameOf i h t) = some (97 + i) := by decide +kernel
theorem name_inj {i j h g t s : Nat} (hi : i < 8) (hj : j < 8) (hh : h < 4) (hg : g < 4) (ht : t < 3) (hs : s < 3) (e : nameOf i h t = nameOf j g s) : i = j := by
  have h1 := name_letter i hi h hh t ht
  have h2 := name_letter j hj g hg s hs
  rw [e, h2] at h1
  have := Option.some.inj h1
  omega
theorem atI_nat {α : Type} {xs : List α} {n : Nat} {v : α} (h : xs[n]? = some v) : atI xs (n : Int) = some v := by
  obtain ⟨h1, _⟩ := List.getElem?_eq_some_iff.mp h
  unfold atI ixN
  rw [if_pos (by omega), if_pos (by omega)]
  exact h
theorem heads_at : ∀ n, n < 4 → ([V.str "", V.str "u", V.str "vw", V.str "xyz"] : List V)[n]? = some (.str (headsL.getD n ""))
  | 0, _ => rfl
  | 1, _ => rfl
  | 2, _ => rfl
  | 3, _ => rfl
  | n + 4, h => by omega
theorem tails_at : ∀ n, n < 3 → ([V.str "", V.str "z", V.str "yy"] : List V)[n]? = some (.str (tailsL.getD n ""))
  | 0, _ => rfl
  | 1, _ => rfl
  | 2, _ => rfl
  | n + 3, h => by omega
theorem head_len : ∀ n, n < 4 → (headsL.getD n "").length ≤ 10 := by decide
theorem tail_len : ∀ n, n < 3 → (tailsL.getD n "").length ≤ 10 := by decide
theorem SameBut.refl (p : Addr) (H : Hp) : SameBut p H H := fun _ _ _ e => e
section
variable {P : Program} {w : World} {K : PySem.W.Frag} {mg : Str → Option Value} {base : Heap}
theorem scNa : FnScope ["_law_pool_here", "_law_index", "_law_letter", "_law_head"] ["_law_pool_here", "_law_index"] (defScope (top 53)) := ⟨rfl, rfl, rfl, by decide +kernel, rfl, by decide +kernel, by decide +kernel⟩
def spNa (K : PySem.W.Frag) : Sp := fun vs H Q _ => ∃ p i b, vs = [.ref p, .int ((i : Nat) : Int)] ∧ i < 8 ∧ ∃ sl, PoolAt K sl H p b ∧ b ≤ 900000 ∧ ∀ H' h t, h < 4 → t < 3 → SameBut p H H' → PoolAt K sl H' p (b + 2) → Q (.str (nameOf i h t)) H'
theorem pool_new {K : PySem.W.Frag} {sl : Addr} {H : Hp} {p : Addr} {b : Nat} (h : PoolAt K sl H p b) {q : Addr} {o : HO} (hq : H q = none) : PoolAt K sl (upd H q o) p b := h.same (same_new hq)
theorem ok_na (T : TF K mg "_law_name" (top 53) ["_law_pool_here", "_law_index"]) (DR : Def P w K mg base "_law_draw" ["_law_pool_here", "_law_many"] [] 1 (spDr K)) : Def P w K mg base "_law_name" ["_law_pool_here", "_law_index"] [] 2 (spNa K) := by
  refine T.ok scNa (fun vs H Q E h => ?_) (fun f cdv A outer s_ H vs Q E hr h => ⟨_, (pss_cons (ps_set (i := 2) scNa.nd rfl (.inl rfl) (pe_ix ix_str pe_str (pv 1) (fun _ _ => rfl))) (pss_cons (ps_set (i := 3) scNa.nd rfl (.inl rfl) (pe_ix ix_list (pe_lst (pa_cons pe_str (pa_cons pe_str (pa_cons pe_str (pa_cons pe_str pa_nil))))) (pe_def DR (hr.mono (by decide)) (pa_cons (pv 0) (pa_cons pe_int pa_nil))) (fun _ _ => rfl))) (pss_one (ps_ret (pe_op op_add_str (pe_op op_add_str (pv 3) (pv 2)) (pe_ix ix_list (pe_lst (pa_cons pe_str (pa_cons pe_str (pa_cons pe_str pa_nil)))) (pe_def DR (hr.mono (by decide)) (pa_cons (pv 0) (pa_cons pe_int pa_nil))) (fun _ _ => rfl))))))), ?_⟩)
  · obtain ⟨_, _, _, rfl, _⟩ := h
    rfl
  · obtain ⟨p, i, b, rfl, hi, sl, hp, hb, k⟩ := h
    have hlt : ∃ c, letters.cps.toList[i]? = some c ∧ letters.cps.toList.getD i 0 = c := by
      have hl : letters.cps.toList.length = 20 := by decide
      have hx : letters.cps.toList[i]? = some (letters.cps.toList[i]'(by omega)) := List.getElem?_eq_getElem (by omega)
      exact ⟨_, hx, by rw [List.getD_eq_getElem?_getD, hx]; rfl⟩
    obtain ⟨c, hc, hcd⟩ := hlt
    refine ⟨_, rfl, letters, i, c, rfl, rfl, (by decide), atI_nat hc, ?_⟩
    refine ⟨(by show 4 ≤ sizeLine; decide), fun q nq => ?_⟩
    obtain ⟨xs0, hx0⟩ := hp.lst
    have nqp : q ≠ p := fun e => by
      rw [e, hx0] at nq
      cases nq
    refine ⟨_, rfl, p, 4, b, rfl, _, pool_new hp nq, by omega, by decide, by decide, fun r H2 r0 r4 SB hp2 => ?_⟩
    have SB0 : SameBut p H H2 := (SameBut.same (same_new nq)).trans SB
    refine ⟨q, _, _, _, rfl, rfl, SqL.of (SB _ _ nqp upd_same), at_of (j := r.toNat) (by omega) (heads_at _ (by omega)), ?_⟩
    have hl1 := head_len r.toNat (by omega)
    refine ⟨_, rfl, _, rfl, _, _, rfl, rfl, ?_, ?_⟩
    · have : (⟨#[c]⟩ : Str).length = 1 := rfl
      rw [this]
      have : 1000 ≤ sizeLine := by decide
      omega
    refine ⟨(by show 3 ≤ sizeLine; decide), fun q2 nq2 => ?_⟩
    obtain ⟨xs2, hx2⟩ := hp2.lst
    have nqp2 : q2 ≠ p := fun e => by
      rw [e, hx2] at nq2
      cases nq2
    refine ⟨_, rfl, p, 3, b + 1, rfl, _, pool_new hp2 nq2, by omega, by decide, by decide, fun r2 H3 r20 r23 SB3 hp3 => ?_⟩
    refine ⟨q2, _, _, _, rfl, rfl, SqL.of (SB3 _ _ nqp2 upd_same), at_of (j := r2.toNat) (by omega) (tails_at _ (by omega)), ?_⟩
    have hl2 := tail_len r2.toNat (by omega)
    refine ⟨_, _, rfl, rfl, ?_, ?_⟩
    · have h3 := fit3 (n := 1) hl1 (show (⟨#[c]⟩ : Str).length ≤ 1 from Nat.le_refl _)
      have : 1000 ≤ sizeLine := by decide
      omega
    have := k H3 r.toNat r2.toNat (by omega) (by omega) (SB0.trans ((SameBut.same (same_new nq2)).trans SB3)) hp3
    unfold nameOf at this
    rw [hcd] at this
    exact this
/-! a window -/
theorem scWi : FnScope ["_law_pool_here", "_law_wide", "_law_comes"] ["_law_pool_here", "_law_wide"] (defScope (top 54)) := ⟨rfl, rfl, rfl, by decide +kernel, rfl, by decide +kernel, by decide +kernel⟩
def spWi (K : PySem.W.Frag) : Sp := fun vs H Q _ => ∃ p wd b, vs = [.ref p, .bl wd] ∧ ∃ sl, PoolAt K sl H p b ∧ b ≤ 900000 ∧ ∀ t H' (c d : Int), 0 ≤ c → c < d → d ≤ 10000 → SameBut p H H' → PoolAt K sl H' p (b + 2) → H t = none → SqT K H' t [.int c, .int d] → Q (.ref t) H'
theorem ok_wi (T : TF K mg "_law_window" (top 54) ["_law_pool_here", "_law_wide"]) (DR : Def P w K mg base "_law_draw" ["_law_pool_here", "_law_many"] [] 1 (spDr K)) : Def P w K mg base "_law_window" ["_law_pool_here", "_law_wide"] [] 2 (spWi K) := by
  refine T.ok scWi (fun vs H Q E h => ?_) (fun f cdv A outer s_ H vs Q E hr h => ⟨_, (pss_cons (ps_if (pt_truth (pv 1) (by intro _; rfl)) (pss_cons (ps_set (i := 2) scWi.nd rfl (.inl rfl) (pe_def DR (hr.mono (by decide)) (pa_cons (pv 0) (pa_cons pe_int pa_nil)))) (pss_one (ps_ret (pe_tup (pa_cons (pv 2) (pa_cons (pe_op op_add (pe_op op_add (pv 2) pe_int) (pe_def DR (hr.mono (by decide)) (pa_cons (pv 0) (pa_cons (pe_op op_sub pe_int (pv 2)) pa_nil)))) pa_nil)))))) pss_nil) (pss_cons (ps_set (i := 2) scWi.nd rfl (.inl rfl) (pe_def DR (hr.mono (by decide)) (pa_cons (pv 0) (pa_cons pe_int pa_nil)))) (pss_one (ps_ret (pe_tup (pa_cons (pv 2) (pa_cons (pe_op op_add (pe_op op_add (pv 2) pe_int) (pe_def DR (hr.mono (by decide)) (pa_cons (pv 0) (pa_cons pe_int pa_nil)))) pa_nil))))))), ?_⟩)
  · obtain ⟨_, _, _, rfl, _⟩ := h
    rfl
  · obtain ⟨p, wd, b, rfl, sl, hp, hb, k⟩ := h
    have fin : ∀ (H2 : Hp) (c r : Int), 0 ≤ c → 0 ≤ r → c + 1 + r ≤ 10000 → SameBut p H H2 → PoolAt K sl H2 p (b + 2) → ∀ t, H2 t = none → Q (.ref t) (upd H2 t (.tup [.int c, .int (c + 1 + r)])) := fun H2 c r h1 h2 h3 SB hp2 t nt =>
      k t _ c (c + 1 + r) h1 (by omega) h3 (fun d o n e => by
        rw [upd_ne (ne_of_none (SB d o n e) nt)]
        exact SB d o n e) (pool_new hp2 nt) (by
        cases e : H t with
        | none => rfl
        | some o =>
          by_cases ep : t = p
          · subst ep
            obtain ⟨xs, hx⟩ := hp2.lst
            rw [hx] at nt
            cases nt
          · rw [SB t o ep e] at nt
            cases nt) (SqT.of upd_same)
    refine ⟨_, rfl, wd, rfl, ?_⟩
    cases wd with
    | true =>
      refine iteT ?_
      refine ⟨_, rfl, p, 10000, b, rfl, _, hp, by omega, by decide, by decide, fun r H2 r0 r1 SB hp2 => ?_⟩
      refine ⟨_, rfl, _, rfl, _, _, rfl, rfl, _, rfl, _, rfl, _, _, rfl, rfl, p, 10000 - r, b + 1, rfl, _, hp2, by omega, by omega, by omega, fun r2 H3 r20 r21 SB3 hp3 => ?_⟩
      exact ⟨_, _, rfl, rfl, (by show 2 ≤ sizeLine; decide), fin H3 r r2 r0 r20 (by omega) (SB.trans SB3) hp3⟩
    | false =>
      refine iteF ?_
      refine ⟨_, rfl, p, 20, b, rfl, _, hp, by omega, by decide, by decide, fun r H2 r0 r1 SB hp2 => ?_⟩
      refine ⟨_, rfl, _, rfl, _, _, rfl, rfl, _, rfl, p, 12, b + 1, rfl, _, hp2, by omega, by decide, by decide, fun r2 H3 r20 r21 SB3 hp3 => ?_⟩
      exact ⟨_, _, rfl, rfl, (by show 2 ≤ sizeLine; decide), fin H3 r r2 r0 r20 (by omega) (SB.trans SB3) hp3⟩
end
end SW

set_option Elab.async false
set_option linter.all false
set_option maxRecDepth 100000
set_option maxHeartbeats 4000000
set_option exponentiation.threshold 300
namespace SW
open PySem PySem.Spec PyProof.Rows L2
/-- the jobs that the law draws -/
structure JobsIn (J : List (Jb Str)) : Prop where
  few : J.length ≤ 6
  nd : (J.map (·.nm)).Nodup
  row : ∀ j ∈ J, 0 ≤ j.cm ∧ j.cm < j.du ∧ j.du ≤ 10000
  wk : ∀ j ∈ J, ∃ z : Int, j.wk = (z : Rat) ∧ 0 < z ∧ z ≤ 10000
  str : ∀ j ∈ J, PyData.strOk j.nm = true ∧ j.nm.length ≤ 100
def forBody : Stmt → List Stmt
  | .For _ _ b _ _ => b
  | _ => []
abbrev jbSt (i : Nat) : Stmt := (forBody ((defBody (top 55)).getD 2 (.Pass ⟨0, 0, 0, 0⟩))).getD i (.Pass ⟨0, 0, 0, 0⟩)
abbrev jbN : List Str := ["_law_pool_here", "_law_most", "_law_wide", "_law_jobs_here", "_law_k", "_law_comes", "_law_due", "_law_work", "_law_other"]
/-- rows so far -/
structure JRows (J : List (Jb Str)) : Prop where
  nm : ∀ k j, J[k]? = some j → ∃ h t, h < 4 ∧ t < 3 ∧ j.nm = nameOf k h t
  row : ∀ j ∈ J, 0 ≤ j.cm ∧ j.cm < j.du ∧ j.du ≤ 10000
  wk : ∀ j ∈ J, ∃ z : Int, j.wk = (z : Rat) ∧ 0 < z ∧ z ≤ 10000
theorem JRows.done {J : List (Jb Str)} (R : JRows J) (h : J.length ≤ 6) : JobsIn J := by
  refine ⟨h, ?_, R.row, R.wk, fun j hj => ?_⟩
  · refine List.pairwise_iff_getElem.mpr fun a b ha hb hab e => ?_
    rw [List.length_map] at ha hb
    rw [List.getElem_map, List.getElem_map] at e
    obtain ⟨h1, t1, q1, q2, q3⟩ := R.nm a _ (List.getElem?_eq_getElem ha)
    obtain ⟨h2, t2, q4, q5, q6⟩ := R.nm b _ (List.getElem?_eq_getElem hb)
    rw [q3, q6] at e
    have := name_inj (by omega) (by omega) q1 q4 q2 q5 e
    omega
  · obtain ⟨k, hk, e⟩ := List.mem_iff_getElem.mp hj
    obtain ⟨h1, t1, q1, q2, q3⟩ := R.nm k j (by rw [List.getElem?_eq_getElem hk, e])
    rw [q3]
    exact name_facts k (by omega) h1 q1 t1 q2
section
variable {P : Program} {w : World} {K : PySem.W.Frag} {mg : Str → Option Value} {base : Heap}
theorem scJb : FnScope jbN ["_law_pool_here", "_law_most"] (defScope (top 55)) := ⟨rfl, rfl, rfl, by decide +kernel, rfl, by decide +kernel, by decide +kernel⟩
theorem sb_lst {p pj : Addr} {H0 H H' : Hp} (e : SameBut p H H') (h : H pj = some o) (n : pj ≠ p) : H' pj = some o := e _ _ n h
def spJb (K : PySem.W.Frag) : Sp := fun vs H Q _ => ∃ p b, vs = [.ref p, .int 6] ∧ ∃ sl, PoolAt K sl H p b ∧ b ≤ 800000 ∧ ∀ r H' ws J, SameBut p H H' → PoolAt K sl H' p (b + 100) → SqT K H' r ws → Paired (JiV K H') ws J → JobsIn J → Q (.ref r) H'
theorem ok_jb (T : TF K mg "_law_jobs" (top 55) ["_law_pool_here", "_law_most"]) (gR : mg "range" = none) (gT : mg "tuple" = none) (DR : Def P w K mg base "_law_draw" ["_law_pool_here", "_law_many"] [] 1 (spDr K)) (WI : Def P w K mg base "_law_window" ["_law_pool_here", "_law_wide"] [] 2 (spWi K)) (NA : Def P w K mg base "_law_name" ["_law_pool_here", "_law_index"] [] 2 (spNa K)) :
    Def P w K mg base "_law_jobs" ["_law_pool_here", "_law_most"] [] 3 (spJb K) := by
  refine T.ok scJb (fun vs H Q E h => ?_) (fun f cdv A outer s_ H vs Q E hr h => ?_)
  · obtain ⟨_, _, rfl, _⟩ := h
    rfl
  · obtain ⟨p, b, rfl, sl, hp, hb, kk⟩ := h
    -- the third: the work anew
    have s3 : ∃ t, PS (cxOf CX0 P w K mg base jbN "_law_jobs" (defScope (top 55)) f cdv A outer s_ H E).nox (jbSt 2) t ∧ ∀ (D : Ends) (H1 : Hp) (b1 : Nat) (o1 o2 o3 o4 o5 o6 o8 : Option V) (w1 : Int), PoolAt K sl H1 p b1 → b1 ≤ 900000 → 0 < w1 → w1 ≤ 10000 →
        (∀ H2 w2, SameBut p H1 H2 → PoolAt K sl H2 p (b1 + 2) → 0 < w2 → w2 ≤ 10000 → D.nx [some (.ref p), o1, o2, o3, o4, o5, o6, some (.int w2), o8] H2) → t D [some (.ref p), o1, o2, o3, o4, o5, o6, some (.int w1), o8] H1 := by
      refine ⟨_, (ps_if (pt_cmp (pc_eqI (pe_def DR (hr.mono (by decide)) (pa_cons (pv 0) (pa_cons pe_int pa_nil))) pe_int)) (pss_one (ps_set (i := 7) scJb.nd rfl (.inl rfl) (pe_op op_add pe_int (pe_def DR (hr.mono (by decide)) (pa_cons (pv 0) (pa_cons pe_int pa_nil)))))) pss_nil), ?_⟩
      intro D H1 b1 o1 o2 o3 o4 o5 o6 o8 w1 hp1 hb1 hw0 hw1 k
      refine ⟨_, rfl, p, 5, b1, rfl, _, hp1, by omega, by decide, by decide, fun r H2 r0 r1 SB hp2 => ?_⟩
      refine ⟨_, _, rfl, rfl, _, rfl, ite2 (fun _ => ?_) (fun _ => k H2 w1 SB (hp2.mono (by omega)) hw0 hw1)⟩
      refine ⟨_, rfl, p, 10000, b1 + 1, rfl, _, hp2, by omega, by decide, by decide, fun r2 H3 r20 r21 SB3 hp3 => ?_⟩
      exact ⟨_, _, rfl, rfl, k H3 (1 + r2) (SB.trans SB3) hp3 (by omega) (by omega)⟩
    -- the fourth: a window of another
    have s4 : ∃ t, PS (cxOf CX0 P w K mg base jbN "_law_jobs" (defScope (top 55)) f cdv A outer s_ H E).nox (jbSt 3) t ∧ ∀ (D : Ends) (H1 : Hp) (b1 i : Nat) (pj : Addr) (us : List V) (J : List (Jb Str)) (o1 o2 o7 o8 : Option V) (c d : Int), PoolAt K sl H1 p b1 → b1 ≤ 900000 → H1 pj = some (.lst us) → pj ≠ p → Paired (JiV K H1) us J → JRows J → J.length = i → i ≤ 6 → 0 ≤ c → c < d → d ≤ 10000 →
        (∀ H2 c d o8, SameBut p H1 H2 → PoolAt K sl H2 p (b1 + 2) → 0 ≤ c → c < d → d ≤ 10000 → D.nx [some (.ref p), o1, o2, some (.ref pj), some (.int (0 + (i : Int))), some (.int c), some (.int d), o7, o8] H2) → t D [some (.ref p), o1, o2, some (.ref pj), some (.int (0 + (i : Int))), some (.int c), some (.int d), o7, o8] H1 := by
      refine ⟨_, (ps_if (PW.pt (pw_and (pt_cmpR op_gt (pv 4) pe_int (nomark _)) (pw_and1 (pt_cmp (pc_eqI (pe_def DR (hr.mono (by decide)) (pa_cons (pv 0) (pa_cons pe_int pa_nil))) pe_int))))) (pss_cons (ps_set (i := 8) scJb.nd rfl (.inl rfl) (pe_ix ix_list (pv 3) (pe_def DR (hr.mono (by decide)) (pa_cons (pv 0) (pa_cons (pv 4) pa_nil))) (fun _ _ => rfl))) (pss_one (ps_par (i := 5) (j := 6) rfl scJb.nd rfl rfl (by decide) rfl rfl (pa_cons (pe_ix ix_tup (pv 8) pe_int (fun _ _ => rfl)) (pa_cons (pe_ix ix_tup (pv 8) pe_int (fun _ _ => rfl)) pa_nil)) (by rfl)))) pss_nil), ?_⟩
      intro D H1 b1 i pj us J o1 o2 o7 o8 c d hp1 hb1 hpj npj hJ R hi hi6 hc hcd hd k
      have ul := pair_len hJ
      refine ⟨_, rfl, _, _, rfl, rfl, _, rfl, ?_⟩
      refine ite2 (fun c1 => ?_) (fun _ => iteF (k H1 c d o8 (SameBut.refl _ _) (hp1.mono (by omega)) hc hcd hd))
      have c1 := of_decide_eq_true c1
      refine ⟨_, rfl, p, 4, b1, rfl, _, hp1, by omega, by decide, by decide, fun r H2 r0 r1 SB hp2 => ?_⟩
      refine ⟨_, _, rfl, rfl, _, rfl, ite2 (fun _ => ?_) (fun _ => k H2 c d o8 SB (hp2.mono (by omega)) hc hcd hd)⟩
      refine ⟨_, rfl, _, rfl, _, rfl, p, _, b1 + 1, rfl, _, hp2, by omega, (by omega), (by omega), fun r2 H3 r20 r21 SB3 hp3 => ?_⟩
      have SB13 := SB.trans SB3
      obtain ⟨j, hj⟩ : ∃ j, J[r2.toNat]? = some j := ⟨_, List.getElem?_eq_getElem (by omega)⟩
      obtain ⟨v, hv, a, z, rfl, ha, hz⟩ := pair_get' hJ hj
      obtain ⟨q1, q2, q3⟩ := R.row j (List.mem_of_getElem? hj)
      obtain ⟨xs1, hx1⟩ := hp1.lst
      have ha3 := sb_tup SB13 (fun xs => by
        intro q
        rcases q with q | ⟨u, q⟩ <;> rw [hx1] at q <;> cases q) _ _ ha
      refine ⟨pj, us, _, .ref a, rfl, rfl, SqL.of (SB13 _ _ npj hpj), at_of (j := r2.toNat) (by omega) hv, ?_⟩
      refine ⟨_, rfl, a, _, _, _, rfl, rfl, ha3, rfl, _, rfl, a, _, _, _, rfl, rfl, ha3, rfl, _, _, rfl, ?_⟩
      exact k H3 _ _ _ SB13 hp3 q1 q2 q3
    have s5 : ∃ t, PS (cxOf CX0 P w K mg base jbN "_law_jobs" (defScope (top 55)) f cdv A outer s_ H E).nox (jbSt 4) t ∧ ∀ (D : Ends) (H1 : Hp) (b1 i : Nat) (pj : Addr) (us : List V) (J : List (Jb Str)) (o1 o2 o7 o8 : Option V) (c d : Int), PoolAt K sl H1 p b1 → b1 ≤ 900000 → H1 pj = some (.lst us) → pj ≠ p → Paired (JiV K H1) us J → JRows J → J.length = i → i ≤ 6 → 0 ≤ c → c < d → d ≤ 10000 →
        (∀ H2 c d o8, SameBut p H1 H2 → PoolAt K sl H2 p (b1 + 3) → 0 ≤ c → c < d → d ≤ 10000 → D.nx [some (.ref p), o1, o2, some (.ref pj), some (.int (0 + (i : Int))), some (.int c), some (.int d), o7, o8] H2) → t D [some (.ref p), o1, o2, some (.ref pj), some (.int (0 + (i : Int))), some (.int c), some (.int d), o7, o8] H1 := by
      refine ⟨_, (ps_if (PW.pt (pw_and (pt_cmpR op_gt (pv 4) pe_int (nomark _)) (pw_and1 (pt_cmp (pc_eqI (pe_def DR (hr.mono (by decide)) (pa_cons (pv 0) (pa_cons pe_int pa_nil))) pe_int))))) (pss_cons (ps_set (i := 8) scJb.nd rfl (.inl rfl) (pe_ix ix_list (pv 3) (pe_def DR (hr.mono (by decide)) (pa_cons (pv 0) (pa_cons (pv 4) pa_nil))) (fun _ _ => rfl))) (pss_one (ps_if (pt_cmpR op_lt (pe_ix ix_tup (pv 8) pe_int (fun _ _ => rfl)) pe_int (nomark _)) (pss_one (ps_par (i := 5) (j := 6) rfl scJb.nd rfl rfl (by decide) rfl rfl (pa_cons (pe_ix ix_tup (pv 8) pe_int (fun _ _ => rfl)) (pa_cons (pe_op op_add (pe_op op_add (pe_ix ix_tup (pv 8) pe_int (fun _ _ => rfl)) pe_int) (pe_def DR (hr.mono (by decide)) (pa_cons (pv 0) (pa_cons pe_int pa_nil)))) pa_nil)) (by rfl))) pss_nil))) pss_nil), ?_⟩
      intro D H1 b1 i pj us J o1 o2 o7 o8 c d hp1 hb1 hpj npj hJ R hi hi6 hc hcd hd k
      have ul := pair_len hJ
      refine ⟨_, rfl, _, _, rfl, rfl, _, rfl, ?_⟩
      refine ite2 (fun c1 => ?_) (fun _ => iteF (k H1 c d o8 (SameBut.refl _ _) (hp1.mono (by omega)) hc hcd hd))
      have c1 := of_decide_eq_true c1
      refine ⟨_, rfl, p, 6, b1, rfl, _, hp1, by omega, by decide, by decide, fun r H2 r0 r1 SB hp2 => ?_⟩
      refine ⟨_, _, rfl, rfl, _, rfl, ite2 (fun _ => ?_) (fun _ => k H2 c d o8 SB (hp2.mono (by omega)) hc hcd hd)⟩
      refine ⟨_, rfl, _, rfl, _, rfl, p, _, b1 + 1, rfl, _, hp2, by omega, (by omega), (by omega), fun r2 H3 r20 r21 SB3 hp3 => ?_⟩
      have SB13 := SB.trans SB3
      obtain ⟨j, hj⟩ : ∃ j, J[r2.toNat]? = some j := ⟨_, List.getElem?_eq_getElem (by omega)⟩
      obtain ⟨v, hv, a, z, rfl, ha, hz⟩ := pair_get' hJ hj
      obtain ⟨q1, q2, q3⟩ := R.row j (List.mem_of_getElem? hj)
      obtain ⟨xs1, hx1⟩ := hp1.lst
      have ha3 := sb_tup SB13 (fun xs => by
        intro q
        rcases q with q | ⟨u, q⟩ <;> rw [hx1] at q <;> cases q) _ _ ha
      refine ⟨pj, us, _, .ref a, rfl, rfl, SqL.of (SB13 _ _ npj hpj), at_of (j := r2.toNat) (by omega) hv, ?_⟩
      refine ⟨_, rfl, a, _, _, _, rfl, rfl, ha3, rfl, _, _, rfl, rfl, _, rfl, ?_⟩
      refine ite2 (fun c2 => ?_) (fun _ => k H3 c d _ SB13 (hp3.mono (by omega)) hc hcd hd)
      have c2 := of_decide_eq_true c2
      refine ⟨_, rfl, a, _, _, _, rfl, rfl, ha3, rfl, _, rfl, a, _, _, _, rfl, rfl, ha3, rfl, _, _, rfl, rfl, _, rfl, p, 9, b1 + 2, rfl, _, hp3, by omega, by decide, by decide, fun r4 H4 r40 r41 SB4 hp4 => ?_⟩
      exact ⟨_, _, rfl, rfl, _, _, rfl, k H4 _ _ _ (SB13.trans SB4) hp4 (by omega) (by omega) (by omega)⟩
    obtain ⟨t3, p3, r3⟩ := s3
    obtain ⟨t4, p4, r4⟩ := s4
    obtain ⟨t5, p5, r5⟩ := s5
    refine ⟨_, (pss_cons (ps_set (i := 2) scJb.nd rfl (.inl rfl) (pe_cmp (pc_eqI (pe_def DR (hr.mono (by decide)) (pa_cons (pv 0) (pa_cons pe_int pa_nil))) pe_int))) (pss_cons (ps_set (i := 3) scJb.nd rfl (.inl rfl) (pe_lst pa_nil)) (pss_cons (ps_for PassesOwn.never rfl (pi_range1 (by rfl) gR (pa_cons (pe_def DR (hr.mono (by decide)) (pa_cons (pv 0) (pa_cons (pe_op op_add (pv 1) pe_int) pa_nil))) pa_nil)) (pg_name (i := 4) scJb.nd rfl (.inl rfl)) (pss_cons (ps_asg (pe_def WI (hr.mono (by decide)) (pa_cons (pv 0) (pa_cons (pv 2) pa_nil))) (pg_tup rfl (pgs_cons (pg_name (i := 5) scJb.nd rfl (.inl rfl)) (pgs_cons (pg_name (i := 6) scJb.nd rfl (.inl rfl)) pgs_nil)))) (pss_cons (ps_set (i := 7) scJb.nd rfl (.inl rfl) (pe_op op_add pe_int (pe_def DR (hr.mono (by decide)) (pa_cons (pv 0) (pa_cons pe_int pa_nil))))) (pss_cons p3 (pss_cons p4 (pss_cons p5 (pss_one (ps_expr (pe_bm PySem.F.plainAttrs_list PySem.F.slot_list_append PySem.F.type_list_append mt_append (pv 3) (pa_cons (pe_tup (pa_cons (pe_def NA (hr.mono (by decide)) (pa_cons (pv 0) (pa_cons (pv 4) pa_nil))) (pa_cons (pv 5) (pa_cons (pv 6) (pa_cons (pv 7) pa_nil))))) pa_nil)))))))))) (pss_one (ps_ret (pe_callTy call_tuple_of (by rfl) gT (by decide +kernel) (pa_cons (pv 3) pa_nil))))))), ?_⟩
    refine ⟨_, rfl, p, 6, b, rfl, _, hp, by omega, by decide, by decide, fun r H1 r0 r1 SB1 hp1 => ?_⟩
    refine ⟨_, _, rfl, rfl, ?_⟩
    refine ⟨Nat.zero_le _, fun pj npj0 => ?_⟩
    obtain ⟨xs1, hx1⟩ := hp1.lst
    have npj : pj ≠ p := fun e => by
      rw [e, hx1] at npj0
      cases npj0
    have zpj : H pj = none := by
      cases e : H pj with
      | none => rfl
      | some o =>
        rw [SB1 pj o npj e] at npj0
        cases npj0
    have nsl : sl ≠ pj := by
      obtain ⟨ns, i', r', c', k', g1, g2, g3, g4⟩ := hp1
      exact ne_of_none g2 npj0
    have SB2 : SameBut p H (upd H1 pj (.lst [])) := SB1.trans (SameBut.same (same_new npj0))
    have hp2 := pool_new (o := .lst []) hp1 npj0
    have hj2 : upd H1 pj (.lst []) pj = some (.lst []) := upd_same
    generalize upd H1 pj (.lst []) = H2 at *
    refine ⟨_, rfl, _, rfl, _, _, rfl, rfl, p, 7, b + 1, rfl, _, hp2, by omega, by decide, by decide, fun n H3 n0 n1 SB3 hp3 => ?_⟩
    refine ⟨n, rfl, by omega, by omega, for_range (lo := 0) (n := n.toNat) (fun i σ H' => ∃ o4 o5 o6 o7 o8 us J, σ = [some (.ref p), some (.int 6), some (.bl (decide (r = 0))), some (.ref pj), o4, o5, o6, o7, o8] ∧ SameBut p H H' ∧ PoolAt K sl H' p (b + 2 + 14 * i) ∧ H' pj = some (.lst us) ∧ Paired (JiV K H') us J ∧ JRows J ∧ J.length = i)
      ⟨none, none, none, none, none, [], [], rfl, SB2.trans SB3, hp3, SB3 _ _ npj hj2, .nil, ⟨fun k j h => by simp at h, fun j h => absurd h (by simp), fun j h => absurd h (by simp)⟩, rfl⟩ ?_ ?_⟩
    · rintro i σ H4 hi ⟨o4, o5, o6, o7, o8, us, J, rfl, SB4, hp4, hj4, hJ4, R, hJl⟩
      have ul := pair_len hJ4
      -- the window
      refine ⟨_, rfl, _, rfl, p, decide (r = 0), b + 2 + 14 * i, rfl, _, hp4, by omega, fun t H5 c d c0 cd dd SB5 hp5 nt ht => ?_⟩
      refine ⟨t, _, rfl, ht, rfl, _, _, rfl, _, _, rfl, rfl, ?_⟩
      -- the work
      refine ⟨_, rfl, p, 24, b + 2 + 14 * i + 2, rfl, _, hp5, by omega, by decide, by decide, fun rw_ H6 w0 w1 SB6 hp6 => ?_⟩
      refine ⟨_, _, rfl, rfl, ?_⟩
      obtain ⟨xs4, hx4⟩ := hp4.lst
      have up : ∀ {G : Hp}, SameBut p H4 G → Paired (JiV K G) us J ∧ G pj = some (.lst us) := fun SB => ⟨jis_tup (sb_tup SB (fun xs => by
        intro q
        rcases q with q | ⟨u, q⟩ <;> rw [hx4] at q <;> cases q)) hJ4, SB _ _ npj hj4⟩
      refine r3 _ H6 _ _ _ _ _ _ _ _ _ hp6 (by omega) (by omega) (by omega) fun H7 w2 SB7 hp7 w20 w21 => ?_
      have SB47 := (SB5.trans SB6).trans SB7
      obtain ⟨u1, u2⟩ := up SB47
      refine r4 _ H7 _ i pj us J _ _ _ _ c d hp7 (by omega) u2 npj u1 R hJl (by omega) c0 cd dd fun H8 c d o8 SB8 hp8 c0 cd dd => ?_
      have SB48 := SB47.trans SB8
      obtain ⟨u1, u2⟩ := up SB48
      refine r5 _ H8 _ i pj us J _ _ _ _ c d hp8 (by omega) u2 npj u1 R hJl (by omega) c0 cd dd fun H9 c d o8 SB9 hp9 c0 cd dd => ?_
      have SB49 := SB48.trans SB9
      obtain ⟨u1, u2⟩ := up SB49
      refine ⟨_, rfl, .inl ⟨rfl, _, SqL.of u2⟩, _, rfl, _, rfl, p, i, _, by rw [Int.zero_add]; rfl, by omega, _, hp9, by omega, fun H10 hh tt h4 t3 SB10 hp10 => ?_⟩
      have SB410 := SB49.trans SB10
      obtain ⟨u1, u2⟩ := up SB410
      refine ⟨_, rfl, _, rfl, _, rfl, (by show 4 ≤ sizeLine; decide), fun q nq => ?_⟩
      have S11 := same_new (o := .tup [V.str (nameOf i hh tt), V.int c, V.int d, V.int w2]) nq
      have hq : SqT K (upd H10 q (.tup [V.str (nameOf i hh tt), V.int c, V.int d, V.int w2])) q [V.str (nameOf i hh tt), V.int c, V.int d, V.int w2] := SqT.of upd_same
      have hp11 := pool_new (o := .tup [V.str (nameOf i hh tt), V.int c, V.int d, V.int w2]) hp10 nq
      have u3 := S11 _ _ u2
      have u4 := jis_tup (Tup.same S11) u1
      have SB411 := SB410.trans (SameBut.same S11)
      generalize upd H10 q (.tup [V.str (nameOf i hh tt), V.int c, V.int d, V.int w2]) = H11 at *
      refine ⟨pj, us, .ref q, rfl, rfl, u3, small (by omega), ?_⟩
      have T12 : Tup K H11 (upd H11 pj (.lst (us ++ [.ref q]))) := Tup.lst u3
      refine ⟨_, _, _, _, _, us ++ [.ref q], J ++ [⟨nameOf i hh tt, c, d, (w2 : Rat)⟩], rfl, ?_, ?_, upd_same, pair_snoc (jis_tup T12 u4) ⟨q, w2, rfl, T12 _ _ hq, rfl⟩, ?_, ?_⟩
      · intro a o na e
        have na2 : a ≠ pj := fun z => by
          rw [z, zpj] at e
          cases e
        rw [upd_ne na2]
        exact (SB4.trans SB411) a o na e
      · obtain ⟨ns, i', r', c', k', g1, g2, g3, g4⟩ := hp11.mono (show _ ≤ b + 2 + 14 * (i + 1) by omega)
        exact ⟨ns, i', r', c', k', by rw [upd_ne npj.symm]; exact g1, sl_keep nsl g2 _, g3, g4⟩
      · refine ⟨fun k j hk => ?_, fun j hj => ?_, fun j hj => ?_⟩
        · by_cases e : k < J.length
          · rw [List.getElem?_append_left e] at hk
            exact R.nm k j hk
          · rw [List.getElem?_append_right (by omega)] at hk
            have hk0 : k - J.length = 0 := by
              cases h : k - J.length with
              | zero => rfl
              | succ m =>
                rw [h] at hk
                simp at hk
            rw [hk0] at hk
            have := Option.some.inj hk
            subst this
            exact ⟨hh, tt, h4, t3, by rw [show k = i by omega]⟩
        · rcases List.mem_append.mp hj with hj | hj
          · exact R.row j hj
          · rw [List.mem_singleton.mp hj]
            exact ⟨c0, cd, dd⟩
        · rcases List.mem_append.mp hj with hj | hj
          · exact R.wk j hj
          · rw [List.mem_singleton.mp hj]
            exact ⟨w2, rfl, w20, w21⟩
      · rw [List.length_append, hJl]
        rfl
    · rintro σ H4 ⟨o4, o5, o6, o7, o8, us, J, rfl, SB4, hp4, hj4, hJ4, R, hJl⟩
      refine ⟨_, rfl, pj, us, rfl, .inl ⟨SqL.of hj4, fun q nq => ?_⟩⟩
      have S5 := same_new (o := .tup us) nq
      exact kk q _ us J (SB4.trans (SameBut.same S5)) ((hp4.same S5).mono (by omega)) (SqT.of upd_same) (jis_tup (Tup.same S5) hJ4) (R.done (by omega))
end
end SW

set_option Elab.async false
set_option linter.all false
set_option maxRecDepth 100000
set_option maxHeartbeats 4000000
set_option exponentiation.threshold 300
namespace SW
open PySem PySem.Spec PyProof.Rows L2
theorem Room.u65 {k : Nat} {A : Around} (r : Room k A) : A.units + 65 < cLine := by have := r.un; omega
theorem nodup_of {J : List (Jb Str)} (h : (J.map (·.nm)).Nodup) : J.Nodup := (List.pairwise_map.mp h).imp fun h e => h (by rw [e])
def dataJ (j : Jb Str) : PyData := .tuple [.str j.nm, .int j.cm, .int j.du, .int j.wk.num]
theorem JiV.dp {K : PySem.W.Frag} {H : Hp} {v : V} {j : Jb Str} (h : JiV K H v j) : Dp K H v (dataJ j) := by
  obtain ⟨a, z, rfl, h, hz⟩ := h
  have e : j.wk.num = z := by rw [hz]; rfl
  unfold dataJ
  rw [e]
  exact .tup h (.cons (.str _) (.cons (.int _) (.cons (.int _) (.cons (.int _) .nil))))
theorem dataJ_shaped {j : Jb Str} (h : PyData.strOk j.nm = true) : SeqAt.shaped (dataJ j) = true := by
  have : SeqAt.shaped (dataJ j) = (PyData.strOk j.nm && true) := by
    simp [SeqAt.shaped, dataJ, PyData.canLay0, PyData.canLayAll0, PyData.depth, PyData.depthAll]
  rw [this, h]
  rfl
theorem dataJ_eqv {z j : Jb Str} : PyData.eqv (dataJ z) (dataJ j) = true → z.nm = j.nm := by
  unfold dataJ
  simp only [PyData.eqv, PyData.eqvAll, Bool.and_true, Bool.and_eq_true, beq_iff_eq]
  exact fun h => h.1
theorem dataJ_refl (j : Jb Str) : PyData.eqv (dataJ j) (dataJ j) = true := by
  unfold dataJ
  simp only [PyData.eqv, PyData.eqvAll, Bool.and_true, Bool.and_eq_true, beq_self_eq_true, and_self]
theorem dps {K : PySem.W.Frag} {H : Hp} : ∀ {vs : List V} {J : List (Jb Str)}, Paired (JiV K H) vs J → DpAll K H vs (J.map dataJ)
  | _, _, .nil => .nil
  | _, _, .cons h t => .cons h.dp (dps t)
theorem any_in {J f : List (Jb Str)} (nd : (J.map (·.nm)).Nodup) (hf : ∀ z ∈ f, z ∈ J) {j : Jb Str} (hj : j ∈ J) : ((f.map dataJ).any fun z => PyData.eqv z (dataJ j)) = decide (j.nm ∈ f.map (·.nm)) := by
  rw [Bool.eq_iff_iff, List.any_eq_true, decide_eq_true_iff]
  constructor
  · rintro ⟨d, hd, he⟩
    obtain ⟨z, hz, rfl⟩ := List.mem_map.mp hd
    exact List.mem_map.mpr ⟨z, hz, dataJ_eqv he⟩
  · intro h
    obtain ⟨z, hz, e⟩ := List.mem_map.mp h
    have : z = j := nd_eq nd (hf z hz) hj e
    subst this
    exact ⟨dataJ z, List.mem_map.mpr ⟨z, hz, rfl⟩, dataJ_refl z⟩
theorem lay_all : ∀ {J : List (Jb Str)}, (∀ j ∈ J, PyData.strOk j.nm = true) → PyData.canLayAll0 (J.map dataJ) = true ∧ PyData.depthAll (J.map dataJ) ≤ 1
  | [], _ => ⟨by simp [PyData.canLayAll0], by simp [PyData.depthAll]⟩
  | j :: r, h => by
    obtain ⟨q1, q2⟩ := lay_all (J := r) fun i hi => h i (List.mem_cons_of_mem _ hi)
    have hj := h j List.mem_cons_self
    have a1 : (dataJ j).canLay0 = true := by
      simp [dataJ, PyData.canLay0, PyData.canLayAll0, hj]
    have a2 : (dataJ j).depth = 1 := by simp [dataJ, PyData.depth, PyData.depthAll]
    refine ⟨by simp [PyData.canLayAll0, a1, q1], ?_⟩
    simp only [List.map_cons, PyData.depthAll]
    omega
theorem shaped_list {J : List (Jb Str)} (h : ∀ j ∈ J, PyData.strOk j.nm = true) : SeqAt.shaped (.list (J.map dataJ)) = true := by
  obtain ⟨h1, h2⟩ := lay_all h
  have h3 : PyData.depth (.list (J.map dataJ)) ≤ 64 := by
    simp only [PyData.depth]
    omega
  have e : SeqAt.shaped (.list (J.map dataJ)) = (PyData.canLay0 (.list (J.map dataJ)) && decide (PyData.depth (.list (J.map dataJ)) ≤ 64)) := rfl
  rw [e, decide_eq_true h3, Bool.and_true]
  simp only [PyData.canLay0]
  exact h1
section
variable {P : Program} {w : World} {K : PySem.W.Frag} {mg : Str → Option Value} {base : Heap}
theorem scOr : FnScope ["_law_jobs_here", "_law_found", "_law_comes", "_law_job"] ["_law_jobs_here"] (defScope (top 59)) := ⟨rfl, rfl, rfl, by decide +kernel, rfl, by decide +kernel, by decide +kernel⟩
def spOr (K : PySem.W.Frag) : Sp := fun vs H Q _ => ∃ l us J, vs = [.ref l] ∧ SqT K H l us ∧ Paired (JiV K H) us J ∧ JobsIn J ∧ ∀ r H' ws L, Same H H' → SqT K H' r ws → Paired (JiV K H') ws L → L.Perm J → L.Pairwise (fun i j => i.cm ≤ j.cm) → Q (.ref r) H'
theorem ok_or (T : TF K mg "_law_in_order" (top 59) ["_law_jobs_here"]) (gS : mg "sorted" = none) (gT : mg "tuple" = none) : Def P w K mg base "_law_in_order" ["_law_jobs_here"] [] 1 (spOr K) := by
  refine T.ok scOr (fun vs H Q E h => ?_) (fun f cdv A outer s_ H vs Q E hr h => ⟨_, (pss_cons (ps_set (i := 1) scOr.nd rfl (.inr rfl) (pe_lst pa_nil)) (pss_cons (ps_for PassesOwn.never rfl (pi_list (pe_callB cr_sorted (by rfl) gS (by decide +kernel) (pa_cons (pe_lc (own := [("_law_job", 3)]) (te := (tOp (rIxT K) (tVar 3) (tC (.int 1)))) rfl scOr.nd (pi_tup (pv 0)) (blkOk_by (own := [("_law_job", 3)]) (N := ["_law_jobs_here", "_law_found", "_law_comes", "_law_job"]) (sc := defScope (top 59)) (by decide +kernel)) (fun _ _ _ _ _ => by exact (pg_name (i := 3) scOr.nd rfl (.inl rfl))) (fun _ _ _ _ _ => by exact pts_nil) (fun _ _ _ _ _ => by exact (pe_ix ix_tup (pv 3) pe_int (fun _ _ => rfl)))) pa_nil))) (pg_name (i := 2) scOr.nd rfl (.inr rfl)) (pss_one (ps_expr (pe_bm PySem.F.plainAttrs_list PySem.F.slot_list_extend PySem.F.type_list_extend mt_extend (pv 1 (hv := Or.inr (Or.inl rfl))) (pa_cons (pe_lc (own := [("_law_job", 3)]) (tt := tAnd (tB (tEqI (tOp (rIxT K) (tVar 3) (tC (.int 1))) (tVar 2))) (tTest (tOp (rNotInD K) (tVar 3) (tVar 1)))) rfl scOr.nd (pi_tup (pv 0)) (blkOk_by (own := [("_law_job", 3)]) (N := ["_law_jobs_here", "_law_found", "_law_comes", "_law_job"]) (sc := defScope (top 59)) (by decide +kernel)) (fun _ _ _ _ _ => by exact (pg_name (i := 3) scOr.nd rfl (.inl rfl))) (fun _ _ _ _ _ => by exact (pts_one (PW.pt (pw_and (pt_cmp (pc_eqI (pe_ix ix_tup (pv 3) pe_int (fun _ _ => rfl)) (pv 2 (hv := Or.inr (Or.inl rfl))))) (pw_and1 (pt_cmpR (op_notInD (Room.u65 hr)) (pv 3) (pv 1 (hv := Or.inr (Or.inl rfl))) (by rfl))))))) (fun _ _ _ _ _ => by exact (pv 3))) pa_nil))))) (pss_one (ps_ret (pe_callTy call_tuple_of (by rfl) gT (by decide +kernel) (pa_cons (pv 1 (hv := Or.inr (Or.inl rfl))) pa_nil)))))), ?_⟩)
  · obtain ⟨_, _, _, rfl, _⟩ := h
    rfl
  · obtain ⟨l, us, J, rfl, hl, hp, I, k⟩ := h
    have hfew := I.few
    refine ⟨Nat.zero_le _, fun pf nf => ?_⟩
    have S0 := same_new (o := .lst []) nf
    have hf0 : upd H pf (.lst []) pf = some (.lst []) := upd_same
    generalize upd H pf (.lst []) = H0 at *
    refine ⟨_, rfl, l, rfl, ⟨_, sqT_same S0 hl⟩, fun D nD => ?_⟩
    have hp0 := jis_tup (Tup.same S0) hp
    refine lc_tup (K := K) (a := l) (xs := us) (fun i H5 => H5 D = some (.lst (((J.take i).map (·.cm)).map V.int)) ∧ Same H0 H5) ⟨upd_same, same_new nD⟩ (fun i H5 _ ⟨_, e⟩ => sqT_same e (sqT_same S0 hl)) ?_ ?_
    · rintro i y H5 hi ⟨hDm, S5⟩
      obtain ⟨j, hj, tr, zr, rfl, htr, hzr⟩ := pair_get hp0 hi
      obtain ⟨hj1, hj2⟩ := List.getElem?_eq_some_iff.mp hj
      refine ⟨wp (wp0 _ _), ?_⟩
      refine tyes ?_
      refine iteT ?_
      refine ⟨_, rfl, tr, _, _, _, rfl, rfl, sqT_same S5 htr, rfl, _, hDm, small (by rw [List.length_map, List.length_map, List.length_take]; omega), ?_, ?_⟩
      · rw [upd_same, List.take_succ_eq_append_getElem hj1, hj2, List.map_append, List.map_append]
        rfl
      · exact same_upd S5 nD
    · rintro H5 ⟨hDm, S5⟩
      rw [pair_len hp0, List.take_length] at hDm
      refine ⟨D, _, rfl, SqL.of hDm, by rw [List.length_map]; omega, fun ns q hperm hsort nq => ?_⟩
      have S6 := same_new (o := .lst (ns.map V.int)) nq
      have hq : upd H5 q (.lst (ns.map V.int)) q = some (.lst (ns.map V.int)) := upd_same
      have S06 := (S0.trans S5).trans S6
      have hf6 := S6 _ _ (S5 _ _ hf0)
      have nqf : q ≠ pf := fun e => by
        rw [e, S5 _ _ hf0] at nq
        cases nq
      generalize upd H5 q (.lst (ns.map V.int)) = H6 at *
      have hmem : ∀ j ∈ J, j.cm ∈ ns := fun j hj => hperm.mem_iff.mpr (List.mem_map.mpr ⟨j, hj, rfl⟩)
      refine ⟨q, rfl, ⟨_, SqL.of hq⟩, for_list (K := K) (a := q) (xs := ns.map V.int) (fun i σ H' => ∃ o2 wf L, σ = [some (.ref l), some (.ref pf), o2, none] ∧ Same H H' ∧ H' q = some (.lst (ns.map V.int)) ∧ H' pf = some (.lst wf) ∧ Paired (JiV K H') wf L ∧ L.Nodup ∧ (∀ j, j ∈ L ↔ j ∈ J ∧ j.cm ∈ ns.take i) ∧ L.Pairwise (fun i j => i.cm ≤ j.cm) ∧ L.length ≤ 6 * i)
        ⟨none, [], [], rfl, S06, hq, hf6, .nil, List.nodup_nil, fun j => by simp, .nil, Nat.zero_le _⟩ (fun i σ H' _ ⟨_, _, _, _, _, e, _⟩ => SqL.of e) ?_ ?_⟩
      · rintro i x σ H7 hi ⟨o2, wf, L, rfl, S7, hq7, hf7, hL, nd, hin, hpw, hll⟩
        rw [List.getElem?_map] at hi
        obtain ⟨c, hc, rfl⟩ := Option.map_eq_some_iff.mp hi
        have hi6 : i < 6 := by
          obtain ⟨h1, _⟩ := List.getElem?_eq_some_iff.mp hc
          have := hperm.length_eq
          rw [List.length_map] at this
          omega
        have hll2 := pair_len hL
        refine ⟨_, rfl, .inl ⟨rfl, _, SqL.of hf7⟩, _, rfl, l, rfl, ⟨_, sqT_same S7 hl⟩, fun Dn nDn => ?_⟩
        have hp7 := jis_tup (Tup.same S7) hp
        refine lc_tup (K := K) (a := l) (xs := us) (fun n H8 => ∃ vs, H8 Dn = some (.lst vs) ∧ Same H7 H8 ∧ Paired (JiV K H8) vs ((J.take n).filter fun j => decide (j.cm = c) && !decide (j.nm ∈ L.map (·.nm)))) ⟨[], upd_same, same_new nDn, .nil⟩ (fun n H8 _ ⟨_, _, e, _⟩ => sqT_same e (sqT_same S7 hl)) ?_ ?_
        · rintro n y H8 hn ⟨vs, hDn, S8, hvs⟩
          obtain ⟨j, hj, hjv⟩ := pair_get hp7 hn
          have hjm := List.mem_of_getElem? hj
          obtain ⟨hj1, hj2⟩ := List.getElem?_eq_some_iff.mp hj
          have hjv8 := hjv.tup (Tup.same S8)
          have ⟨tr, zr, e1, htr, hzr⟩ := hjv8
          subst e1
          have hvl : vs.length ≤ n := by
            rw [pair_len hvs]
            exact Nat.le_trans (List.length_filter_le _ _) (by rw [List.length_take]; omega)
          have hskip : (decide (j.cm = c) && !decide (j.nm ∈ L.map (·.nm))) = false → ∃ vs, H8 Dn = some (.lst vs) ∧ Same H7 H8 ∧ Paired (JiV K H8) vs ((J.take (n + 1)).filter fun j => decide (j.cm = c) && !decide (j.nm ∈ L.map (·.nm))) := fun e => by
            refine ⟨vs, hDn, S8, ?_⟩
            rw [List.take_succ_eq_append_getElem hj1, hj2, List.filter_append, List.filter_cons_of_neg (by rw [e]; decide), List.filter_nil, List.append_nil]
            exact hvs
          refine ⟨wp (wp0 _ _), _, rfl, tr, _, _, _, rfl, rfl, htr, rfl, _, rfl, _, _, rfl, rfl, _, rfl, ?_⟩
          refine ite2 (fun c1 => ?_) (fun c1 => iteF (hskip (by rw [show decide (j.cm = c) = false from Bool.eq_false_iff.mpr c1]; rfl)))
          refine ⟨_, rfl, _, rfl, dataJ j, L.map dataJ, hjv8.dp, .lst (SqL.of (S8 _ _ hf7)) (dps (jis_tup (Tup.same S8) hL)), dataJ_shaped (I.str j hjm).1, shaped_list (fun z hz => (I.str z ((hin z).mp hz).1).1), _, rfl, ?_⟩
          rw [any_in I.nd (fun z hz => ((hin z).mp hz).1) hjm]
          refine ite2 (fun c2 => ?_) (fun c2 => hskip (by rw [Bool.eq_false_iff.mpr c2, Bool.and_false]))
          obtain ⟨a1, a2, a3⟩ := app_val (K := K) (v := .ref tr) S8 nDn hDn
          refine ⟨_, rfl, vs, hDn, small (by omega), _, a3, a1, ?_⟩
          rw [List.take_succ_eq_append_getElem hj1, hj2, List.filter_append, List.filter_cons_of_pos (by rw [show decide (j.cm = c) = true from c1, c2]; rfl)]
          exact pair_snoc (jis_tup a2 hvs) (hjv8.tup a2)
        · rintro H8 ⟨vs, hDn, S8, hvs⟩
          rw [pair_len hp7, List.take_length] at hvs
          have hvl := pair_len hvs
          have hfl := List.length_filter_le (fun j : Jb Str => decide (j.cm = c) && !decide (j.nm ∈ L.map (·.nm))) J
          have hf8 := S8 _ _ hf7
          have T9 : Tup K H8 (upd H8 pf (.lst (wf ++ vs))) := Tup.lst hf8
          have hE : ∀ j, j ∈ J.filter (fun j => decide (j.cm = c) && !decide (j.nm ∈ L.map (·.nm))) ↔ j ∈ J ∧ j.cm = c ∧ ¬ j.nm ∈ L.map (·.nm) := fun j => by
            rw [List.mem_filter]
            simp only [Bool.and_eq_true, decide_eq_true_eq, Bool.not_eq_true', decide_eq_false_iff_not]
          have htk : ∀ z, z ∈ ns.take (i + 1) ↔ z ∈ ns.take i ∨ z = c := fun z => by
            obtain ⟨h1, h2⟩ := List.getElem?_eq_some_iff.mp hc
            rw [List.take_succ_eq_append_getElem h1, h2, List.mem_append, List.mem_singleton]
          have hJn : J.Nodup := nodup_of I.nd
          refine ⟨pf, Dn, wf, vs, rfl, rfl, hf8, hDn, small' (by omega), _, wf ++ vs, L ++ J.filter (fun j => decide (j.cm = c) && !decide (j.nm ∈ L.map (·.nm))), rfl, same_upd (S7.trans S8) nf, ?_, upd_same, ?_, ?_, fun j => ?_, ?_, ?_⟩
          · rw [upd_ne nqf]
            exact S8 _ _ hq7
          · exact jis_tup T9 (pair_app (jis_tup (Tup.same S8) hL) hvs)
          · refine List.nodup_append.mpr ⟨nd, List.Pairwise.filter _ hJn, fun a ha b hb e => ?_⟩
            subst e
            exact ((hE a).mp hb).2.2 (List.mem_map.mpr ⟨a, ha, rfl⟩)
          · rw [List.mem_append, hin, hE, htk]
            constructor
            · rintro (⟨h1, h2⟩ | ⟨h1, h2, _⟩)
              · exact ⟨h1, .inl h2⟩
              · exact ⟨h1, .inr h2⟩
            · rintro ⟨h1, h2 | h2⟩
              · exact .inl ⟨h1, h2⟩
              · by_cases h3 : j.nm ∈ L.map (·.nm)
                · obtain ⟨z, hz, e⟩ := List.mem_map.mp h3
                  have : z = j := nd_eq I.nd ((hin z).mp hz).1 h1 e
                  subst this
                  exact .inl ((hin z).mp hz)
                · exact .inr ⟨h1, h2, h3⟩
          · refine List.pairwise_append.mpr ⟨hpw, ?_, fun a ha b hb => ?_⟩
            · refine List.pairwise_iff_getElem.mpr fun x y hx hy _ => ?_
              have h1 := ((hE _).mp (List.getElem_mem hx)).2.1
              have h2 := ((hE _).mp (List.getElem_mem hy)).2.1
              omega
            · have h1 := ((hin a).mp ha).2
              have h2 := ((hE b).mp hb).2.1
              obtain ⟨x, hx, e⟩ := List.mem_iff_getElem.mp h1
              rw [List.getElem_take] at e
              rw [List.length_take] at hx
              obtain ⟨h3, h4⟩ := List.getElem?_eq_some_iff.mp hc
              have := List.pairwise_iff_getElem.mp hsort x i (by omega) h3 (by omega)
              omega
          · rw [List.length_append]
            omega
      · rintro σ H7 ⟨o2, wf, L, rfl, S7, hq7, hf7, hL, nd, hin, hpw, hll⟩
        rw [List.length_map, List.take_length] at hin
        refine ⟨_, rfl, pf, wf, rfl, .inl ⟨SqL.of hf7, fun t nt => ?_⟩⟩
        have S8 := same_new (o := .tup wf) nt
        refine k t _ wf L (S7.trans S8) (SqT.of upd_same) (jis_tup (Tup.same S8) hL) ?_ hpw
        refine (List.perm_ext_iff_of_nodup nd (nodup_of I.nd)).mpr fun j => ?_
        rw [hin]
        exact ⟨fun h => h.1, fun h => ⟨h, hmem j h⟩⟩
end
end SW

set_option Elab.async false
set_option linter.all false
set_option maxRecDepth 100000
set_option maxHeartbeats 4000000
set_option exponentiation.threshold 300
namespace SW
open PySem PySem.Spec PyProof.Rows L2
theorem wk_full {ps : List (Pc Str)} {m M : Rat} (h : ∀ p ∈ ps, p.en ≤ m ∧ p.en ≤ M ∧ p.st < p.en) (n : Str) : Wk ps n m = Wk ps n M := ls_congr fun p hp => by
  obtain ⟨h1, h2, h3⟩ := h p hp
  rw [SW.ov_all h1 h3, SW.ov_all h2 h3]
section
variable {P : Program} {w : World} {K : PySem.W.Frag} {mg : Str → Option Value} {base : Heap}
theorem scDv : FnScope ["_law_jobs_here", "_law_runner", "_law_job"] ["_law_jobs_here"] (defScope (top 60)) := ⟨rfl, rfl, rfl, by decide +kernel, rfl, by decide +kernel, by decide +kernel⟩
theorem RunnerAt.same {C : Addr} {H0 H H' : Hp} {x : Addr} {now : Nat} {J : List (Jb Str)} {l : Str → Rat} {pcs ahead : List (Pc Str)} {D n : Nat} (h : RunnerAt K C H0 H x now J l pcs ahead D n) (e : Same H H') : RunnerAt K C H0 H' x now J l pcs ahead D n := by
  obtain ⟨dx, fs, lr, lw, lp, la, lh, ur, up, ua, uh, R, a, b, c, d, f, g⟩ := h
  exact ⟨dx, fs, lr, lw, lp, la, lh, ur, up, ua, uh, R.same e, jis_tup (Tup.same e) a, b.same e, pcs_tup (Tup.same e) c, pcs_tup (Tup.same e) d, f, g⟩
/-- what the runner has done in the end -/
structure DoneOk (L : List (Jb Str)) (ds : List (Pc Str)) (D : Nat) : Prop where
  hist : Hist L ds
  nc : ∀ p ∈ ds, Nc D L p
  d0 : 0 < D
  d1 : D ≤ 2 ^ 504
  len : ds.length ≤ 20000
  up : ∀ p ∈ ds, p.en ≤ 10000
  all : ∀ j ∈ L, ∀ m : Rat, (∀ p ∈ ds, p.en ≤ m) → lw ds m j = 0
def spDv (K : PySem.W.Frag) : Sp := fun vs H Q _ => ∃ l us L, vs = [.ref l] ∧ SqT K H l us ∧ Paired (JiV K H) us L ∧ JobsIn L ∧ L.Pairwise (fun i j => i.cm ≤ j.cm) ∧ ∀ r H' ws ds D, Same H H' → SqT K H' r ws → Paired (PcV K H') ws ds → DoneOk L ds D → Q (.ref r) H'
theorem ok_dv {C : Addr} (T : TF K mg "_law_driven" (top 60) ["_law_jobs_here"]) (X : TxR K mg C) (gMax : mg "max" = none) (I : IDef0 P w K mg base "Runner" C ["self", "cap"] [.non] 1 (spRuI K C)) (A : MDef P w K mg base C "advance" ["self", "time"] 5 (spRuA K C)) (O : MDef P w K mg base C "offer" ["self", "name", "due", "work"] 6 (spRuO K C)) (Dn : MDef P w K mg base C "done" ["self"] 2 (spRuD K C)) :
    Def P w K mg base "_law_driven" ["_law_jobs_here"] [] 7 (spDv K) := by
  refine T.ok scDv (fun vs H Q E h => ?_) (fun f cdv A0 outer s_ H vs Q E hr h => ⟨_, (pss_cons (ps_set (i := 1) scDv.nd rfl (.inl rfl) (pe_mk0 I (hr.mono (by decide)))) (pss_cons (ps_for PassesOwn.never rfl (pi_tup (pv 0)) (pg_name (i := 2) scDv.nd rfl (.inl rfl)) (pss_cons (ps_expr (pe_mdef A X.cl (pv 1) (hr.mono (by decide)) (pa_cons (pe_ix ix_tup (pv 2) pe_int (fun _ _ => rfl)) pa_nil))) (pss_one (ps_expr (pe_mdef O X.cl (pv 1) (hr.mono (by decide)) (pa_cons (pe_ix ix_tup (pv 2) pe_int (fun _ _ => rfl)) (pa_cons (pe_ix ix_tup (pv 2) pe_int (fun _ _ => rfl)) (pa_cons (pe_ix ix_tup (pv 2) pe_int (fun _ _ => rfl)) pa_nil)))))))) (pss_cons (ps_expr (pe_mdef A X.cl (pv 1) (hr.mono (by decide)) (pa_cons (pe_callB (cr_max rfl) (by rfl) gMax (by decide +kernel) (pa_cons (pe_op op_cat (pe_lst (pa_cons pe_int pa_nil)) (pe_lc (own := [("_law_job", 2)]) (te := (tOp (rIxT K) (tVar 2) (tC (.int 2)))) rfl scDv.nd (pi_tup (pv 0)) (blkOk_by (own := [("_law_job", 2)]) (N := ["_law_jobs_here", "_law_runner", "_law_job"]) (sc := defScope (top 60)) (by decide +kernel)) (fun _ _ _ _ _ => by exact (pg_name (i := 2) scDv.nd rfl (.inl rfl))) (fun _ _ _ _ _ => by exact pts_nil) (fun _ _ _ _ _ => by exact (pe_ix ix_tup (pv 2) pe_int (fun _ _ => rfl))))) pa_nil)) pa_nil))) (pss_one (ps_ret (pe_mdef0 Dn X.cl (pv 1) (hr.mono (by decide)))))))), ?_⟩)
  · obtain ⟨_, _, _, rfl, _⟩ := h
    rfl
  · obtain ⟨l, us, L, rfl, hl, hp, J, hs, k⟩ := h
    have hfew := J.few
    have hrun : ∀ i, RunIn (L.take i) := fun i => ⟨fun j hj => by
      have := J.row j (List.mem_of_mem_take hj)
      omega⟩
    have hstr : ∀ i, ∀ j ∈ L.take i, PyData.strOk j.nm = true := fun i j hj => (J.str j (List.mem_of_mem_take hj)).1
    intro x dx nx ndx nex
    have Sx : Same H (upd (upd H dx (.own x)) x (.ins C dx [])) := fun b o e => by
      rw [upd_ne (ne_of_none e nx), upd_ne (ne_of_none e ndx)]
      exact e
    refine ⟨x, dx, H, rfl, upd_same, Sx, nx, fun H1 l0 R1 => ⟨rfl, ?_⟩⟩
    clear Sx
    have same_of : ∀ {H' now J l pcs ahead D n}, RunnerAt K C H H' x now J l pcs ahead D n → Same H H' := fun ⟨_, _, _, _, _, _, _, _, _, _, _, R, _⟩ => R.s
    have at_x : ∀ {H' now J l pcs ahead D n}, RunnerAt K C H H' x now J l pcs ahead D n → ∃ dx fs, H' x = some (.ins C dx fs) ∧ fs.lookup ("advance" : Str) = none ∧ fs.lookup ("offer" : Str) = none ∧ fs.lookup ("done" : Str) = none := fun ⟨dx, fs, _, _, _, _, _, _, _, _, _, R, _⟩ => ⟨dx, fs, R.hx, R.m1, R.m2, R.m3⟩
    refine ⟨_, rfl, l, rfl, ⟨_, sqT_same (same_of R1) hl⟩, for_tup (K := K) (a := l) (xs := us) (fun i σ H' => ∃ o2 now lf pcs ahead D, σ = [some (.ref l), some (.ref x), o2] ∧ RunnerAt K C H H' x now (L.take i) lf pcs ahead D (2 * i) ∧ RunSt (L.take i) now lf pcs ahead)
      ⟨none, 0, l0, [], [], 1, rfl, R1, run_begin l0⟩ (fun i σ H' _ ⟨_, _, _, _, _, _, _, e, _⟩ => sqT_same (same_of e) hl) ?_ ?_⟩
    · rintro i y σ H2 hi ⟨o2, now, lf, pcs, ahead, D, rfl, R2, RS⟩
      obtain ⟨j, hj, a, zi, rfl, ha, hzi⟩ := pair_get hp hi
      have hjm := List.mem_of_getElem? hj
      obtain ⟨hj1, hj2⟩ := List.getElem?_eq_some_iff.mp hj
      obtain ⟨q1, q2, q3⟩ := J.row j hjm
      have hT : j.cm = ((j.cm.toNat : Nat) : Int) := by omega
      have hnow : now ≤ j.cm.toNat := by
        rcases RS.last with ⟨_, e⟩ | ⟨j0, hj0, e⟩
        · omega
        · obtain ⟨x0, hx0, e0⟩ := List.mem_iff_getElem.mp hj0
          rw [List.getElem_take] at e0
          rw [List.length_take] at hx0
          have := List.pairwise_iff_getElem.mp hs x0 i (by omega) hj1 (by omega)
          rw [e0, hj2] at this
          omega
      obtain ⟨dx, fs, g1, g2, g3, g4⟩ := at_x R2
      have htk : L.take (i + 1) = L.take i ++ [j] := by rw [List.take_succ_eq_append_getElem hj1, hj2]
      refine ⟨_, rfl, x, dx, fs, rfl, g1, g2, _, rfl, a, _, _, _, rfl, rfl, sqT_same (same_of R2) ha, rfl, x, j.cm.toNat, H, now, L.take i, lf, pcs, ahead, D, 2 * i, by rw [← hT]; rfl, R2, RS, hnow, by omega, hrun i, by omega, fun H3 ahead' R3 => ?_⟩
      have Md := run_advance RS hnow
      obtain ⟨dx, fs, g1, g2, g3, g4⟩ := at_x R3
      have ha3 := sqT_same (same_of R3) ha
      have hO : OfferOk (L.take i) j j.cm.toNat zi := by
        refine ⟨fun k hk e => ?_, hT, ⟨q2, q3⟩, ?_, by rw [List.length_take]; omega, (J.str j hjm).1, hstr i, (J.str j hjm).2⟩
        · obtain ⟨x0, hx0, e0⟩ := List.mem_iff_getElem.mp hk
          rw [List.getElem_take] at e0
          rw [List.length_take] at hx0
          have := List.pairwise_iff_getElem.mp (nodup_of J.nd) x0 i (by omega) hj1 (by omega)
          rw [e0, hj2] at this
          exact this (nd_eq J.nd (List.mem_of_mem_take hk) hjm e)
        · obtain ⟨z, h1, h2, h3⟩ := J.wk j hjm
          have : z = zi := Rat.intCast_inj.mp (by rw [← h1, hzi])
          subst this
          exact ⟨hzi, h2, h3⟩
      refine ⟨_, rfl, x, dx, fs, rfl, g1, g3, _, rfl, a, _, _, _, rfl, rfl, ha3, rfl, _, rfl, a, _, _, _, rfl, rfl, ha3, rfl, _, rfl, a, _, _, _, rfl, rfl, ha3, rfl, x, H, j.cm.toNat, L.take i, _, _, ahead', D, 2 * i + 1, j, zi, rfl, R3, Md, hO, hrun i, by omega, fun H4 plan D' F R4 => ?_⟩
      refine ⟨_, j.cm.toNat, _, _, plan, D', rfl, by rw [htk]; exact R4, ?_⟩
      rw [htk]
      obtain ⟨rds, pl, tl, hR, hpl, hperm, rfl⟩ := F.ex
      have hjw : 0 < j.wk := (wk_bound hO.wk).1
      have hw := waiting_ok Md hO.fresh ⟨hT, q2, hjw⟩
      rcases hR with ⟨e, _⟩ | ⟨c, e, ⟨jc, hjc, rfl⟩, _, hb, hR⟩
      · unfold waitingJ at e
        simp at e
      · rw [hw.2 jc hjc] at hR
        exact run_offer Md hO.fresh ⟨hT, q2, hjw⟩ (fun i hi => (hb i hi).2) hR hpl hperm
    · rintro σ H2 ⟨o2, now, lf, pcs, ahead, D, rfl, R2, RS⟩
      rw [pair_len hp, List.take_length] at R2 RS
      obtain ⟨dx, fs, g1, g2, g3, g4⟩ := at_x R2
      have S02 := same_of R2
      have hnm : ∀ m : Int, (∀ z ∈ (0 : Int) :: L.map (·.du), z ≤ m) → (m ∈ (0 : Int) :: L.map (·.du)) → now ≤ m.toNat ∧ m.toNat ≤ 10000 ∧ (m.toNat : Int) = m ∧ ∀ j ∈ L, j.du ≤ (m.toNat : Int) := fun m h1 h2 => by
        have h3 : 0 ≤ m := h1 0 List.mem_cons_self
        have h4 : m ≤ 10000 := by
          rcases List.mem_cons.mp h2 with rfl | h
          · decide
          · obtain ⟨j, hj, rfl⟩ := List.mem_map.mp h
            exact (J.row j hj).2.2
        have h5 : (m.toNat : Int) = m := Int.toNat_of_nonneg h3
        refine ⟨?_, by omega, h5, fun j hj => by rw [h5]; exact h1 _ (List.mem_cons_of_mem _ (List.mem_map.mpr ⟨j, hj, rfl⟩))⟩
        rcases RS.last with ⟨_, e⟩ | ⟨j0, hj0, e⟩
        · omega
        · have h6 := h1 _ (List.mem_cons_of_mem _ (List.mem_map.mpr ⟨j0, hj0, rfl⟩))
          have h7 := (J.row j0 hj0).2.1
          omega
      refine ⟨_, rfl, x, dx, fs, rfl, g1, g2, (by show 1 ≤ sizeLine; decide), fun p0 n0 => ?_⟩
      have S1 := same_new (o := .lst [V.int 0]) n0
      have h0 : upd H2 p0 (.lst [V.int 0]) p0 = some (.lst [V.int 0]) := upd_same
      generalize upd H2 p0 (.lst [V.int 0]) = H3 at *
      have S03 := S02.trans S1
      have hl3 := sqT_same S03 hl
      have hp3 := jis_tup (Tup.same S03) hp
      refine ⟨_, rfl, l, rfl, ⟨_, hl3⟩, fun Dm nDm => ?_⟩
      refine lc_tup (K := K) (a := l) (xs := us) (fun i H5 => H5 Dm = some (.lst (((L.take i).map (·.du)).map V.int)) ∧ Same H3 H5) ⟨upd_same, same_new nDm⟩ (fun i H5 _ ⟨_, e⟩ => sqT_same e hl3) ?_ ?_
      · rintro i y H5 hi ⟨hDm, S5⟩
        obtain ⟨j, hj, tr, zr, rfl, htr, hzr⟩ := pair_get hp3 hi
        obtain ⟨hj1, hj2⟩ := List.getElem?_eq_some_iff.mp hj
        refine ⟨wp (wp0 _ _), ?_⟩
        refine tyes ?_
        refine iteT ?_
        refine ⟨_, rfl, tr, _, _, _, rfl, rfl, sqT_same S5 htr, rfl, _, hDm, small (by rw [List.length_map, List.length_map, List.length_take]; omega), ?_, ?_⟩
        · rw [upd_same, List.take_succ_eq_append_getElem hj1, hj2, List.map_append, List.map_append]
          rfl
        · exact same_upd S5 nDm
      · rintro H5 ⟨hDm, S5⟩
        rw [pair_len hp3, List.take_length] at hDm
        refine ⟨p0, Dm, _, _, rfl, rfl, S5 _ _ h0, hDm, small' (by simp; omega), fun pc nc => ?_⟩
        have S6 := same_new (o := .lst ([V.int 0] ++ (L.map (·.du)).map V.int)) nc
        have hpc : upd H5 pc (.lst ([V.int 0] ++ (L.map (·.du)).map V.int)) pc = some (.lst (((0 : Int) :: L.map (·.du)).map V.int)) := upd_same
        have R6 := ((R2.same S1).same S5).same S6
        generalize upd H5 pc (.lst ([V.int 0] ++ (L.map (·.du)).map V.int)) = H6 at *
        refine ⟨pc, _, rfl, SqL.of hpc, by simp, fun m hm1 hm2 => ?_⟩
        obtain ⟨m1, m2, m3, m4⟩ := hnm m hm2 hm1
        refine ⟨x, m.toNat, H, now, L, lf, pcs, ahead, D, _, (by rw [m3]; rfl), R6, RS, m1, m2, ⟨fun j hj => by have := J.row j hj; omega⟩, by omega, fun H7 ahead' R7 => ?_⟩
        obtain ⟨dx, fs, g1, g2, g3, g4⟩ := at_x R7
        have S07 := same_of R7
        obtain ⟨e1, e2⟩ := run_end RS m1 m4
        have Md := run_advance RS m1
        have hdne : ∃ N : RNice D L (lfAdv lf ahead m.toNat) (pcs ++ clipL now m.toNat ahead) ahead' (2 * L.length + 1), True := by
          obtain ⟨_, _, _, _, _, _, _, _, _, _, _, _, _, _, _, _, _, N⟩ := R7
          exact ⟨N, trivial⟩
        obtain ⟨N, _⟩ := hdne
        refine ⟨_, rfl, x, dx, fs, rfl, g1, g4, x, H, m.toNat, L, _, _, ahead', D, _, rfl, R7, fun j hj => (J.str j hj).1, by omega, fun r H8 ws S8 hr8 hws => ?_⟩
        have hgd : ∀ p ∈ pcs ++ clipL now m.toNat ahead, p.st < p.en := fun p hp => (Md.fits.good p hp).2
        have htd := td_len (pcs ++ clipL now m.toNat ahead) []
        have hpl := N.pl
        refine k r H8 ws _ D (S07.trans S8) hr8 hws ⟨e1, nc_tidy N.pc, N.d0, ?_, ?_, ?_, ?_⟩
        · have h1 := N.d1
          have h2 : ((2 : Nat) ^ 84) ^ L.length ≤ (2 ^ 84) ^ 6 := Nat.pow_le_pow_right (by decide) N.few
          have h3 : ((2 : Nat) ^ 84) ^ 6 = 2 ^ 504 := by rw [← Nat.pow_mul]
          omega
        · unfold tidy
          rw [List.length_nil] at htd
          omega
        · refine tidy_all (φ := fun p : Pc Str => p.en ≤ 10000) (fun p q h1 _ _ _ _ => h1) fun p hp => ?_
          have h1 := Md.upto p hp
          have h2 : ((m.toNat : Nat) : Rat) ≤ ((10000 : Nat) : Rat) := Rat.natCast_le_natCast.mpr m2
          have h3 : ((10000 : Nat) : Rat) = 10000 := rfl
          rw [h3] at h2
          exact Rat.le_trans h1 h2
        · intro j hj M hM
          have h1 := e2 j hj
          rw [Md.left j hj] at h1
          unfold lw
          rw [← h1]
          have h2 : Wk (tidy (pcs ++ clipL now m.toNat ahead)) j.nm M = Wk (pcs ++ clipL now m.toNat ahead) j.nm m.toNat := by
            have c1 : ∀ p ∈ tidy (pcs ++ clipL now m.toNat ahead), p.en ≤ (m.toNat : Rat) := tidy_all (φ := fun p : Pc Str => p.en ≤ (m.toNat : Rat)) (fun p q h1 _ _ _ _ => h1) Md.upto
            have c2 := tidy_all (φ := fun p : Pc Str => p.st < p.en) (fun p q h1 h2 e _ _ => by simp only; grind) hgd
            rw [← tidy_Wk hgd]
            exact wk_full (fun p hp => ⟨hM p hp, c1 p hp, c2 p hp⟩) _
          rw [h2]
end
end SW

set_option Elab.async false
set_option linter.all false
set_option maxRecDepth 100000
set_option maxHeartbeats 4000000
set_option exponentiation.threshold 300
namespace SW
open PySem PySem.Spec PyProof.Rows L2
/-! sizes of what the account reckons -/
/-- 2^800 as a ratio -/
def wide8 : Rat := ((2 ^ 800 : Nat) : Rat)
theorem mul_pow2 {a b x y : Nat} (hx : x ≤ 2 ^ a) (hy : y ≤ 2 ^ b) : x * y ≤ 2 ^ (a + b) := by
  rw [Nat.pow_add]
  exact Nat.mul_le_mul hx hy
theorem pow_lt2 {x a b : Nat} (h : x ≤ 2 ^ a) (hab : a < b) : x < 2 ^ b := Nat.lt_of_le_of_lt h (Nat.pow_lt_pow_right (by decide) hab)
theorem sm_w {D : Nat} {q : Rat} (h0 : 0 < D) (hD : D ≤ 2 ^ 3700) (h : Dv D q) (h1 : -wide8 ≤ q) (h2 : q ≤ wide8) : Sm q := by
  obtain ⟨z, hz⟩ := h
  have hp : (0 : Rat) < (D : Rat) := Rat.natCast_pos.mpr h0
  have e : q = (z : Rat) / ((D : Int) : Rat) := by
    rw [Rat.intCast_natCast, ← hz]
    have := div_mul (x := q * (D : Rat)) hp
    generalize q * (D : Rat) / (D : Rat) = u at *
    have h5 : (q - u) * (D : Rat) = 0 := by grind
    rcases Rat.mul_eq_zero.mp h5 with h6 | h6 <;> grind
  have hM : ((2 ^ 800 * D : Nat) : Rat) = wide8 * (D : Rat) := Rat.natCast_mul _ _
  have hn : z.natAbs ≤ 2 ^ 800 * D := natAbs_le (by
    rw [hM, ← hz]
    have := Rat.mul_le_mul_of_nonneg_right h1 (Rat.le_of_lt hp)
    grind) (by
    rw [hM, ← hz]
    exact Rat.mul_le_mul_of_nonneg_right h2 (Rat.le_of_lt hp))
  rw [e]
  exact sm_frac (by omega) (by rw [Int.natAbs_natCast]; exact pow_lt2 hD (by decide)) (pow_lt2 (Nat.le_trans hn (mul_pow2 (Nat.le_refl _) hD)) (by decide))
theorem wide_ge : ((2 ^ 700 : Nat) : Rat) ≤ wide8 := Rat.natCast_le_natCast.mpr (Nat.pow_le_pow_right (by decide) (by decide))
theorem wide_at (k : Nat) (h : k ≤ 2 ^ 200) : (k : Rat) ≤ wide8 := Rat.natCast_le_natCast.mpr (Nat.le_trans h (Nat.pow_le_pow_right (by decide) (by decide)))
/-- everyday size -/
theorem sm_n {D : Nat} {q : Rat} (h0 : 0 < D) (hD : D ≤ 2 ^ 3700) (h : Dv D q) (h1 : -4398046511104 * 4398046511104 ≤ q) (h2 : q ≤ 4398046511104 * 4398046511104) : Sm q := by
  have := wide_at 19342813113834066795298816 (by decide)
  have e : ((19342813113834066795298816 : Nat) : Rat) = 4398046511104 * 4398046511104 := by decide +kernel
  exact sm_w h0 hD h (by grind) (by grind)
/-- a time, its parts -/
structure MomOk (c : Nat) (m : Rat) : Prop where
  c0 : 0 < c
  c1 : c ≤ 2 ^ 524
  dv : Dv c m
  lo : 0 ≤ m
  hi : m ≤ 10000
theorem MomOk.sm {c : Nat} {m : Rat} (h : MomOk c m) : Sm m := sm_n h.c0 (Nat.le_trans h.c1 (Nat.pow_le_pow_right (by decide) (by decide))) h.dv (by have := h.lo; grind) (by have := h.hi; grind)
theorem mom_int {z : Int} (h0 : 0 ≤ z) (h1 : z ≤ 10000) : MomOk 1 (z : Rat) := ⟨by decide, Nat.one_le_two_pow, Dv.int 1 z, by have := Rat.intCast_le_intCast.mpr h0; simpa using this, by have := Rat.intCast_le_intCast.mpr h1; simpa using this⟩
/-- a plan whose numbers are in D parts -/
structure PsOk (J : List (Jb Str)) (D : Nat) (ps : List (Pc Str)) : Prop where
  d0 : 0 < D
  d1 : D ≤ 2 ^ 504
  nc : ∀ p ∈ ps, Nc D J p
  good : ∀ p ∈ ps, Good p
  up : ∀ p ∈ ps, p.en ≤ 10000
  len : ps.length ≤ 20000
theorem mom_end {J : List (Jb Str)} {D : Nat} {p : Pc Str} (d0 : 0 < D) (d1 : D ≤ 2 ^ 504) (h : Nc D J p) {x : Rat} (hx : x = p.st ∨ x = p.en) (lo : 0 ≤ x) (hi : x ≤ 10000) : ∃ c, MomOk c x := by
  obtain ⟨z, hz⟩ := h.sp
  have hp : (0 : Rat) < (D : Rat) := Rat.natCast_pos.mpr d0
  have hzp : (0 : Rat) < (z : Rat) := by rw [← hz]; exact Rat.mul_pos h.s0 hp
  have hz0 : 0 < z := by
    have : ((0 : Int) : Rat) < (z : Rat) := by simpa using hzp
    exact Rat.intCast_lt_intCast.mp this
  have hcast : ((z.natAbs : Nat) : Rat) = (z : Rat) := by
    rw [← Rat.intCast_natCast]
    congr 1
    omega
  have hM : ((2 ^ 20 * D : Nat) : Rat) = 1048576 * (D : Rat) := by
    rw [Rat.natCast_mul]
    rfl
  have hn : z.natAbs ≤ 2 ^ 20 * D := natAbs_le (by
    have : (0 : Rat) ≤ ((2 ^ 20 * D : Nat) : Rat) := Rat.natCast_nonneg
    grind) (by
    rw [hM, ← hz]
    exact Rat.mul_le_mul_of_nonneg_right h.s1 (Rat.le_of_lt hp))
  refine ⟨z.natAbs, by omega, Nat.le_trans hn (mul_pow2 (Nat.le_refl _) d1), ?_, lo, hi⟩
  have hv : Dv D (p.sp * x) := by
    rcases hx with rfl | rfl
    · exact h.st
    · exact h.en
  obtain ⟨y, hy⟩ := hv
  refine ⟨y, ?_⟩
  rw [hcast, ← hz, ← hy]
  grind
theorem PsOk.ends {J : List (Jb Str)} {D : Nat} {ps : List (Pc Str)} (h : PsOk J D ps) {p : Pc Str} (hp : p ∈ ps) : (∃ c, MomOk c p.st) ∧ ∃ c, MomOk c p.en := by
  have h1 := h.good p hp
  have h2 := h.up p hp
  obtain ⟨a, b⟩ := h1
  exact ⟨mom_end h.d0 h.d1 (h.nc p hp) (.inl rfl) a (by grind), mom_end h.d0 h.d1 (h.nc p hp) (.inr rfl) (by grind) h2⟩
/-- ends of stretches -/
theorem str_ends {P : Rat → Prop} (b e : Rat) (hb : P b) (he : P e) : ∀ (ps : List (Pc Str)) (s : List (Pc (Option Str)) × Rat), P s.2 → (∀ q ∈ s.1, P q.st ∧ P q.en ∧ q.st < q.en) → (∀ p ∈ ps, P p.st ∧ P p.en) → ∀ q ∈ strEnd e (ps.foldl (strStep b e) s), P q.st ∧ P q.en ∧ q.st < q.en
  | [], s, h, h2, _ => by
    intro q hq
    rw [List.foldl_nil] at hq
    unfold strEnd at hq
    by_cases c : s.2 < e
    · rw [if_pos c] at hq
      rcases List.mem_append.mp hq with hq | hq
      · exact h2 q hq
      · rw [List.mem_singleton.mp hq]
        exact ⟨h, he, c⟩
    · rw [if_neg c] at hq
      exact h2 q hq
  | p :: r, s, h, h2, h3 => by
    rw [List.foldl_cons]
    have hp := h3 p List.mem_cons_self
    have e1 : P (rmax p.st b) := by unfold rmax; split <;> first | exact hb | exact hp.1
    have e2 : P (rmin p.en e) := by unfold rmin; split <;> first | exact he | exact hp.2
    refine str_ends b e hb he r _ ?_ ?_ fun p hp => h3 p (List.mem_cons_of_mem _ hp)
    · unfold strStep
      split
      · exact e2
      · exact h
    · unfold strStep
      split
      · rename_i c
        intro q hq
        simp only at hq
        rcases List.mem_append.mp hq with hq | hq
        · by_cases c2 : s.2 < rmax p.st b
          · rw [if_pos c2] at hq
            rcases List.mem_append.mp hq with hq | hq
            · exact h2 q hq
            · rw [List.mem_singleton.mp hq]
              exact ⟨h, e1, c2⟩
          · rw [if_neg c2] at hq
            exact h2 q hq
        · rw [List.mem_singleton.mp hq]
          exact ⟨e1, e2, c⟩
      · exact h2
theorem strn_len (b e : Rat) : ∀ (ps : List (Pc Str)) (s : List (Pc (Option Str)) × Rat), (strEnd e (ps.foldl (strStep b e) s)).length ≤ s.1.length + 2 * ps.length + 1
  | [], s => by
    rw [List.foldl_nil]
    unfold strEnd
    split
    · rw [List.length_append]
      simp
    · omega
  | p :: r, s => by
    rw [List.foldl_cons]
    have ih := strn_len b e r (strStep b e s p)
    have : (strStep b e s p).1.length ≤ s.1.length + 2 := by
      unfold strStep
      split
      · simp only [List.length_append, List.length_cons, List.length_nil]
        split
        · simp only [List.length_append, List.length_cons, List.length_nil]
          omega
        · omega
      · omega
    rw [List.length_cons]
    omega
/-- one stretch -/
structure StQ (D c : Nat) (q : Pc (Option Str)) : Prop where
  a : ∃ c, MomOk c q.st
  b : ∃ c, MomOk c q.en
  lt : q.st < q.en
  sp : Dv D q.sp
  s0 : 0 ≤ q.sp
  s1 : q.sp ≤ 1048576
  w : Dv (D * c) (q.sp * (q.en - q.st))
section
variable {J : List (Jb Str)} {D E c : Nat} {ps ds rs : List (Pc Str)} {m : Rat}
theorem stq_of (h : PsOk J D ps) (M : MomOk c m) : ∀ q ∈ stretches ps 0 m, StQ D c q := fun q hq => by
  obtain ⟨e1, e2, e3⟩ := str_ends (P := fun x => ∃ c, MomOk c x) 0 m ⟨1, by have := mom_int (z := 0) (by decide) (by decide); simpa using this⟩ ⟨c, M⟩ ps ([], 0) ⟨1, by have := mom_int (z := 0) (by decide) (by decide); simpa using this⟩ (fun q hq => absurd hq (by simp)) (fun p hp => h.ends hp) q hq
  cases hn : q.nm with
  | none =>
    have e := str_idle ps 0 m q hq hn
    refine ⟨e1, e2, e3, by rw [e]; exact Dv.zero D, by rw [e]; exact Rat.le_refl, by rw [e]; decide +kernel, ?_⟩
    have : q.sp * (q.en - q.st) = 0 := by rw [e]; grind
    rw [this]
    exact Dv.zero _
  | some n =>
    obtain ⟨p, hp, f1, f2, f3, f4, f5⟩ := str_from hq hn
    have N := h.nc p hp
    refine ⟨e1, e2, e3, by rw [f2]; exact N.sp, by rw [f2]; exact Rat.le_of_lt N.s0, by rw [f2]; exact N.s1, ?_⟩
    have g : q.sp * (q.en - q.st) = p.sp * q.en - p.sp * q.st := by rw [f2]; grind
    rw [g]
    have hd : D ∣ D * c := Nat.dvd_mul_right _ _
    refine Dv.sub ?_ ?_
    · rw [f4]
      unfold rmin
      split
      · exact N.sp.mul M.dv
      · exact N.en.up hd
    · rw [f3]
      unfold rmax
      split
      · have : p.sp * 0 = 0 := by grind
        rw [this]
        exact Dv.zero _
      · exact N.st.up hd
theorem StQ.le {q : Pc (Option Str)} (h : StQ D c q) : q.en - q.st ≤ 10000 ∧ 0 < q.en - q.st := by
  obtain ⟨_, h1⟩ := h.a
  obtain ⟨_, h2⟩ := h.b
  have := h1.lo
  have := h2.hi
  have := h.lt
  constructor <;> grind
theorem StQ.wle {q : Pc (Option Str)} (h : StQ D c q) : 0 ≤ q.sp * (q.en - q.st) ∧ q.sp * (q.en - q.st) ≤ 10485760000 := by
  obtain ⟨h1, h2⟩ := h.le
  have h3 := Rat.mul_nonneg h.s0 (Rat.le_of_lt h2)
  have h4 := Rat.mul_le_mul_of_nonneg_right h.s1 (Rat.le_of_lt h2)
  have := h.s0
  constructor
  · exact h3
  · grind
theorem StQ.sq {q : Pc (Option Str)} (h : StQ D c q) : Dv (D * D * c) (q.sp * q.sp * (q.en - q.st)) ∧ 0 ≤ q.sp * q.sp * (q.en - q.st) ∧ q.sp * q.sp * (q.en - q.st) ≤ 10995116277760000 := by
  obtain ⟨h1, h2⟩ := h.wle
  have e : q.sp * q.sp * (q.en - q.st) = q.sp * (q.sp * (q.en - q.st)) := by grind
  rw [e]
  refine ⟨?_, Rat.mul_nonneg h.s0 h1, ?_⟩
  · rw [Nat.mul_assoc]
    exact h.sp.mul h.w
  · have h3 := Rat.mul_le_mul_of_nonneg_right h.s1 h1
    grind
theorem StQ.s2 {q : Pc (Option Str)} (h : StQ D c q) : Dv (D * D) (q.sp * q.sp) ∧ 0 ≤ q.sp * q.sp ∧ q.sp * q.sp ≤ 1099511627776 := by
  refine ⟨h.sp.mul h.sp, Rat.mul_nonneg h.s0 h.s0, ?_⟩
  have h3 := Rat.mul_le_mul_of_nonneg_right h.s1 h.s0
  have := h.s1
  grind
theorem str_len0 (h : PsOk J D ps) : (stretches ps 0 m).length ≤ 40001 := by
  have h1 := strn_len 0 m ps ([], 0)
  have h2 := h.len
  have h3 : (([] : List (Pc (Option Str))), (0 : Rat)).1.length = 0 := rfl
  unfold stretches
  omega
theorem ls_cap {α : Type} {f : α → Rat} {k : Nat} {A : List α} {n : Nat} (hn : A.length ≤ n) (h0 : ∀ a ∈ A, 0 ≤ f a) (h : ∀ a ∈ A, f a ≤ (k : Rat)) : 0 ≤ ls f A ∧ ls f A ≤ ((n * k : Nat) : Rat) := by
  refine ⟨ls_nonneg h0, ?_⟩
  have h1 := ls_le_len h
  have h2 : (A.length : Rat) ≤ (n : Rat) := Rat.natCast_le_natCast.mpr hn
  have h3 := Rat.mul_le_mul_of_nonneg_right h2 (show (0 : Rat) ≤ (k : Rat) from Rat.natCast_nonneg)
  rw [Rat.natCast_mul]
  grind
theorem dc_le {a b : Nat} (ha : D ≤ 2 ^ a) (hc : c ≤ 2 ^ b) {n : Nat} (h : a + b ≤ n) : D * c ≤ 2 ^ n := Nat.le_trans (mul_pow2 ha hc) (Nat.pow_le_pow_right (by decide) h)
theorem strsm_of (h : PsOk J D ps) (M : MomOk c m) : StrSm ps 0 m := by
  refine ⟨fun p hp => (h.nc p hp).sm, fun q hq => ?_⟩
  have S := stq_of h M q hq
  obtain ⟨l1, l2⟩ := S.le
  obtain ⟨w1, w2⟩ := S.wle
  obtain ⟨c1, h1⟩ := S.a
  obtain ⟨c2, h2⟩ := S.b
  refine ⟨h1.sm, h2.sm, sm_n h.d0 (Nat.le_trans h.d1 (Nat.pow_le_pow_right (by decide) (by decide))) S.sp (by have := S.s0; grind) (by have := S.s1; grind), sm_n (Nat.mul_pos h2.c0 h1.c0) (dc_le h2.c1 h1.c1 (by decide)) ((h2.dv.up (Nat.dvd_mul_right _ _)).sub (h1.dv.up (Nat.dvd_mul_left _ _))) (by grind) (by grind), sm_n (Nat.mul_pos h.d0 M.c0) (dc_le h.d1 M.c1 (by decide)) S.w (by grind) (by grind)⟩
theorem suok_of (h : PsOk J D ps) (M : MomOk c m) : SuOk ps m ∧ Dv (D * D * c) (spentUntil ps m) ∧ 0 ≤ spentUntil ps m ∧ spentUntil ps m ≤ 40001 * 10995116277760000 := by
  have h0 : 0 < D * D * c := Nat.mul_pos (Nat.mul_pos h.d0 h.d0) M.c0
  have hb : D * D * c ≤ 2 ^ 3700 := dc_le (dc_le h.d1 h.d1 (Nat.le_refl _)) M.c1 (by decide)
  have key : ∀ A : List (Pc (Option Str)), A.length ≤ 40001 → (∀ q ∈ A, q ∈ stretches ps 0 m) → Dv (D * D * c) (ls sqOf A) ∧ 0 ≤ ls sqOf A ∧ ls sqOf A ≤ 40001 * 10995116277760000 := fun A hl hA => by
    have hc := ls_cap (f := sqOf) (k := 10995116277760000) hl (fun q hq => ((stq_of h M q (hA q hq)).sq).2.1) (fun q hq => ((stq_of h M q (hA q hq)).sq).2.2)
    refine ⟨Dv.ls fun q hq => ((stq_of h M q (hA q hq)).sq).1, hc.1, ?_⟩
    have e : ((40001 * 10995116277760000 : Nat) : Rat) = 40001 * 10995116277760000 := by decide +kernel
    rw [e] at hc
    exact hc.2
  refine ⟨⟨fun q hq => ?_, fun i => ?_⟩, key _ (str_len0 h) fun q hq => hq⟩
  · have S := stq_of h M q hq
    obtain ⟨a1, a2, a3⟩ := S.sq
    obtain ⟨b1, b2, b3⟩ := S.s2
    exact ⟨sm_n (Nat.mul_pos h.d0 h.d0) (dc_le h.d1 h.d1 (by decide)) b1 (by grind) (by grind), sm_n h0 hb a1 (by unfold sqOf; grind) (by unfold sqOf; grind)⟩
  · obtain ⟨a1, a2, a3⟩ := key ((stretches ps 0 m).take i) (by have := str_len0 h (m := m); rw [List.length_take]; omega) fun q hq => List.mem_of_mem_take hq
    exact sm_n h0 hb a1 (by grind) (by grind)
end
/-- the works left -/
structure LfQ (D c : Nat) (x : Rat) (k : Rat) : Prop where
  dv : Dv (D * c) x
  lo : 0 ≤ x
  hi : x ≤ k
structure AcCx (J : List (Jb Str)) (ds rs : List (Pc Str)) (D E : Nat) (wk : Str → Rat) : Prop where
  hJ : JobsOk J
  few : J.length ≤ 6
  du : ∀ j ∈ J, j.du ≤ 10000
  wkz : ∀ j ∈ J, ∃ z : Int, j.wk = (z : Rat) ∧ z ≤ 10000
  wk : ∀ j ∈ J, wk j.nm = j.wk
  H : Hist J ds
  R : Rival J rs
  o1 : PsOk J D ds
  o2 : PsOk J E rs
section
variable {J : List (Jb Str)} {D E c : Nat} {ps ds rs : List (Pc Str)} {m : Rat} {wk : Str → Rat}
theorem AcCx.wk1 (X : AcCx J ds rs D E wk) {j : Jb Str} (hj : j ∈ J) : 0 < j.wk ∧ j.wk ≤ 10000 ∧ ∀ D, Dv D j.wk := by
  obtain ⟨z, h1, h2⟩ := X.wkz j hj
  refine ⟨X.hJ.wk j hj, ?_, fun D => by rw [h1]; exact Dv.int D z⟩
  rw [h1]
  have := Rat.intCast_le_intCast.mpr h2
  simpa using this
theorem ltok_of (h : PsOk J D ps) (M : MomOk c m) {A : List (Jb Str)} (hw : ∀ j ∈ A, (∀ D, Dv D (wk j.nm)) ∧ 0 < wk j.nm ∧ wk j.nm ≤ 10000) : LtOk A ps m wk ∧ ∀ j ∈ A, Dv (D * c) (leftAt wk ps m j.nm) := by
  have key : ∀ j ∈ A, ∀ L : List (Pc (Option Str)), L.length ≤ 40001 → (∀ q ∈ L, q ∈ stretches ps 0 m) → Dv (D * c) (L.foldl ltStep wk j.nm) ∧ Sm (L.foldl ltStep wk j.nm) := fun j hj L hl hL => by
    rw [lt_fold]
    have ht : ∀ q ∈ L, Dv (D * c) (if q.nm = some j.nm then q.sp * (q.en - q.st) else 0) ∧ 0 ≤ (if q.nm = some j.nm then q.sp * (q.en - q.st) else 0) ∧ (if q.nm = some j.nm then q.sp * (q.en - q.st) else 0) ≤ ((10485760000 : Nat) : Rat) := fun q hq => by
      have S := stq_of h M q (hL q hq)
      obtain ⟨w1, w2⟩ := S.wle
      have e : ((10485760000 : Nat) : Rat) = 10485760000 := rfl
      rw [e]
      split
      · exact ⟨S.w, w1, w2⟩
      · exact ⟨Dv.zero _, Rat.le_refl, by decide +kernel⟩
    obtain ⟨c1, c2⟩ := ls_cap hl (fun q hq => (ht q hq).2.1) (fun q hq => (ht q hq).2.2)
    have e : ((40001 * 10485760000 : Nat) : Rat) = 419440885760000 := by decide +kernel
    rw [e] at c2
    obtain ⟨v1, v2, v3⟩ := hw j hj
    have hd := (v1 (D * c)).sub (Dv.ls fun q hq => (ht q hq).1)
    exact ⟨hd, sm_n (Nat.mul_pos h.d0 M.c0) (dc_le h.d1 M.c1 (by decide)) hd (by grind) (by grind)⟩
  refine ⟨⟨by have := h.len; omega, strsm_of h M, fun j hj i => (key j hj _ (by have := str_len0 h (m := m); rw [List.length_take]; omega) fun q hq => List.mem_of_mem_take hq).2⟩, fun j hj => (key j hj _ (str_len0 h) fun q hq => hq).1⟩
theorem wk_nonneg (h : PsOk J D ps) (n : Str) : 0 ≤ Wk ps n m := ls_nonneg fun p hp => by
  split
  · exact Rat.mul_nonneg (Rat.le_of_lt (h.nc p hp).s0) (ov_nonneg (h.good p hp).2)
  · exact Rat.le_refl
theorem lf_ds (X : AcCx J ds rs D E wk) (M : MomOk c m) : ∀ j ∈ At J m, LfQ D c (leftAt wk ds m j.nm) 10000 := fun j hj => by
  have hj' := (at_mem.mp hj).1
  obtain ⟨w1, w2, w3⟩ := X.wk1 hj'
  obtain ⟨p, C⟩ := hist_cert X.H M.lo
  have h1 := C.lpos j hj
  have h2 := wk_nonneg X.o1 j.nm (m := m)
  refine ⟨(ltok_of X.o1 M (A := At J m) fun i hi => ?_).2 j hj, ?_, ?_⟩
  · have hi' := (at_mem.mp hi).1
    obtain ⟨w1, w2, w3⟩ := X.wk1 hi'
    rw [X.wk i hi']
    exact ⟨w3, w1, w2⟩
  · rw [left_lw X.H.fits X.wk hj']
    exact h1
  · rw [left_lw X.H.fits X.wk hj']
    unfold lw
    grind
theorem lf_rs (X : AcCx J ds rs D E wk) (M : MomOk c m) : ∀ j ∈ At J m, LfQ E c (leftAt wk rs m j.nm) 10000 := fun j hj => by
  have hj' := (at_mem.mp hj).1
  obtain ⟨w1, w2, w3⟩ := X.wk1 hj'
  have h1 := rival_nonneg X.R (m := m) hj'
  have h2 := wk_nonneg X.o2 j.nm (m := m)
  refine ⟨(ltok_of X.o2 M (A := At J m) fun i hi => ?_).2 j hj, ?_, ?_⟩
  · have hi' := (at_mem.mp hi).1
    obtain ⟨w1, w2, w3⟩ := X.wk1 hi'
    rw [X.wk i hi']
    exact ⟨w3, w1, w2⟩
  · rw [left_lw X.R.fits X.wk hj']
    exact h1
  · rw [left_lw X.R.fits X.wk hj']
    unfold lw
    grind
/-- what lies in the scaled jobs -/
theorem sc_mem (X : AcCx J ds rs D E wk) (M : MomOk c m) {w : Jb Str} (hw : w ∈ scaledJ (At J m) (leftAt wk ds m) m) : ∃ j ∈ At J m, w = ⟨j.nm, 0, j.du * (m.den : Int) - m.num, leftAt wk ds m j.nm⟩ ∧ 0 < w.du ∧ w.du ≤ 10000 * (m.den : Int) ∧ 0 < w.wk := by
  obtain ⟨j, hj, rfl⟩ := List.mem_map.mp hw
  obtain ⟨hj1, hj2⟩ := List.mem_filter.mp hj
  have hne : leftAt wk ds m j.nm ≠ 0 := of_decide_eq_true hj2
  have hj' := (at_mem.mp hj1).1
  obtain ⟨p, C⟩ := hist_cert X.H M.lo
  have hl := left_lw (m := m) X.H.fits X.wk hj'
  have h1 : ¬ (j.du : Rat) ≤ m := fun z => hne (by rw [hl]; exact C.late j hj1 z)
  rw [rat_cmp] at h1
  have h2 := (lf_ds X M j hj1).lo
  have h3 : 0 ≤ m.num := Rat.num_nonneg.mpr M.lo
  have h4 := Int.mul_le_mul_of_nonneg_right (X.du j hj') (show (0 : Int) ≤ (m.den : Int) by omega)
  refine ⟨j, hj1, rfl, ?_, ?_, ?_⟩
  · show 0 < j.du * (m.den : Int) - m.num
    omega
  · show j.du * (m.den : Int) - m.num ≤ 10000 * (m.den : Int)
    omega
  · show 0 < leftAt wk ds m j.nm
    grind
theorem den_le (M : MomOk c m) : m.den ≤ 2 ^ 524 := Nat.le_trans (Nat.le_of_dvd M.c0 (den_dvd M.dv)) M.c1
theorem sc_du (X : AcCx J ds rs D E wk) (M : MomOk c m) {w : Jb Str} (hw : w ∈ scaledJ (At J m) (leftAt wk ds m) m) : w.du.natAbs ≤ 2 ^ 538 := by
  obtain ⟨j, hj, e, h1, h2, _⟩ := sc_mem X M hw
  have h3 : w.du.natAbs ≤ 10000 * m.den := by omega
  exact Nat.le_trans h3 (mul_pow2 (a := 14) (by decide) (den_le M))
theorem sc_ok (X : AcCx J ds rs D E wk) (M : MomOk c m) : JobsOk (scaledJ (At J m) (leftAt wk ds m) m) where
  nd := by
    have : (scaledJ (At J m) (leftAt wk ds m) m).map (·.nm) = ((At J m).filter fun j => decide (leftAt wk ds m j.nm ≠ 0)).map (·.nm) := by
      unfold scaledJ
      rw [List.map_map]
      rfl
    rw [this]
    exact filter_nd (at_nd X.hJ.nd) _
  cm := fun w hw => by
    obtain ⟨j, hj, e, h1, h2, _⟩ := sc_mem X M hw
    have : w.cm = 0 := by rw [e]
    omega
  wk := fun w hw => by
    obtain ⟨j, hj, e, h1, h2, h3⟩ := sc_mem X M hw
    exact h3
theorem sc_len (X : AcCx J ds rs D E wk) : (scaledJ (At J m) (leftAt wk ds m) m).length ≤ 6 := by
  unfold scaledJ At
  rw [List.length_map]
  exact Nat.le_trans (List.length_filter_le _ _) (Nat.le_trans (List.length_filter_le _ _) X.few)
theorem sc_wk (X : AcCx J ds rs D E wk) (M : MomOk c m) : ∀ w ∈ scaledJ (At J m) (leftAt wk ds m) m, Dv (D * c) w.wk ∧ 0 ≤ w.wk ∧ w.wk ≤ ((10000 : Nat) : Rat) := fun w hw => by
  obtain ⟨j, hj, e, _⟩ := sc_mem X M hw
  obtain ⟨h1, h2, h3⟩ := lf_ds X M j hj
  have : w.wk = leftAt wk ds m j.nm := by rw [e]
  rw [this]
  exact ⟨h1, h2, h3⟩
theorem sc_jb (X : AcCx J ds rs D E wk) (M : MomOk c m) : JobsB (scaledJ (At J m) (leftAt wk ds m) m) (D * c) where
  ok := sc_ok X M
  few := by have := sc_len (m := m) X; omega
  pos := Nat.mul_pos X.o1.d0 M.c0
  dvd := fun w hw => den_dvd (sc_wk X M w hw).1
  sS := pow_lt2 (dc_le X.o1.d1 M.c1 (Nat.le_refl _)) (by decide)
  sw := fun w hw => by
    obtain ⟨h1, h2, h3⟩ := sc_wk X M w hw
    have e : ((10000 : Nat) : Rat) = 10000 := rfl
    rw [e] at h3
    exact sm_n (Nat.mul_pos X.o1.d0 M.c0) (dc_le X.o1.d1 M.c1 (by decide)) h1 (by grind) (by grind)
  sum := by
    have h := (ls_cap (sc_len (m := m) X) (fun w hw => (sc_wk X M w hw).2.1) (fun w hw => (sc_wk X M w hw).2.2)).2
    have hp : (0 : Rat) ≤ ((D * c : Nat) : Rat) := Rat.natCast_nonneg
    have h1 := Rat.mul_le_mul_of_nonneg_right h hp
    rw [← Rat.natCast_mul] at h1
    have h2 : 6 * 10000 * (D * c) < 2 ^ 4500 := pow_lt2 (mul_pow2 (a := 20) (by decide) (dc_le X.o1.d1 M.c1 (Nat.le_refl _))) (by decide)
    have h3 : ((6 * 10000 * (D * c) : Nat) : Rat) < ((2 ^ 4500 : Nat) : Rat) := Rat.natCast_lt_natCast.mpr h2
    generalize ((2 ^ 4500 : Nat) : Rat) = u at *
    generalize ((6 * 10000 * (D * c) : Nat) : Rat) = v at *
    generalize ls (fun j : Jb Str => j.wk) (scaledJ (At J m) (leftAt wk ds m) m) * ((D * c : Nat) : Rat) = x at *
    clear h h2 hp
    grind
  due := fun w hw => pow_lt2 (sc_du X M hw) (by decide)
theorem dv_all {α : Type} {Y B : Nat} {f : α → Rat} : ∀ (A : List α), (∀ a ∈ A, ∃ e, 0 < e ∧ e ≤ 2 ^ B ∧ Dv (Y * e) (f a)) → ∃ P, 0 < P ∧ P ≤ 2 ^ (B * A.length) ∧ ∀ a ∈ A, Dv (Y * P) (f a)
  | [], _ => ⟨1, by decide, by simp, fun _ h => absurd h (by simp)⟩
  | a :: r, h => by
    obtain ⟨P, p0, p1, p2⟩ := dv_all r fun b hb => h b (List.mem_cons_of_mem _ hb)
    obtain ⟨e, e0, e1, e2⟩ := h a List.mem_cons_self
    refine ⟨e * P, Nat.mul_pos e0 p0, ?_, fun b hb => ?_⟩
    · rw [List.length_cons, Nat.mul_add, Nat.mul_one, Nat.add_comm]
      exact mul_pow2 e1 p1
    · rcases List.mem_cons.mp hb with rfl | hb
      · exact e2.up (by rw [← Nat.mul_assoc]; exact Nat.dvd_mul_right _ _)
      · exact (p2 b hb).up (Nat.mul_dvd_mul_left _ (Nat.dvd_mul_left _ _))
/-- the speeds of the rounds -/
structure SpQ (D c : Nat) (m : Rat) (P : Nat) (rd : Rnd Str) : Prop where
  sm : Sm rd.sp
  dv : Dv (D * c * P) (2 * (m.den : Rat) * rd.sp)
  lo : 0 ≤ 2 * (m.den : Rat) * rd.sp
  hi : 2 * (m.den : Rat) * rd.sp ≤ ((2 ^ 544 : Nat) : Rat)
theorem div_dv {Y : Nat} {x : Rat} {n : Int} (h : Dv Y x) (hn : 0 < n) : Dv (Y * n.natAbs) (x / (n : Rat)) := by
  have hp : (0 : Rat) < (n : Rat) := by
    have := Rat.intCast_lt_intCast.mpr hn
    simpa using this
  have hcast : ((n.natAbs : Nat) : Rat) = (n : Rat) := by
    rw [← Rat.intCast_natCast]
    congr 1
    omega
  obtain ⟨z, hz⟩ := h
  refine ⟨z, ?_⟩
  have := div_mul (x := x) hp
  rw [Rat.natCast_mul, hcast, ← hz]
  grind
theorem div_le1 {x : Rat} {n : Int} (h : 0 ≤ x) (hn : 0 < n) : 0 ≤ x / (n : Rat) ∧ x / (n : Rat) ≤ x := by
  have hp : (0 : Rat) < (n : Rat) := by
    have := Rat.intCast_lt_intCast.mpr hn
    simpa using this
  have h1 : (1 : Rat) ≤ (n : Rat) := by
    have : ((1 : Int) : Rat) ≤ (n : Rat) := Rat.intCast_le_intCast.mpr (by omega)
    simpa using this
  have e := div_mul (x := x) hp
  generalize x / (n : Rat) = y at *
  have hy : 0 ≤ y := by
    apply Rat.not_lt.mp
    intro c
    have h4 : 0 < (-y) * (n : Rat) := Rat.mul_pos (by grind) hp
    grind
  refine ⟨hy, ?_⟩
  have h3 := Rat.mul_le_mul_of_nonneg_left h1 hy
  grind
theorem sp_all (X : AcCx J ds rs D E wk) (M : MomOk c m) {rds : List (Rnd Str)} (hR : RoundsOf (scaledJ (At J m) (leftAt wk ds m) m) rds) :
    rds.length ≤ 6 ∧ ∃ P, 0 < P ∧ P ≤ 2 ^ 636 ∧ ∀ rd ∈ rds, SpQ D c m P rd := by
  have hch : rds.length ≤ (scaledJ (At J m) (leftAt wk ds m) m).length ∧ ∀ i rd, rds[i]? = some rd → ChainR (scaledJ (At J m) (leftAt wk ds m) m) 0 i rd := by
    rcases hR with ⟨e, rfl⟩ | ⟨b, e, ⟨jc, hjc, rfl⟩, ⟨je, hje, rfl⟩, hb, hr⟩
    · exact ⟨Nat.zero_le _, fun i rd h => by simp at h⟩
    · have hc0 : ∀ j ∈ scaledJ (At J m) (leftAt wk ds m) m, j.cm = 0 := fun j hj => by
        obtain ⟨_, _, e, _⟩ := sc_mem X M hj
        rw [e]
      rw [hc0 jc hjc] at hr
      obtain ⟨_, _, _, hpos, _⟩ := sc_mem X M hje
      refine chain_rds hr 0 je.du (Int.le_refl _) (.inr ⟨rfl, hpos⟩) fun j hj => ?_
      obtain ⟨_, _, _, h1, _⟩ := sc_mem X M hj
      exact ⟨by rw [hc0 j hj]; exact Int.le_refl _, h1, (hb j hj).2⟩
  have hlen := sc_len (m := m) X
  have hden := den_le M
  have hdp := rat_den_pos m
  have hwk := sc_wk X M
  refine ⟨by omega, ?_⟩
  -- each round
  have hload : ∀ q : Jb Str → Bool, Dv (D * c) (ls (fun j => if q j = true then j.wk else 0) (scaledJ (At J m) (leftAt wk ds m) m)) ∧ 0 ≤ ls (fun j => if q j = true then j.wk else 0) (scaledJ (At J m) (leftAt wk ds m) m) ∧ ls (fun j => if q j = true then j.wk else 0) (scaledJ (At J m) (leftAt wk ds m) m) ≤ 60000 := fun q => by
    have h := ls_cap (f := fun j : Jb Str => if q j = true then j.wk else 0) (k := 10000) hlen (fun w hw => by
      have := (hwk w hw).2.1
      split
      · exact this
      · exact Rat.le_refl) (fun w hw => by
      have := (hwk w hw).2
      split
      · exact this.2
      · exact Rat.natCast_nonneg)
    have e : ((6 * 10000 : Nat) : Rat) = 60000 := by decide +kernel
    rw [e] at h
    refine ⟨Dv.ls fun w hw => ?_, h.1, h.2⟩
    split
    · exact (hwk w hw).1
    · exact Dv.zero _
  have hone : ∀ i rd, rds[i]? = some rd → (Sm rd.sp ∧ 0 ≤ 2 * (m.den : Rat) * rd.sp ∧ 2 * (m.den : Rat) * rd.sp ≤ ((2 ^ 544 : Nat) : Rat)) ∧ ∃ e, 0 < e ∧ e ≤ 2 ^ (if i = 0 then 538 else 14) ∧ Dv (D * c * e) (2 * (m.den : Rat) * rd.sp) := fun i rd hi => by
    obtain ⟨c1, ⟨jb, hjb, c2⟩, c3, ⟨q, c4⟩⟩ := hch.2 i rd hi
    obtain ⟨l1, l2, l3⟩ := hload q
    generalize ls (fun j => if q j = true then j.wk else 0) (scaledJ (At J m) (leftAt wk ds m) m) = ld at *
    have hn : 0 < rd.b - rd.a := by omega
    have ha0 : 0 ≤ rd.a := by
      rcases c3 with ⟨_, e⟩ | ⟨_, ja, hja, e⟩
      · omega
      · obtain ⟨_, _, _, h1, _⟩ := sc_mem X M hja
        omega
    have hnb : (rd.b - rd.a).natAbs ≤ 2 ^ 538 := by
      have h1 := sc_du X M hjb
      have h2 : (rd.b - rd.a).natAbs ≤ jb.du.natAbs := by omega
      exact Nat.le_trans h2 h1
    obtain ⟨g1, g2⟩ := div_le1 l2 hn
    have gd := div_dv l1 hn
    rw [← c4] at g1 g2 gd
    refine ⟨⟨sm_n (Nat.mul_pos (Nat.mul_pos X.o1.d0 M.c0) (by omega)) (dc_le (dc_le X.o1.d1 M.c1 (Nat.le_refl _)) hnb (by decide)) gd (by grind) (by grind), Rat.mul_nonneg (by grind) g1, ?_⟩, ?_⟩
    · have h1 : rd.sp ≤ 60000 := by grind
      have h2 := Rat.mul_le_mul_of_nonneg_left h1 (show (0 : Rat) ≤ 2 * (m.den : Rat) by grind)
      have h3 : 2 * m.den * 60000 ≤ 2 ^ 544 := by
        have := mul_pow2 (a := 20) (x := 120000) (by decide) hden
        have e : 2 * m.den * 60000 = 120000 * m.den := by omega
        rw [e]
        exact this
      have h4 : ((2 * m.den * 60000 : Nat) : Rat) ≤ ((2 ^ 544 : Nat) : Rat) := Rat.natCast_le_natCast.mpr h3
      have e2 : ((2 * m.den * 60000 : Nat) : Rat) = 2 * (m.den : Rat) * 60000 := by
        rw [Rat.natCast_mul, Rat.natCast_mul]
        rfl
      rw [e2] at h4
      exact Rat.le_trans h2 h4
    · have dt : Dv 1 (2 * (m.den : Rat)) := ⟨2 * (m.den : Int), by
        rw [Rat.intCast_mul, Rat.intCast_natCast]
        have : ((1 : Nat) : Rat) = 1 := rfl
        rw [this]
        have : ((2 : Int) : Rat) = 2 := rfl
        rw [this]
        grind⟩
      rcases c3 with ⟨e, ea⟩ | ⟨e, ja, hja, ea⟩
      · rw [if_pos e]
        refine ⟨(rd.b - rd.a).natAbs, by omega, hnb, ?_⟩
        have := dt.mul gd
        rw [Nat.one_mul] at this
        exact this
      · rw [if_neg (by omega)]
        obtain ⟨i1, hi1, e1, _⟩ := sc_mem X M hja
        obtain ⟨i2, hi2, e2, _⟩ := sc_mem X M hjb
        have f1 : rd.a = i1.du * (m.den : Int) - m.num := by rw [ea, e1]
        have f2 : rd.b = i2.du * (m.den : Int) - m.num := by rw [c2, e2]
        have f3 : rd.b - rd.a = (i2.du - i1.du) * (m.den : Int) := by
          rw [f1, f2, Int.sub_mul]
          omega
        have hd0 : (0 : Int) < (m.den : Int) := by have := m.den_pos; omega
        have hn2 : 0 < i2.du - i1.du := by
          rw [f3] at hn
          exact Int.pos_of_mul_pos_left hn hd0
        have hcm := X.hJ.cm i1 (at_mem.mp hi1).1
        have hdu := X.du i2 (at_mem.mp hi2).1
        refine ⟨(i2.du - i1.du).natAbs, by omega, by
          have : (i2.du - i1.du).natAbs ≤ 10000 := by omega
          exact Nat.le_trans this (by decide), ?_⟩
        have h5 := (div_dv l1 hn2).mulz 2
        have e5 : 2 * (m.den : Rat) * rd.sp = ld / ((i2.du - i1.du : Int) : Rat) * ((2 : Int) : Rat) := by
          have p2 : (0 : Rat) < ((i2.du - i1.du : Int) : Rat) := by
            have := Rat.intCast_lt_intCast.mpr hn2
            simpa using this
          rw [c4, f3, Rat.intCast_mul, Rat.intCast_natCast]
          have q1 := div_mul (x := ld) p2
          have p3 := Rat.mul_pos p2 hdp
          have q2 := div_mul (x := ld) p3
          have e6 : ((2 : Int) : Rat) = 2 := rfl
          rw [e6]
          generalize ((i2.du - i1.du : Int) : Rat) = u at *
          generalize (m.den : Rat) = v at *
          generalize ld / u = y at *
          generalize ld / (u * v) = y2 at *
          have h7 : (v * y2 - y) * u = 0 := by grind
          rcases Rat.mul_eq_zero.mp h7 with h8 | h8
          · grind
          · exfalso; grind
        rw [e5]
        exact h5
  cases rds with
  | nil => exact ⟨1, by decide, Nat.one_le_two_pow, fun _ h => absurd h (by simp)⟩
  | cons r t =>
    obtain ⟨⟨a1, a2, a3⟩, e0, e1, e2, e3⟩ := hone 0 r rfl
    have ht : ∀ rd ∈ t, (Sm rd.sp ∧ 0 ≤ 2 * (m.den : Rat) * rd.sp ∧ 2 * (m.den : Rat) * rd.sp ≤ ((2 ^ 544 : Nat) : Rat)) ∧ ∃ e, 0 < e ∧ e ≤ 2 ^ 14 ∧ Dv (D * c * e) (2 * (m.den : Rat) * rd.sp) := fun rd hrd => by
      obtain ⟨i, hi, e⟩ := List.mem_iff_getElem.mp hrd
      exact hone (i + 1) rd (by rw [List.getElem?_cons_succ, ← e]; simp)
    obtain ⟨P, p0, p1, p2⟩ := dv_all t fun rd hrd => (ht rd hrd).2
    have hl : t.length ≤ 6 := by
      have := hch.1
      rw [List.length_cons] at this
      omega
    refine ⟨e0 * P, Nat.mul_pos e1 p0, ?_, fun rd hrd => ?_⟩
    · rw [if_pos rfl] at e2
      exact dc_le e2 (Nat.le_trans p1 (Nat.pow_le_pow_right (show 0 < 2 by decide) (show 14 * t.length ≤ 84 by omega))) (by decide)
    · rcases List.mem_cons.mp hrd with rfl | hrd
      · exact ⟨a1, e3.up (Nat.mul_dvd_mul_left _ (Nat.dvd_mul_right _ _)), a2, a3⟩
      · obtain ⟨b1, b2, b3⟩ := (ht rd hrd).1
        exact ⟨b1, (p2 rd hrd).up (Nat.mul_dvd_mul_left _ (Nat.dvd_mul_left _ _)), b2, b3⟩
/-- a number of the store -/
structure TrQ (Y : Nat) (x : Rat) (k : Nat) : Prop where
  dv : Dv Y x
  lo : -(k : Rat) ≤ x
  hi : x ≤ (k : Rat)
theorem TrQ.sm {Y k : Nat} {x : Rat} (h : TrQ Y x k) (h0 : 0 < Y) (h1 : Y ≤ 2 ^ 3700) (hk : k ≤ 2 ^ 700) : Sm x := by
  have h2 : (k : Rat) ≤ wide8 := Rat.natCast_le_natCast.mpr (Nat.le_trans hk (Nat.pow_le_pow_right (by decide) (by decide)))
  have := h.lo
  have := h.hi
  exact sm_w h0 h1 h.dv (by grind) (by grind)
theorem TrQ.add {Y k l : Nat} {x y : Rat} (h : TrQ Y x k) (g : TrQ Y y l) : TrQ Y (x + y) (k + l) := by
  have := h.lo
  have := h.hi
  have := g.lo
  have := g.hi
  refine ⟨h.dv.add g.dv, ?_, ?_⟩ <;> rw [Rat.natCast_add] <;> grind
theorem TrQ.neg {Y k : Nat} {x : Rat} (h : TrQ Y x k) : TrQ Y (-x) k := by
  have := h.lo
  have := h.hi
  have := (Dv.zero Y).sub h.dv
  have e : (0 : Rat) - x = -x := by grind
  rw [e] at this
  exact ⟨this, by grind, by grind⟩
theorem TrQ.ls {α : Type} {Y k n : Nat} {f : α → Rat} : ∀ {A : List α}, A.length ≤ n → (∀ a ∈ A, TrQ Y (f a) k) → TrQ Y (SW.ls f A) (n * k)
  | [], _, _ => by
    have : (0 : Rat) ≤ ((n * k : Nat) : Rat) := Rat.natCast_nonneg
    exact ⟨Dv.zero Y, by show _ ≤ (0 : Rat); grind, this⟩
  | a :: r, hn, h => by
    cases n with
    | zero => simp at hn
    | succ n =>
      have h1 := h a List.mem_cons_self
      have h2 := TrQ.ls (n := n) (A := r) (by rw [List.length_cons] at hn; omega) fun b hb => h b (List.mem_cons_of_mem _ hb)
      have := h1.add h2
      rw [Nat.succ_mul, Nat.add_comm]
      exact this
theorem term_q (X : AcCx J ds rs D E wk) (M : MomOk c m) {P : Nat} {rd : Rnd Str} (S : SpQ D c m P rd) {j : Jb Str} (hj : j ∈ At J m) :
    TrQ (D * c * P * (D * c * E)) (2 * (m.den : Rat) * rd.sp * (leftAt wk ds m j.nm - 2 * leftAt wk rs m j.nm)) (2 ^ 600) := by
  have l1 := lf_ds X M j hj
  have l2 := lf_rs X M j hj
  have dx : Dv (D * c * E) (leftAt wk ds m j.nm - 2 * leftAt wk rs m j.nm) := by
    have e : (2 : Rat) * leftAt wk rs m j.nm = leftAt wk rs m j.nm * ((2 : Int) : Rat) := by
      have : ((2 : Int) : Rat) = 2 := rfl
      rw [this]; grind
    rw [e]
    refine (l1.dv.up (Nat.dvd_mul_right _ _)).sub ((l2.dv.mulz 2).up ?_)
    exact ⟨D, by rw [Nat.mul_comm E c, Nat.mul_comm (c * E) D, Nat.mul_assoc]⟩
  have a1 := l1.lo
  have a2 := l1.hi
  have a3 := l2.lo
  have a4 := l2.hi
  have b1 := S.lo
  have b2 := S.hi
  have hk : ((2 ^ 544 : Nat) : Rat) * 20000 ≤ ((2 ^ 600 : Nat) : Rat) := by
    have h1 : 2 ^ 544 * 20000 ≤ 2 ^ 600 := Nat.le_trans (mul_pow2 (Nat.le_refl _) (show 20000 ≤ 2 ^ 15 by decide)) (Nat.pow_le_pow_right (by decide) (by decide))
    have h2 := Rat.natCast_le_natCast.mpr h1
    rw [Rat.natCast_mul] at h2
    exact h2
  refine ⟨S.dv.mul dx, ?_, ?_⟩
  · generalize ((2 ^ 600 : Nat) : Rat) = z at *
    generalize ((2 ^ 544 : Nat) : Rat) = y at *
    generalize 2 * (m.den : Rat) * rd.sp = x at *
    have h1 := Rat.mul_le_mul_of_nonneg_left (show -20000 ≤ leftAt wk ds m j.nm - 2 * leftAt wk rs m j.nm by grind) b1
    have h2 := Rat.mul_le_mul_of_nonneg_right b2 (show (0 : Rat) ≤ 20000 by decide +kernel)
    grind
  · generalize ((2 ^ 600 : Nat) : Rat) = z at *
    generalize ((2 ^ 544 : Nat) : Rat) = y at *
    generalize 2 * (m.den : Rat) * rd.sp = x at *
    have h1 := Rat.mul_le_mul_of_nonneg_left (show leftAt wk ds m j.nm - 2 * leftAt wk rs m j.nm ≤ 20000 by grind) b1
    have h2 := Rat.mul_le_mul_of_nonneg_right b2 (show (0 : Rat) ≤ 20000 by decide +kernel)
    grind
theorem stT_q (X : AcCx J ds rs D E wk) (M : MomOk c m) {P : Nat} {rd : Rnd Str} (S : SpQ D c m P rd) {j : Jb Str} (hj : j ∈ At J m) :
    TrQ (D * c * P * (D * c * E)) (stT (leftAt wk ds m) (leftAt wk rs m) m rd j) (2 ^ 600) := by
  unfold stT
  split
  · exact term_q X M S hj
  · have : (0 : Rat) ≤ ((2 ^ 600 : Nat) : Rat) := Rat.natCast_nonneg
    exact ⟨Dv.zero _, by grind, this⟩
theorem yb {P : Nat} (X : AcCx J ds rs D E wk) (M : MomOk c m) (p0 : 0 < P) (p1 : P ≤ 2 ^ 636) : 0 < D * c * P * (D * c * E) ∧ D * c * P * (D * c * E) ≤ 2 ^ 3196 := by
  have h1 := dc_le X.o1.d1 M.c1 (Nat.le_refl _)
  exact ⟨Nat.mul_pos (Nat.mul_pos (Nat.mul_pos X.o1.d0 M.c0) p0) (Nat.mul_pos (Nat.mul_pos X.o1.d0 M.c0) X.o2.d0), dc_le (dc_le h1 p1 (Nat.le_refl _)) (dc_le h1 X.o2.d1 (Nat.le_refl _)) (by decide)⟩
theorem at_len6 (X : AcCx J ds rs D E wk) : (At J m).length ≤ 6 := Nat.le_trans (List.length_filter_le _ _) X.few
theorem stsm_of (X : AcCx J ds rs D E wk) (M : MomOk c m) {rds : List (Rnd Str)} (hR : RoundsOf (scaledJ (At J m) (leftAt wk ds m) m) rds) :
    StoreSm (At J m) (leftAt wk ds m) (leftAt wk rs m) m rds ∧ ∃ P, 0 < P ∧ P ≤ 2 ^ 636 ∧ TrQ (D * c * P * (D * c * E)) (storeV (At J m) (leftAt wk ds m) (leftAt wk rs m) m rds) (36 * 2 ^ 600) := by
  obtain ⟨hlen, P, p0, p1, hsp⟩ := sp_all X M hR
  obtain ⟨y0, y1⟩ := yb X M p0 p1
  have y2 : D * c * P * (D * c * E) ≤ 2 ^ 3700 := Nat.le_trans y1 (Nat.pow_le_pow_right (by decide) (by decide))
  have hal := at_len6 (m := m) X
  have hin : ∀ rd ∈ rds, ∀ A : List (Jb Str), A.length ≤ 6 → (∀ j ∈ A, j ∈ At J m) → TrQ (D * c * P * (D * c * E)) (ls (stT (leftAt wk ds m) (leftAt wk rs m) m rd) A) (6 * 2 ^ 600) := fun rd hrd A hA hs => TrQ.ls hA fun j hj => stT_q X M (hsp rd hrd) (hs j hj)
  have hout : ∀ L : List (Rnd Str), L.length ≤ 6 → (∀ rd ∈ L, rd ∈ rds) → TrQ (D * c * P * (D * c * E)) (ls (fun rd => ls (stT (leftAt wk ds m) (leftAt wk rs m) m rd) (At J m)) L) (6 * (6 * 2 ^ 600)) := fun L hL hs => TrQ.ls hL fun rd hrd => hin rd (hs rd hrd) _ hal fun _ h => h
  have hk : 6 * (6 * 2 ^ 600) + 6 * 2 ^ 600 ≤ 2 ^ 700 := by
    have h1 : 6 * (6 * 2 ^ 600) + 6 * 2 ^ 600 = 42 * 2 ^ 600 := by omega
    rw [h1]
    exact Nat.le_trans (mul_pow2 (show 42 ≤ 2 ^ 6 by decide) (Nat.le_refl _)) (Nat.pow_le_pow_right (by decide) (by decide))
  refine ⟨⟨fun j hj => ?_, fun j hj => ?_, fun rd hrd => ?_, fun rd hrd j hj => ?_, fun i rd k hi => ?_⟩, P, p0, p1, ?_⟩
  · have l2 := lf_rs X M j hj
    have a3 := l2.lo
    have a4 := l2.hi
    have := l2.dv.mulz 2
    have e : leftAt wk rs m j.nm * ((2 : Int) : Rat) = 2 * leftAt wk rs m j.nm := by
      have : ((2 : Int) : Rat) = 2 := rfl
      rw [this]; grind
    rw [e] at this
    exact sm_n (Nat.mul_pos X.o2.d0 M.c0) (dc_le X.o2.d1 M.c1 (by decide)) this (by grind) (by grind)
  · have l1 := lf_ds X M j hj
    have l2 := lf_rs X M j hj
    have a1 := l1.lo
    have a2 := l1.hi
    have a3 := l2.lo
    have a4 := l2.hi
    have dx : Dv (D * c * (E * c)) (leftAt wk ds m j.nm - 2 * leftAt wk rs m j.nm) := by
      have e : (2 : Rat) * leftAt wk rs m j.nm = leftAt wk rs m j.nm * ((2 : Int) : Rat) := by
        have : ((2 : Int) : Rat) = 2 := rfl
        rw [this]; grind
      rw [e]
      exact (l1.dv.up (Nat.dvd_mul_right _ _)).sub ((l2.dv.mulz 2).up (Nat.dvd_mul_left _ _))
    exact sm_n (Nat.mul_pos (Nat.mul_pos X.o1.d0 M.c0) (Nat.mul_pos X.o2.d0 M.c0)) (dc_le (dc_le X.o1.d1 M.c1 (Nat.le_refl _)) (dc_le X.o2.d1 M.c1 (Nat.le_refl _)) (by decide)) dx (by grind) (by grind)
  · have S := hsp rd hrd
    refine ⟨S.sm, TrQ.sm (Y := D * c * P) (k := 2 ^ 544) ⟨S.dv, ?_, S.hi⟩ (Nat.mul_pos (Nat.mul_pos X.o1.d0 M.c0) p0) (dc_le (dc_le X.o1.d1 M.c1 (Nat.le_refl _)) p1 (by decide)) (Nat.pow_le_pow_right (by decide) (by decide))⟩
    have h1 := S.lo
    have : (0 : Rat) ≤ ((2 ^ 544 : Nat) : Rat) := Rat.natCast_nonneg
    generalize ((2 ^ 544 : Nat) : Rat) = z at *
    grind
  · exact (term_q X M (hsp rd hrd) hj).sm y0 y2 (Nat.pow_le_pow_right (by decide) (by decide))
  · exact ((hout (rds.take i) (by rw [List.length_take]; omega) fun _ h => List.mem_of_mem_take h).add (hin rd (List.mem_of_getElem? hi) ((At J m).take k) (by rw [List.length_take]; omega) fun _ h => List.mem_of_mem_take h)).sm y0 y2 hk
  · have := hout rds hlen fun _ h => h
    have e : 6 * (6 * 2 ^ 600) = 36 * 2 ^ 600 := by omega
    rw [e] at this
    exact this
/-- each moment has its parts -/
theorem mom_ok (X : AcCx J ds rs D E wk) (h : isMom J ds rs m) : ∃ c, MomOk c m := by
  rcases h with rfl | ⟨j, hj, rfl⟩ | ⟨ps, hps, p, hp, h⟩
  · refine ⟨1, ?_⟩
    have := mom_int (z := 0) (by decide) (by decide)
    simpa using this
  · have h1 := X.hJ.cm j hj
    have h2 := X.du j hj
    exact ⟨1, mom_int h1.1 (by omega)⟩
  · simp only [List.mem_cons, List.not_mem_nil, or_false] at hps
    rcases hps with rfl | rfl
    · obtain ⟨e1, e2⟩ := X.o1.ends hp
      rcases h with rfl | rfl <;> assumption
    · obtain ⟨e1, e2⟩ := X.o2.ends hp
      rcases h with rfl | rfl <;> assumption
theorem acc_ok (X : AcCx J ds rs D E wk) (h : isMom J ds rs m) : AccOk J ds rs wk m := by
  obtain ⟨c, M⟩ := mom_ok X h
  have hw : ∀ j ∈ At J m, (∀ D, Dv D (wk j.nm)) ∧ 0 < wk j.nm ∧ wk j.nm ≤ 10000 := fun i hi => by
    have hi' := (at_mem.mp hi).1
    obtain ⟨w1, w2, w3⟩ := X.wk1 hi'
    rw [X.wk i hi']
    exact ⟨w3, w1, w2⟩
  exact ⟨M.sm, (ltok_of X.o1 M hw).1, (ltok_of X.o2 M hw).1, (suok_of X.o1 M).1, (suok_of X.o2 M).1, ⟨_, sc_jb X M⟩, fun rds hR => (stsm_of X M hR).1⟩
/-- what the law reckons with a row -/
theorem row_sm (X : AcCx J ds rs D E wk) (h : isMom J ds rs m) {st : Rat} (hr : AccRow J ds rs wk m st) :
    Sm (spentUntil ds m) ∧ Sm (spentUntil rs m) ∧ Sm st ∧ Sm (spentUntil ds m + st) ∧ Sm (4 * spentUntil rs m) ∧ Sm (spentUntil ds m + st - 4 * spentUntil rs m) := by
  obtain ⟨c, M⟩ := mom_ok X h
  obtain ⟨rds, hR, rfl⟩ := hr
  obtain ⟨_, P, p0, p1, ht⟩ := stsm_of X M hR
  obtain ⟨_, s1, s2, s3⟩ := suok_of X.o1 M
  obtain ⟨_, r1, r2, r3⟩ := suok_of X.o2 M
  obtain ⟨y0, y1⟩ := yb X M p0 p1
  generalize storeV (At J m) (leftAt wk ds m) (leftAt wk rs m) m rds = st at *
  have hY0 : 0 < D * c * P * (D * c * E) * E := Nat.mul_pos y0 X.o2.d0
  have hY1 : D * c * P * (D * c * E) * E ≤ 2 ^ 3700 := dc_le y1 X.o2.d1 (by decide)
  have e1 : D * D * c ∣ D * c * P * (D * c * E) * E := ⟨P * (c * E) * E, by grind⟩
  have e2 : E * E * c ∣ D * c * P * (D * c * E) * E := ⟨D * P * (D * c), by grind⟩
  have hz : ((439815646226677760000 : Nat) : Rat) ≤ ((2 ^ 600 : Nat) : Rat) := Rat.natCast_le_natCast.mpr (Nat.le_trans (show 439815646226677760000 ≤ 2 ^ 100 by decide) (Nat.pow_le_pow_right (by decide) (by decide)))
  have hz2 : ((439815646226677760000 : Nat) : Rat) = 40001 * 10995116277760000 := by decide +kernel
  rw [hz2] at hz
  have q1 : TrQ (D * c * P * (D * c * E) * E) (spentUntil ds m) (2 ^ 600) := by
    refine ⟨s1.up e1, ?_, ?_⟩ <;> generalize ((2 ^ 600 : Nat) : Rat) = z at * <;> grind
  have q2 : TrQ (D * c * P * (D * c * E) * E) (spentUntil rs m) (2 ^ 600) := by
    refine ⟨r1.up e2, ?_, ?_⟩ <;> generalize ((2 ^ 600 : Nat) : Rat) = z at * <;> grind
  have q3 : TrQ (D * c * P * (D * c * E) * E) st (36 * 2 ^ 600) := ⟨ht.dv.up (Nat.dvd_mul_right _ _), ht.lo, ht.hi⟩
  have q4 : TrQ (D * c * P * (D * c * E) * E) (4 * spentUntil rs m) (4 * 2 ^ 600) := by
    have h1 := (q2.add q2).add (q2.add q2)
    have e3 : spentUntil rs m + spentUntil rs m + (spentUntil rs m + spentUntil rs m) = 4 * spentUntil rs m := by grind
    have e4 : 2 ^ 600 + 2 ^ 600 + (2 ^ 600 + 2 ^ 600) = 4 * 2 ^ 600 := by omega
    rw [e3, e4] at h1
    exact h1
  have hk : ∀ n, n ≤ 64 → n * 2 ^ 600 ≤ 2 ^ 700 := fun n hn => Nat.le_trans (mul_pow2 (show n ≤ 2 ^ 6 from hn) (Nat.le_refl _)) (Nat.pow_le_pow_right (by decide) (by decide))
  have k1 := hk 1 (by decide)
  rw [Nat.one_mul] at k1
  have q5 := q1.add q3
  have q6 := q5.add q4.neg
  rw [← Rat.sub_eq_add_neg] at q6
  have e5 : 2 ^ 600 + 36 * 2 ^ 600 = 37 * 2 ^ 600 := by omega
  have e6 : 37 * 2 ^ 600 + 4 * 2 ^ 600 = 41 * 2 ^ 600 := by omega
  rw [e5] at q5
  rw [e5, e6] at q6
  exact ⟨q1.sm hY0 hY1 k1, q2.sm hY0 hY1 k1, q3.sm hY0 hY1 (hk 36 (by decide)), q5.sm hY0 hY1 (hk 37 (by decide)), q4.sm hY0 hY1 (hk 4 (by decide)), q6.sm hY0 hY1 (hk 41 (by decide))⟩
end
end SW

set_option Elab.async false
set_option linter.all false
set_option maxRecDepth 100000
set_option maxHeartbeats 4000000
set_option exponentiation.threshold 300
namespace SW
open PySem PySem.Spec PyProof.Rows L2
theorem cut_take (ns : List Int) {i : Nat} (h : i ≤ ns.length) : cutV (ns.map V.int) none (some (0 + (i : Int))) = (ns.take i).map V.int := by
  unfold cutV HT.sIx
  simp only [List.length_map, List.drop_zero, Nat.sub_zero]
  have e : ¬ (0 + (i : Int)) < 0 := by omega
  rw [if_neg e]
  have e2 : min (0 + (i : Int)).toNat ns.length = i := by omega
  rw [e2, List.map_take]
theorem in_ints (z : Int) : ∀ ns : List Int, inV (.int z) (ns.map V.int) = decide (z ∈ ns)
  | [] => by simp [inV]
  | a :: r => by
    have ih := in_ints z r
    unfold inV at ih ⊢
    rw [List.map_cons, List.any_cons, ih]
    have e : eqV (.int a) (.int z) = (a == z) := rfl
    rw [e, Bool.eq_iff_iff]
    simp only [Bool.or_eq_true, beq_iff_eq, decide_eq_true_eq, List.mem_cons]
    constructor
    · rintro (h | h)
      · exact .inl h.symm
      · exact .inr h
    · rintro (h | h)
      · exact .inl h.symm
      · exact .inr h
theorem flat_ints (ns : List Int) : (ns.map V.int).all flatV = true := by
  rw [List.all_eq_true]
  intro v hv
  obtain ⟨z, _, rfl⟩ := List.mem_map.mp hv
  rfl
theorem pool_tup {K : PySem.W.Frag} {sl p : Addr} {H H' : Hp} {b : Nat} (h : PoolAt K sl H p b) (e : SameBut p H H') : Tup K H H' := by
  obtain ⟨xs, hx⟩ := h.lst
  exact sb_tup e (fun ys q => by
    rcases q with q | ⟨u, q⟩ <;> rw [hx] at q <;> cases q)
/-- the points in time -/
structure PtOk (J : List (Jb Str)) (pts : List Int) : Prop where
  sorted : pts.Pairwise (· < ·)
  len : pts.length ≤ 3 * J.length
  mem : ∀ j ∈ J, j.cm ∈ pts ∧ j.du ∈ pts
  bnd : ∀ z ∈ pts, 0 ≤ z ∧ z ≤ 10000
section
variable {P : Program} {w : World} {K : PySem.W.Frag} {mg : Str → Option Value} {base : Heap}
theorem scPt : FnScope ["_law_pool_here", "_law_jobs_here", "_law_points_here", "_law_job", "_law_k"] ["_law_pool_here", "_law_jobs_here"] (defScope (top 56)) := ⟨rfl, rfl, rfl, by decide +kernel, rfl, by decide +kernel, by decide +kernel⟩
def spPt (K : PySem.W.Frag) : Sp := fun vs H Q _ => ∃ p l b us J, vs = [.ref p, .ref l] ∧ SqT K H l us ∧ Paired (JiV K H) us J ∧ JobsIn J ∧ ∃ sl, PoolAt K sl H p b ∧ b ≤ 800000 ∧ ∀ r H' pts, SameBut p H H' → PoolAt K sl H' p (b + 12) → H r = none → H' r = some (.lst (pts.map V.int)) → PtOk J pts → Q (.ref r) H'
theorem ok_pt (T : TF K mg "_law_points" (top 56) ["_law_pool_here", "_law_jobs_here"]) (gS : mg "sorted" = none) (gR : mg "range" = none) (gL : mg "len" = none) (DR : Def P w K mg base "_law_draw" ["_law_pool_here", "_law_many"] [] 1 (spDr K)) : Def P w K mg base "_law_points" ["_law_pool_here", "_law_jobs_here"] [] 2 (spPt K) := by
  refine T.ok scPt (fun vs H Q E h => ?_) (fun f cdv A outer s_ H vs Q E hr h => ⟨_, (pss_cons (ps_set (i := 2) scPt.nd rfl (.inr rfl) (pe_lst pa_nil)) (pss_cons (ps_for PassesOwn.never rfl (pi_tup (pv 1)) (pg_name (i := 3) scPt.nd rfl (.inl rfl)) (pss_cons (ps_expr (pe_bm PySem.F.plainAttrs_list PySem.F.slot_list_extend PySem.F.type_list_extend mt_extend (pv 2 (hv := Or.inr (Or.inl rfl))) (pa_cons (pe_lst (pa_cons (pe_ix ix_tup (pv 3) pe_int (fun _ _ => rfl)) (pa_cons (pe_ix ix_tup (pv 3) pe_int (fun _ _ => rfl)) pa_nil))) pa_nil))) (pss_one (ps_if (PW.pt (pw_and (pt_cmpR op_gt (pe_op op_sub (pe_ix ix_tup (pv 3) pe_int (fun _ _ => rfl)) (pe_ix ix_tup (pv 3) pe_int (fun _ _ => rfl))) pe_int (nomark _)) (pw_and1 (pt_cmp (pc_eqI (pe_def DR (hr.mono (by decide)) (pa_cons (pv 0) (pa_cons pe_int pa_nil))) pe_int))))) (pss_one (ps_expr (pe_bm PySem.F.plainAttrs_list PySem.F.slot_list_append PySem.F.type_list_append mt_append (pv 2 (hv := Or.inr (Or.inl rfl))) (pa_cons (pe_op op_add (pe_op op_add (pe_ix ix_tup (pv 3) pe_int (fun _ _ => rfl)) pe_int) (pe_def DR (hr.mono (by decide)) (pa_cons (pv 0) (pa_cons (pe_op op_sub (pe_op op_sub (pe_ix ix_tup (pv 3) pe_int (fun _ _ => rfl)) (pe_ix ix_tup (pv 3) pe_int (fun _ _ => rfl))) pe_int) pa_nil)))) pa_nil)))) pss_nil)))) (pss_one (ps_ret (pe_callB cr_sorted (by rfl) gS (by decide +kernel) (pa_cons (pe_lc (own := [("_law_k", 4)]) (te := (tOp (rIxL K) (tVar 2) (tVar 4))) (tt := tTest (tOp (rIn K true) (tOp (rIxL K) (tVar 2) (tVar 4)) (tSl (rSlL K) (tVar 2) tNoPart (tPart (tVar 4))))) rfl scPt.nd (pi_range1 (by rfl) gR (pa_cons (pe_callB call_len_seq (by rfl) gL (by decide +kernel) (pa_cons (pv 2 (hv := Or.inr (Or.inl rfl))) pa_nil)) pa_nil)) (blkOk_by (own := [("_law_k", 4)]) (N := ["_law_pool_here", "_law_jobs_here", "_law_points_here", "_law_job", "_law_k"]) (sc := defScope (top 56)) (by decide +kernel)) (fun _ _ _ _ _ => by exact (pg_name (i := 4) scPt.nd rfl (.inl rfl))) (fun _ _ _ _ _ => by exact (pts_one (pt_cmpR op_notIn_seq (pe_ix ix_list (pv 2 (hv := Or.inr (Or.inl rfl))) (pv 4) (fun _ _ => rfl)) (pe_slice sl_list (pv 2 (hv := Or.inr (Or.inl rfl))) po_none (po_some (pv 4))) (by rfl)))) (fun _ _ _ _ _ => by exact (pe_ix ix_list (pv 2 (hv := Or.inr (Or.inl rfl))) (pv 4) (fun _ _ => rfl)))) pa_nil)))))), ?_⟩)
  · obtain ⟨_, _, _, _, _, rfl, _⟩ := h
    rfl
  · obtain ⟨p, l, b, us, J, rfl, hl, hp, I, sl, hpo, hb, k⟩ := h
    have hfew := I.few
    refine ⟨Nat.zero_le _, fun pf nf => ?_⟩
    obtain ⟨xs1, hx1⟩ := hpo.lst
    have npf : pf ≠ p := fun e => by
      rw [e, hx1] at nf
      cases nf
    have S0 := same_new (o := .lst []) nf
    have hf0 : upd H pf (.lst []) pf = some (.lst []) := upd_same
    have hpo0 := pool_new (o := .lst []) hpo nf
    have nsl : sl ≠ pf := by
      obtain ⟨ns, i', r', c', k', g1, g2, g3, g4⟩ := hpo
      exact ne_of_none g2 nf
    have SB0 : SameBut p H (upd H pf (.lst [])) := SameBut.same S0
    generalize upd H pf (.lst []) = H0 at *
    refine ⟨_, rfl, l, rfl, ⟨_, sqT_same S0 hl⟩, for_tup (K := K) (a := l) (xs := us) (fun i σ H' => ∃ o3 ns, σ = [some (.ref p), some (.ref l), some (.ref pf), o3, none] ∧ SameBut p H H' ∧ PoolAt K sl H' p (b + 2 * i) ∧ H' pf = some (.lst (ns.map V.int)) ∧ ns.length ≤ 3 * i ∧ (∀ z ∈ ns, 0 ≤ z ∧ z ≤ 10000) ∧ ∀ j ∈ J.take i, j.cm ∈ ns ∧ j.du ∈ ns)
      ⟨none, [], rfl, SB0, hpo0, hf0, by simp, fun _ h => absurd h (by simp), fun _ h => absurd h (by simp)⟩ (fun i σ H' _ ⟨_, _, _, e, _⟩ => pool_tup hpo e _ _ hl) ?_ ?_⟩
    · rintro i y σ H1 hi ⟨o3, ns, rfl, SB1, hp1, hf1, hnl, hnb, hnm⟩
      obtain ⟨j, hj, a, zi, rfl, ha0, hzi⟩ := pair_get hp hi
      have hjm := List.mem_of_getElem? hj
      obtain ⟨hj1, hj2⟩ := List.getElem?_eq_some_iff.mp hj
      obtain ⟨q1, q2, q3⟩ := I.row j hjm
      have ha := pool_tup hpo SB1 _ _ ha0
      have htk : ∀ x ∈ J.take (i + 1), x ∈ J.take i ∨ x = j := fun x hx => by
        rw [List.take_succ_eq_append_getElem hj1, hj2, List.mem_append, List.mem_singleton] at hx
        exact hx
      refine ⟨_, rfl, .inl ⟨rfl, _, SqL.of hf1⟩, _, rfl, a, _, _, _, rfl, rfl, ha, rfl, _, rfl, a, _, _, _, rfl, rfl, ha, rfl, (by show 2 ≤ sizeLine; decide), fun t nt => ?_⟩
      have S2 := same_new (o := .lst [V.int j.cm, .int j.du]) nt
      have ht : upd H1 t (.lst [V.int j.cm, .int j.du]) t = some (.lst [V.int j.cm, .int j.du]) := upd_same
      have hp2 := pool_new (o := .lst [V.int j.cm, .int j.du]) hp1 nt
      have SB2 := SB1.trans (SameBut.same S2)
      have hf2 := S2 _ _ hf1
      generalize upd H1 t (.lst [V.int j.cm, .int j.du]) = H2 at *
      have hJl : i < 6 := by omega
      refine ⟨pf, t, _, [.int j.cm, .int j.du], rfl, rfl, hf2, ht, small' (by simp; omega), ?_⟩
      have hpf3 : upd H2 pf (.lst (ns.map V.int ++ [.int j.cm, .int j.du])) pf = some (.lst ((ns ++ [j.cm, j.du]).map V.int)) := by
        rw [upd_same, List.map_append]
        rfl
      have SB3 : SameBut p H (upd H2 pf (.lst (ns.map V.int ++ [.int j.cm, .int j.du]))) := fun c o n e => by
        have : c ≠ pf := ne_of_none e nf
        rw [upd_ne this]
        exact SB2 c o n e
      have hp3 : PoolAt K sl (upd H2 pf (.lst (ns.map V.int ++ [.int j.cm, .int j.du]))) p (b + 2 * i) := by
        obtain ⟨ms, i', r', c', k', g1, g2, g⟩ := hp2
        exact ⟨ms, i', r', c', k', by rw [upd_ne npf.symm]; exact g1, by rw [upd_ne nsl]; exact g2, g⟩
      generalize upd H2 pf (.lst (ns.map V.int ++ [.int j.cm, .int j.du])) = H3 at *
      have ha3 := pool_tup hpo SB3 _ _ ha0
      have hb3 : ∀ z ∈ ns ++ [j.cm, j.du], 0 ≤ z ∧ z ≤ 10000 := fun z hz => by
        rcases List.mem_append.mp hz with hz | hz
        · exact hnb z hz
        · simp only [List.mem_cons, List.not_mem_nil, or_false] at hz
          rcases hz with rfl | rfl <;> omega
      have hm3 : ∀ x ∈ J.take (i + 1), x.cm ∈ ns ++ [j.cm, j.du] ∧ x.du ∈ ns ++ [j.cm, j.du] := fun x hx => by
        rcases htk x hx with h | rfl
        · exact ⟨List.mem_append_left _ (hnm x h).1, List.mem_append_left _ (hnm x h).2⟩
        · simp
      refine ⟨_, rfl, a, _, _, _, rfl, rfl, ha3, rfl, _, rfl, a, _, _, _, rfl, rfl, ha3, rfl, _, _, rfl, rfl, _, _, rfl, rfl, _, rfl, ?_⟩
      refine ite2 (fun c1 => ?_) (fun _ => iteF ⟨_, _, rfl, SB3, hp3.mono (by omega), hpf3, by simp; omega, hb3, hm3⟩)
      have c1 := of_decide_eq_true c1
      refine ⟨_, rfl, p, 2, b + 2 * i, rfl, _, hp3, by omega, by decide, by decide, fun r H4 r0 r1 SB4 hp4 => ?_⟩
      refine ⟨_, _, rfl, rfl, _, rfl, ite2 (fun _ => ?_) (fun _ => ⟨_, _, rfl, SB3.trans SB4, hp4.mono (by omega), SB4 _ _ npf hpf3, by simp; omega, hb3, hm3⟩)⟩
      have SB14 := SB3.trans SB4
      have ha4 := pool_tup hpo SB14 _ _ ha0
      refine ⟨_, rfl, .inl ⟨rfl, _, SqL.of (SB4 _ _ npf hpf3)⟩, _, rfl, a, _, _, _, rfl, rfl, ha4, rfl, _, _, rfl, rfl, _, rfl, _, rfl, a, _, _, _, rfl, rfl, ha4, rfl, _, rfl, a, _, _, _, rfl, rfl, ha4, rfl, _, _, rfl, rfl, _, _, rfl, rfl, p, _, b + 2 * i + 1, rfl, _, hp4, by omega, by omega, by omega, fun r2 H5 r20 r21 SB5 hp5 => ?_⟩
      have SB35 := SB4.trans SB5
      have SB15 := SB3.trans SB35
      have hf5 := SB35 _ _ npf hpf3
      refine ⟨_, _, rfl, rfl, pf, _, _, rfl, rfl, hf5, small (by simp; omega), ?_⟩
      refine ⟨_, ns ++ [j.cm, j.du] ++ [j.cm + 1 + r2], rfl, fun c o n e => ?_, ?_, ?_, by simp; omega, fun z hz => ?_, fun x hx => ?_⟩
      · rw [upd_ne (ne_of_none e nf)]
        exact SB15 c o n e
      · obtain ⟨ms, i', r', c', k', g1, g2, g⟩ := hp5.mono (show b + 2 * i + 1 + 1 ≤ b + 2 * (i + 1) by omega)
        exact ⟨ms, i', r', c', k', by rw [upd_ne npf.symm]; exact g1, by rw [upd_ne nsl]; exact g2, g⟩
      · rw [upd_same, List.map_append (l₁ := ns ++ [j.cm, j.du])]
        rfl
      · rcases List.mem_append.mp hz with hz | hz
        · exact hb3 z hz
        · rw [List.mem_singleton.mp hz]
          omega
      · exact ⟨List.mem_append_left _ (hm3 x hx).1, List.mem_append_left _ (hm3 x hx).2⟩
    · rintro σ H1 ⟨o3, ns, rfl, SB1, hp1, hf1, hnl, hnb, hnm⟩
      have hJl := pair_len hp
      rw [hJl, List.take_length] at hnm
      have hnl18 : ns.length ≤ 18 := by omega
      refine ⟨_, rfl, pf, _, rfl, .inl (SqL.of hf1), ?_⟩
      refine ⟨((ns.map V.int).length : Int), rfl, by rw [List.length_map]; omega, by rw [List.length_map]; omega, fun D nD => ?_⟩
      refine lc_range (lo := 0) (n := ((ns.map V.int).length : Int).toNat) (fun i H5 => ∃ ds, H5 D = some (.lst (ds.map V.int)) ∧ Same H1 H5 ∧ (∀ z, z ∈ ds ↔ z ∈ ns.take i) ∧ ds.Nodup ∧ ds.length ≤ i) ⟨[], upd_same, same_new nD, fun z => by simp, List.nodup_nil, Nat.zero_le _⟩ ?_ ?_
      · rintro i H5 hi ⟨ds, hD, S5, hm, hnd, hdl⟩
        rw [List.length_map] at hi
        have hin : i < ns.length := by omega
        have hat : (ns.map V.int)[i]? = some (.int ns[i]) := by rw [List.getElem?_map, List.getElem?_eq_getElem hin]; rfl
        have hf5 := S5 _ _ hf1
        refine ⟨wp (wp0 _ _), _, rfl, _, rfl, pf, _, _, _, rfl, rfl, SqL.of hf5, at_of (j := i) (by omega) hat, ?_⟩
        refine ⟨_, rfl, _, rfl, _, rfl, pf, _, rfl, SqL.of hf5, fun q nq => ?_⟩
        have S6 := same_new (o := .lst (cutV (ns.map V.int) none (some (0 + (i : Int))))) nq
        have hq : upd H5 q (.lst (cutV (ns.map V.int) none (some (0 + (i : Int))))) q = some (.lst ((ns.take i).map V.int)) := by
          rw [upd_same, cut_take ns (by omega)]
        generalize upd H5 q (.lst (cutV (ns.map V.int) none (some (0 + (i : Int))))) = H6 at *
        refine ⟨q, _, rfl, .inl (SqL.of hq), rfl, flat_ints _, _, rfl, ?_⟩
        rw [in_ints]
        have htk : ns.take (i + 1) = ns.take i ++ [ns[i]] := List.take_succ_eq_append_getElem hin
        have S16 := S5.trans S6
        have hD6 := S6 _ _ hD
        refine ite2 (fun c => ?_) (fun c => ?_)
        · have c' : ns[i] ∉ ns.take i := by simpa using c
          refine ⟨_, rfl, _, rfl, pf, _, _, _, rfl, rfl, SqL.of (S6 _ _ hf5), at_of (j := i) (by omega) hat, ?_⟩
          refine ⟨_, hD6, small (by rw [List.length_map]; omega), ds ++ [ns[i]], ?_, same_upd S16 nD, fun z => ?_, ?_, ?_⟩
          · rw [upd_same, List.map_append]
            rfl
          · rw [htk, List.mem_append, List.mem_append, hm z]
          · refine List.nodup_append.mpr ⟨hnd, by simp, fun a ha b hb e => ?_⟩
            rw [List.mem_singleton.mp hb] at e
            exact c' ((hm _).mp (e ▸ ha))
          · rw [List.length_append, List.length_singleton]
            omega
        · have c' : ns[i] ∈ ns.take i := by simpa using c
          refine ⟨ds, hD6, S16, fun z => ?_, hnd, by omega⟩
          rw [htk, List.mem_append, hm z, List.mem_singleton]
          constructor
          · exact .inl
          · rintro (h | rfl)
            · exact h
            · exact c'
      · rintro H5 ⟨ds, hD, S5, hm, hnd, hdl⟩
        have e : ((ns.map V.int).length : Int).toNat = ns.length := by rw [List.length_map]; omega
        rw [e] at hm hdl
        rw [List.take_length] at hm
        refine ⟨D, ds, rfl, SqL.of hD, by omega, fun ns' q hperm hsort nq => ?_⟩
        have S6 := same_new (o := .lst (ns'.map V.int)) nq
        have SB6 := SB1.trans (SameBut.same (S5.trans S6))
        have zq : H q = none := by
          cases e : H q with
          | none => rfl
          | some o =>
            have npq : q ≠ p := fun e2 => by
              obtain ⟨xs5, hx5⟩ := (hp1.same S5).lst
              rw [e2, hx5] at nq
              cases nq
            rw [S5 _ _ (SB1 q o npq e)] at nq
            cases nq
        refine k q _ ns' SB6 (((hp1.same S5).same S6).mono (by omega)) zq upd_same ⟨?_, ?_, fun j hj => ?_, fun z hz => ?_⟩
        · have h2 := hperm.nodup_iff.mpr hnd
          refine (hsort.and h2).imp fun h => ?_
          obtain ⟨h3, h4⟩ := h
          omega
        · rw [hperm.length_eq]
          omega
        · exact ⟨hperm.mem_iff.mpr ((hm _).mpr (hnm j hj).1), hperm.mem_iff.mpr ((hm _).mpr (hnm j hj).2)⟩
        · exact hnb z ((hm z).mp (hperm.mem_iff.mp hz))
end
end SW

set_option Elab.async false
set_option linter.all false
set_option maxRecDepth 100000
set_option maxHeartbeats 4000000
set_option exponentiation.threshold 300
namespace SW
open PySem PySem.Spec PyProof.Rows L2
/-- a slot in the heap -/
def SlV (K : PySem.W.Frag) (H : Hp) (v : V) (x : Int × Int) : Prop := ∃ a, v = .ref a ∧ SqT K H a [.int x.1, .int x.2]
theorem sls_tup {K : PySem.W.Frag} {H H' : Hp} {vs : List V} {xs : List (Int × Int)} (e : Tup K H H') (h : Paired (SlV K H) vs xs) : Paired (SlV K H') vs xs := pair_mono (fun _ _ ⟨a, h1, h2⟩ => ⟨a, h1, e _ _ h2⟩) h
theorem pair_set {α : Type} {R : V → α → Prop} : ∀ {vs : List V} {xs : List α} (k : Nat) {v : V} {x : α}, Paired R vs xs → R v x → Paired R (vs.set k v) (xs.set k x)
  | _, _, _, _, _, .nil, _ => .nil
  | _, _, 0, _, _, .cons _ t, r => .cons r t
  | _, _, k + 1, _, _, .cons h t, r => .cons h (pair_set k t r)
theorem ls_set {x : Rat} : ∀ {xs : List Rat} {k : Nat}, xs[k]? = some 0 → ls (fun q => q) (xs.set k x) = ls (fun q => q) xs + x
  | [], _, h => by simp at h
  | a :: r, 0, h => by
    simp only [List.getElem?_cons_zero, Option.some.injEq] at h
    subst h
    simp only [List.set_cons_zero, ls]
    grind
  | a :: r, k + 1, h => by
    have ih := ls_set (x := x) (xs := r) (k := k) (by simpa using h)
    simp only [List.set_cons_succ, ls]
    rw [ih]; grind
theorem sum_nonneg : ∀ {ws : List Int}, (∀ z ∈ ws, 0 ≤ z) → 0 ≤ ws.sum ∧ ∀ z ∈ ws, z ≤ ws.sum
  | [], _ => ⟨Int.le_refl _, fun _ h => absurd h (by simp)⟩
  | a :: r, h => by
    obtain ⟨h1, h2⟩ := sum_nonneg (ws := r) fun z hz => h z (List.mem_cons_of_mem _ hz)
    have h3 := h a List.mem_cons_self
    rw [List.sum_cons]
    refine ⟨by omega, fun z hz => ?_⟩
    rcases List.mem_cons.mp hz with rfl | hz
    · omega
    · have := h2 z hz
      omega
theorem sum_cap : ∀ {ws : List Int}, (∀ z ∈ ws, z ≤ 3) → ws.sum ≤ 3 * ws.length
  | [], _ => by simp
  | a :: r, h => by
    have h1 := sum_cap (ws := r) fun z hz => h z (List.mem_cons_of_mem _ hz)
    have h3 := h a List.mem_cons_self
    rw [List.sum_cons, List.length_cons]
    omega
theorem sumw_snoc (ws : List Int) {i : Nat} {z : Int} (h : ws[i]? = some z) : (ws.take (i + 1)).sum = (ws.take i).sum + z := by
  obtain ⟨h1, h2⟩ := List.getElem?_eq_some_iff.mp h
  rw [List.take_succ_eq_append_getElem h1, h2, List.sum_append]
  simp
theorem sum_take {ws : List Int} (h : ∀ z ∈ ws, 0 ≤ z) (i : Nat) : (ws.take i).sum ≤ ws.sum := by
  have h1 := (sum_nonneg (ws := ws.drop i) fun z hz => h z (List.mem_of_mem_drop hz)).1
  have h2 : (ws.take i ++ ws.drop i).sum = ws.sum := by rw [List.take_append_drop]
  rw [List.sum_append] at h2
  omega
def inW (j : Jb Str) (s : Int × Int) : Prop := j.cm ≤ s.1 ∧ s.2 ≤ j.du
/-- the shares of a job -/
structure ShOk (j : Jb Str) (slots : List (Int × Int)) (qs : List Rat) : Prop where
  len : qs.length = slots.length
  row : ∀ (k : Nat) (q : Rat), qs[k]? = some q → 0 ≤ q ∧ q ≤ 10000 ∧ (q ≠ 0 → ∃ s, slots[k]? = some s ∧ inW j s)
  dv : ∃ W : Nat, 0 < W ∧ W ≤ 64 ∧ ∀ q ∈ qs, Dv W q
  sum : ls (fun q => q) qs = j.wk
theorem sb_upd {p D : Addr} {H H' : Hp} (e : SameBut p H H') (n : H D = none) (o : HO) : SameBut p H (upd H' D o) := fun c x h q => by
  rw [upd_ne (ne_of_none q n)]
  exact e c x h q
theorem pool_upd {K : PySem.W.Frag} {sl p D : Addr} {H : Hp} {b : Nat} (h : PoolAt K sl H p b) (n1 : D ≠ p) (n2 : sl ≠ D) (o : HO) : PoolAt K sl (upd H D o) p b := by
  obtain ⟨ms, i', r', c', k', g1, g2, g⟩ := h
  exact ⟨ms, i', r', c', k', by rw [upd_ne n1.symm]; exact g1, by rw [upd_ne n2]; exact g2, g⟩
theorem pool_free {K : PySem.W.Frag} {sl p D : Addr} {H H' : Hp} {b : Nat} (h : PoolAt K sl H p b) (e : SameBut p H H') (n : H' D = none) (hp' : ∃ xs, H' p = some (.lst xs)) : H D = none ∧ D ≠ p ∧ sl ≠ D := by
  have n1 : D ≠ p := fun e2 => by
    obtain ⟨xs, hx⟩ := hp'
    rw [e2, hx] at n
    cases n
  have n3 : H D = none := by
    cases q : H D with
    | none => rfl
    | some o =>
      rw [e D o n1 q] at n
      cases n
  obtain ⟨ms, i', r', c', k', g1, g2, g⟩ := h
  exact ⟨n3, n1, ne_of_none g2 n3⟩
abbrev shSt (i : Nat) : Stmt := (defBody (top 57)).getD i (.Pass ⟨0, 0, 0, 0⟩)
abbrev shN : List Str := ["_law_pool_here", "_law_job", "_law_slots", "_law_k", "_law_own", "_law_weights", "_law_found", "_law_slot"]
/-- the shares while they are made -/
structure ShSt (j : Jb Str) (slots : List (Int × Int)) (ks : List Nat) (ws : List Int) (i : Nat) (qs : List Rat) : Prop where
  len : qs.length = slots.length
  row : ∀ (k : Nat) (q : Rat), qs[k]? = some q → 0 ≤ q ∧ q ≤ 10000 ∧ Dv ws.sum.toNat q ∧ (q ≠ 0 → ∃ s, slots[k]? = some s ∧ inW j s)
  zero : ∀ k, k < slots.length → k ∉ ks.take i → qs[k]? = some 0
  sum : ls (fun q => q) qs * (ws.sum : Rat) = j.wk * ((ws.take i).sum : Rat)
theorem sh_step {j : Jb Str} {slots : List (Int × Int)} {ks : List Nat} {ws : List Int} {i : Nat} {qs : List Rat} (h : ShSt j slots ks ws i qs) {z : Int} (hz : j.wk = (z : Rat)) (z0 : 0 < z) (z1 : z ≤ 10000) (hnd : ks.Nodup) (hw : ∀ x ∈ ws, 0 ≤ x) (h0 : 0 < ws.sum) {k : Nat} {x : Int} (hk : ks[i]? = some k) (hx : ws[i]? = some x) (hin : ∃ s, slots[k]? = some s ∧ inW j s) :
    ShSt j slots ks ws (i + 1) (qs.set k (((z * x : Int) : Rat) / (ws.sum : Rat))) := by
  have hp : (0 : Rat) < (ws.sum : Rat) := by
    have := Rat.intCast_lt_intCast.mpr h0
    simpa using this
  obtain ⟨hk1, hk2⟩ := List.getElem?_eq_some_iff.mp hk
  obtain ⟨s, hs1, hs2⟩ := hin
  obtain ⟨hs3, _⟩ := List.getElem?_eq_some_iff.mp hs1
  have hxm := List.mem_of_getElem? hx
  have hx0 := hw x hxm
  have hx1 := (sum_nonneg hw).2 x hxm
  have hkt : k ∉ ks.take i := fun hm => by
    obtain ⟨t, ht, e⟩ := List.mem_iff_getElem.mp hm
    rw [List.getElem_take] at e
    rw [List.length_take] at ht
    have := List.pairwise_iff_getElem.mp hnd t i (by omega) hk1 (by omega)
    rw [e, hk2] at this
    exact this rfl
  have hq0 := h.zero k hs3 hkt
  have htk : ks.take (i + 1) = ks.take i ++ [k] := by rw [List.take_succ_eq_append_getElem hk1, hk2]
  have dm := div_mul (x := ((z * x : Int) : Rat)) hp
  have hn : (0 : Rat) ≤ ((z * x : Int) : Rat) := by
    have := Rat.intCast_le_intCast.mpr (Int.mul_nonneg (Int.le_of_lt z0) hx0)
    simpa using this
  obtain ⟨g1, _⟩ := div_le1 hn h0
  have hle : ((z * x : Int) : Rat) / (ws.sum : Rat) ≤ 10000 := by
    apply Rat.not_lt.mp
    intro c
    have h1 := Rat.mul_lt_mul_of_pos_right c hp
    rw [dm] at h1
    have h2 : z * x ≤ 10000 * ws.sum := Int.mul_le_mul z1 hx1 hx0 (by decide)
    have h3 := Rat.intCast_le_intCast.mpr h2
    rw [Rat.intCast_mul 10000] at h3
    have h4 : ((10000 : Int) : Rat) = 10000 := rfl
    rw [h4] at h3
    grind
  refine ⟨by rw [List.length_set]; exact h.len, fun m q hm => ?_, fun m hm hnm => ?_, ?_⟩
  · rw [List.getElem?_set] at hm
    split at hm
    · rename_i e
      subst e
      split at hm
      · have e2 := Option.some.inj hm
        subst e2
        refine ⟨g1, hle, ?_, fun _ => ⟨s, hs1, hs2⟩⟩
        have := div_dv (Y := 1) (Dv.int 1 (z * x)) h0
        have e3 : 1 * ws.sum.natAbs = ws.sum.toNat := by omega
        rw [e3] at this
        exact this
      · cases hm
    · exact h.row m q hm
  · rw [htk, List.mem_append, List.mem_singleton, not_or] at hnm
    rw [List.getElem?_set_ne (Ne.symm hnm.2)]
    exact h.zero m hm hnm.1
  · rw [ls_set hq0, sumw_snoc ws hx, Rat.add_mul, dm, h.sum, Rat.intCast_add, hz, Rat.intCast_mul]
    grind
theorem sh_begin {j : Jb Str} {slots : List (Int × Int)} {ks : List Nat} {ws : List Int} : ShSt j slots ks ws 0 (slots.map fun _ => 0) := by
  have e : ∀ A : List (Int × Int), ls (fun q => q) (A.map fun _ => (0 : Rat)) = 0 := fun A => by
    induction A with
    | nil => rfl
    | cons a r ih => simp only [List.map_cons, ls, ih]; grind
  refine ⟨List.length_map _, fun k q hq => ?_, fun k hk _ => ?_, ?_⟩
  · rw [List.getElem?_map] at hq
    obtain ⟨s, _, rfl⟩ := Option.map_eq_some_iff.mp hq
    exact ⟨Rat.le_refl, by decide +kernel, Dv.zero _, fun h => absurd rfl h⟩
  · rw [List.getElem?_map, List.getElem?_eq_getElem hk]
    rfl
  · rw [e]
    have : ((List.take 0 ws).sum : Int) = 0 := rfl
    rw [this]
    have e0 : ((0 : Int) : Rat) = 0 := rfl
    rw [e0]
    grind
theorem sh_end {j : Jb Str} {slots : List (Int × Int)} {ks : List Nat} {ws : List Int} {qs : List Rat} (h : ShSt j slots ks ws ws.length qs) (h0 : 0 < ws.sum) (h1 : ws.sum ≤ 64) : ShOk j slots qs := by
  have hp : (0 : Rat) < (ws.sum : Rat) := by
    have := Rat.intCast_lt_intCast.mpr h0
    simpa using this
  refine ⟨h.len, fun k q hq => ?_, ⟨ws.sum.toNat, by omega, by omega, fun q hq => ?_⟩, ?_⟩
  · obtain ⟨a, b, c, d⟩ := h.row k q hq
    exact ⟨a, b, d⟩
  · obtain ⟨k, hk, e⟩ := List.mem_iff_getElem.mp hq
    exact (h.row k q (by rw [← e]; exact List.getElem?_eq_getElem hk)).2.2.1
  · have := h.sum
    rw [List.take_length] at this
    have h5 : (ls (fun q => q) qs - j.wk) * (ws.sum : Rat) = 0 := by grind
    rcases Rat.mul_eq_zero.mp h5 with h6 | h6 <;> grind
section
variable {P : Program} {w : World} {K : PySem.W.Frag} {mg : Str → Option Value} {base : Heap}
theorem scSh : FnScope ["_law_pool_here", "_law_job", "_law_slots", "_law_k", "_law_own", "_law_weights", "_law_found", "_law_slot"] ["_law_pool_here", "_law_job", "_law_slots"] (defScope (top 57)) := ⟨rfl, rfl, rfl, by decide +kernel, rfl, by decide +kernel, by decide +kernel⟩
def spSh (K : PySem.W.Frag) : Sp := fun vs H Q _ => ∃ p aj al b us slots j z, vs = [.ref p, .ref aj, .ref al] ∧ SqT K H aj [.str j.nm, .int j.cm, .int j.du, .int z] ∧ j.wk = (z : Rat) ∧ 0 < z ∧ z ≤ 10000 ∧ H al = some (.lst us) ∧ al ≠ p ∧ Paired (SlV K H) us slots ∧ slots.length ≤ 17 ∧ (∃ s ∈ slots, inW j s) ∧ ∃ sl, PoolAt K sl H p b ∧ b ≤ 800000 ∧
  ∀ r H' ws qs, SameBut p H H' → PoolAt K sl H' p (b + 18) → H r = none → H' r = some (.lst ws) → Paired (RatV K H') ws qs → ShOk j slots qs → Q (.ref r) H'
theorem ok_sh (T : TF K mg "_law_shares" (top 57) ["_law_pool_here", "_law_job", "_law_slots"]) (gSum : mg "sum" = none) (gR : mg "range" = none) (gL : mg "len" = none) (DR : Def P w K mg base "_law_draw" ["_law_pool_here", "_law_many"] [] 1 (spDr K)) (LR : Def P w K mg base "_law_ratio" ["_law_top", "_law_bottom"] [] 2 (spLR K)) : Def P w K mg base "_law_shares" ["_law_pool_here", "_law_job", "_law_slots"] [] 3 (spSh K) := by
  refine T.ok scSh (fun vs H Q E h => ?_) (fun f cdv A outer s_ H vs Q E hr h => ?_)
  · obtain ⟨_, _, _, _, _, _, _, _, rfl, _⟩ := h
    rfl
  · obtain ⟨p, aj, al, b, us, slots, j, z, rfl, haj, hz, z0, z1, hal, nal, hus, hsl, hown, sl, hpo, hb, kk⟩ := h
    have hul := pair_len hus
    -- one weight is made
    have s3 : ∃ t, PS (cxOf CX0 P w K mg base shN "_law_shares" (defScope (top 57)) f cdv A outer s_ H E).nox (shSt 2) t ∧ ∀ (D : Ends) (H1 : Hp) (b1 : Nat) (Da Db : Addr) (ks : List V) (ws : List Int) (o6 : Option V), PoolAt K sl H1 p b1 → b1 ≤ 900000 → H1 Da = some (.lst ks) → Da ≠ p → H1 Db = some (.lst (ws.map V.int)) → Db ≠ p → sl ≠ Db → Da ≠ Db → ks.length = ws.length → ks.length ≤ 17 → ks ≠ [] → (∀ z ∈ ws, 0 ≤ z ∧ z ≤ 3) →
        (∀ (H2 : Hp) (ws' : List Int), (∀ c, c ≠ p → c ≠ Db → ∀ o, H1 c = some o → H2 c = some o) → PoolAt K sl H2 p (b1 + 1) → H2 Db = some (.lst (ws'.map V.int)) → ws'.length = ws.length → (∀ z ∈ ws', 0 ≤ z ∧ z ≤ 3) → 0 < ws'.sum → D.nx [some (.ref p), some (.ref aj), some (.ref al), none, some (.ref Da), some (.ref Db), none, o6] H2) → t D [some (.ref p), some (.ref aj), some (.ref al), none, some (.ref Da), some (.ref Db), none, o6] H1 := by
      refine ⟨_, (ps_if (pt_cmp (pc_eqI (pe_callB (cr_sum rfl) (by rfl) gSum (by decide +kernel) (pa_cons (pv 5) pa_nil)) pe_int)) (pss_one (ps_asg pe_int (pg_sub (pv 5) (pe_def DR (hr.mono (by decide)) (pa_cons (pv 0 (hv := Or.inr (Or.inl rfl))) (pa_cons (pe_callB call_len_seq (by rfl) gL (by decide +kernel) (pa_cons (pv 4) pa_nil)) pa_nil))) set_list))) pss_nil), ?_⟩
      intro D H1 b1 Da Db ks ws o6 hp1 hb1 hDa nDa hDb nDb nsl nab hkw hk17 hkne hwb k
      have hw0 : ∀ x ∈ ws, 0 ≤ x := fun x hx => (hwb x hx).1
      refine ⟨_, rfl, Db, ws, rfl, SqL.of hDb, _, _, rfl, rfl, _, rfl, ite2 (fun c1 => ?_) (fun c1 => k H1 ws (fun _ _ _ _ h => h) (hp1.mono (by omega)) hDb rfl hwb ?_)⟩
      · have hkl : 0 < ks.length := List.length_pos_iff.mpr hkne
        refine ⟨_, rfl, _, rfl, _, rfl, Da, ks, rfl, .inl (SqL.of hDa), p, _, b1, rfl, _, hp1, by omega, by omega, by omega, fun r H2 r0 r1 SB hp2 => ?_⟩
        have hDb2 := SB _ _ nDb hDb
        refine ⟨Db, ws.map V.int, r, r.toNat, rfl, rfl, hDb2, by unfold ixN; rw [if_pos r0, List.length_map, if_pos (by omega)], ?_⟩
        have hlen : r.toNat < ws.length := by omega
        have hmem : (1 : Int) ∈ ws.set r.toNat 1 := List.mem_set hlen 1
        have hb' : ∀ x ∈ ws.set r.toNat 1, 0 ≤ x ∧ x ≤ 3 := fun x hx => by
          rcases List.mem_or_eq_of_mem_set hx with h | rfl
          · exact hwb x h
          · decide
        refine k _ (ws.set r.toNat 1) (fun c n1 n2 o h => ?_) (pool_upd hp2 nDb nsl _) ?_ (List.length_set ..) hb' ?_
        · rw [upd_ne n2]
          exact SB c o n1 h
        · rw [upd_same, List.map_set]
        · have := (sum_nonneg fun x hx => (hb' x hx).1).2 1 hmem
          omega
      · have := (sum_nonneg hw0).1
        have : ws.sum ≠ 0 := fun e => c1 (by rw [e]; rfl)
        omega
    obtain ⟨t3, p3, r3⟩ := s3
    refine ⟨_, (pss_cons (ps_setLc (i := 4) (own := [("_law_k", 3)]) (tt := tAnd (tTest (tOp _ (tOp (rIxT K) (tVar 1) (tC (.int 1))) (tOp (rIxT K) (tOp (rIxL K) (tVar 2) (tVar 3)) (tC (.int 0))))) (tTest (tOp _ (tOp (rIxT K) (tOp (rIxL K) (tVar 2) (tVar 3)) (tC (.int 1))) (tOp (rIxT K) (tVar 1) (tC (.int 2)))))) rfl scSh.nd rfl rfl (sw_true rfl rfl rfl (by decide +kernel)) (pi_range1 (by rfl) gR (pa_cons (pe_callB call_len_seq (by rfl) gL (by decide +kernel) (pa_cons (pv 2 (hv := Or.inr (Or.inl rfl))) pa_nil)) pa_nil)) (blkOk_by (own := [("_law_k", 3)]) (N := ["_law_pool_here", "_law_job", "_law_slots", "_law_k", "_law_own", "_law_weights", "_law_found", "_law_slot"]) (sc := defScope (top 57)) (by decide +kernel)) (fun _ _ _ _ _ => by exact (pg_name (i := 3) scSh.nd rfl (.inl rfl))) (fun _ _ _ _ _ => by exact (pts_one (PW.pt (pw_and (pt_cmpR op_le (pe_ix ix_tup (pv 1 (hv := Or.inr (Or.inl rfl))) pe_int (fun _ _ => rfl)) (pe_ix ix_tup (pe_ix ix_list (pv 2 (hv := Or.inr (Or.inl rfl))) (pv 3) (fun _ _ => rfl)) pe_int (fun _ _ => rfl)) (nomark _)) (pw_and1 (pt_cmpR op_le (pe_ix ix_tup (pe_ix ix_list (pv 2 (hv := Or.inr (Or.inl rfl))) (pv 3) (fun _ _ => rfl)) pe_int (fun _ _ => rfl)) (pe_ix ix_tup (pv 1 (hv := Or.inr (Or.inl rfl))) pe_int (fun _ _ => rfl)) (nomark _))))))) (fun _ _ _ _ _ => by exact (pv 3))) (pss_cons (ps_setLc (i := 5) (own := [("_law_k", 3)]) (te := tCall (spDr K) [] E0 (tCons (tVar 0) (tCons (tC (.int 4)) tNil))) rfl scSh.nd rfl rfl (sw_true rfl rfl rfl (by decide +kernel)) (pi_list (pv 4)) (blkOk_by (own := [("_law_k", 3)]) (N := ["_law_pool_here", "_law_job", "_law_slots", "_law_k", "_law_own", "_law_weights", "_law_found", "_law_slot"]) (sc := defScope (top 57)) (by decide +kernel)) (fun _ _ _ _ _ => by exact (pg_name (i := 3) scSh.nd rfl (.inl rfl))) (fun _ _ _ _ _ => by exact pts_nil) (fun _ _ _ _ _ => by exact (pe_def DR (hr.mono (by decide)) (pa_cons (pv 0 (hv := Or.inr (Or.inl rfl))) (pa_cons pe_int pa_nil))))) (pss_cons p3 (pss_cons (ps_setLc (i := 6) (own := [("_law_slot", 7)])  rfl scSh.nd rfl rfl (sw_true rfl rfl rfl (by decide +kernel)) (pi_list (pv 2 (hv := Or.inr (Or.inl rfl)))) (blkOk_by (own := [("_law_slot", 7)]) (N := ["_law_pool_here", "_law_job", "_law_slots", "_law_k", "_law_own", "_law_weights", "_law_found", "_law_slot"]) (sc := defScope (top 57)) (by decide +kernel)) (fun _ _ _ _ _ => by exact (pg_name (i := 7) scSh.nd rfl (.inl rfl))) (fun _ _ _ _ _ => by exact pts_nil) (fun _ _ _ _ _ => by exact (pe_tup (pa_cons pe_int (pa_cons pe_int pa_nil))))) (pss_cons (ps_for PassesOwn.never rfl (pi_range1 (by rfl) gR (pa_cons (pe_callB call_len_seq (by rfl) gL (by decide +kernel) (pa_cons (pv 4) pa_nil)) pa_nil)) (pg_name (i := 3) scSh.nd rfl (.inl rfl)) (pss_one (ps_asg (pe_def LR (hr.mono (by decide)) (pa_cons (pe_op op_mulW (pe_ix ix_tup (pv 1 (hv := Or.inr (Or.inl rfl))) pe_int (fun _ _ => rfl)) (pe_ix ix_list (pv 5) (pv 3) (fun _ _ => rfl))) (pa_cons (pe_callB (cr_sum rfl) (by rfl) gSum (by decide +kernel) (pa_cons (pv 5) pa_nil)) pa_nil))) (pg_sub (pv 6) (pe_ix ix_list (pv 4) (pv 3) (fun _ _ => rfl)) set_list)))) (pss_one (ps_ret (pv 6)))))))), ?_⟩
    refine ⟨_, rfl, al, _, rfl, .inl (SqL.of hal), ?_⟩
    refine ⟨(us.length : Int), rfl, by omega, by omega, fun D nD => ?_⟩
    refine lc_range (lo := 0) (n := (us.length : Int).toNat) (fun i H5 => ∃ ks : List Nat, H5 D = some (.lst (ks.map fun (k : Nat) => V.int (0 + (k : Int)))) ∧ Same H H5 ∧ ks.Nodup ∧ (∀ k ∈ ks, k < i ∧ ∃ s, slots[k]? = some s ∧ inW j s) ∧ (∀ (k : Nat) (s : Int × Int), k < i → slots[k]? = some s → inW j s → k ∈ ks) ∧ ks.length ≤ i)
      ⟨[], upd_same, same_new nD, List.nodup_nil, fun _ h => absurd h (by simp), fun k s h => by omega, Nat.zero_le _⟩ ?_ ?_
    · rintro i H5 hi ⟨ks, hD, S5, hnd, hk1, hk2, hkl⟩
      have hi' : i < us.length := by omega
      have hat : us[i]? = some us[i] := List.getElem?_eq_getElem hi'
      obtain ⟨s, hs, a, e, ha⟩ := pair_get hus hat
      rw [e] at hat
      have ha5 := sqT_same S5 ha
      have haj5 := sqT_same S5 haj
      have hal5 := S5 _ _ hal
      have hskip : ¬ inW j s → ∃ ks : List Nat, H5 D = some (.lst (ks.map fun (k : Nat) => V.int (0 + (k : Int)))) ∧ Same H H5 ∧ ks.Nodup ∧ (∀ k ∈ ks, k < i + 1 ∧ ∃ s, slots[k]? = some s ∧ inW j s) ∧ (∀ (k : Nat) (s : Int × Int), k < i + 1 → slots[k]? = some s → inW j s → k ∈ ks) ∧ ks.length ≤ i + 1 := fun c => by
        refine ⟨ks, hD, S5, hnd, fun k hk => ⟨by have := (hk1 k hk).1; omega, (hk1 k hk).2⟩, fun k s' hlt hs' hin => ?_, by omega⟩
        by_cases e2 : k = i
        · subst e2
          rw [hs] at hs'
          rw [← Option.some.inj hs'] at hin
          exact absurd hin c
        · exact hk2 k s' (by omega) hs' hin
      refine ⟨wp (wp0 _ _), ?_⟩
      refine ⟨_, rfl, aj, _, _, _, rfl, rfl, haj5, rfl, _, rfl, _, rfl, al, us, _, _, rfl, rfl, SqL.of hal5, at_of (j := i) (by omega) hat, a, _, _, _, rfl, rfl, ha5, rfl, _, _, rfl, rfl, _, rfl, ?_⟩
      refine ite2 (fun c1 => ?_) (fun c1 => iteF (hskip fun h => c1 (decide_eq_true h.1)))
      refine ⟨_, rfl, _, rfl, al, us, _, _, rfl, rfl, SqL.of hal5, at_of (j := i) (by omega) hat, a, _, _, _, rfl, rfl, ha5, rfl, _, rfl, aj, _, _, _, rfl, rfl, haj5, rfl, _, _, rfl, rfl, _, rfl, ?_⟩
      refine ite2 (fun c2 => ?_) (fun c2 => hskip fun h => c2 (decide_eq_true h.2))
      have hin : inW j s := ⟨of_decide_eq_true c1, of_decide_eq_true c2⟩
      refine ⟨_, rfl, _, hD, small (by rw [List.length_map]; omega), ks ++ [i], ?_, same_upd S5 nD, ?_, fun k hk => ?_, fun k s' hlt hs' hin' => ?_, by simp; omega⟩
      · rw [upd_same, List.map_append]
        rfl
      · refine List.nodup_append.mpr ⟨hnd, by simp, fun x hx y hy e2 => ?_⟩
        rw [List.mem_singleton.mp hy] at e2
        have := (hk1 x hx).1
        omega
      · rcases List.mem_append.mp hk with hk | hk
        · exact ⟨by have := (hk1 k hk).1; omega, (hk1 k hk).2⟩
        · rw [List.mem_singleton.mp hk]
          exact ⟨by omega, s, hs, hin⟩
      · by_cases e2 : k = i
        · exact List.mem_append_right _ (by rw [e2]; simp)
        · exact List.mem_append_left _ (hk2 k s' (by omega) hs' hin')
    · rintro H5 ⟨ks, hD, S5, hnd, hk1, hk2, hkl⟩
      have hlen : (us.length : Int).toNat = slots.length := by omega
      rw [hlen] at hk1 hk2 hkl
      have hkne : ks ≠ [] := by
        obtain ⟨s, hs, hin⟩ := hown
        obtain ⟨k, hk, e⟩ := List.mem_iff_getElem.mp hs
        have := hk2 k s hk (by rw [← e]; exact List.getElem?_eq_getElem hk) hin
        intro e2
        rw [e2] at this
        cases this
      obtain ⟨xs5, hx5⟩ := (hpo.same S5).lst
      obtain ⟨zD, npD, nsD⟩ := pool_free hpo (SameBut.refl p H) nD hpo.lst
      refine ⟨_, rfl, D, rfl, ⟨_, SqL.of hD⟩, fun D2 nD2 => ?_⟩
      obtain ⟨zD2, npD2, nsD2⟩ := pool_free hpo (SameBut.same S5) nD2 (hpo.same S5).lst
      have nDD : D ≠ D2 := ne_of_none hD nD2
      refine lc_list (K := K) (a := D) (xs := ks.map fun (k : Nat) => V.int (0 + (k : Int))) (fun i H6 => ∃ ws : List Int, H6 D2 = some (.lst (ws.map V.int)) ∧ SameBut p H H6 ∧ PoolAt K sl H6 p (b + i) ∧ H6 D = some (.lst (ks.map fun (k : Nat) => V.int (0 + (k : Int)))) ∧ ws.length = i ∧ ∀ z ∈ ws, 0 ≤ z ∧ z ≤ 3)
        ⟨[], upd_same, sb_upd (SameBut.same S5) zD2 _, pool_upd (hpo.same S5) npD2 nsD2 _, by rw [upd_ne nDD]; exact hD, rfl, fun _ h => absurd h (by simp)⟩ (fun i H6 _ ⟨_, _, _, _, e, _⟩ => SqL.of e) ?_ ?_
      · rintro i x H6 hi ⟨ws, hD2, SB6, hp6, hD6, hwl, hwb⟩
        have hi17 : i < 17 := by
          obtain ⟨h1, _⟩ := List.getElem?_eq_some_iff.mp hi
          rw [List.length_map] at h1
          omega
        refine ⟨wp (wp0 _ _), ?_⟩
        refine tyes ?_
        refine iteT ?_
        refine ⟨_, rfl, p, 4, b + i, rfl, _, hp6, by omega, by decide, by decide, fun r H7 r0 r1 SB7 hp7 => ?_⟩
        refine ⟨_, SB7 _ _ npD2 hD2, small (by rw [List.length_map]; omega), ws ++ [r], ?_, sb_upd (SB6.trans SB7) zD2 _, pool_upd hp7 npD2 nsD2 _, by rw [upd_ne nDD]; exact SB7 _ _ npD hD6, by simp; omega, fun z hz => ?_⟩
        · rw [upd_same, List.map_append]
          rfl
        · rcases List.mem_append.mp hz with hz | hz
          · exact hwb z hz
          · rw [List.mem_singleton.mp hz]
            omega
      · rintro H6 ⟨ws, hD2, SB6, hp6, hD6, hwl, hwb⟩
        rw [List.length_map] at hp6 hwl
        refine r3 _ H6 (b + ks.length) D D2 _ ws _ hp6 (by omega) hD6 npD hD2 npD2 nsD2 nDD (by rw [List.length_map]; omega) (by rw [List.length_map]; omega) (by simpa using hkne) hwb fun H7 ws' SX hp7 hD27 hwl7 hwb7 hsum => ?_
        have SB7 : SameBut p H H7 := fun c o n e => SX c n (ne_of_none e zD2) o (SB6 c o n e)
        have hD7 := SX D npD nDD _ hD6
        have hal7 : H7 al = some (.lst us) := SX al nal (ne_of_none hal zD2) _ (SB6 _ _ nal hal)
        refine ⟨_, rfl, al, rfl, ⟨_, SqL.of hal7⟩, fun D3 nD3 => ?_⟩
        obtain ⟨zD3, npD3, nsD3⟩ := pool_free hpo SB7 nD3 hp7.lst
        have nD13 : D ≠ D3 := ne_of_none hD7 nD3
        have nD23 : D2 ≠ D3 := ne_of_none hD27 nD3
        refine lc_list (K := K) (a := al) (xs := us) (fun i H8 => ∃ vs, H8 D3 = some (.lst vs) ∧ Same H7 H8 ∧ Paired (RatV K H8) vs ((slots.take i).map fun _ => (0 : Rat))) ⟨[], upd_same, same_new nD3, .nil⟩ (fun i H8 _ ⟨_, _, e, _⟩ => SqL.of (e _ _ hal7)) ?_ ?_
        · rintro i x H8 hi ⟨vs, hD3, S8, hvs⟩
          obtain ⟨sx, hsx, _⟩ := pair_get hus hi
          obtain ⟨hs1, hs2⟩ := List.getElem?_eq_some_iff.mp hsx
          refine ⟨wp (wp0 _ _), ?_⟩
          refine tyes ?_
          refine iteT ?_
          refine ⟨(by show 2 ≤ sizeLine; decide), fun t nt => ?_⟩
          obtain ⟨a1, a2, a3, a4, a5⟩ := app_tup (K := K) (xs := [V.int 0, V.int 1]) S8 nD3 hD3 nt
          have hvl := pair_len hvs
          rw [List.length_map, List.length_take] at hvl
          refine ⟨vs, a1, small (by omega), _, a4, a2, ?_⟩
          rw [List.take_succ_eq_append_getElem hs1, List.map_append]
          exact pair_snoc (rats_tup a3 hvs) (zero_rat a5)
        · rintro H8 ⟨vs, hD3, S8, hvs⟩
          rw [hul, List.take_length] at hvs
          have hp8 := hp7.same S8
          have SB8 := SB7.trans (SameBut.same S8)
          have hD8 := S8 _ _ hD7
          have hD28 := S8 _ _ hD27
          have hw0 : ∀ x ∈ ws', 0 ≤ x := fun x hx => (hwb7 x hx).1
          have hwcap := sum_cap fun x hx => (hwb7 x hx).2
          refine ⟨_, rfl, D, _, rfl, .inl (SqL.of hD8), ?_⟩
          refine ⟨((ks.map fun (k : Nat) => V.int (0 + (k : Int))).length : Int), rfl, by rw [List.length_map]; omega, by rw [List.length_map]; omega, for_range (lo := 0) (n := ((ks.map fun (k : Nat) => V.int (0 + (k : Int))).length : Int).toNat) (fun i σ H' => ∃ o3 vs qs, σ = [some (.ref p), some (.ref aj), some (.ref al), o3, some (.ref D), some (.ref D2), some (.ref D3), none] ∧ SameBut p H H' ∧ PoolAt K sl H' p (b + 18) ∧ H' D = some (.lst (ks.map fun (k : Nat) => V.int (0 + (k : Int)))) ∧ H' D2 = some (.lst (ws'.map V.int)) ∧ H' D3 = some (.lst vs) ∧ Paired (RatV K H') vs qs ∧ ShSt j slots ks ws' i qs)
            ⟨none, vs, _, rfl, SB8, hp8.mono (by omega), hD8, hD28, hD3, hvs, sh_begin⟩ ?_ ?_⟩
          · rintro i σ H9 hi ⟨o3, vs9, qs, rfl, SB9, hp9, hD9, hD29, hD39, hq9, ST⟩
            rw [List.length_map] at hi
            have hik : i < ks.length := by omega
            have hiw : i < ws'.length := by omega
            have hk : ks[i]? = some ks[i] := List.getElem?_eq_getElem hik
            have hx : ws'[i]? = some ws'[i] := List.getElem?_eq_getElem hiw
            have hatw : (ws'.map V.int)[i]? = some (.int ws'[i]) := by rw [List.getElem?_map, hx]; rfl
            have hatk : (ks.map fun (k : Nat) => V.int (0 + (k : Int)))[i]? = some (.int (0 + (ks[i] : Int))) := by rw [List.getElem?_map, hk]; rfl
            have haj9 := pool_tup hpo SB9 _ _ haj
            obtain ⟨hk5, hk6⟩ := hk1 ks[i] (List.mem_of_getElem? hk)
            have hx9 := hwb7 ws'[i] (List.mem_of_getElem? hx)
            refine ⟨_, rfl, aj, _, _, _, rfl, rfl, haj9, rfl, _, rfl, _, rfl, D2, _, _, _, rfl, rfl, SqL.of hD29, at_of (j := i) (by omega) hatw, _, _, rfl, rfl, cm (Nat.lt_of_le_of_lt (show z.natAbs ≤ 10000 by omega) (Nat.lt_of_lt_of_le (show 10000 < 2 ^ 14 by decide) (Nat.pow_le_pow_right (by decide) (by decide)))) (Nat.lt_of_le_of_lt (show (ws'[i] : Int).natAbs ≤ 10000 by omega) (Nat.lt_of_lt_of_le (show 10000 < 2 ^ 14 by decide) (Nat.pow_le_pow_right (by decide) (by decide)))), _, rfl, D2, ws', rfl, SqL.of hD29, _, _, rfl, hsum, Nat.lt_of_le_of_lt (show (ws'.sum : Int).natAbs ≤ 10000 by omega) (Nat.lt_of_lt_of_le (show 10000 < 2 ^ 14 by decide) (Nat.pow_le_pow_right (by decide) (by decide))), fun v H10 S10 hv => ?_⟩
            have hq10 := rats_tup (Tup.same S10) hq9
            have hD310 := S10 _ _ hD39
            have hvl := pair_len hq9
            have hql := ST.len
            refine ⟨_, rfl, _, rfl, _, rfl, D, _, _, _, rfl, rfl, SqL.of (S10 _ _ hD9), at_of (j := i) (by omega) hatk, D3, vs9, 0 + (ks[i] : Int), ks[i], rfl, rfl, hD310, by unfold ixN; rw [if_pos (by omega), if_pos (by omega)]; congr 1; omega, ?_⟩
            refine ⟨_, vs9.set ks[i] v, _, rfl, sb_upd (SB9.trans (SameBut.same S10)) zD3 _, pool_upd (hp9.same S10) npD3 nsD3 _, by rw [upd_ne nD13]; exact S10 _ _ hD9, by rw [upd_ne nD23]; exact S10 _ _ hD29, upd_same, ?_, sh_step ST hz z0 z1 hnd hw0 hsum hk hx hk6⟩
            exact rats_tup (Tup.lst hD310) (pair_set _ hq10 hv)
          · rintro σ H9 ⟨o3, vs9, qs, rfl, SB9, hp9, hD9, hD29, hD39, hq9, ST⟩
            have e9 : ((ks.map fun (k : Nat) => V.int (0 + (k : Int))).length : Int).toNat = ws'.length := by rw [List.length_map]; omega
            rw [e9] at ST
            exact ⟨_, rfl, kk D3 H9 vs9 qs SB9 hp9 zD3 hD39 hq9 (sh_end ST hsum (by omega))⟩
end
end SW

set_option Elab.async false
set_option linter.all false
set_option maxRecDepth 100000
set_option maxHeartbeats 4000000
set_option exponentiation.threshold 300
namespace SW
open PySem PySem.Spec PyProof.Rows L2
/-! the rival: its pieces, in plain numbers -/
def atR (n s i : Nat) : Nat := if i + s < n then i + s else i + s - n
theorem range_sum (f : Nat → Rat) (a : Nat) : ∀ b, ls f (List.range (a + b)) = ls f (List.range a) + ls (fun i => f (a + i)) (List.range b)
  | 0 => by simp [ls]; grind
  | b + 1 => by
    have ih := range_sum f a b
    rw [← Nat.add_assoc, List.range_succ, List.range_succ, ls_append, ls_append, ih]
    simp only [ls]
    grind
theorem range_one {c : Rat} {i0 : Nat} : ∀ {n : Nat}, i0 < n → ls (fun i => if i = i0 then c else 0) (List.range n) = c
  | 0, h => by omega
  | n + 1, h => by
    rw [List.range_succ, ls_append]
    by_cases e : i0 = n
    · rw [ls_zero fun i hi => by rw [List.mem_range] at hi; rw [if_neg (by omega)]]
      simp only [ls]
      rw [if_pos e.symm]
      grind
    · rw [range_one (n := n) (by omega)]
      simp only [ls]
      rw [if_neg (by omega)]
      grind
theorem range_get {α : Type} (d : α) (f : α → Rat) : ∀ A : List α, ls (fun i => f (A.getD i d)) (List.range A.length) = ls f A
  | [] => rfl
  | a :: r => by
    have ih := range_get d f r
    rw [List.length_cons, Nat.add_comm, range_sum]
    have e : ls (fun i => f ((a :: r).getD (1 + i) d)) (List.range r.length) = ls (fun i => f (r.getD i d)) (List.range r.length) := ls_congr fun i _ => by
      rw [Nat.add_comm]
      rfl
    rw [e, ih]
    have e1 : List.range 1 = [0] := rfl
    rw [e1]
    simp only [ls]
    have e2 : (a :: r).getD 0 d = a := rfl
    rw [e2]
    grind
theorem rot_sum (f : Nat → Rat) {n s : Nat} (h : s < n) : ls (fun i => f (atR n s i)) (List.range n) = ls f (List.range n) := by
  obtain ⟨m, rfl⟩ : ∃ m, n = s + m := ⟨n - s, by omega⟩
  rw [range_sum f s m]
  have e : s + m = m + s := Nat.add_comm _ _
  have e0 : ls (fun i => f (atR (s + m) s i)) (List.range (s + m)) = ls (fun i => f (atR (s + m) s i)) (List.range (m + s)) := by rw [e]
  rw [e0, range_sum]
  have e1 : ls (fun i => f (atR (s + m) s i)) (List.range m) = ls (fun i => f (s + i)) (List.range m) := ls_congr fun i hi => by
    rw [List.mem_range] at hi
    unfold atR
    rw [if_pos (by omega), Nat.add_comm i s]
  have e2 : ls (fun i => f (atR (s + m) s (m + i))) (List.range s) = ls f (List.range s) := ls_congr fun i hi => by
    rw [List.mem_range] at hi
    unfold atR
    rw [if_neg (by omega)]
    congr 1
    omega
  rw [e1, e2]
  grind
theorem range_mono {f : Nat → Rat} (h : ∀ i, 0 ≤ f i) {t n : Nat} (ht : t ≤ n) : ls f (List.range t) ≤ ls f (List.range n) := by
  obtain ⟨m, rfl⟩ : ∃ m, n = t + m := ⟨n - t, by omega⟩
  rw [range_sum]
  have := ls_nonneg (f := fun i => f (t + i)) (A := List.range m) fun i _ => h _
  grind
theorem atR_lt {n s i : Nat} (hs : s < n) (hi : i < n) : atR n s i < n := by unfold atR; split <;> omega
theorem atR_hit {n s a : Nat} (hs : s < n) (ha : a < n) : ∃ i0, i0 < n ∧ ∀ i, i < n → (atR n s i = a ↔ i = i0) := by
  by_cases c : s ≤ a
  · refine ⟨a - s, by omega, fun i hi => ?_⟩
    unfold atR
    split <;> omega
  · refine ⟨a + n - s, by omega, fun i hi => ?_⟩
    unfold atR
    split <;> omega
theorem atR_mod {n s i : Nat} (hs : s < n) (hi : i < n) : ((i : Int) + (s : Int)) % (n : Int) = (atR n s i : Int) := by
  have e : ((i : Int) + (s : Int)) = ((i + s : Nat) : Int) := by omega
  rw [e, ← Int.natCast_emod]
  congr 1
  unfold atR
  split
  · rw [Nat.mod_eq_of_lt (by omega)]
  · rw [Nat.mod_eq_sub_mod (by omega), Nat.mod_eq_of_lt (by omega)]
def shF (qss : List (List Rat)) (k a : Nat) : Rat := (qss.getD a []).getD k 0
def ldF (qss : List (List Rat)) (k : Nat) : Rat := ls (fun qs => qs.getD k 0) qss
theorem ld_range (qss : List (List Rat)) (k : Nat) : ls (fun a => shF qss k a) (List.range qss.length) = ldF qss k := range_get [] (fun qs => qs.getD k 0) qss
structure RvCx (J : List (Jb Str)) (pts : List Int) (slots : List (Int × Int)) (qss : List (List Rat)) : Prop where
  jin : JobsIn J
  pt : PtOk J pts
  sl : ∀ (k : Nat) (s : Int × Int), slots[k]? = some s → pts[k]? = some s.1 ∧ pts[k + 1]? = some s.2
  slen : slots.length ≤ 17
  qlen : qss.length = J.length
  sh : ∀ (a : Nat) (j : Jb Str) (qs : List Rat), J[a]? = some j → qss[a]? = some qs → ShOk j slots qs
section
variable {J : List (Jb Str)} {pts : List Int} {slots : List (Int × Int)} {qss : List (List Rat)}
theorem RvCx.slot (X : RvCx J pts slots qss) {k : Nat} {s : Int × Int} (h : slots[k]? = some s) : 0 ≤ s.1 ∧ s.1 < s.2 ∧ s.2 ≤ 10000 := by
  obtain ⟨h1, h2⟩ := X.sl k s h
  obtain ⟨a1, a2⟩ := List.getElem?_eq_some_iff.mp h1
  obtain ⟨b1, b2⟩ := List.getElem?_eq_some_iff.mp h2
  have := List.pairwise_iff_getElem.mp X.pt.sorted k (k + 1) a1 b1 (by omega)
  rw [a2, b2] at this
  exact ⟨(X.pt.bnd _ (List.mem_of_getElem? h1)).1, this, (X.pt.bnd _ (List.mem_of_getElem? h2)).2⟩
theorem RvCx.later (X : RvCx J pts slots qss) {k m : Nat} {s t : Int × Int} (h : slots[k]? = some s) (g : slots[m]? = some t) (hkm : k < m) : s.2 ≤ t.1 := by
  obtain ⟨_, h2⟩ := X.sl k s h
  obtain ⟨g1, _⟩ := X.sl m t g
  obtain ⟨a1, a2⟩ := List.getElem?_eq_some_iff.mp h2
  obtain ⟨b1, b2⟩ := List.getElem?_eq_some_iff.mp g1
  by_cases e : k + 1 = m
  · subst e
    rw [← a2, ← b2]
    exact Int.le_refl _
  · have := List.pairwise_iff_getElem.mp X.pt.sorted (k + 1) m a1 b1 (by omega)
    rw [a2, b2] at this
    omega
/-- a share -/
theorem RvCx.share (X : RvCx J pts slots qss) (k a : Nat) : 0 ≤ shF qss k a ∧ shF qss k a ≤ 10000 ∧ (shF qss k a ≠ 0 → ∃ j s, J[a]? = some j ∧ slots[k]? = some s ∧ inW j s) := by
  unfold shF
  rw [List.getD_eq_getElem?_getD, List.getD_eq_getElem?_getD]
  cases hq : qss[a]? with
  | none =>
    simp only [Option.getD_none, List.getElem?_nil]
    exact ⟨Rat.le_refl, by decide +kernel, fun h => absurd rfl h⟩
  | some qs =>
    simp only [Option.getD_some]
    have ha : a < J.length := by
      obtain ⟨h1, _⟩ := List.getElem?_eq_some_iff.mp hq
      have := X.qlen
      omega
    have hj : J[a]? = some J[a] := List.getElem?_eq_getElem ha
    have S := X.sh a J[a] qs hj hq
    cases hk : qs[k]? with
    | none =>
      simp only [Option.getD_none]
      exact ⟨Rat.le_refl, by decide +kernel, fun h => absurd rfl h⟩
    | some q =>
      simp only [Option.getD_some]
      obtain ⟨h1, h2, h3⟩ := S.row k q hk
      refine ⟨h1, h2, fun hne => ?_⟩
      obtain ⟨s, h4, h5⟩ := h3 hne
      exact ⟨J[a], s, hj, h4, h5⟩
theorem RvCx.load (X : RvCx J pts slots qss) (k : Nat) : 0 ≤ ldF qss k ∧ ldF qss k ≤ 60000 := by
  rw [← ld_range]
  have hn : (List.range qss.length).length ≤ 6 := by
    rw [List.length_range, X.qlen]
    exact X.jin.few
  have h := ls_cap (f := fun a => shF qss k a) (k := 10000) hn (fun a _ => (X.share k a).1) (fun a _ => (X.share k a).2.1)
  have e : ((6 * 10000 : Nat) : Rat) = 60000 := by decide +kernel
  rw [e] at h
  exact h
theorem prod_all {α : Type} {φ : Nat → α → Prop} {b : Nat} (up : ∀ e e' a, φ e a → e ∣ e' → φ e' a) : ∀ (A : List α), (∀ a ∈ A, ∃ e, 0 < e ∧ e ≤ 2 ^ b ∧ φ e a) → ∃ P, 0 < P ∧ P ≤ 2 ^ (b * A.length) ∧ ∀ a ∈ A, φ P a
  | [], _ => ⟨1, by decide, by simp, fun _ h => absurd h (by simp)⟩
  | a :: r, h => by
    obtain ⟨P, p0, p1, p2⟩ := prod_all up r fun x hx => h x (List.mem_cons_of_mem _ hx)
    obtain ⟨e, e0, e1, e2⟩ := h a List.mem_cons_self
    refine ⟨e * P, Nat.mul_pos e0 p0, ?_, fun x hx => ?_⟩
    · rw [List.length_cons, Nat.mul_add, Nat.mul_one, Nat.add_comm]
      exact mul_pow2 e1 p1
    · rcases List.mem_cons.mp hx with rfl | hx
      · exact up _ _ _ e2 (Nat.dvd_mul_right _ _)
      · exact up _ _ _ (p2 x hx) (Nat.dvd_mul_left _ _)
theorem RvCx.parts (X : RvCx J pts slots qss) : ∃ B D : Nat, 0 < B ∧ B ≤ 2 ^ 36 ∧ (∀ k a, Dv B (shF qss k a)) ∧ 0 < D ∧ D ≤ 2 ^ 274 ∧ B ∣ D ∧ ∀ (k : Nat) (s : Int × Int), slots[k]? = some s → Dv D (ldF qss k / ((s.2 - s.1 : Int) : Rat)) := by
  obtain ⟨B, b0, b1, b2⟩ := prod_all (φ := fun e (a : Nat) => ∀ k, Dv e (shF qss k a)) (b := 6) (fun e e' a h hd k => (h k).up hd) (List.range J.length) (fun a ha => by
    rw [List.mem_range] at ha
    have hj : J[a]? = some J[a] := List.getElem?_eq_getElem ha
    have hq : qss[a]? = some (qss[a]'(by rw [X.qlen]; exact ha)) := List.getElem?_eq_getElem _
    obtain ⟨W, w0, w1, w2⟩ := (X.sh a _ _ hj hq).dv
    refine ⟨W, w0, w1, fun k => ?_⟩
    unfold shF
    rw [List.getD_eq_getElem?_getD, List.getD_eq_getElem?_getD, hq]
    simp only [Option.getD_some]
    cases hk : (qss[a]'(by rw [X.qlen]; exact ha))[k]? with
    | none => exact Dv.zero W
    | some q => exact w2 q (List.mem_of_getElem? hk))
  have hB : ∀ k a, Dv B (shF qss k a) := fun k a => by
    by_cases ha : a < J.length
    · exact b2 a (List.mem_range.mpr ha) k
    · have : shF qss k a = 0 := by
        unfold shF
        have h : qss[a]? = none := List.getElem?_eq_none (by rw [X.qlen]; omega)
        rw [List.getD_eq_getElem?_getD, List.getD_eq_getElem?_getD, h]
        rfl
      rw [this]
      exact Dv.zero B
  have hld : ∀ k, Dv B (ldF qss k) := fun k => by
    rw [← ld_range]
    exact Dv.ls fun a _ => hB k a
  obtain ⟨L, l0, l1, l2⟩ := prod_all (φ := fun e (k : Nat) => ∀ s, slots[k]? = some s → Dv (B * e) (ldF qss k / ((s.2 - s.1 : Int) : Rat))) (b := 14) (fun e e' a h hd s hs => (h s hs).up (Nat.mul_dvd_mul_left _ hd)) (List.range slots.length) (fun k hk => by
    rw [List.mem_range] at hk
    have hs : slots[k]? = some slots[k] := List.getElem?_eq_getElem hk
    obtain ⟨h1, h2, h3⟩ := X.slot hs
    refine ⟨(slots[k].2 - slots[k].1).natAbs, by omega, Nat.le_trans (show (slots[k].2 - slots[k].1).natAbs ≤ 10000 by omega) (by decide), fun s hs' => ?_⟩
    rw [hs] at hs'
    rw [← Option.some.inj hs']
    exact div_dv (hld k) (by omega))
  refine ⟨B, B * L, b0, ?_, hB, Nat.mul_pos b0 l0, ?_, Nat.dvd_mul_right _ _, fun k s hs => ?_⟩
  · have := X.jin.few
    rw [List.length_range] at b1
    exact Nat.le_trans b1 (Nat.pow_le_pow_right (by decide) (by omega))
  · have := X.jin.few
    have := X.slen
    rw [List.length_range] at b1 l1
    have h1 : B ≤ 2 ^ 36 := Nat.le_trans b1 (Nat.pow_le_pow_right (by decide) (by omega))
    have h2 : L ≤ 2 ^ 238 := Nat.le_trans l1 (Nat.pow_le_pow_right (by decide) (by omega))
    exact dc_le h1 h2 (by decide)
  · obtain ⟨hk, _⟩ := List.getElem?_eq_some_iff.mp hs
    exact l2 k (List.mem_range.mpr hk) s hs
/-- a piece of the rival -/
structure PcR (J : List (Jb Str)) (D : Nat) (p : Pc Str) : Prop where
  lo : 0 ≤ p.st
  lt : p.st < p.en
  s0 : 0 < p.sp
  s1 : p.sp ≤ 60000
  jb : ∃ j ∈ J, p.nm = j.nm ∧ (j.cm : Rat) ≤ p.st ∧ p.en ≤ (j.du : Rat)
  dv : Dv D p.sp ∧ Dv D (p.sp * p.st) ∧ Dv D (p.sp * p.en)
def wkP (n : Str) (p : Pc Str) : Rat := if p.nm = n then p.sp * (p.en - p.st) else 0
/-- behind k slots -/
structure RvSt (J : List (Jb Str)) (slots : List (Int × Int)) (qss : List (List Rat)) (D : Nat) (k : Nat) (ps : List (Pc Str)) : Prop where
  ord : ps.Pairwise (fun p q => p.en ≤ q.st)
  pc : ∀ p ∈ ps, PcR J D p
  fore : ∀ (m : Nat) (s : Int × Int), k ≤ m → slots[m]? = some s → ∀ p ∈ ps, p.en ≤ (s.1 : Rat)
  wk : ∀ (a : Nat) (j : Jb Str), J[a]? = some j → ls (wkP j.nm) ps = ls (fun m => shF qss m a) (List.range k)
  len : ps.length ≤ 6 * k
/-- within slot k, behind t turns -/
structure SlSt (J : List (Jb Str)) (qss : List (List Rat)) (D : Nat) (k : Nat) (s : Int × Int) (sft t : Nat) (now : Rat) (ps : List (Pc Str)) : Prop where
  ev : ldF qss k / ((s.2 - s.1 : Int) : Rat) * (now - (s.1 : Rat)) = ls (fun i => shF qss k (atR J.length sft i)) (List.range t)
  lo : (s.1 : Rat) ≤ now
  hi : now ≤ (s.2 : Rat)
  ord : ps.Pairwise (fun p q => p.en ≤ q.st)
  pc : ∀ p ∈ ps, PcR J D p
  fore : ∀ p ∈ ps, p.en ≤ now
  wk : ∀ (a : Nat) (j : Jb Str), J[a]? = some j → ls (wkP j.nm) ps = ls (fun m => shF qss m a) (List.range k) + ls (fun i => if atR J.length sft i = a then shF qss k a else 0) (List.range t)
  len : ps.length ≤ 6 * k + t
theorem rv_begin {D : Nat} : RvSt J slots qss D 0 [] := ⟨.nil, fun _ h => absurd h (by simp), fun _ _ _ _ _ h => absurd h (by simp), fun _ _ _ => rfl, Nat.zero_le _⟩
theorem sl_begin (X : RvCx J pts slots qss) {D k : Nat} {ps : List (Pc Str)} (R : RvSt J slots qss D k ps) {s : Int × Int} (hs : slots[k]? = some s) (sft : Nat) : SlSt J qss D k s sft 0 (s.1 : Rat) ps := by
  obtain ⟨h1, h2, h3⟩ := X.slot hs
  refine ⟨?_, Rat.le_refl, Rat.intCast_le_intCast.mpr (by omega), R.ord, R.pc, R.fore k s (Nat.le_refl _) hs, fun a j hj => ?_, R.len⟩
  · have e : (s.1 : Rat) - (s.1 : Rat) = 0 := by grind
    rw [e]
    simp only [List.range_zero, ls]
    grind
  · rw [R.wk a j hj]
    simp only [List.range_zero, ls]
    grind
theorem sl_skip {D k : Nat} {ps : List (Pc Str)} {s : Int × Int} {sft t : Nat} {now : Rat} (R : SlSt J qss D k s sft t now ps) (h : shF qss k (atR J.length sft t) = 0) : SlSt J qss D k s sft (t + 1) now ps := by
  refine ⟨?_, R.lo, R.hi, R.ord, R.pc, R.fore, fun a j hj => ?_, by have := R.len; omega⟩
  · rw [R.ev, List.range_succ, ls_append]
    simp only [ls]
    rw [h]
    grind
  · rw [R.wk a j hj, List.range_succ, ls_append]
    simp only [ls]
    by_cases e : atR J.length sft t = a
    · rw [if_pos e, ← e, h]
      grind
    · rw [if_neg e]
      grind
theorem slot_sp (X : RvCx J pts slots qss) {k : Nat} {s : Int × Int} (hs : slots[k]? = some s) : 0 ≤ ldF qss k / ((s.2 - s.1 : Int) : Rat) ∧ ldF qss k / ((s.2 - s.1 : Int) : Rat) ≤ 60000 ∧ ldF qss k / ((s.2 - s.1 : Int) : Rat) * ((s.2 : Rat) - (s.1 : Rat)) = ldF qss k := by
  obtain ⟨h1, h2, h3⟩ := X.slot hs
  obtain ⟨l1, l2⟩ := X.load k
  obtain ⟨d1, d2⟩ := div_le1 l1 (show 0 < s.2 - s.1 by omega)
  refine ⟨d1, by grind, ?_⟩
  have hp : (0 : Rat) < ((s.2 - s.1 : Int) : Rat) := by
    have := Rat.intCast_lt_intCast.mpr (show 0 < s.2 - s.1 by omega)
    simpa using this
  have := div_mul (x := ldF qss k) hp
  rw [Rat.intCast_sub] at this ⊢
  exact this
/-- one piece more -/
theorem sl_step (X : RvCx J pts slots qss) {B D k : Nat} (hB : ∀ k a, Dv B (shF qss k a)) (d0 : 0 < D) (hBD : B ∣ D) (hsp : ∀ (k : Nat) (s : Int × Int), slots[k]? = some s → Dv D (ldF qss k / ((s.2 - s.1 : Int) : Rat))) {ps : List (Pc Str)} {s : Int × Int} (hs : slots[k]? = some s) {sft t : Nat} {now : Rat} (R : SlSt J qss D k s sft t now ps) (hsft : sft < J.length) (ht : t < J.length) (h : 0 < shF qss k (atR J.length sft t)) {jt : Jb Str} (hjt : J[atR J.length sft t]? = some jt) :
    0 < ldF qss k / ((s.2 - s.1 : Int) : Rat) ∧ PcR J D ⟨now, now + shF qss k (atR J.length sft t) / (ldF qss k / ((s.2 - s.1 : Int) : Rat)), jt.nm, ldF qss k / ((s.2 - s.1 : Int) : Rat)⟩ ∧ SlSt J qss D k s sft (t + 1) (now + shF qss k (atR J.length sft t) / (ldF qss k / ((s.2 - s.1 : Int) : Rat))) (ps ++ [⟨now, now + shF qss k (atR J.length sft t) / (ldF qss k / ((s.2 - s.1 : Int) : Rat)), jt.nm, ldF qss k / ((s.2 - s.1 : Int) : Rat)⟩]) := by
  obtain ⟨z1, z2, z3⟩ := slot_sp X hs
  obtain ⟨y1, y2, y3⟩ := X.slot hs
  have hdsp := hsp k s hs
  have hev := R.ev
  have hsum : ls (fun i => shF qss k (atR J.length sft i)) (List.range (t + 1)) ≤ ldF qss k := by
    have h1 := range_mono (f := fun i => shF qss k (atR J.length sft i)) (fun i => (X.share k _).1) (show t + 1 ≤ J.length by omega)
    rw [rot_sum (fun a => shF qss k a) hsft, ← X.qlen, ld_range] at h1
    rw [← X.qlen]
    exact h1
  rw [List.range_succ, ls_append] at hsum
  simp only [ls] at hsum
  have hpart := ls_nonneg (f := fun i => shF qss k (atR J.length sft i)) (A := List.range t) fun i _ => (X.share k _).1
  have hqd : Dv D (shF qss k (atR J.length sft t)) := (hB k _).up hBD
  have hsd : Dv D (ls (fun i => shF qss k (atR J.length sft i)) (List.range t)) := Dv.ls fun i _ => (hB k _).up hBD
  obtain ⟨j, s', hj, hs', hin⟩ := (X.share k (atR J.length sft t)).2.2 (by grind)
  rw [hjt] at hj
  have ej := Option.some.inj hj
  subst ej
  rw [hs] at hs'
  have es := Option.some.inj hs'
  subst es
  have hjm := List.mem_of_getElem? hjt
  have hlo0 : (0 : Rat) ≤ (s.1 : Rat) := by
    have := Rat.intCast_le_intCast.mpr y1
    simpa using this
  have hlohi : (s.1 : Rat) < (s.2 : Rat) := Rat.intCast_lt_intCast.mpr y2
  have hwk := R.wk
  have hfore := R.fore
  have hlen := R.len
  have hnowlo := R.lo
  have hsplo : Dv D (ldF qss k / ((s.2 - s.1 : Int) : Rat) * (s.1 : Rat)) := hdsp.mulz s.1
  have htt : List.range (t + 1) = List.range t ++ [t] := List.range_succ
  generalize hpt : ls (fun i => shF qss k (atR J.length sft i)) (List.range t) = part at *
  generalize hld : ldF qss k = ld at *
  generalize hspv : ld / ((s.2 - s.1 : Int) : Rat) = sp at *
  generalize hq : shF qss k (atR J.length sft t) = q at *
  have hsp0 : 0 < sp := by
    apply Classical.byContradiction
    intro c
    have e : sp = 0 := by grind
    rw [e] at z3
    grind
  have hdm := div_mul (x := q) hsp0
  have hdp : 0 < q / sp := by
    generalize q / sp = y at *
    apply Classical.byContradiction
    intro c
    have h1 := Rat.mul_le_mul_of_nonneg_right (show y ≤ 0 by grind) (Rat.le_of_lt hsp0)
    grind
  generalize hy : q / sp = y at *
  have hev2 : sp * (now + y - (s.1 : Rat)) = part + q := by grind
  have hle2 : now + y ≤ (s.2 : Rat) := by
    apply Rat.not_lt.mp
    intro c
    have h1 := Rat.mul_lt_mul_of_pos_left (show (s.2 : Rat) - (s.1 : Rat) < now + y - (s.1 : Rat) by grind) hsp0
    rw [z3, hev2] at h1
    grind
  have hP : PcR J D ⟨now, now + y, jt.nm, sp⟩ := by
    refine ⟨by simp only; grind, by simp only; grind, hsp0, z2, ⟨jt, hjm, rfl, ?_, ?_⟩, hdsp, ?_, ?_⟩
    · have := Rat.intCast_le_intCast.mpr hin.1
      simp only
      grind
    · have := Rat.intCast_le_intCast.mpr hin.2
      simp only
      grind
    · have e : sp * now = part + sp * (s.1 : Rat) := by grind
      show Dv D (sp * now)
      rw [e]
      exact hsd.add hsplo
    · have e : sp * (now + y) = part + q + sp * (s.1 : Rat) := by grind
      show Dv D (sp * (now + y))
      rw [e]
      exact (hsd.add hqd).add hsplo
  refine ⟨hsp0, hP, ⟨?_, by grind, hle2, ?_, fun p hp => ?_, fun p hp => ?_, fun a j hj => ?_, ?_⟩⟩
  · rw [hld, hspv, hev2, htt, ls_append]
    simp only [ls]
    rw [hpt, hq]
    grind
  · refine List.pairwise_append.mpr ⟨R.ord, List.pairwise_singleton _ _, fun p hp w hw => ?_⟩
    rw [List.mem_singleton.mp hw]
    exact hfore p hp
  · rcases List.mem_append.mp hp with hp | hp
    · exact R.pc p hp
    · rw [List.mem_singleton.mp hp]
      exact hP
  · rcases List.mem_append.mp hp with hp | hp
    · have := hfore p hp
      grind
    · rw [List.mem_singleton.mp hp]
      exact Rat.le_refl
  · rw [ls_append, hwk a j hj, htt, ls_append]
    simp only [ls]
    unfold wkP
    simp only
    by_cases e : atR J.length sft t = a
    · rw [e] at hjt
      rw [hj] at hjt
      have := Option.some.inj hjt
      subst this
      rw [if_pos rfl, if_pos e, ← e, hq]
      grind
    · rw [if_neg e, if_neg]
      · grind
      · intro e2
        have e3 := nd_eq X.jin.nd hjm (List.mem_of_getElem? hj) e2
        subst e3
        obtain ⟨b1, b2⟩ := List.getElem?_eq_some_iff.mp hjt
        obtain ⟨c1, c2⟩ := List.getElem?_eq_some_iff.mp hj
        have hnd := nodup_of X.jin.nd
        rcases Nat.lt_trichotomy (atR J.length sft t) a with hlt | heq | hgt
        · exact List.pairwise_iff_getElem.mp hnd _ _ b1 c1 hlt (by rw [b2, c2])
        · exact e heq
        · exact List.pairwise_iff_getElem.mp hnd _ _ c1 b1 hgt (by rw [b2, c2])
  · rw [List.length_append, List.length_singleton]
    omega
theorem sl_end (X : RvCx J pts slots qss) {D k : Nat} {ps : List (Pc Str)} {s : Int × Int} (hs : slots[k]? = some s) {sft : Nat} {now : Rat} (R : SlSt J qss D k s sft J.length now ps) (hsft : sft < J.length) : RvSt J slots qss D (k + 1) ps := by
  refine ⟨R.ord, R.pc, fun m s' hm hs' p hp => ?_, fun a j hj => ?_, ?_⟩
  · have h1 := R.fore p hp
    have h2 := R.hi
    have h3 := Rat.intCast_le_intCast.mpr (X.later hs hs' (by omega))
    grind
  · rw [R.wk a j hj, List.range_succ, ls_append]
    simp only [ls]
    obtain ⟨ha, _⟩ := List.getElem?_eq_some_iff.mp hj
    obtain ⟨i0, h1, h2⟩ := atR_hit hsft ha
    have e : ls (fun i => if atR J.length sft i = a then shF qss k a else 0) (List.range J.length) = ls (fun i => if i = i0 then shF qss k a else 0) (List.range J.length) := ls_congr fun i hi => by
      rw [List.mem_range] at hi
      by_cases c : i = i0
      · rw [if_pos c, if_pos ((h2 i hi).mpr c)]
      · rw [if_neg c, if_neg fun z => c ((h2 i hi).mp z)]
    rw [e, range_one h1]
    grind
  · have := R.len
    have := X.jin.few
    omega
theorem sl_none (X : RvCx J pts slots qss) {D k : Nat} {ps : List (Pc Str)} (R : RvSt J slots qss D k ps) (h : J = []) : RvSt J slots qss D (k + 1) ps := by
  refine ⟨R.ord, R.pc, fun m s' hm hs' p hp => R.fore m s' (by omega) hs' p hp, fun a j hj => ?_, by have := R.len; omega⟩
  rw [h] at hj
  simp at hj
theorem rv_end (X : RvCx J pts slots qss) {D : Nat} (d0 : 0 < D) (d1 : D ≤ 2 ^ 274) {ps : List (Pc Str)} (R : RvSt J slots qss D slots.length ps) : Rival J ps ∧ PsOk J D ps := by
  have hgood : ∀ p ∈ ps, Good p := fun p hp => ⟨(R.pc p hp).lo, (R.pc p hp).lt⟩
  have hdu : ∀ p ∈ ps, p.en ≤ 10000 := fun p hp => by
    obtain ⟨j, hj, _, _, h⟩ := (R.pc p hp).jb
    have h2 := Rat.intCast_le_intCast.mpr (X.jin.row j hj).2.2
    have h3 : ((10000 : Int) : Rat) = 10000 := rfl
    rw [h3] at h2
    exact Rat.le_trans h h2
  refine ⟨⟨⟨hgood, R.ord.imp fun h => .inl h, fun j hj q hq e => ?_⟩, fun q hq => ?_, fun j hj => ?_⟩, ⟨d0, Nat.le_trans d1 (Nat.pow_le_pow_right (by decide) (by decide)), fun p hp => ?_, hgood, hdu, ?_⟩⟩
  · obtain ⟨i, hi, e1, h, _⟩ := (R.pc q hq).jb
    have : i = j := nd_eq X.jin.nd hi hj (by rw [← e1, e])
    rw [← this]
    exact h
  · obtain ⟨i, hi, e1, _, h⟩ := (R.pc q hq).jb
    exact ⟨Rat.le_of_lt (R.pc q hq).s0, i, hi, e1.symm, h⟩
  · obtain ⟨a, ha, e⟩ := List.mem_iff_getElem.mp hj
    have hja : J[a]? = some j := by rw [← e]; exact List.getElem?_eq_getElem ha
    have hqa : qss[a]? = some (qss[a]'(by rw [X.qlen]; exact ha)) := List.getElem?_eq_getElem _
    have S := X.sh a j _ hja hqa
    have h := R.wk a j hja
    have e2 : ls (fun m => shF qss m a) (List.range slots.length) = ls (fun q => q) (qss[a]'(by rw [X.qlen]; exact ha)) := by
      rw [← S.len, ← range_get 0 (fun q => q)]
      apply ls_congr
      intro m _
      unfold shF
      rw [List.getD_eq_getElem?_getD (l := qss), hqa]
      rfl
    rw [e2, S.sum] at h
    exact h
  · have P := R.pc p hp
    have hs1 : p.sp ≤ 1048576 := by have := P.s1; grind
    have hd4 : D < 2 ^ 4000 := Nat.lt_of_le_of_lt d1 (Nat.pow_lt_pow_right (by decide) (by decide))
    have hsb : p.sp ≤ huge := by have := huge_ge; grind
    have h10 := hdu p hp
    have hl := P.lo
    have hlt := P.lt
    refine ⟨P.dv.1, P.dv.2.1, P.dv.2.2, P.s0, hs1, ⟨(good_of P.dv.2.1 (Rat.le_of_lt P.s0) hs1 hl (by grind)).sm d0 hd4 P.s0 P.dv.1 hsb, (good_of P.dv.2.2 (Rat.le_of_lt P.s0) hs1 (by grind) (by grind)).sm d0 hd4 P.s0 P.dv.1 hsb⟩, ?_⟩
    obtain ⟨j, hj, e, _⟩ := P.jb
    exact ⟨j, hj, e⟩
  · have := R.len
    have := X.slen
    omega
end
end SW

set_option Elab.async false
set_option linter.all false
set_option maxRecDepth 100000
set_option maxHeartbeats 4000000
set_option exponentiation.threshold 300
namespace SW
open PySem PySem.Spec PyProof.Rows L2
/-- a row of shares in the heap -/
def RwL (K : PySem.W.Frag) (p D : Addr) (H : Hp) (v : V) (qs : List Rat) : Prop := ∃ a ws, v = .ref a ∧ a ≠ p ∧ a ≠ D ∧ H a = some (.lst ws) ∧ Paired (RatV K H) ws qs
theorem rows_sb {K : PySem.W.Frag} {sl p D : Addr} {b : Nat} {H H' : Hp} {vs : List V} {xs : List (List Rat)} (hp : PoolAt K sl H p b) (e : SameBut p H H') (h : Paired (RwL K p D H) vs xs) : Paired (RwL K p D H') vs xs := pair_mono (fun _ _ ⟨a, ws, h1, h2, h5, h3, h4⟩ => ⟨a, ws, h1, h2, h5, e _ _ h2 h3, rats_tup (pool_tup hp e) h4⟩) h
theorem rows_upd {K : PySem.W.Frag} {p D : Addr} {H : Hp} {ys zs : List V} {vs : List V} {xs : List (List Rat)} (hD : H D = some (.lst ys)) (h : Paired (RwL K p D H) vs xs) : Paired (RwL K p D (upd H D (.lst zs))) vs xs := pair_mono (fun _ _ ⟨a, ws, h1, h2, h5, h3, h4⟩ => ⟨a, ws, h1, h2, h5, by rw [upd_ne h5]; exact h3, rats_tup (Tup.lst hD) h4⟩) h
def slotsOf (pts : List Int) (n : Nat) : List (Int × Int) := (List.range n).map fun k => (pts.getD k 0, pts.getD (k + 1) 0)
theorem slotsOf_get {pts : List Int} {n k : Nat} {s : Int × Int} (h : (slotsOf pts n)[k]? = some s) (hn : n ≤ pts.length - 1) : pts[k]? = some s.1 ∧ pts[k + 1]? = some s.2 := by
  unfold slotsOf at h
  rw [List.getElem?_map] at h
  obtain ⟨m, hm, rfl⟩ := Option.map_eq_some_iff.mp h
  obtain ⟨h1, h2⟩ := List.getElem?_eq_some_iff.mp hm
  rw [List.getElem_range] at h2
  subst h2
  rw [List.length_range] at h1
  simp only
  rw [List.getD_eq_getElem?_getD, List.getD_eq_getElem?_getD, List.getElem?_eq_getElem (show k < pts.length by omega), List.getElem?_eq_getElem (show k + 1 < pts.length by omega)]
  exact ⟨rfl, rfl⟩
theorem num_pos {q : Rat} : 0 < q.num ↔ 0 < q := by
  refine ⟨fun h => ?_, num_pos'⟩
  have h1 := Rat.num_nonneg.mp (Int.le_of_lt h)
  have h2 : q ≠ 0 := fun e => by
    rw [e] at h
    exact absurd h (by decide)
  grind
theorem slot_in {J : List (Jb Str)} {pts : List Int} {slots : List (Int × Int)} (P : PtOk J pts) (hl : slots.length = pts.length - 1) (hs : ∀ (k : Nat) (s : Int × Int), slots[k]? = some s → pts[k]? = some s.1 ∧ pts[k + 1]? = some s.2) {j : Jb Str} (hj : j ∈ J) (hlt : j.cm < j.du) : ∃ s ∈ slots, inW j s := by
  obtain ⟨h1, h2⟩ := P.mem j hj
  obtain ⟨i, hi, e1⟩ := List.mem_iff_getElem.mp h1
  obtain ⟨m, hm, e2⟩ := List.mem_iff_getElem.mp h2
  have hpw := List.pairwise_iff_getElem.mp P.sorted
  have him : i < m := by
    rcases Nat.lt_trichotomy i m with h | h | h
    · exact h
    · subst h
      omega
    · have := hpw m i hm hi h
      omega
  have hk : i < slots.length := by omega
  obtain ⟨g1, g2⟩ := hs i slots[i] (List.getElem?_eq_getElem hk)
  obtain ⟨g3, g4⟩ := List.getElem?_eq_some_iff.mp g1
  obtain ⟨g5, g6⟩ := List.getElem?_eq_some_iff.mp g2
  refine ⟨slots[i], List.getElem_mem hk, ?_, ?_⟩
  · omega
  · by_cases c : i + 1 = m
    · subst c
      omega
    · have := hpw (i + 1) m g5 hm (by omega)
      omega
theorem num_over {x : Rat} {h : Int} (hh : 0 < h) : ((x.num : Int) : Rat) / (((x.den : Int) * h : Int) : Rat) = x / (h : Rat) := by
  have hp : (0 : Rat) < (h : Rat) := by
    have := Rat.intCast_lt_intCast.mpr hh
    simpa using this
  have hd := rat_den_pos x
  have hn := num_eq x
  rw [Rat.intCast_mul, Rat.intCast_natCast]
  have q1 := div_mul (x := x) hp
  have q2 := div_mul (x := (x.num : Rat)) (Rat.mul_pos hd hp)
  generalize (x.num : Rat) / ((x.den : Rat) * (h : Rat)) = y at *
  generalize x / (h : Rat) = z at *
  have h7 : (y - z) * ((x.den : Rat) * (h : Rat)) = 0 := by grind
  rcases Rat.mul_eq_zero.mp h7 with h8 | h8
  · grind
  · have := Rat.mul_pos hd hp
    grind
theorem pc_sm {J : List (Jb Str)} {D : Nat} (d0 : 0 < D) (d1 : D ≤ 2 ^ 274) {now y sp : Rat} {nm : Str} (P : PcR J D ⟨now, now + y, nm, sp⟩) (hy : Dv D (sp * y)) (hh : now + y ≤ 10000) : Sm now ∧ Sm y ∧ Sm sp ∧ Sm (now + y) := by
  have hs1 : sp ≤ 1048576 := by have := P.s1; simp only at this; grind
  have hd4 : D < 2 ^ 4000 := Nat.lt_of_le_of_lt d1 (Nat.pow_lt_pow_right (by decide) (by decide))
  have hsb : sp ≤ huge := by have := huge_ge; grind
  have h1 := P.lo
  have h2 := P.lt
  have h3 := P.s0
  simp only at h1 h2 h3
  exact ⟨(good_of P.dv.2.1 (Rat.le_of_lt h3) hs1 h1 (by simp only; grind)).sm d0 hd4 h3 P.dv.1 hsb, (good_of hy (Rat.le_of_lt h3) hs1 (by grind) (by grind)).sm d0 hd4 h3 P.dv.1 hsb, sm_d d0 (Nat.lt_trans hd4 (Nat.pow_lt_pow_right (by decide) (by decide))) P.dv.1 (by have := huge_ge; grind) hsb, (good_of P.dv.2.2 (Rat.le_of_lt h3) hs1 (by simp only; grind) (by simp only; grind)).sm d0 hd4 h3 P.dv.1 hsb⟩
section
variable {P : Program} {w : World} {K : PySem.W.Frag} {mg : Str → Option Value} {base : Heap}
abbrev rvN : List Str := ["_law_pool_here", "_law_jobs_here", "_law_points_here", "_law_k", "_law_slots", "_law_rows", "_law_pieces", "_law_low", "_law_high", "_law_load", "_law_speed", "_law_now", "_law_shift", "_law_j", "_law_at", "_law_stop", "_law_job", "_law_row"]
theorem scRv : FnScope ["_law_pool_here", "_law_jobs_here", "_law_points_here", "_law_k", "_law_slots", "_law_rows", "_law_pieces", "_law_low", "_law_high", "_law_load", "_law_speed", "_law_now", "_law_shift", "_law_j", "_law_at", "_law_stop", "_law_job", "_law_row"] ["_law_pool_here", "_law_jobs_here"] (defScope (top 58)) := ⟨rfl, rfl, rfl, by decide +kernel, rfl, by decide +kernel, by decide +kernel⟩
def spRv (K : PySem.W.Frag) : Sp := fun vs H Q _ => ∃ p l b us J, vs = [.ref p, .ref l] ∧ SqT K H l us ∧ Paired (JiV K H) us J ∧ JobsIn J ∧ ∃ sl, PoolAt K sl H p b ∧ b ≤ 700000 ∧
  ∀ r H' ws rs E, SameBut p H H' → PoolAt K sl H' p (b + 140) → SqT K H' r ws → Paired (PcV K H') ws rs → Rival J rs → PsOk J E rs → Q (.ref r) H'
theorem ok_rv (T : TF K mg "_law_rival" (top 58) ["_law_pool_here", "_law_jobs_here"]) (gT : mg "tuple" = none) (gR : mg "range" = none) (gL : mg "len" = none) (gI : mg "int" = none) (DR : Def P w K mg base "_law_draw" ["_law_pool_here", "_law_many"] [] 1 (spDr K)) (LR : Def P w K mg base "_law_ratio" ["_law_top", "_law_bottom"] [] 2 (spLR K)) (PT : Def P w K mg base "_law_points" ["_law_pool_here", "_law_jobs_here"] [] 2 (spPt K)) (SH : Def P w K mg base "_law_shares" ["_law_pool_here", "_law_job", "_law_slots"] [] 3 (spSh K)) (LS : Def P w K mg base "_law_sum" ["_law_rows"] [] 4 (spLS K))
    (LP : Def P w K mg base "_law_plus" ["_law_a", "_law_b"] [] 3 (spR2 K (· + ·) C2)) (LO : Def P w K mg base "_law_over" ["_law_a", "_law_b"] [] 3 (spR2 K (· / ·) fun x y => Sm x ∧ Sm y ∧ 0 < y ∧ ((x.den : Int) * y.num).natAbs < 2 ^ 9000)) : Def P w K mg base "_law_rival" ["_law_pool_here", "_law_jobs_here"] [] 5 (spRv K) := by
  refine T.ok scRv (fun vs H Q E h => ?_) (fun f cdv A outer s_ H vs Q E hr h => ⟨_, (pss_cons (ps_set (i := 2) scRv.nd rfl (.inr rfl) (pe_def PT (hr.mono (by decide)) (pa_cons (pv 0 (hv := Or.inr (Or.inl rfl))) (pa_cons (pv 1) pa_nil)))) (pss_cons (ps_set (i := 4) scRv.nd rfl (.inr rfl) (pe_lc (own := [("_law_k", 3)]) (te := tTup (tCons (tOp (rIxL K) (tVar 2) (tVar 3)) (tCons (tOp (rIxL K) (tVar 2) (tOp _ (tVar 3) (tC (.int 1)))) tNil))) rfl scRv.nd (pi_range1 (by rfl) gR (pa_cons (pe_op op_sub (pe_callB call_len_seq (by rfl) gL (by decide +kernel) (pa_cons (pv 2 (hv := Or.inr (Or.inl rfl))) pa_nil)) pe_int) pa_nil)) (blkOk_by (own := [("_law_k", 3)]) (N := ["_law_pool_here", "_law_jobs_here", "_law_points_here", "_law_k", "_law_slots", "_law_rows", "_law_pieces", "_law_low", "_law_high", "_law_load", "_law_speed", "_law_now", "_law_shift", "_law_j", "_law_at", "_law_stop", "_law_job", "_law_row"]) (sc := defScope (top 58)) (by decide +kernel)) (fun _ _ _ _ _ => by exact (pg_name (i := 3) scRv.nd rfl (.inl rfl))) (fun _ _ _ _ _ => by exact pts_nil) (fun _ _ _ _ _ => by exact (pe_tup (pa_cons (pe_ix ix_list (pv 2 (hv := Or.inr (Or.inl rfl))) (pv 3) (fun _ _ => rfl)) (pa_cons (pe_ix ix_list (pv 2 (hv := Or.inr (Or.inl rfl))) (pe_op op_add (pv 3) pe_int) (fun _ _ => rfl)) pa_nil)))))) (pss_cons (ps_setLc (i := 5) (own := [("_law_job", 16)]) (te := tCall (spSh K) [] E0 (tCons (tVar 0) (tCons (tVar 16) (tCons (tVar 4) tNil)))) rfl scRv.nd rfl rfl (sw_true rfl rfl rfl (by decide +kernel)) (pi_tup (pv 1)) (blkOk_by (own := [("_law_job", 16)]) (N := ["_law_pool_here", "_law_jobs_here", "_law_points_here", "_law_k", "_law_slots", "_law_rows", "_law_pieces", "_law_low", "_law_high", "_law_load", "_law_speed", "_law_now", "_law_shift", "_law_j", "_law_at", "_law_stop", "_law_job", "_law_row"]) (sc := defScope (top 58)) (by decide +kernel)) (fun _ _ _ _ _ => by exact (pg_name (i := 16) scRv.nd rfl (.inl rfl))) (fun _ _ _ _ _ => by exact pts_nil) (fun _ _ _ _ _ => by exact (pe_def SH (hr.mono (by decide)) (pa_cons (pv 0 (hv := Or.inr (Or.inl rfl))) (pa_cons (pv 16) (pa_cons (pv 4 (hv := Or.inr (Or.inl rfl))) pa_nil)))))) (pss_cons (ps_set (i := 6) scRv.nd rfl (.inl rfl) (pe_lst pa_nil)) (pss_cons (ps_for PassesOwn.never rfl (pi_range1 (by rfl) gR (pa_cons (pe_callB call_len_seq (by rfl) gL (by decide +kernel) (pa_cons (pv 4 (hv := Or.inr (Or.inl rfl))) pa_nil)) pa_nil)) (pg_name (i := 3) scRv.nd rfl (.inr rfl)) (pss_cons (ps_asg (pe_ix ix_list (pv 4 (hv := Or.inr (Or.inl rfl))) (pv 3 (hv := Or.inr (Or.inl rfl))) (fun _ _ => rfl)) (pg_tup rfl (pgs_cons (pg_name (i := 7) scRv.nd rfl (.inl rfl)) (pgs_cons (pg_name (i := 8) scRv.nd rfl (.inl rfl)) pgs_nil)))) (pss_cons (ps_set (i := 9) scRv.nd rfl (.inl rfl) (pe_def LS (hr.mono (by decide)) (pa_cons (pe_lc (own := [("_law_row", 17)]) (te := tOp (rIxL K) (tVar 17) (tVar 3)) rfl scRv.nd (pi_list (pv 5)) (blkOk_by (own := [("_law_row", 17)]) (N := ["_law_pool_here", "_law_jobs_here", "_law_points_here", "_law_k", "_law_slots", "_law_rows", "_law_pieces", "_law_low", "_law_high", "_law_load", "_law_speed", "_law_now", "_law_shift", "_law_j", "_law_at", "_law_stop", "_law_job", "_law_row"]) (sc := defScope (top 58)) (by decide +kernel)) (fun _ _ _ _ _ => by exact (pg_name (i := 17) scRv.nd rfl (.inl rfl))) (fun _ _ _ _ _ => by exact pts_nil) (fun _ _ _ _ _ => by exact (pe_ix ix_list (pv 17) (pv 3 (hv := Or.inr (Or.inl rfl))) (fun _ _ => rfl)))) pa_nil))) (pss_cons (ps_set (i := 10) scRv.nd rfl (.inl rfl) (pe_def LR (hr.mono (by decide)) (pa_cons (pe_ix ix_tup (pv 9) pe_int (fun _ _ => rfl)) (pa_cons (pe_op op_mulW (pe_ix ix_tup (pv 9) pe_int (fun _ _ => rfl)) (pe_op op_sub (pv 8) (pv 7))) pa_nil)))) (pss_cons (ps_set (i := 11) scRv.nd rfl (.inl rfl) (pe_tup (pa_cons (pv 7) (pa_cons pe_int pa_nil)))) (pss_cons (ps_set (i := 12) scRv.nd rfl (.inl rfl) (pe_def DR (hr.mono (by decide)) (pa_cons (pv 0 (hv := Or.inr (Or.inl rfl))) (pa_cons (pe_callB call_len_seq (by rfl) gL (by decide +kernel) (pa_cons (pv 1) pa_nil)) pa_nil)))) (pss_one (ps_for PassesOwn.never rfl (pi_range1 (by rfl) gR (pa_cons (pe_callB call_len_seq (by rfl) gL (by decide +kernel) (pa_cons (pv 1) pa_nil)) pa_nil)) (pg_name (i := 13) scRv.nd rfl (.inl rfl)) (pss_cons (ps_set (i := 14) scRv.nd rfl (.inl rfl) (pe_op op_mod (pe_callTy call_int1 (by rfl) gI (by decide +kernel) (pa_cons (pe_op op_add (pv 13) (pv 12)) pa_nil)) (pe_callB call_len_seq (by rfl) gL (by decide +kernel) (pa_cons (pv 1) pa_nil)))) (pss_one (ps_if (pt_cmpR op_gt (pe_ix ix_tup (pe_ix ix_list (pe_ix ix_list (pv 5) (pv 14) (fun _ _ => rfl)) (pv 3 (hv := Or.inr (Or.inl rfl))) (fun _ _ => rfl)) pe_int (fun _ _ => rfl)) pe_int (nomark _)) (pss_cons (ps_set (i := 15) scRv.nd rfl (.inl rfl) (pe_def LP (hr.mono (by decide)) (pa_cons (pv 11) (pa_cons (pe_def LO (hr.mono (by decide)) (pa_cons (pe_ix ix_list (pe_ix ix_list (pv 5) (pv 14) (fun _ _ => rfl)) (pv 3 (hv := Or.inr (Or.inl rfl))) (fun _ _ => rfl)) (pa_cons (pv 10) pa_nil))) pa_nil)))) (pss_cons (ps_expr (pe_bm PySem.F.plainAttrs_list PySem.F.slot_list_append PySem.F.type_list_append mt_append (pv 6) (pa_cons (pe_tup (pa_cons (pv 11) (pa_cons (pv 15) (pa_cons (pe_ix ix_tup (pe_ix ix_tup (pv 1) (pv 14) (fun _ _ => rfl)) pe_int (fun _ _ => rfl)) (pa_cons (pv 10) pa_nil))))) pa_nil))) (pss_one (ps_set (i := 11) scRv.nd rfl (.inl rfl) (pv 15))))) pss_nil))))))))))) (pss_one (ps_ret (pe_callTy call_tuple_of (by rfl) gT (by decide +kernel) (pa_cons (pv 6) pa_nil))))))))), ?_⟩)
  · obtain ⟨_, _, _, _, _, rfl, _⟩ := h
    rfl
  · obtain ⟨p, l, b, us, J, rfl, hl, hp, I, sl, hpo, hb, kk⟩ := h
    have hfew := I.few
    have hul := pair_len hp
    refine ⟨_, rfl, _, rfl, p, l, b, us, J, rfl, hl, hp, I, sl, hpo, by omega, fun ap H1 pts SB1 hp1 zap hap PK => ?_⟩
    refine ⟨_, rfl, ap, _, rfl, .inl (SqL.of hap), _, _, rfl, rfl, ?_⟩
    have hpl := PK.len
    have hpl18 : pts.length ≤ 18 := by omega
    refine ⟨((pts.map V.int).length : Int) - 1, rfl, by rw [List.length_map]; omega, by rw [List.length_map]; omega, fun D4 nD4 => ?_⟩
    obtain ⟨zD4, npD4, nsD4⟩ := pool_free hpo SB1 nD4 hp1.lst
    refine lc_range (lo := 0) (n := (((pts.map V.int).length : Int) - 1).toNat) (fun i H5 => ∃ us, H5 D4 = some (.lst us) ∧ Same H1 H5 ∧ Paired (SlV K H5) us (slotsOf pts i)) ⟨[], upd_same, same_new nD4, .nil⟩ ?_ ?_
    · rintro i H5 hi ⟨vs, hD4, S5, hvs⟩
      rw [List.length_map] at hi
      have hat : ∀ k, k < pts.length → (pts.map V.int)[k]? = some (.int (pts.getD k 0)) := fun k hk => by
        rw [List.getElem?_map, List.getD_eq_getElem?_getD, List.getElem?_eq_getElem hk]
        rfl
      have hap5 := SqL.of (K := K) (S5 _ _ hap)
      refine ⟨wp (wp0 _ _), ?_⟩
      refine tyes ?_
      refine iteT ?_
      refine ⟨_, rfl, _, rfl, ap, _, _, _, rfl, rfl, hap5, at_of (j := i) (by omega) (hat i (by omega)), _, rfl, _, rfl, _, _, rfl, rfl, ap, _, _, _, rfl, rfl, hap5, at_of (j := i + 1) (by omega) (hat (i + 1) (by omega)), (by show 2 ≤ sizeLine; decide), fun t nt => ?_⟩
      obtain ⟨a1, a2, a3, a4, a5⟩ := app_tup (K := K) (xs := [V.int (pts.getD i 0), V.int (pts.getD (i + 1) 0)]) S5 nD4 hD4 nt
      have hvl := pair_len hvs
      unfold slotsOf at hvl
      rw [List.length_map, List.length_range] at hvl
      refine ⟨vs, a1, small (by omega), _, a4, a2, ?_⟩
      have e : slotsOf pts (i + 1) = slotsOf pts i ++ [(pts.getD i 0, pts.getD (i + 1) 0)] := by
        unfold slotsOf
        rw [List.range_succ, List.map_append]
        rfl
      rw [e]
      exact pair_snoc (sls_tup a3 hvs) ⟨t, rfl, a5⟩
    · rintro H2 ⟨us4, hD4, S2, hsv⟩
      have e4 : (((pts.map V.int).length : Int) - 1).toNat = pts.length - 1 := by rw [List.length_map]; omega
      rw [e4] at hsv
      have hsl : ∀ (k : Nat) (s : Int × Int), (slotsOf pts (pts.length - 1))[k]? = some s → pts[k]? = some s.1 ∧ pts[k + 1]? = some s.2 := fun k s h => slotsOf_get h (Nat.le_refl _)
      have hslen : (slotsOf pts (pts.length - 1)).length = pts.length - 1 := by unfold slotsOf; rw [List.length_map, List.length_range]
      generalize slotsOf pts (pts.length - 1) = slots at *
      have SB2 : SameBut p H H2 := SB1.trans (SameBut.same S2)
      have hp2 := hp1.same S2
      refine ⟨_, rfl, l, rfl, ⟨_, pool_tup hpo SB2 _ _ hl⟩, fun D5 nD5 => ?_⟩
      obtain ⟨zD5, npD5, nsD5⟩ := pool_free hp2 (SameBut.refl p H2) nD5 hp2.lst
      have n45 : D4 ≠ D5 := ne_of_none hD4 nD5
      have hl2 := pool_tup hpo SB2 _ _ hl
      have hpj2 := jis_tup (pool_tup hpo SB2) hp
      refine lc_tup (K := K) (a := l) (xs := us) (fun i H6 => ∃ vs qss, H6 D5 = some (.lst vs) ∧ SameBut p H2 H6 ∧ PoolAt K sl H6 p (b + 12 + 18 * i) ∧ Paired (RwL K p D5 H6) vs qss ∧ qss.length = i ∧ ∀ (a : Nat) (j : Jb Str) (qs : List Rat), (J.take i)[a]? = some j → qss[a]? = some qs → ShOk j slots qs)
        ⟨[], [], upd_same, SameBut.same (same_new nD5), pool_upd hp2 npD5 nsD5 _, .nil, rfl, fun a j qs h => by simp at h⟩ (fun i H6 _ ⟨_, _, _, e, _⟩ => pool_tup hp2 e _ _ hl2) ?_ ?_
      · rintro i y H6 hi ⟨vs, qss, hD5, SB6, hp6, hrw, hql, hsh⟩
        obtain ⟨j, hj, aj, zi, rfl, haj, hzi⟩ := pair_get hpj2 hi
        have hjm := List.mem_of_getElem? hj
        obtain ⟨hj1, hj2⟩ := List.getElem?_eq_some_iff.mp hj
        obtain ⟨z, w1, w2, w3⟩ := I.wk j hjm
        have ez : z = zi := Rat.intCast_inj.mp (by rw [← w1, hzi])
        subst ez
        have hvl := pair_len hrw
        refine ⟨wp (wp0 _ _), ?_⟩
        refine tyes ?_
        refine iteT ?_
        refine ⟨_, rfl, _, rfl, _, rfl, p, aj, D4, b + 12 + 18 * i, us4, slots, j, z, rfl, pool_tup hp2 SB6 _ _ haj, hzi, w2, w3, SB6 _ _ npD4 hD4, npD4, sls_tup (pool_tup hp2 SB6) hsv, by omega, slot_in PK hslen hsl hjm (I.row j hjm).2.1, sl, hp6, by omega, fun r H7 ws qs SB7 hp7 zr hr7 hws S7 => ?_⟩
        have hD57 := SB7 _ _ npD5 hD5
        have nr5 : r ≠ D5 := fun e => by
          rw [e, hD5] at zr
          cases zr
        have nrp : r ≠ p := fun e => by
          obtain ⟨xs6, hx6⟩ := hp6.lst
          rw [e, hx6] at zr
          cases zr
        refine ⟨vs, hD57, small (by omega), vs ++ [.ref r], qss ++ [qs], upd_same, sb_upd (SB6.trans SB7) zD5 _, (pool_upd hp7 npD5 (by
          obtain ⟨ms, i', r', c', k', g1, g2, g⟩ := hp2
          exact ne_of_none g2 zD5) _).mono (by omega), ?_, by simp; omega, fun a j' qs' ha hq => ?_⟩
        · refine pair_snoc (rows_upd hD57 (rows_sb hp6 SB7 hrw)) ⟨r, ws, rfl, nrp, nr5, by rw [upd_ne nr5]; exact hr7, rats_tup (Tup.lst hD57) hws⟩
        · rw [List.take_succ_eq_append_getElem hj1, hj2] at ha
          have hlt : (J.take i).length = i := by rw [List.length_take]; omega
          by_cases c : a < i
          · rw [List.getElem?_append_left (by omega)] at ha
            rw [List.getElem?_append_left (by omega)] at hq
            exact hsh a j' qs' ha hq
          · rw [List.getElem?_append_right (by omega)] at ha
            rw [List.getElem?_append_right (by omega)] at hq
            rw [hlt] at ha
            rw [hql] at hq
            by_cases c2 : a - i = 0
            · rw [c2] at ha hq
              simp only [List.getElem?_cons_zero, Option.some.injEq] at ha hq
              rw [← ha, ← hq]
              exact S7
            · rw [List.getElem?_eq_none (by simp; omega)] at ha
              cases ha
      · rintro H4 ⟨rv, qss, hD5, SB4, hp4, hrw, hql, hsh⟩
        rw [hul] at hp4 hql hsh
        rw [List.take_length] at hsh
        have X : RvCx J pts slots qss := ⟨I, PK, hsl, by omega, hql, hsh⟩
        obtain ⟨B, D, b0, b1, hB, d0, d1, hBD, hspD⟩ := X.parts
        have SB04 := SB2.trans SB4
        have hD44 := SB4 _ _ npD4 hD4
        have hsv4 := sls_tup (pool_tup hp2 SB4) hsv
        refine ⟨Nat.zero_le _, fun D6 nD6 => ?_⟩
        obtain ⟨zD6, npD6, nsD6⟩ := pool_free hp4 (SameBut.refl p H4) nD6 hp4.lst
        have n56 : D5 ≠ D6 := ne_of_none hD5 nD6
        have n46 : D4 ≠ D6 := ne_of_none hD44 nD6
        have z6 : H D6 = none := (pool_free hpo SB04 nD6 hp4.lst).1
        have hus4 := pair_len hsv
        refine ⟨_, rfl, D4, _, rfl, .inl (SqL.of (by rw [upd_ne n46]; exact hD44)), ?_⟩
        refine ⟨(us4.length : Int), rfl, by omega, by omega, for_range (lo := 0) (n := (us4.length : Int).toNat) (fun i σ H' => ∃ o3 o7 o8 o9 o10 o11 o12 o13 o14 o15 wq ps, σ = [some (.ref p), some (.ref l), some (.ref ap), o3, some (.ref D4), some (.ref D5), some (.ref D6), o7, o8, o9, o10, o11, o12, o13, o14, o15, none, none] ∧ SameBut p H4 H' ∧ PoolAt K sl H' p (b + 120 + i) ∧ H' D6 = some (.lst wq) ∧ Paired (PcV K H') wq ps ∧ RvSt J slots qss D i ps)
          ⟨none, none, none, none, none, none, none, none, none, none, [], [], rfl, SameBut.same (same_new nD6), (pool_upd hp4 npD6 nsD6 _).mono (by omega), upd_same, .nil, rv_begin⟩ ?_ ?_⟩
        · rintro i σ H5 hi ⟨o3, o7, o8, o9, o10, o11, o12, o13, o14, o15, wq, ps, rfl, SB5, hp5, hD6, hps, R⟩
          have hi' : i < us4.length := by omega
          have hat4 : us4[i]? = some us4[i] := List.getElem?_eq_getElem hi'
          obtain ⟨s, hs, as, e, has⟩ := pair_get hsv4 hat4
          rw [e] at hat4
          have has5 := pool_tup hp4 SB5 _ _ has
          have hD45 := SB5 _ _ npD4 hD44
          have hD55 := SB5 _ _ npD5 hD5
          obtain ⟨y1, y2, y3⟩ := X.slot hs
          have hJ0 : 0 < J.length := by
            have := PK.len
            omega
          refine ⟨_, rfl, _, rfl, D4, us4, _, _, rfl, rfl, SqL.of hD45, at_of (j := i) (by omega) hat4, as, _, rfl, has5, rfl, _, _, rfl, _, _, rfl, rfl, ?_⟩
          have hrw5 := rows_sb hp4 SB5 hrw
          refine ⟨_, rfl, D5, rfl, ⟨_, SqL.of hD55⟩, fun Dl nDl => ?_⟩
          have hrow : ∀ (n : Nat) (qs : List Rat), qss[n]? = some qs → qs.length = slots.length ∧ qs.getD i 0 = shF qss i n := fun n qs hqs => by
            obtain ⟨hq1, hq2⟩ := List.getElem?_eq_some_iff.mp hqs
            refine ⟨(X.sh n _ qs (List.getElem?_eq_getElem (show n < J.length by omega)) hqs).len, ?_⟩
            unfold shF
            rw [List.getD_eq_getElem?_getD (l := qss), hqs]
            rfl
          refine lc_list (K := K) (a := D5) (xs := rv) (fun n H6 => ∃ vs, H6 Dl = some (.lst vs) ∧ Same H5 H6 ∧ Paired (RatV K H6) vs ((qss.take n).map fun qs => qs.getD i 0)) ⟨[], upd_same, same_new nDl, .nil⟩ (fun n H6 _ ⟨_, _, e, _⟩ => SqL.of (e _ _ hD55)) ?_ ?_
          · rintro n y H6 hn ⟨vs, hDl, S6, hvs⟩
            obtain ⟨qs, hqs, ar, ws, rfl, nrp, nr5, har, hws⟩ := pair_get hrw5 hn
            obtain ⟨hq1, hq2⟩ := List.getElem?_eq_some_iff.mp hqs
            obtain ⟨hlq, hge⟩ := hrow n qs hqs
            have hlw := pair_len hws
            have hi2 : i < ws.length := by omega
            have hatw : ws[i]? = some ws[i] := List.getElem?_eq_getElem hi2
            obtain ⟨q, hq, hqv⟩ := pair_get hws hatw
            refine ⟨wp (wp0 _ _), ?_⟩
            refine tyes ?_
            refine iteT ?_
            refine ⟨_, rfl, _, rfl, ar, ws, _, _, rfl, rfl, SqL.of (S6 _ _ har), at_of (j := i) (by omega) hatw, ?_⟩
            obtain ⟨a1, a2, a3⟩ := app_val (K := K) (v := ws[i]) S6 nDl hDl
            have hvl := pair_len hvs
            rw [List.length_map, List.length_take] at hvl
            refine ⟨vs, hDl, small (by omega), _, a3, a1, ?_⟩
            rw [List.take_succ_eq_append_getElem hq1, hq2, List.map_append]
            refine pair_snoc (rats_tup a2 hvs) ?_
            have eq : qs.getD i 0 = q := by rw [List.getD_eq_getElem?_getD, hq]; rfl
            show RatV K _ ws[i] (qs.getD i 0)
            rw [eq]
            exact (hqv.same S6).tup a2
          · rintro H6 ⟨vs, hDl, S6, hvs⟩
            rw [pair_len hrw5, List.take_length] at hvs
            have hxs : ∀ x ∈ qss.map (fun qs => qs.getD i 0), Dv B x ∧ 0 ≤ x ∧ x ≤ 10000 := fun x hx => by
              obtain ⟨qs, hqs, rfl⟩ := List.mem_map.mp hx
              obtain ⟨n, hn, e2⟩ := List.mem_iff_getElem.mp hqs
              obtain ⟨_, hge⟩ := hrow n qs (by rw [← e2]; exact List.getElem?_eq_getElem hn)
              rw [hge]
              exact ⟨hB i n, (X.share i n).1, (X.share i n).2.1⟩
            have hb37 : B ≤ 2 ^ 3700 := Nat.le_trans b1 (Nat.pow_le_pow_right (by decide) (by decide))
            have hsums : ∀ n, Sm (ls (fun x => x) ((qss.map fun qs => qs.getD i 0).take n)) := fun n => by
              have hc := ls_cap (f := fun x : Rat => x) (k := 10000) (n := 6) (A := (qss.map fun qs => qs.getD i 0).take n) (by rw [List.length_take, List.length_map]; omega) (fun x hx => (hxs x (List.mem_of_mem_take hx)).2.1) (fun x hx => (hxs x (List.mem_of_mem_take hx)).2.2)
              have e6 : ((6 * 10000 : Nat) : Rat) = 60000 := by decide +kernel
              rw [e6] at hc
              exact sm_n b0 hb37 (Dv.ls fun x hx => (hxs x (List.mem_of_mem_take hx)).1) (by grind) (by grind)
            have hldv : ls (fun x => x) (qss.map fun qs => qs.getD i 0) = ldF qss i := by
              rw [ls_map]
              rfl
            have hldsm : Sm (ldF qss i) := by
              have := hsums qss.length
              rw [List.take_of_length_le (by rw [List.length_map]; exact Nat.le_refl _), hldv] at this
              exact this
            refine ⟨Dl, vs, _, rfl, SqL.of hDl, hvs, fun x hx => sm_n b0 hb37 (hxs x hx).1 (by have := (hxs x hx).2.1; grind) (by have := (hxs x hx).2.2; grind), hsums, fun vl H7 S7 hvl => ?_⟩
            rw [hldv] at hvl
            obtain ⟨tl, rfl, htl⟩ := hvl
            have hp14 : ∀ z : Int, z.natAbs ≤ 10000 → z.natAbs < 2 ^ 4600 := fun z hz => Nat.lt_of_le_of_lt hz (Nat.lt_of_lt_of_le (show 10000 < 2 ^ 14 by decide) (Nat.pow_le_pow_right (by decide) (by decide)))
            have hden0 := (ldF qss i).den_pos
            have hds : ((ldF qss i).den : Int).natAbs < 2 ^ 4600 := by
              rw [Int.natAbs_natCast]
              exact Nat.lt_trans hldsm.1 (Nat.pow_lt_pow_right (by decide) (by decide))
            refine ⟨_, rfl, tl, _, _, _, rfl, rfl, htl, rfl, _, rfl, tl, _, _, _, rfl, rfl, htl, rfl, _, rfl, _, rfl, _, _, rfl, rfl, _, _, rfl, rfl, cm hds (hp14 _ (by omega)), _, _, rfl, Int.mul_pos (by omega) (by omega), ?_, fun vsp H8 S8 hvsp => ?_⟩
            · rw [Int.natAbs_mul, Int.natAbs_natCast]
              exact Nat.lt_of_lt_of_le (Nat.mul_lt_mul'' hldsm.1 (show (s.2 - s.1).natAbs < 2 ^ 14 from Nat.lt_of_le_of_lt (show (s.2 - s.1).natAbs ≤ 10000 by omega) (by decide))) (by rw [← Nat.pow_add]; exact Nat.pow_le_pow_right (by decide) (by decide))
            rw [num_over (by omega)] at hvsp
            refine ⟨_, rfl, (by show 2 ≤ sizeLine; decide), fun tn ntn => ?_⟩
            have S9 := same_new (o := .tup [V.int s.1, V.int 1]) ntn
            have htn : RatV K (upd H8 tn (.tup [V.int s.1, V.int 1])) (.ref tn) (s.1 : Rat) := ⟨tn, rfl, SqT.of upd_same⟩
            generalize upd H8 tn (.tup [V.int s.1, V.int 1]) = H9 at *
            have S59 := ((S6.trans S7).trans S8).trans S9
            have hp9 := hp5.same S59
            have SB9 : SameBut p H4 H9 := SB5.trans (SameBut.same S59)
            have hl9 := pool_tup hpo (SB04.trans SB9) _ _ hl
            refine ⟨_, rfl, _, rfl, l, us, rfl, .inr hl9, p, _, b + 120 + i, rfl, _, hp9, by omega, by omega, by omega, fun r H10 r0 r1 SB10 hp10 => ?_⟩
            have SB410 := SB9.trans SB10
            have hl10 := pool_tup hpo (SB04.trans SB410) _ _ hl
            have T10 : Tup K H9 H10 := pool_tup hp9 SB10
            have hr : r = ((r.toNat : Nat) : Int) := by omega
            refine ⟨_, rfl, l, us, rfl, .inr hl10, ?_⟩
            refine ⟨(us.length : Int), rfl, by omega, by omega, for_range (lo := 0) (n := (us.length : Int).toNat) (fun t σ H' => ∃ o13 o14 o15 vnow wq ps now, σ = [some (.ref p), some (.ref l), some (.ref ap), some (.int (0 + (i : Int))), some (.ref D4), some (.ref D5), some (.ref D6), some (.int s.1), some (.int s.2), some (.ref tl), some vsp, some vnow, some (.int r), o13, o14, o15, none, none] ∧ SameBut p H4 H' ∧ PoolAt K sl H' p (b + 121 + i) ∧ H' D6 = some (.lst wq) ∧ Paired (PcV K H') wq ps ∧ RatV K H' vnow now ∧ RatV K H' vsp (ldF qss i / ((s.2 - s.1 : Int) : Rat)) ∧ SlSt J qss D i s r.toNat t now ps)
              ⟨o13, o14, o15, .ref tn, wq, ps, _, rfl, SB410, hp10.mono (by omega), SB10 _ _ npD6 (S59 _ _ hD6), pcs_tup T10 (pcs_tup (Tup.same S59) hps), htn.tup T10, (hvsp.same S9).tup T10, sl_begin X R hs _⟩ ?_ ?_⟩
            · rintro t σ H11 ht ⟨o13, o14, o15, vnow, wq, ps, now, rfl, SB11, hp11, hD611, hps, hnow, hspv, ST⟩
              have htJ : t < J.length := by omega
              have hrJ : r.toNat < J.length := by omega
              have hl11 := pool_tup hpo (SB04.trans SB11) _ _ hl
              refine ⟨_, rfl, _, rfl, _, _, rfl, rfl, .inl ⟨_, rfl, _, rfl, l, us, rfl, .inr hl11, _, _, rfl, rfl, by omega, ?_⟩⟩
              have hatv : (0 + (t : Int) + r) % (us.length : Int) = (atR J.length r.toNat t : Int) := by
                have := atR_mod (n := J.length) hrJ htJ
                rw [hul, Int.zero_add, hr]
                exact this
              have haJ : atR J.length r.toNat t < J.length := atR_lt hrJ htJ
              have hrvl := pair_len hrw
              have hata : rv[atR J.length r.toNat t]? = some (rv[atR J.length r.toNat t]'(by omega)) := List.getElem?_eq_getElem _
              obtain ⟨qs, hqs, ar, ws, e1, nrp, nr5, har, hws⟩ := pair_get (rows_sb hp4 SB11 hrw) hata
              rw [e1] at hata
              obtain ⟨hlq, hge⟩ := hrow _ qs hqs
              have hlw := pair_len hws
              have hatw : ws[i]? = some (ws[i]'(by omega)) := List.getElem?_eq_getElem _
              obtain ⟨q, hq, tq, e2, htq⟩ := pair_get hws hatw
              rw [e2] at hatw
              have hqv : q = shF qss i (atR J.length r.toNat t) := by
                rw [← hge, List.getD_eq_getElem?_getD, hq]
                rfl
              have hD511 := SB11 _ _ npD5 hD5
              have hjt : J[atR J.length r.toNat t]? = some J[atR J.length r.toNat t] := List.getElem?_eq_getElem haJ
              obtain ⟨va, hva, aj, zj, e3, haj0, hzj⟩ := pair_get' hp hjt
              rw [e3] at hva
              have hsh := X.share i (atR J.length r.toNat t)
              refine ⟨_, rfl, _, rfl, D5, rv, _, _, rfl, rfl, SqL.of hD511, at_of (j := atR J.length r.toNat t) hatv hata, _, rfl, ar, ws, _, _, rfl, rfl, SqL.of har, at_of (j := i) (by omega) hatw, tq, _, _, _, rfl, rfl, htq, rfl, _, _, rfl, rfl, _, rfl, ?_⟩
              refine ite2 (fun c => ?_) (fun c => ?_)
              · have hq0 : 0 < q := num_pos.mp (of_decide_eq_true c)
                rw [hqv] at hq0
                obtain ⟨sp0, PR, ST'⟩ := sl_step X hB d0 hBD hspD hs ST hrJ htJ hq0 hjt
                have hdm := div_mul (x := shF qss i (atR J.length r.toNat t)) sp0
                have hy9 : (s.2 : Rat) ≤ 10000 := by
                  have := Rat.intCast_le_intCast.mpr y3
                  simpa using this
                have hST'hi := ST'.hi
                obtain ⟨sm1, sm2, sm3, sm4⟩ := pc_sm d0 d1 PR (by
                  rw [Rat.mul_comm, hdm]
                  exact (hB i _).up hBD) (by grind)
                have smq : Sm q := sm_n b0 hb37 (by rw [hqv]; exact hB i _) (by rw [hqv]; grind) (by rw [hqv]; have := hsh.2.1; grind)
                refine ⟨_, rfl, _, rfl, _, rfl, D5, rv, _, _, rfl, rfl, SqL.of hD511, at_of (j := atR J.length r.toNat t) hatv hata, _, rfl, ar, ws, _, _, rfl, rfl, SqL.of har, at_of (j := i) (by omega) hatw, _, rfl, .ref tq, vsp, q, _, rfl, ⟨tq, rfl, htq⟩, hspv, ⟨smq, sm3, sp0, ?_⟩, fun y1 H12 S12 hy1 => ?_⟩
                · rw [Int.natAbs_mul, Int.natAbs_natCast]
                  exact Nat.lt_of_lt_of_le (Nat.mul_lt_mul'' smq.1 sm3.2) (by rw [← Nat.pow_add]; exact Nat.pow_le_pow_right (by decide) (by decide))
                rw [hqv] at hy1
                refine ⟨vnow, y1, now, _, rfl, hnow.same S12, hy1, ⟨sm1, sm2⟩, fun y2 H13 S13 hy2 => ?_⟩
                have S11 := S12.trans S13
                have SB13 : SameBut p H4 H13 := SB11.trans (SameBut.same S11)
                have T013 := pool_tup hpo (SB04.trans SB13)
                have hD613 := S11 _ _ hD611
                refine ⟨_, rfl, .inl ⟨rfl, _, SqL.of hD613⟩, _, rfl, _, rfl, _, rfl, _, rfl, l, us, _, _, rfl, rfl, T013 _ _ hl, at_of (j := atR J.length r.toNat t) hatv hva, aj, _, _, _, rfl, rfl, T013 _ _ haj0, rfl, _, rfl, (by show 4 ≤ sizeLine; decide), fun tp ntp => ?_⟩
                have S14 := same_new (o := .tup [vnow, y2, .str (J[atR J.length r.toNat t]).nm, vsp]) ntp
                have htp : SqT K (upd H13 tp (.tup [vnow, y2, .str (J[atR J.length r.toNat t]).nm, vsp])) tp [vnow, y2, .str (J[atR J.length r.toNat t]).nm, vsp] := SqT.of upd_same
                have hD614 := S14 _ _ hD613
                generalize upd H13 tp (.tup [vnow, y2, .str (J[atR J.length r.toNat t]).nm, vsp]) = H14 at *
                have S114 := S11.trans S14
                have T15 : Tup K H14 (upd H14 D6 (.lst (wq ++ [.ref tp]))) := Tup.lst hD614
                have TA := (Tup.same (K := K) S114).trans T15
                have hwl := pair_len hps
                have hstl := ST.len
                have hslen := X.slen
                refine ⟨D6, wq, .ref tp, rfl, rfl, hD614, small (by omega), ?_⟩
                refine ⟨_, rfl, _, _, _, y2, wq ++ [.ref tp], _, _, rfl, sb_upd (SB11.trans (SameBut.same S114)) zD6 _, pool_upd (hp11.same S114) npD6 nsD6 _, upd_same, pair_snoc (pcs_tup TA hps) ?_, hy2.tup ((Tup.same (K := K) S14).trans T15), hspv.tup TA, ST'⟩
                exact ⟨tp, vnow, y2, vsp, rfl, T15 _ _ htp, hnow.tup TA, hy2.tup ((Tup.same (K := K) S14).trans T15), hspv.tup TA⟩
              · have hq0 : ¬ 0 < q := fun h => c (decide_eq_true (num_pos.mpr h))
                have hz : shF qss i (atR J.length r.toNat t) = 0 := by
                  rw [← hqv]
                  have := hsh.1
                  rw [← hqv] at this
                  grind
                exact ⟨_, _, _, vnow, wq, ps, now, rfl, SB11, hp11, hD611, hps, hnow, hspv, sl_skip ST hz⟩
            · rintro σ H11 ⟨o13, o14, o15, vnow, wq, ps, now, rfl, SB11, hp11, hD611, hps, hnow, hspv, ST⟩
              have e11 : (us.length : Int).toNat = J.length := by omega
              rw [e11] at ST
              exact ⟨_, _, _, _, _, _, _, _, _, _, wq, ps, rfl, SB11, hp11.mono (by omega), hD611, hps, sl_end X hs ST (by omega)⟩
        · rintro σ H5 ⟨o3, o7, o8, o9, o10, o11, o12, o13, o14, o15, wq, ps, rfl, SB5, hp5, hD6, hps, R⟩
          have e5 : (us4.length : Int).toNat = slots.length := by omega
          rw [e5] at R
          obtain ⟨Q1, Q2⟩ := rv_end X d0 d1 R
          refine ⟨_, rfl, D6, wq, rfl, .inl ⟨SqL.of hD6, fun t nt => ?_⟩⟩
          have S6 := same_new (o := .tup wq) nt
          exact kk t _ wq ps D (SB04.trans (SB5.trans (SameBut.same S6))) ((hp5.same S6).mono (by omega)) (SqT.of upd_same) (pcs_tup (Tup.same S6) hps) Q1 Q2
end
end SW

set_option Elab.async false
set_option linter.all false
set_option maxRecDepth 100000
set_option maxHeartbeats 4000000
set_option exponentiation.threshold 300
namespace SW
open PySem PySem.Spec PyProof.Rows L2
theorem JobsIn.perm {J L : List (Jb Str)} (h : JobsIn J) (e : L.Perm J) : JobsIn L where
  few := by rw [e.length_eq]; exact h.few
  nd := (e.map _).nodup_iff.mpr h.nd
  row := fun j hj => h.row j (e.mem_iff.mp hj)
  wk := fun j hj => h.wk j (e.mem_iff.mp hj)
  str := fun j hj => h.str j (e.mem_iff.mp hj)
theorem JobsIn.ok {J : List (Jb Str)} (h : JobsIn J) : JobsOk J where
  nd := h.nd
  cm := fun j hj => ⟨(h.row j hj).1, (h.row j hj).2.1⟩
  wk := fun j hj => by
    obtain ⟨z, h1, h2, _⟩ := h.wk j hj
    rw [h1]
    have := Rat.intCast_lt_intCast.mpr h2
    simpa using this
theorem JobsIn.pw {J : List (Jb Str)} (h : JobsIn J) : PwOk J 1 where
  ok := h.ok
  few := by have := h.few; omega
  b0 := by decide
  b1 := Nat.one_lt_two_pow (by decide)
  dv := fun j hj => by
    obtain ⟨z, h1, _⟩ := h.wk j hj
    rw [h1]
    exact Dv.int 1 z
  wb := fun j hj => by
    obtain ⟨z, h1, _, h3⟩ := h.wk j hj
    rw [h1]
    have := Rat.intCast_le_intCast.mpr h3
    have e : ((10000 : Int) : Rat) = 10000 := rfl
    rw [e] at this
    grind
  du := fun j hj => (h.row j hj).2.2
  str := fun j hj => (h.str j hj).1
theorem best_ok {J : List (Jb Str)} (h : JobsIn J) {plan : List (Pc Str)} {D : Nat} (F : PlanFound J 1 plan D) : Rival J plan ∧ PsOk J D plan := by
  obtain ⟨rds, pcs, tl, hR, hpl, hperm, e⟩ := F.ex
  have hrv : Rival J plan := by
    rw [e]
    rcases hR with ⟨e1, e2⟩ | ⟨c, d, ⟨jc, hjc, e3⟩, _, hb, hr⟩
    · subst e1
      subst e2
      cases hpl
      have : tl = [] := by simpa using hperm
      subst this
      exact ⟨⟨fun _ h => (List.not_mem_nil h).elim, List.Pairwise.nil, fun _ h => (List.not_mem_nil h).elim⟩, fun _ h => (List.not_mem_nil h).elim, fun _ h => (List.not_mem_nil h).elim⟩
    · exact best_rival (ps := []) (qs := []) h.ok (by have := (h.row jc hjc).1; omega) hb hr hpl hperm
  have hfew := h.few
  have hd1 := F.d1
  have hlen := F.len
  refine ⟨hrv, F.d0, ?_, F.nc, fun p hp => hrv.fits.good p hp, fun p hp => ?_, ?_⟩
  · have h1 : ((2 : Nat) ^ 14) ^ J.length ≤ (2 ^ 14) ^ 6 := Nat.pow_le_pow_right (by decide) hfew
    rw [Nat.one_mul] at hd1
    have h2 : ((2 : Nat) ^ 14) ^ 6 = 2 ^ 84 := by rw [← Nat.pow_mul]
    rw [h2] at h1
    exact Nat.le_trans hd1 (Nat.le_trans h1 (Nat.pow_le_pow_right (by decide) (by decide)))
  · obtain ⟨_, j, hj, _, h2⟩ := hrv.win p hp
    have h3 := Rat.intCast_le_intCast.mpr (h.row j hj).2.2
    have e : ((10000 : Int) : Rat) = 10000 := rfl
    rw [e] at h3
    exact Rat.le_trans h2 h3
  · have h1 : 2 ^ J.length ≤ 2 ^ 6 := Nat.pow_le_pow_right (by decide) hfew
    have h2 : (2 : Nat) ^ 6 = 64 := by decide
    omega
theorem done_ok {L : List (Jb Str)} {ds : List (Pc Str)} {D : Nat} (h : DoneOk L ds D) : PsOk L D ds := ⟨h.d0, h.d1, h.nc, fun p hp => h.hist.fits.good p hp, h.up, h.len⟩
theorem cx_of {L : List (Jb Str)} (I : JobsIn L) {ds rs : List (Pc Str)} {D E : Nat} (h : DoneOk L ds D) (R : Rival L rs) (O : PsOk L E rs) : AcCx L ds rs D E (wkOf L) where
  hJ := I.ok
  few := I.few
  du := fun j hj => (I.row j hj).2.2
  wkz := fun j hj => by
    obtain ⟨z, h1, _, h3⟩ := I.wk j hj
    exact ⟨z, h1, h3⟩
  wk := fun j hj => wkOf_eq I.nd hj
  H := h.hist
  R := R
  o1 := done_ok h
  o2 := O
/-- a rival in the heap -/
def RvOk (K : PySem.W.Frag) (L : List (Jb Str)) (H : Hp) (v : V) : Prop := ∃ a ws rs E, v = .ref a ∧ SqT K H a ws ∧ Paired (PcV K H) ws rs ∧ Rival L rs ∧ PsOk L E rs
theorem RvOk.tup {K : PySem.W.Frag} {L : List (Jb Str)} {H H' : Hp} {v : V} (e : Tup K H H') (h : RvOk K L H v) : RvOk K L H' v := by
  obtain ⟨a, ws, rs, E, h1, h2, h3, h4⟩ := h
  exact ⟨a, ws, rs, E, h1, e _ _ h2, pcs_tup e h3, h4⟩
section
variable {P : Program} {w : World} {K : PySem.W.Frag} {mg : Str → Option Value} {base : Heap}
theorem scLaw : FnScope ["_law_script", "_law_pool_here", "_law_jobs_here", "_law_done", "_law_rival_here", "_law_before", "_law_rows", "_law_time", "_law_spent", "_law_other", "_law_store", "_law_over_here"] ["_law_script"] (defScope (top 61)) := ⟨rfl, rfl, rfl, by decide +kernel, rfl, by decide +kernel, by decide +kernel⟩
def spLaw (K : PySem.W.Frag) : Sp := fun vs H Q _ => ∃ (a : Addr) (ns : List Int), vs = [.ref a] ∧ SqL K H a (ns.map V.int) ∧ ns.length ≤ 63 ∧ ∀ H', Q (.bl true) H'
theorem ok_law {fl : Addr} {fdl : FuncData} (F : Fun K "law" "law" (top 61) fl fdl) (PO : Def P w K mg base "_law_pool" ["_law_script"] [] 1 (spPo K)) (JB : Def P w K mg base "_law_jobs" ["_law_pool_here", "_law_most"] [] 3 (spJb K)) (OR : Def P w K mg base "_law_in_order" ["_law_jobs_here"] [] 1 (spOr K)) (DV : Def P w K mg base "_law_driven" ["_law_jobs_here"] [] 7 (spDv K)) (RV : Def P w K mg base "_law_rival" ["_law_pool_here", "_law_jobs_here"] [] 5 (spRv K)) (BP : Def P w K mg base "best_plan" ["jobs"] [] 6 (spBP K)) (AC : Def P w K mg base "account" ["taken", "done", "rival"] [] 7 (spAc K))
    (LM : Def P w K mg base "_law_minus" ["_law_a", "_law_b"] [] 3 (spR2 K (· - ·) C2)) (LP : Def P w K mg base "_law_plus" ["_law_a", "_law_b"] [] 3 (spR2 K (· + ·) C2)) (LT : Def P w K mg base "_law_times" ["_law_a", "_law_b"] [] 3 (spR2 K (· * ·) C2)) (LL : Def P w K mg base "_law_less" ["_law_a", "_law_b"] [] 1 (spLess K)) : FnOk P w K mg base CX0 8 fl fdl ["_law_script"] (spLaw K) := by
  refine F.ok scLaw (fun vs H Q E h => ?_) (fun cdv A outer s_ H vs Q E hr h => ⟨_, PSs.nox (pss_cons (ps_set (i := 1) scLaw.nd rfl (.inl rfl) (pe_def PO (hr.mono (by decide)) (pa_cons (pv 0) pa_nil))) (pss_cons (ps_set (i := 2) scLaw.nd rfl (.inl rfl) (pe_def OR (hr.mono (by decide)) (pa_cons (pe_def JB (hr.mono (by decide)) (pa_cons (pv 1) (pa_cons pe_int pa_nil))) pa_nil))) (pss_cons (ps_set (i := 3) scLaw.nd rfl (.inl rfl) (pe_def DV (hr.mono (by decide)) (pa_cons (pv 2) pa_nil))) (pss_cons (ps_for PassesOwn.never rfl (pi_list (pe_lst (pa_cons (pe_def RV (hr.mono (by decide)) (pa_cons (pv 1) (pa_cons (pv 2) pa_nil))) (pa_cons (pe_def BP (hr.mono (by decide)) (pa_cons (pv 2) pa_nil)) pa_nil)))) (pg_name (i := 4) scLaw.nd rfl (.inl rfl)) (pss_cons (ps_set (i := 5) scLaw.nd rfl (.inl rfl) (pe_tup (pa_cons pe_int (pa_cons pe_int pa_nil)))) (pss_cons (ps_set (i := 6) scLaw.nd rfl (.inl rfl) (pe_def AC (hr.mono (by decide)) (pa_cons (pv 2) (pa_cons (pv 3) (pa_cons (pv 4) pa_nil))))) (pss_cons (ps_for PassesOwn.never rfl (pi_tup (pv 6)) (pg_tup rfl (pgs_cons (pg_name (i := 7) scLaw.nd rfl (.inl rfl)) (pgs_cons (pg_name (i := 8) scLaw.nd rfl (.inl rfl)) (pgs_cons (pg_name (i := 9) scLaw.nd rfl (.inl rfl)) (pgs_cons (pg_name (i := 10) scLaw.nd rfl (.inl rfl)) pgs_nil))))) (pss_cons (ps_set (i := 11) scLaw.nd rfl (.inl rfl) (pe_def LM (hr.mono (by decide)) (pa_cons (pe_def LP (hr.mono (by decide)) (pa_cons (pv 8) (pa_cons (pv 10) pa_nil))) (pa_cons (pe_def LT (hr.mono (by decide)) (pa_cons (pe_tup (pa_cons pe_int (pa_cons pe_int pa_nil))) (pa_cons (pv 9) pa_nil))) pa_nil)))) (pss_cons (ps_if (PW.pt (pw_or (pt_cmpR op_gt (pe_ix ix_tup (pv 11) pe_int (fun _ _ => rfl)) pe_int (nomark _)) (pw_or1 (pt_val (pe_def LL (hr.mono (by decide)) (pa_cons (pv 5) (pa_cons (pv 11) pa_nil))))))) (pss_one ps_never) pss_nil) (pss_one (ps_set (i := 5) scLaw.nd rfl (.inl rfl) (pv 11)))))) (pss_one (ps_if (pt_cmpR (op_neD hr.units) (pe_ix ix_tup (pe_ix ix_tup (pv 6) (pe_un un_neg pe_int) (fun _ _ => rfl)) pe_int (fun _ _ => rfl)) (pe_tup (pa_cons pe_int (pa_cons pe_int pa_nil))) (nomark _)) (pss_one ps_never) pss_nil)))))) (pss_one (ps_ret pe_bl)))))), ?_⟩)
  · obtain ⟨_, _, rfl, _⟩ := h
    rfl
  · obtain ⟨sl0, ns, rfl, hs, hns, kk⟩ := h
    refine ⟨_, rfl, sl0, ns, rfl, hs, fun p sl H1 S1 zp zl hp1 => ?_⟩
    refine ⟨_, rfl, p, 0, rfl, sl, hp1, by decide, fun rj H2 uj J SB2 hp2 hrj hpj IJ => ?_⟩
    refine ⟨rj, uj, J, rfl, hrj, hpj, IJ, fun l H3 us L S3 hl hpl hperm hsort => ?_⟩
    have IL := IJ.perm hperm
    refine ⟨_, rfl, l, us, L, rfl, hl, hpl, IL, hsort, fun rd H4 wd ds D S4 hrd hpd DO => ?_⟩
    have hp4 := (hp2.same S3).same S4
    have hl4 := sqT_same S4 hl
    have hpl4 := jis_tup (Tup.same S4) hpl
    refine ⟨_, rfl, _, rfl, p, l, 100, us, L, rfl, hl4, hpl4, IL, sl, hp4.mono (by omega), by decide, fun r1 H5 w1 rs1 E1 SB5 hp5 hr1 hpr1 RV1 PO1 => ?_⟩
    have T5 := pool_tup hp4 SB5
    refine ⟨_, rfl, l, us, L, rfl, T5 _ _ hl4, jis_tup T5 hpl4, IL.pw, fun r2 H6 w2 rs2 E2 S6 hr2 hpr2 PF => ?_⟩
    obtain ⟨RV2, PO2⟩ := best_ok IL PF
    have T6 : Tup K H4 H6 := T5.trans (Tup.same S6)
    refine ⟨(by show 2 ≤ sizeLine; decide), fun la nla => ?_⟩
    have S7 := same_new (o := .lst [V.ref r1, V.ref r2]) nla
    have hla : upd H6 la (.lst [V.ref r1, V.ref r2]) la = some (.lst [V.ref r1, V.ref r2]) := upd_same
    have R1 : RvOk K L (upd H6 la (.lst [V.ref r1, V.ref r2])) (.ref r1) := ⟨r1, w1, rs1, E1, rfl, sqT_same (S6.trans S7) hr1, pcs_tup (Tup.same (S6.trans S7)) hpr1, RV1, PO1⟩
    have R2 : RvOk K L (upd H6 la (.lst [V.ref r1, V.ref r2])) (.ref r2) := ⟨r2, w2, rs2, E2, rfl, sqT_same S7 hr2, pcs_tup (Tup.same S7) hpr2, RV2, PO2⟩
    have T7 : Tup K H4 (upd H6 la (.lst [V.ref r1, V.ref r2])) := T6.trans (Tup.same S7)
    generalize upd H6 la (.lst [V.ref r1, V.ref r2]) = H7 at *
    have hl7 := T7 _ _ hl4
    have hpl7 := jis_tup T7 hpl4
    have hd7 := T7 _ _ hrd
    have hpd7 := pcs_tup T7 hpd
    have hRv : ∀ (i : Nat) (v : V), ([V.ref r1, V.ref r2] : List V)[i]? = some v → RvOk K L H7 v := fun i v h => by
      match i, h with
      | 0, h => rw [← Option.some.inj h]; exact R1
      | 1, h => rw [← Option.some.inj h]; exact R2
    refine ⟨la, rfl, ⟨_, SqL.of hla⟩, for_list (K := K) (a := la) (xs := [V.ref r1, V.ref r2]) (fun i σ H' => ∃ o4 o5 o6 o7 o8 o9 o10 o11, σ = [some (.ref sl0), some (.ref p), some (.ref l), some (.ref rd), o4, o5, o6, o7, o8, o9, o10, o11] ∧ Same H7 H')
      ⟨none, none, none, none, none, none, none, none, rfl, fun _ _ h => h⟩ (fun i σ H' _ ⟨_, _, _, _, _, _, _, _, _, e⟩ => SqL.of (e _ _ hla)) ?_ ?_⟩
    · rintro i x σ H8 hi ⟨o4, o5, o6, o7, o8, o9, o10, o11, rfl, S8⟩
      obtain ⟨ar, wr, rs, Er, rfl, hr8, hpr8, RV, PS⟩ := (hRv i x hi).tup (Tup.same S8)
      have X := cx_of IL DO RV PS
      refine ⟨(by show 2 ≤ sizeLine; decide), fun tb ntb => ?_⟩
      have S9 := same_new (o := .tup [V.int 0, V.int 1]) ntb
      have htb : SqT K (upd H8 tb (.tup [V.int 0, V.int 1])) tb [.int 0, .int 1] := SqT.of upd_same
      generalize upd H8 tb (.tup [V.int 0, V.int 1]) = H9 at *
      have S79 := S8.trans S9
      have hI14 : ∀ j ∈ L, j.du.natAbs < 2 ^ 600 ∧ Sm (j.cm : Rat) := fun j hj => by
        have := IL.row j hj
        have h14 : ∀ z : Int, z.natAbs ≤ 10000 → ∀ k, 14 ≤ k → z.natAbs < 2 ^ k := fun z hz k hk => Nat.lt_of_le_of_lt hz (Nat.lt_of_lt_of_le (show 10000 < 2 ^ 14 by decide) (Nat.pow_le_pow_right (by decide) hk))
        exact ⟨h14 _ (by omega) _ (by decide), sm_int (h14 _ (by omega) _ (by decide))⟩
      refine ⟨_, rfl, _, rfl, _, rfl, l, us, L, rd, wd, ds, ar, wr, rs, wkOf L, rfl, sqT_same S79 hl7, jis_tup (Tup.same S79) hpl7, by have := IL.few; omega, sqT_same S79 hd7, pcs_tup (Tup.same S79) hpd7, sqT_same S9 hr8, pcs_tup (Tup.same S9) hpr8, DO.len, PS.len, X.wk, hI14, fun q hq => (DO.nc q hq).sm, fun q hq => (PS.nc q hq).sm, fun m hm => acc_ok X hm, fun ra H10 wa rows S10 hra hpa hsorted hmoms hrows => ?_⟩
      have O : RowsOk L ds rs (wkOf L) rows := ⟨hsorted, hmoms, hrows⟩
      have S710 := S79.trans S10
      have hfall := fun {i : Nat} {x : Rat × Rat} (h : rows[i]? = some x) => rows_fall X.hJ X.H X.R X.wk O h
      have hsm := fun {i : Nat} {x : Rat × Rat} (h : rows[i]? = some x) => row_sm X ((hmoms x.1).mp (List.mem_map.mpr ⟨x, List.mem_of_getElem? h, rfl⟩)) (hrows x (List.mem_of_getElem? h))
      refine ⟨_, rfl, ra, rfl, ⟨_, hra⟩, for_tup (K := K) (a := ra) (xs := wa) (fun i σ H' => ∃ vb o7 o8 o9 o10 o11, σ = [some (.ref sl0), some (.ref p), some (.ref l), some (.ref rd), some (.ref ar), some vb, some (.ref ra), o7, o8, o9, o10, o11] ∧ Same H10 H' ∧ RatV K H' vb (bef ds rs rows i))
        ⟨.ref tb, o7, o8, o9, o10, o11, rfl, fun _ _ h => h, zero_rat (sqT_same S10 htb)⟩ (fun i σ H' _ ⟨_, _, _, _, _, _, _, e, _⟩ => sqT_same e hra) ?_ ?_⟩
      · rintro n y σ H11 hn ⟨vb, o7, o8, o9, o10, o11, rfl, S11, hvb⟩
        obtain ⟨x, hx, aw, vm, v1, v2, v3, rfl, haw, hm, h1, h2, h3⟩ := pair_get hpa hn
        obtain ⟨q1, q2, q3, q4, q5, q6⟩ := hsm hx
        obtain ⟨f1, f2⟩ := hfall hx
        refine ⟨aw, _, rfl, sqT_same S11 haw, rfl, _, _, rfl, _, _, rfl, _, _, rfl, _, _, rfl, rfl, ?_⟩
        refine ⟨_, rfl, _, rfl, v1, v3, _, _, rfl, h1.same S11, h3.same S11, ⟨q1, q3⟩, fun u1 H12 S12 hu1 => ?_⟩
        refine ⟨(by show 2 ≤ sizeLine; decide), fun t4 nt4 => ?_⟩
        have S13 := same_new (o := .tup [V.int 4, V.int 1]) nt4
        have ht4 : RatV K (upd H12 t4 (.tup [V.int 4, V.int 1])) (.ref t4) ((4 : Int) : Rat) := ⟨t4, rfl, SqT.of upd_same⟩
        generalize upd H12 t4 (.tup [V.int 4, V.int 1]) = H13 at *
        have e4 : ((4 : Int) : Rat) = 4 := rfl
        rw [e4] at ht4
        have S1113 := S11.trans (S12.trans S13)
        refine ⟨_, rfl, .ref t4, v2, 4, _, rfl, ht4, h2.same S1113, ⟨⟨by decide +kernel, by decide +kernel⟩, q2⟩, fun u2 H14 S14 hu2 => ?_⟩
        refine ⟨u1, u2, _, _, rfl, (hu1.same S13).same S14, hu2, ⟨q4, q5⟩, fun u3 H15 S15 hu3 => ?_⟩
        have hu3' : RatV K H15 u3 (rowF ds rs x) := hu3
        obtain ⟨t3, rfl, ht3⟩ := hu3'
        have S1115 := (S12.trans S13).trans (S14.trans S15)
        refine ⟨_, rfl, t3, _, _, _, rfl, rfl, ht3, rfl, _, _, rfl, rfl, _, rfl, ?_⟩
        refine ite2 (fun c => ?_) (fun c => ?_)
        · exfalso
          have := num_pos.mp (of_decide_eq_true c)
          grind
        · have smf : Sm (rowF ds rs x) := q6
          have smb : Sm (bef ds rs rows n) := by
            cases n with
            | zero => exact zero_sm
            | succ k =>
              obtain ⟨h4, _⟩ := List.getElem?_eq_some_iff.mp hx
              have hk : rows[k]? = some rows[k] := List.getElem?_eq_getElem (by omega)
              have e : bef ds rs rows (k + 1) = rowF ds rs rows[k] := by
                show ((rows[k]?).map (rowF ds rs)).getD 0 = _
                rw [hk]
                rfl
              rw [e]
              exact (hsm hk).2.2.2.2.2
          refine ⟨_, rfl, _, rfl, vb, .ref t3, _, _, rfl, hvb.same S1115, ⟨t3, rfl, ht3⟩, ⟨smb, smf⟩, _, rfl, ?_⟩
          refine ite2 (fun c2 => ?_) (fun c2 => ?_)
          · exfalso
            have := of_decide_eq_true c2
            grind
          · refine ⟨_, rfl, _, _, _, _, _, _, rfl, S11.trans S1115, ?_⟩
            have e : bef ds rs rows (n + 1) = rowF ds rs x := by
              show ((rows[n]?).map (rowF ds rs)).getD 0 = _
              rw [hx]
              rfl
            rw [e]
            exact ⟨t3, rfl, ht3⟩
      · rintro σ H11 ⟨vb, o7, o8, o9, o10, o11, rfl, S11, hvb⟩
        have hne := rows_ne O
        have hlen : 0 < rows.length := List.length_pos_iff.mpr hne
        have hlast : rows[rows.length - 1]? = some (rows[rows.length - 1]'(by omega)) := List.getElem?_eq_getElem _
        have hz := rows_last X.H X.wk DO.all O hlast
        obtain ⟨vl, hvl, aw, vm, v1, v2, v3, rfl, haw, hm, h1, h2, h3⟩ := pair_get' hpa hlast
        rw [hz] at h3
        have hwl := pair_len hpa
        have hatl : atI wa (-1) = some (.ref aw) := by
          unfold atI ixN
          rw [if_neg (by decide), if_pos (by omega)]
          have e : (-1 + (wa.length : Int)).toNat = rows.length - 1 := by omega
          rw [e]
          exact hvl
        refine ⟨_, rfl, _, rfl, ra, wa, _, _, rfl, rfl, sqT_same S11 hra, hatl, aw, _, _, _, rfl, rfl, sqT_same S11 haw, rfl, (by show 2 ≤ sizeLine; decide), fun t nt => ?_⟩
        have S12 := same_new (o := .tup [V.int 0, V.int 1]) nt
        refine ⟨ratD 0, ratD 0, ((h3.same S11).same S12).dp, (zero_rat (SqT.of upd_same)).dp, rat_shaped _, rat_shaped _, _, rfl, ?_⟩
        rw [rat_eqv, decide_eq_true rfl]
        refine iteF ⟨_, _, _, _, _, _, _, _, rfl, (S710.trans S11).trans S12⟩
    · rintro σ H8 ⟨o4, o5, o6, o7, o8, o9, o10, o11, rfl, S8⟩
      exact kk H8
end
end SW

set_option Elab.async false
set_option linter.all false
set_option maxRecDepth 100000
set_option maxHeartbeats 4000000
namespace SW
open PySem PySem.Spec PyProof.Rows L2
theorem all_mk {P : Program} {w : World} {K : PySem.W.Frag} {h : Heap} {mg : Str → Option Value} {fa : Addr} (X : K.In h) (G : h.Ns mainGlobals mg) (hfa : mg "law" = some (.ref fa))
    {f_plus : Addr}
    {oc_plus : Value}
    {kV_plus : Value}
    {dc_plus : Value}
    {pm_plus : Value}
    {cd_plus : Value}
    {ct_plus : Value}
    {od_plus : Option Addr}
    {an_plus : Option Addr}
    {sl_plus : Array (Option Value)}
    {f_minus : Addr}
    {oc_minus : Value}
    {kV_minus : Value}
    {dc_minus : Value}
    {pm_minus : Value}
    {cd_minus : Value}
    {ct_minus : Value}
    {od_minus : Option Addr}
    {an_minus : Option Addr}
    {sl_minus : Array (Option Value)}
    {f_times : Addr}
    {oc_times : Value}
    {kV_times : Value}
    {dc_times : Value}
    {pm_times : Value}
    {cd_times : Value}
    {ct_times : Value}
    {od_times : Option Addr}
    {an_times : Option Addr}
    {sl_times : Array (Option Value)}
    {f_over : Addr}
    {oc_over : Value}
    {kV_over : Value}
    {dc_over : Value}
    {pm_over : Value}
    {cd_over : Value}
    {ct_over : Value}
    {od_over : Option Addr}
    {an_over : Option Addr}
    {sl_over : Array (Option Value)}
    {f_less : Addr}
    {oc_less : Value}
    {kV_less : Value}
    {dc_less : Value}
    {pm_less : Value}
    {cd_less : Value}
    {ct_less : Value}
    {od_less : Option Addr}
    {an_less : Option Addr}
    {sl_less : Array (Option Value)}
    {f_least : Addr}
    {oc_least : Value}
    {kV_least : Value}
    {dc_least : Value}
    {pm_least : Value}
    {cd_least : Value}
    {ct_least : Value}
    {od_least : Option Addr}
    {an_least : Option Addr}
    {sl_least : Array (Option Value)}
    {f_greatest : Addr}
    {oc_greatest : Value}
    {kV_greatest : Value}
    {dc_greatest : Value}
    {pm_greatest : Value}
    {cd_greatest : Value}
    {ct_greatest : Value}
    {od_greatest : Option Addr}
    {an_greatest : Option Addr}
    {sl_greatest : Array (Option Value)}
    {f_length : Addr}
    {oc_length : Value}
    {kV_length : Value}
    {dc_length : Value}
    {pm_length : Value}
    {cd_length : Value}
    {ct_length : Value}
    {od_length : Option Addr}
    {an_length : Option Addr}
    {sl_length : Array (Option Value)}
    {f_work_of : Addr}
    {oc_work_of : Value}
    {kV_work_of : Value}
    {dc_work_of : Value}
    {pm_work_of : Value}
    {cd_work_of : Value}
    {ct_work_of : Value}
    {od_work_of : Option Addr}
    {an_work_of : Option Addr}
    {sl_work_of : Array (Option Value)}
    {f_tidy : Addr}
    {oc_tidy : Value}
    {kV_tidy : Value}
    {dc_tidy : Value}
    {pm_tidy : Value}
    {cd_tidy : Value}
    {ct_tidy : Value}
    {od_tidy : Option Addr}
    {an_tidy : Option Addr}
    {sl_tidy : Array (Option Value)}
    {f_stretches : Addr}
    {oc_stretches : Value}
    {kV_stretches : Value}
    {dc_stretches : Value}
    {pm_stretches : Value}
    {cd_stretches : Value}
    {ct_stretches : Value}
    {od_stretches : Option Addr}
    {an_stretches : Option Addr}
    {sl_stretches : Array (Option Value)}
    {f_free_part : Addr}
    {oc_free_part : Value}
    {kV_free_part : Value}
    {dc_free_part : Value}
    {pm_free_part : Value}
    {cd_free_part : Value}
    {ct_free_part : Value}
    {od_free_part : Option Addr}
    {an_free_part : Option Addr}
    {sl_free_part : Array (Option Value)}
    {f_taken_away : Addr}
    {oc_taken_away : Value}
    {kV_taken_away : Value}
    {dc_taken_away : Value}
    {pm_taken_away : Value}
    {cd_taken_away : Value}
    {ct_taken_away : Value}
    {od_taken_away : Option Addr}
    {an_taken_away : Option Addr}
    {sl_taken_away : Array (Option Value)}
    {f_rounds_with : Addr}
    {oc_rounds_with : Value}
    {kV_rounds_with : Value}
    {dc_rounds_with : Value}
    {pm_rounds_with : Value}
    {cd_rounds_with : Value}
    {ct_rounds_with : Value}
    {od_rounds_with : Option Addr}
    {an_rounds_with : Option Addr}
    {sl_rounds_with : Array (Option Value)}
    {f_with_ratios : Addr}
    {oc_with_ratios : Value}
    {kV_with_ratios : Value}
    {dc_with_ratios : Value}
    {pm_with_ratios : Value}
    {cd_with_ratios : Value}
    {ct_with_ratios : Value}
    {od_with_ratios : Option Addr}
    {an_with_ratios : Option Addr}
    {sl_with_ratios : Array (Option Value)}
    {f_left_at : Addr}
    {oc_left_at : Value}
    {kV_left_at : Value}
    {dc_left_at : Value}
    {pm_left_at : Value}
    {cd_left_at : Value}
    {ct_left_at : Value}
    {od_left_at : Option Addr}
    {an_left_at : Option Addr}
    {sl_left_at : Array (Option Value)}
    {f_moments : Addr}
    {oc_moments : Value}
    {kV_moments : Value}
    {dc_moments : Value}
    {pm_moments : Value}
    {cd_moments : Value}
    {ct_moments : Value}
    {od_moments : Option Addr}
    {an_moments : Option Addr}
    {sl_moments : Array (Option Value)}
    {f_scaled : Addr}
    {oc_scaled : Value}
    {kV_scaled : Value}
    {dc_scaled : Value}
    {pm_scaled : Value}
    {cd_scaled : Value}
    {ct_scaled : Value}
    {od_scaled : Option Addr}
    {an_scaled : Option Addr}
    {sl_scaled : Array (Option Value)}
    {f_spent_until : Addr}
    {oc_spent_until : Value}
    {kV_spent_until : Value}
    {dc_spent_until : Value}
    {pm_spent_until : Value}
    {cd_spent_until : Value}
    {ct_spent_until : Value}
    {od_spent_until : Option Addr}
    {an_spent_until : Option Addr}
    {sl_spent_until : Array (Option Value)}
    {f_in_order : Addr}
    {oc_in_order : Value}
    {kV_in_order : Value}
    {dc_in_order : Value}
    {pm_in_order : Value}
    {cd_in_order : Value}
    {ct_in_order : Value}
    {od_in_order : Option Addr}
    {an_in_order : Option Addr}
    {sl_in_order : Array (Option Value)}
    {f_store : Addr}
    {oc_store : Value}
    {kV_store : Value}
    {dc_store : Value}
    {pm_store : Value}
    {cd_store : Value}
    {ct_store : Value}
    {od_store : Option Addr}
    {an_store : Option Addr}
    {sl_store : Array (Option Value)}
    {f_account : Addr}
    {oc_account : Value}
    {kV_account : Value}
    {dc_account : Value}
    {pm_account : Value}
    {cd_account : Value}
    {ct_account : Value}
    {od_account : Option Addr}
    {an_account : Option Addr}
    {sl_account : Array (Option Value)}
    {f_first_due : Addr}
    {oc_first_due : Value}
    {kV_first_due : Value}
    {dc_first_due : Value}
    {pm_first_due : Value}
    {cd_first_due : Value}
    {ct_first_due : Value}
    {od_first_due : Option Addr}
    {an_first_due : Option Addr}
    {sl_first_due : Array (Option Value)}
    {f_round_pieces : Addr}
    {oc_round_pieces : Value}
    {kV_round_pieces : Value}
    {dc_round_pieces : Value}
    {pm_round_pieces : Value}
    {cd_round_pieces : Value}
    {ct_round_pieces : Value}
    {od_round_pieces : Option Addr}
    {an_round_pieces : Option Addr}
    {sl_round_pieces : Array (Option Value)}
    {f_plan_with : Addr}
    {oc_plan_with : Value}
    {kV_plan_with : Value}
    {dc_plan_with : Value}
    {pm_plan_with : Value}
    {cd_plan_with : Value}
    {ct_plan_with : Value}
    {od_plan_with : Option Addr}
    {an_plan_with : Option Addr}
    {sl_plan_with : Array (Option Value)}
    {f_best_plan : Addr}
    {oc_best_plan : Value}
    {kV_best_plan : Value}
    {dc_best_plan : Value}
    {pm_best_plan : Value}
    {cd_best_plan : Value}
    {ct_best_plan : Value}
    {od_best_plan : Option Addr}
    {an_best_plan : Option Addr}
    {sl_best_plan : Array (Option Value)}
    {fL_pool : Addr}
    {ocL_pool : Value}
    {kVL_pool : Value}
    {dcL_pool : Value}
    {pmL_pool : Value}
    {cdL_pool : Value}
    {ctL_pool : Value}
    {odL_pool : Option Addr}
    {anL_pool : Option Addr}
    {slL_pool : Array (Option Value)}
    {fL_draw : Addr}
    {ocL_draw : Value}
    {kVL_draw : Value}
    {dcL_draw : Value}
    {pmL_draw : Value}
    {cdL_draw : Value}
    {ctL_draw : Value}
    {odL_draw : Option Addr}
    {anL_draw : Option Addr}
    {slL_draw : Array (Option Value)}
    {fL_gcd : Addr}
    {ocL_gcd : Value}
    {kVL_gcd : Value}
    {dcL_gcd : Value}
    {pmL_gcd : Value}
    {cdL_gcd : Value}
    {ctL_gcd : Value}
    {odL_gcd : Option Addr}
    {anL_gcd : Option Addr}
    {slL_gcd : Array (Option Value)}
    {fL_ratio : Addr}
    {ocL_ratio : Value}
    {kVL_ratio : Value}
    {dcL_ratio : Value}
    {pmL_ratio : Value}
    {cdL_ratio : Value}
    {ctL_ratio : Value}
    {odL_ratio : Option Addr}
    {anL_ratio : Option Addr}
    {slL_ratio : Array (Option Value)}
    {fL_plus : Addr}
    {ocL_plus : Value}
    {kVL_plus : Value}
    {dcL_plus : Value}
    {pmL_plus : Value}
    {cdL_plus : Value}
    {ctL_plus : Value}
    {odL_plus : Option Addr}
    {anL_plus : Option Addr}
    {slL_plus : Array (Option Value)}
    {fL_minus : Addr}
    {ocL_minus : Value}
    {kVL_minus : Value}
    {dcL_minus : Value}
    {pmL_minus : Value}
    {cdL_minus : Value}
    {ctL_minus : Value}
    {odL_minus : Option Addr}
    {anL_minus : Option Addr}
    {slL_minus : Array (Option Value)}
    {fL_times : Addr}
    {ocL_times : Value}
    {kVL_times : Value}
    {dcL_times : Value}
    {pmL_times : Value}
    {cdL_times : Value}
    {ctL_times : Value}
    {odL_times : Option Addr}
    {anL_times : Option Addr}
    {slL_times : Array (Option Value)}
    {fL_over : Addr}
    {ocL_over : Value}
    {kVL_over : Value}
    {dcL_over : Value}
    {pmL_over : Value}
    {cdL_over : Value}
    {ctL_over : Value}
    {odL_over : Option Addr}
    {anL_over : Option Addr}
    {slL_over : Array (Option Value)}
    {fL_less : Addr}
    {ocL_less : Value}
    {kVL_less : Value}
    {dcL_less : Value}
    {pmL_less : Value}
    {cdL_less : Value}
    {ctL_less : Value}
    {odL_less : Option Addr}
    {anL_less : Option Addr}
    {slL_less : Array (Option Value)}
    {fL_sum : Addr}
    {ocL_sum : Value}
    {kVL_sum : Value}
    {dcL_sum : Value}
    {pmL_sum : Value}
    {cdL_sum : Value}
    {ctL_sum : Value}
    {odL_sum : Option Addr}
    {anL_sum : Option Addr}
    {slL_sum : Array (Option Value)}
    {fL_name : Addr}
    {ocL_name : Value}
    {kVL_name : Value}
    {dcL_name : Value}
    {pmL_name : Value}
    {cdL_name : Value}
    {ctL_name : Value}
    {odL_name : Option Addr}
    {anL_name : Option Addr}
    {slL_name : Array (Option Value)}
    {fL_window : Addr}
    {ocL_window : Value}
    {kVL_window : Value}
    {dcL_window : Value}
    {pmL_window : Value}
    {cdL_window : Value}
    {ctL_window : Value}
    {odL_window : Option Addr}
    {anL_window : Option Addr}
    {slL_window : Array (Option Value)}
    {fL_jobs : Addr}
    {ocL_jobs : Value}
    {kVL_jobs : Value}
    {dcL_jobs : Value}
    {pmL_jobs : Value}
    {cdL_jobs : Value}
    {ctL_jobs : Value}
    {odL_jobs : Option Addr}
    {anL_jobs : Option Addr}
    {slL_jobs : Array (Option Value)}
    {fL_in_order : Addr}
    {ocL_in_order : Value}
    {kVL_in_order : Value}
    {dcL_in_order : Value}
    {pmL_in_order : Value}
    {cdL_in_order : Value}
    {ctL_in_order : Value}
    {odL_in_order : Option Addr}
    {anL_in_order : Option Addr}
    {slL_in_order : Array (Option Value)}
    {fL_driven : Addr}
    {ocL_driven : Value}
    {kVL_driven : Value}
    {dcL_driven : Value}
    {pmL_driven : Value}
    {cdL_driven : Value}
    {ctL_driven : Value}
    {odL_driven : Option Addr}
    {anL_driven : Option Addr}
    {slL_driven : Array (Option Value)}
    {fL_points : Addr}
    {ocL_points : Value}
    {kVL_points : Value}
    {dcL_points : Value}
    {pmL_points : Value}
    {cdL_points : Value}
    {ctL_points : Value}
    {odL_points : Option Addr}
    {anL_points : Option Addr}
    {slL_points : Array (Option Value)}
    {fL_shares : Addr}
    {ocL_shares : Value}
    {kVL_shares : Value}
    {dcL_shares : Value}
    {pmL_shares : Value}
    {cdL_shares : Value}
    {ctL_shares : Value}
    {odL_shares : Option Addr}
    {anL_shares : Option Addr}
    {slL_shares : Array (Option Value)}
    {fL_rival : Addr}
    {ocL_rival : Value}
    {kVL_rival : Value}
    {dcL_rival : Value}
    {pmL_rival : Value}
    {cdL_rival : Value}
    {ctL_rival : Value}
    {odL_rival : Option Addr}
    {anL_rival : Option Addr}
    {slL_rival : Array (Option Value)}
    {TR : Addr}
    {oR : Obj}
    {nR : Nat}
    {tR : Tok}
    {f_ratio : Addr}
    {oc_ratio : Value}
    {kV_ratio : Value}
    {dc_ratio : Value}
    {pm_ratio : Value}
    {cd_ratio : Value}
    {ct_ratio : Value}
    {od_ratio : Option Addr}
    {an_ratio : Option Addr}
    {sl_ratio : Array (Option Value)}
    {zz : Addr}
    {oZ : Obj}
    {nZ : Nat}
    {t0 t1 : Tok}
    {tM : Tok}
    {CS : Addr}
    {CR : Addr}
    {f_SI : Addr}
    {oc_SI : Value}
    {kV_SI : Value}
    {dc_SI : Value}
    {pm_SI : Value}
    {cd_SI : Value}
    {ct_SI : Value}
    {od_SI : Option Addr}
    {an_SI : Option Addr}
    {sl_SI : Array (Option Value)}
    {TI : Addr}
    {oI : Obj}
    {nI : Nat}
    {f_RI : Addr}
    {oc_RI : Value}
    {kV_RI : Value}
    {dc_RI : Value}
    {pm_RI : Value}
    {cd_RI : Value}
    {ct_RI : Value}
    {od_RI : Option Addr}
    {an_RI : Option Addr}
    {sl_RI : Array (Option Value)}
    {f_mload : Addr}
    {oc_mload : Value}
    {kV_mload : Value}
    {dc_mload : Value}
    {pm_mload : Value}
    {cd_mload : Value}
    {ct_mload : Value}
    {od_mload : Option Addr}
    {an_mload : Option Addr}
    {sl_mload : Array (Option Value)}
    {f_mlength : Addr}
    {oc_mlength : Value}
    {kV_mlength : Value}
    {dc_mlength : Value}
    {pm_mlength : Value}
    {cd_mlength : Value}
    {ct_mlength : Value}
    {od_mlength : Option Addr}
    {an_mlength : Option Addr}
    {sl_mlength : Array (Option Value)}
    {f_mdensest : Addr}
    {oc_mdensest : Value}
    {kV_mdensest : Value}
    {dc_mdensest : Value}
    {pm_mdensest : Value}
    {cd_mdensest : Value}
    {ct_mdensest : Value}
    {od_mdensest : Option Addr}
    {an_mdensest : Option Addr}
    {sl_mdensest : Array (Option Value)}
    {f_madvance : Addr}
    {oc_madvance : Value}
    {kV_madvance : Value}
    {dc_madvance : Value}
    {pm_madvance : Value}
    {cd_madvance : Value}
    {ct_madvance : Value}
    {od_madvance : Option Addr}
    {an_madvance : Option Addr}
    {sl_madvance : Array (Option Value)}
    {f_mwaiting : Addr}
    {oc_mwaiting : Value}
    {kV_mwaiting : Value}
    {dc_mwaiting : Value}
    {pm_mwaiting : Value}
    {cd_mwaiting : Value}
    {ct_mwaiting : Value}
    {od_mwaiting : Option Addr}
    {an_mwaiting : Option Addr}
    {sl_mwaiting : Array (Option Value)}
    {f_mtoo_late : Addr}
    {oc_mtoo_late : Value}
    {kV_mtoo_late : Value}
    {dc_mtoo_late : Value}
    {pm_mtoo_late : Value}
    {cd_mtoo_late : Value}
    {ct_mtoo_late : Value}
    {od_mtoo_late : Option Addr}
    {an_mtoo_late : Option Addr}
    {sl_mtoo_late : Array (Option Value)}
    {f_mdone : Addr}
    {oc_mdone : Value}
    {kV_mdone : Value}
    {dc_mdone : Value}
    {pm_mdone : Value}
    {cd_mdone : Value}
    {ct_mdone : Value}
    {od_mdone : Option Addr}
    {an_mdone : Option Addr}
    {sl_mdone : Array (Option Value)}
    {f_moffer : Addr}
    {oc_moffer : Value}
    {kV_moffer : Value}
    {dc_moffer : Value}
    {pm_moffer : Value}
    {cd_moffer : Value}
    {ct_moffer : Value}
    {od_moffer : Option Addr}
    {an_moffer : Option Addr}
    {sl_moffer : Array (Option Value)}
    {f_law : Addr}
    {oc_law : Value}
    {kV_law : Value}
    {dc_law : Value}
    {pm_law : Value}
    {cd_law : Value}
    {ct_law : Value}
    {od_law : Option Addr}
    {an_law : Option Addr}
    {sl_law : Array (Option Value)}
    (a_plus : PySem.W.nsIn K mainGlobals "plus" = some (some (.ref f_plus)))
    (l_plus : K.lookup f_plus = some ⟨oc_plus, od_plus, .func (PySem.W.fnOf "plus" "plus" (defArgs (top 5)) (defBody (top 5)) (defScope (top 5)) .none kV_plus dc_plus pm_plus an_plus cd_plus ct_plus), sl_plus⟩)
    (c_plus : PySem.W.codeIn K cd_plus "plus" = true)
    (k_plus : PySem.W.keepIn K (.ref f_plus) = true)
    (a_minus : PySem.W.nsIn K mainGlobals "minus" = some (some (.ref f_minus)))
    (l_minus : K.lookup f_minus = some ⟨oc_minus, od_minus, .func (PySem.W.fnOf "minus" "minus" (defArgs (top 6)) (defBody (top 6)) (defScope (top 6)) .none kV_minus dc_minus pm_minus an_minus cd_minus ct_minus), sl_minus⟩)
    (c_minus : PySem.W.codeIn K cd_minus "minus" = true)
    (k_minus : PySem.W.keepIn K (.ref f_minus) = true)
    (a_times : PySem.W.nsIn K mainGlobals "times" = some (some (.ref f_times)))
    (l_times : K.lookup f_times = some ⟨oc_times, od_times, .func (PySem.W.fnOf "times" "times" (defArgs (top 7)) (defBody (top 7)) (defScope (top 7)) .none kV_times dc_times pm_times an_times cd_times ct_times), sl_times⟩)
    (c_times : PySem.W.codeIn K cd_times "times" = true)
    (k_times : PySem.W.keepIn K (.ref f_times) = true)
    (a_over : PySem.W.nsIn K mainGlobals "over" = some (some (.ref f_over)))
    (l_over : K.lookup f_over = some ⟨oc_over, od_over, .func (PySem.W.fnOf "over" "over" (defArgs (top 8)) (defBody (top 8)) (defScope (top 8)) .none kV_over dc_over pm_over an_over cd_over ct_over), sl_over⟩)
    (c_over : PySem.W.codeIn K cd_over "over" = true)
    (k_over : PySem.W.keepIn K (.ref f_over) = true)
    (a_less : PySem.W.nsIn K mainGlobals "less" = some (some (.ref f_less)))
    (l_less : K.lookup f_less = some ⟨oc_less, od_less, .func (PySem.W.fnOf "less" "less" (defArgs (top 9)) (defBody (top 9)) (defScope (top 9)) .none kV_less dc_less pm_less an_less cd_less ct_less), sl_less⟩)
    (c_less : PySem.W.codeIn K cd_less "less" = true)
    (k_less : PySem.W.keepIn K (.ref f_less) = true)
    (a_least : PySem.W.nsIn K mainGlobals "least" = some (some (.ref f_least)))
    (l_least : K.lookup f_least = some ⟨oc_least, od_least, .func (PySem.W.fnOf "least" "least" (defArgs (top 10)) (defBody (top 10)) (defScope (top 10)) .none kV_least dc_least pm_least an_least cd_least ct_least), sl_least⟩)
    (c_least : PySem.W.codeIn K cd_least "least" = true)
    (k_least : PySem.W.keepIn K (.ref f_least) = true)
    (a_greatest : PySem.W.nsIn K mainGlobals "greatest" = some (some (.ref f_greatest)))
    (l_greatest : K.lookup f_greatest = some ⟨oc_greatest, od_greatest, .func (PySem.W.fnOf "greatest" "greatest" (defArgs (top 11)) (defBody (top 11)) (defScope (top 11)) .none kV_greatest dc_greatest pm_greatest an_greatest cd_greatest ct_greatest), sl_greatest⟩)
    (c_greatest : PySem.W.codeIn K cd_greatest "greatest" = true)
    (k_greatest : PySem.W.keepIn K (.ref f_greatest) = true)
    (a_length : PySem.W.nsIn K mainGlobals "length" = some (some (.ref f_length)))
    (l_length : K.lookup f_length = some ⟨oc_length, od_length, .func (PySem.W.fnOf "length" "length" (defArgs (top 13)) (defBody (top 13)) (defScope (top 13)) .none kV_length dc_length pm_length an_length cd_length ct_length), sl_length⟩)
    (c_length : PySem.W.codeIn K cd_length "length" = true)
    (k_length : PySem.W.keepIn K (.ref f_length) = true)
    (a_work_of : PySem.W.nsIn K mainGlobals "work_of" = some (some (.ref f_work_of)))
    (l_work_of : K.lookup f_work_of = some ⟨oc_work_of, od_work_of, .func (PySem.W.fnOf "work_of" "work_of" (defArgs (top 14)) (defBody (top 14)) (defScope (top 14)) .none kV_work_of dc_work_of pm_work_of an_work_of cd_work_of ct_work_of), sl_work_of⟩)
    (c_work_of : PySem.W.codeIn K cd_work_of "work_of" = true)
    (k_work_of : PySem.W.keepIn K (.ref f_work_of) = true)
    (a_tidy : PySem.W.nsIn K mainGlobals "tidy" = some (some (.ref f_tidy)))
    (l_tidy : K.lookup f_tidy = some ⟨oc_tidy, od_tidy, .func (PySem.W.fnOf "tidy" "tidy" (defArgs (top 15)) (defBody (top 15)) (defScope (top 15)) .none kV_tidy dc_tidy pm_tidy an_tidy cd_tidy ct_tidy), sl_tidy⟩)
    (c_tidy : PySem.W.codeIn K cd_tidy "tidy" = true)
    (k_tidy : PySem.W.keepIn K (.ref f_tidy) = true)
    (a_stretches : PySem.W.nsIn K mainGlobals "stretches" = some (some (.ref f_stretches)))
    (l_stretches : K.lookup f_stretches = some ⟨oc_stretches, od_stretches, .func (PySem.W.fnOf "stretches" "stretches" (defArgs (top 16)) (defBody (top 16)) (defScope (top 16)) .none kV_stretches dc_stretches pm_stretches an_stretches cd_stretches ct_stretches), sl_stretches⟩)
    (c_stretches : PySem.W.codeIn K cd_stretches "stretches" = true)
    (k_stretches : PySem.W.keepIn K (.ref f_stretches) = true)
    (a_free_part : PySem.W.nsIn K mainGlobals "free_part" = some (some (.ref f_free_part)))
    (l_free_part : K.lookup f_free_part = some ⟨oc_free_part, od_free_part, .func (PySem.W.fnOf "free_part" "free_part" (defArgs (top 18)) (defBody (top 18)) (defScope (top 18)) .none kV_free_part dc_free_part pm_free_part an_free_part cd_free_part ct_free_part), sl_free_part⟩)
    (c_free_part : PySem.W.codeIn K cd_free_part "free_part" = true)
    (k_free_part : PySem.W.keepIn K (.ref f_free_part) = true)
    (a_taken_away : PySem.W.nsIn K mainGlobals "taken_away" = some (some (.ref f_taken_away)))
    (l_taken_away : K.lookup f_taken_away = some ⟨oc_taken_away, od_taken_away, .func (PySem.W.fnOf "taken_away" "taken_away" (defArgs (top 19)) (defBody (top 19)) (defScope (top 19)) .none kV_taken_away dc_taken_away pm_taken_away an_taken_away cd_taken_away ct_taken_away), sl_taken_away⟩)
    (c_taken_away : PySem.W.codeIn K cd_taken_away "taken_away" = true)
    (k_taken_away : PySem.W.keepIn K (.ref f_taken_away) = true)
    (a_rounds_with : PySem.W.nsIn K mainGlobals "rounds_with" = some (some (.ref f_rounds_with)))
    (l_rounds_with : K.lookup f_rounds_with = some ⟨oc_rounds_with, od_rounds_with, .func (PySem.W.fnOf "rounds_with" "rounds_with" (defArgs (top 21)) (defBody (top 21)) (defScope (top 21)) .none kV_rounds_with dc_rounds_with pm_rounds_with an_rounds_with cd_rounds_with ct_rounds_with), sl_rounds_with⟩)
    (c_rounds_with : PySem.W.codeIn K cd_rounds_with "rounds_with" = true)
    (k_rounds_with : PySem.W.keepIn K (.ref f_rounds_with) = true)
    (a_with_ratios : PySem.W.nsIn K mainGlobals "with_ratios" = some (some (.ref f_with_ratios)))
    (l_with_ratios : K.lookup f_with_ratios = some ⟨oc_with_ratios, od_with_ratios, .func (PySem.W.fnOf "with_ratios" "with_ratios" (defArgs (top 22)) (defBody (top 22)) (defScope (top 22)) .none kV_with_ratios dc_with_ratios pm_with_ratios an_with_ratios cd_with_ratios ct_with_ratios), sl_with_ratios⟩)
    (c_with_ratios : PySem.W.codeIn K cd_with_ratios "with_ratios" = true)
    (k_with_ratios : PySem.W.keepIn K (.ref f_with_ratios) = true)
    (a_left_at : PySem.W.nsIn K mainGlobals "left_at" = some (some (.ref f_left_at)))
    (l_left_at : K.lookup f_left_at = some ⟨oc_left_at, od_left_at, .func (PySem.W.fnOf "left_at" "left_at" (defArgs (top 25)) (defBody (top 25)) (defScope (top 25)) .none kV_left_at dc_left_at pm_left_at an_left_at cd_left_at ct_left_at), sl_left_at⟩)
    (c_left_at : PySem.W.codeIn K cd_left_at "left_at" = true)
    (k_left_at : PySem.W.keepIn K (.ref f_left_at) = true)
    (a_moments : PySem.W.nsIn K mainGlobals "moments" = some (some (.ref f_moments)))
    (l_moments : K.lookup f_moments = some ⟨oc_moments, od_moments, .func (PySem.W.fnOf "moments" "moments" (defArgs (top 24)) (defBody (top 24)) (defScope (top 24)) .none kV_moments dc_moments pm_moments an_moments cd_moments ct_moments), sl_moments⟩)
    (c_moments : PySem.W.codeIn K cd_moments "moments" = true)
    (k_moments : PySem.W.keepIn K (.ref f_moments) = true)
    (a_scaled : PySem.W.nsIn K mainGlobals "scaled" = some (some (.ref f_scaled)))
    (l_scaled : K.lookup f_scaled = some ⟨oc_scaled, od_scaled, .func (PySem.W.fnOf "scaled" "scaled" (defArgs (top 26)) (defBody (top 26)) (defScope (top 26)) .none kV_scaled dc_scaled pm_scaled an_scaled cd_scaled ct_scaled), sl_scaled⟩)
    (c_scaled : PySem.W.codeIn K cd_scaled "scaled" = true)
    (k_scaled : PySem.W.keepIn K (.ref f_scaled) = true)
    (a_spent_until : PySem.W.nsIn K mainGlobals "spent_until" = some (some (.ref f_spent_until)))
    (l_spent_until : K.lookup f_spent_until = some ⟨oc_spent_until, od_spent_until, .func (PySem.W.fnOf "spent_until" "spent_until" (defArgs (top 28)) (defBody (top 28)) (defScope (top 28)) .none kV_spent_until dc_spent_until pm_spent_until an_spent_until cd_spent_until ct_spent_until), sl_spent_until⟩)
    (c_spent_until : PySem.W.codeIn K cd_spent_until "spent_until" = true)
    (k_spent_until : PySem.W.keepIn K (.ref f_spent_until) = true)
    (a_in_order : PySem.W.nsIn K mainGlobals "in_order" = some (some (.ref f_in_order)))
    (l_in_order : K.lookup f_in_order = some ⟨oc_in_order, od_in_order, .func (PySem.W.fnOf "in_order" "in_order" (defArgs (top 33)) (defBody (top 33)) (defScope (top 33)) .none kV_in_order dc_in_order pm_in_order an_in_order cd_in_order ct_in_order), sl_in_order⟩)
    (c_in_order : PySem.W.codeIn K cd_in_order "in_order" = true)
    (k_in_order : PySem.W.keepIn K (.ref f_in_order) = true)
    (a_store : PySem.W.nsIn K mainGlobals "store" = some (some (.ref f_store)))
    (l_store : K.lookup f_store = some ⟨oc_store, od_store, .func (PySem.W.fnOf "store" "store" (defArgs (top 27)) (defBody (top 27)) (defScope (top 27)) .none kV_store dc_store pm_store an_store cd_store ct_store), sl_store⟩)
    (c_store : PySem.W.codeIn K cd_store "store" = true)
    (k_store : PySem.W.keepIn K (.ref f_store) = true)
    (a_account : PySem.W.nsIn K mainGlobals "account" = some (some (.ref f_account)))
    (l_account : K.lookup f_account = some ⟨oc_account, od_account, .func (PySem.W.fnOf "account" "account" (defArgs (top 29)) (defBody (top 29)) (defScope (top 29)) .none kV_account dc_account pm_account an_account cd_account ct_account), sl_account⟩)
    (c_account : PySem.W.codeIn K cd_account "account" = true)
    (k_account : PySem.W.keepIn K (.ref f_account) = true)
    (a_first_due : PySem.W.nsIn K mainGlobals "first_due" = some (some (.ref f_first_due)))
    (l_first_due : K.lookup f_first_due = some ⟨oc_first_due, od_first_due, .func (PySem.W.fnOf "first_due" "first_due" (defArgs (top 31)) (defBody (top 31)) (defScope (top 31)) .none kV_first_due dc_first_due pm_first_due an_first_due cd_first_due ct_first_due), sl_first_due⟩)
    (c_first_due : PySem.W.codeIn K cd_first_due "first_due" = true)
    (k_first_due : PySem.W.keepIn K (.ref f_first_due) = true)
    (a_round_pieces : PySem.W.nsIn K mainGlobals "round_pieces" = some (some (.ref f_round_pieces)))
    (l_round_pieces : K.lookup f_round_pieces = some ⟨oc_round_pieces, od_round_pieces, .func (PySem.W.fnOf "round_pieces" "round_pieces" (defArgs (top 32)) (defBody (top 32)) (defScope (top 32)) .none kV_round_pieces dc_round_pieces pm_round_pieces an_round_pieces cd_round_pieces ct_round_pieces), sl_round_pieces⟩)
    (c_round_pieces : PySem.W.codeIn K cd_round_pieces "round_pieces" = true)
    (k_round_pieces : PySem.W.keepIn K (.ref f_round_pieces) = true)
    (a_plan_with : PySem.W.nsIn K mainGlobals "plan_with" = some (some (.ref f_plan_with)))
    (l_plan_with : K.lookup f_plan_with = some ⟨oc_plan_with, od_plan_with, .func (PySem.W.fnOf "plan_with" "plan_with" (defArgs (top 34)) (defBody (top 34)) (defScope (top 34)) .none kV_plan_with dc_plan_with pm_plan_with an_plan_with cd_plan_with ct_plan_with), sl_plan_with⟩)
    (c_plan_with : PySem.W.codeIn K cd_plan_with "plan_with" = true)
    (k_plan_with : PySem.W.keepIn K (.ref f_plan_with) = true)
    (a_best_plan : PySem.W.nsIn K mainGlobals "best_plan" = some (some (.ref f_best_plan)))
    (l_best_plan : K.lookup f_best_plan = some ⟨oc_best_plan, od_best_plan, .func (PySem.W.fnOf "best_plan" "best_plan" (defArgs (top 35)) (defBody (top 35)) (defScope (top 35)) .none kV_best_plan dc_best_plan pm_best_plan an_best_plan cd_best_plan ct_best_plan), sl_best_plan⟩)
    (c_best_plan : PySem.W.codeIn K cd_best_plan "best_plan" = true)
    (k_best_plan : PySem.W.keepIn K (.ref f_best_plan) = true)
    (aL_pool : PySem.W.nsIn K mainGlobals "_law_pool" = some (some (.ref fL_pool)))
    (lL_pool : K.lookup fL_pool = some ⟨ocL_pool, odL_pool, .func (PySem.W.fnOf "_law_pool" "_law_pool" (defArgs (top 43)) (defBody (top 43)) (defScope (top 43)) .none kVL_pool dcL_pool pmL_pool anL_pool cdL_pool ctL_pool), slL_pool⟩)
    (cL_pool : PySem.W.codeIn K cdL_pool "_law_pool" = true)
    (kL_pool : PySem.W.keepIn K (.ref fL_pool) = true)
    (aL_draw : PySem.W.nsIn K mainGlobals "_law_draw" = some (some (.ref fL_draw)))
    (lL_draw : K.lookup fL_draw = some ⟨ocL_draw, odL_draw, .func (PySem.W.fnOf "_law_draw" "_law_draw" (defArgs (top 44)) (defBody (top 44)) (defScope (top 44)) .none kVL_draw dcL_draw pmL_draw anL_draw cdL_draw ctL_draw), slL_draw⟩)
    (cL_draw : PySem.W.codeIn K cdL_draw "_law_draw" = true)
    (kL_draw : PySem.W.keepIn K (.ref fL_draw) = true)
    (aL_gcd : PySem.W.nsIn K mainGlobals "_law_gcd" = some (some (.ref fL_gcd)))
    (lL_gcd : K.lookup fL_gcd = some ⟨ocL_gcd, odL_gcd, .func (PySem.W.fnOf "_law_gcd" "_law_gcd" (defArgs (top 45)) (defBody (top 45)) (defScope (top 45)) .none kVL_gcd dcL_gcd pmL_gcd anL_gcd cdL_gcd ctL_gcd), slL_gcd⟩)
    (cL_gcd : PySem.W.codeIn K cdL_gcd "_law_gcd" = true)
    (kL_gcd : PySem.W.keepIn K (.ref fL_gcd) = true)
    (aL_ratio : PySem.W.nsIn K mainGlobals "_law_ratio" = some (some (.ref fL_ratio)))
    (lL_ratio : K.lookup fL_ratio = some ⟨ocL_ratio, odL_ratio, .func (PySem.W.fnOf "_law_ratio" "_law_ratio" (defArgs (top 46)) (defBody (top 46)) (defScope (top 46)) .none kVL_ratio dcL_ratio pmL_ratio anL_ratio cdL_ratio ctL_ratio), slL_ratio⟩)
    (cL_ratio : PySem.W.codeIn K cdL_ratio "_law_ratio" = true)
    (kL_ratio : PySem.W.keepIn K (.ref fL_ratio) = true)
    (aL_plus : PySem.W.nsIn K mainGlobals "_law_plus" = some (some (.ref fL_plus)))
    (lL_plus : K.lookup fL_plus = some ⟨ocL_plus, odL_plus, .func (PySem.W.fnOf "_law_plus" "_law_plus" (defArgs (top 47)) (defBody (top 47)) (defScope (top 47)) .none kVL_plus dcL_plus pmL_plus anL_plus cdL_plus ctL_plus), slL_plus⟩)
    (cL_plus : PySem.W.codeIn K cdL_plus "_law_plus" = true)
    (kL_plus : PySem.W.keepIn K (.ref fL_plus) = true)
    (aL_minus : PySem.W.nsIn K mainGlobals "_law_minus" = some (some (.ref fL_minus)))
    (lL_minus : K.lookup fL_minus = some ⟨ocL_minus, odL_minus, .func (PySem.W.fnOf "_law_minus" "_law_minus" (defArgs (top 48)) (defBody (top 48)) (defScope (top 48)) .none kVL_minus dcL_minus pmL_minus anL_minus cdL_minus ctL_minus), slL_minus⟩)
    (cL_minus : PySem.W.codeIn K cdL_minus "_law_minus" = true)
    (kL_minus : PySem.W.keepIn K (.ref fL_minus) = true)
    (aL_times : PySem.W.nsIn K mainGlobals "_law_times" = some (some (.ref fL_times)))
    (lL_times : K.lookup fL_times = some ⟨ocL_times, odL_times, .func (PySem.W.fnOf "_law_times" "_law_times" (defArgs (top 49)) (defBody (top 49)) (defScope (top 49)) .none kVL_times dcL_times pmL_times anL_times cdL_times ctL_times), slL_times⟩)
    (cL_times : PySem.W.codeIn K cdL_times "_law_times" = true)
    (kL_times : PySem.W.keepIn K (.ref fL_times) = true)
    (aL_over : PySem.W.nsIn K mainGlobals "_law_over" = some (some (.ref fL_over)))
    (lL_over : K.lookup fL_over = some ⟨ocL_over, odL_over, .func (PySem.W.fnOf "_law_over" "_law_over" (defArgs (top 50)) (defBody (top 50)) (defScope (top 50)) .none kVL_over dcL_over pmL_over anL_over cdL_over ctL_over), slL_over⟩)
    (cL_over : PySem.W.codeIn K cdL_over "_law_over" = true)
    (kL_over : PySem.W.keepIn K (.ref fL_over) = true)
    (aL_less : PySem.W.nsIn K mainGlobals "_law_less" = some (some (.ref fL_less)))
    (lL_less : K.lookup fL_less = some ⟨ocL_less, odL_less, .func (PySem.W.fnOf "_law_less" "_law_less" (defArgs (top 51)) (defBody (top 51)) (defScope (top 51)) .none kVL_less dcL_less pmL_less anL_less cdL_less ctL_less), slL_less⟩)
    (cL_less : PySem.W.codeIn K cdL_less "_law_less" = true)
    (kL_less : PySem.W.keepIn K (.ref fL_less) = true)
    (aL_sum : PySem.W.nsIn K mainGlobals "_law_sum" = some (some (.ref fL_sum)))
    (lL_sum : K.lookup fL_sum = some ⟨ocL_sum, odL_sum, .func (PySem.W.fnOf "_law_sum" "_law_sum" (defArgs (top 52)) (defBody (top 52)) (defScope (top 52)) .none kVL_sum dcL_sum pmL_sum anL_sum cdL_sum ctL_sum), slL_sum⟩)
    (cL_sum : PySem.W.codeIn K cdL_sum "_law_sum" = true)
    (kL_sum : PySem.W.keepIn K (.ref fL_sum) = true)
    (aL_name : PySem.W.nsIn K mainGlobals "_law_name" = some (some (.ref fL_name)))
    (lL_name : K.lookup fL_name = some ⟨ocL_name, odL_name, .func (PySem.W.fnOf "_law_name" "_law_name" (defArgs (top 53)) (defBody (top 53)) (defScope (top 53)) .none kVL_name dcL_name pmL_name anL_name cdL_name ctL_name), slL_name⟩)
    (cL_name : PySem.W.codeIn K cdL_name "_law_name" = true)
    (kL_name : PySem.W.keepIn K (.ref fL_name) = true)
    (aL_window : PySem.W.nsIn K mainGlobals "_law_window" = some (some (.ref fL_window)))
    (lL_window : K.lookup fL_window = some ⟨ocL_window, odL_window, .func (PySem.W.fnOf "_law_window" "_law_window" (defArgs (top 54)) (defBody (top 54)) (defScope (top 54)) .none kVL_window dcL_window pmL_window anL_window cdL_window ctL_window), slL_window⟩)
    (cL_window : PySem.W.codeIn K cdL_window "_law_window" = true)
    (kL_window : PySem.W.keepIn K (.ref fL_window) = true)
    (aL_jobs : PySem.W.nsIn K mainGlobals "_law_jobs" = some (some (.ref fL_jobs)))
    (lL_jobs : K.lookup fL_jobs = some ⟨ocL_jobs, odL_jobs, .func (PySem.W.fnOf "_law_jobs" "_law_jobs" (defArgs (top 55)) (defBody (top 55)) (defScope (top 55)) .none kVL_jobs dcL_jobs pmL_jobs anL_jobs cdL_jobs ctL_jobs), slL_jobs⟩)
    (cL_jobs : PySem.W.codeIn K cdL_jobs "_law_jobs" = true)
    (kL_jobs : PySem.W.keepIn K (.ref fL_jobs) = true)
    (aL_in_order : PySem.W.nsIn K mainGlobals "_law_in_order" = some (some (.ref fL_in_order)))
    (lL_in_order : K.lookup fL_in_order = some ⟨ocL_in_order, odL_in_order, .func (PySem.W.fnOf "_law_in_order" "_law_in_order" (defArgs (top 59)) (defBody (top 59)) (defScope (top 59)) .none kVL_in_order dcL_in_order pmL_in_order anL_in_order cdL_in_order ctL_in_order), slL_in_order⟩)
    (cL_in_order : PySem.W.codeIn K cdL_in_order "_law_in_order" = true)
    (kL_in_order : PySem.W.keepIn K (.ref fL_in_order) = true)
    (aL_driven : PySem.W.nsIn K mainGlobals "_law_driven" = some (some (.ref fL_driven)))
    (lL_driven : K.lookup fL_driven = some ⟨ocL_driven, odL_driven, .func (PySem.W.fnOf "_law_driven" "_law_driven" (defArgs (top 60)) (defBody (top 60)) (defScope (top 60)) .none kVL_driven dcL_driven pmL_driven anL_driven cdL_driven ctL_driven), slL_driven⟩)
    (cL_driven : PySem.W.codeIn K cdL_driven "_law_driven" = true)
    (kL_driven : PySem.W.keepIn K (.ref fL_driven) = true)
    (aL_points : PySem.W.nsIn K mainGlobals "_law_points" = some (some (.ref fL_points)))
    (lL_points : K.lookup fL_points = some ⟨ocL_points, odL_points, .func (PySem.W.fnOf "_law_points" "_law_points" (defArgs (top 56)) (defBody (top 56)) (defScope (top 56)) .none kVL_points dcL_points pmL_points anL_points cdL_points ctL_points), slL_points⟩)
    (cL_points : PySem.W.codeIn K cdL_points "_law_points" = true)
    (kL_points : PySem.W.keepIn K (.ref fL_points) = true)
    (aL_shares : PySem.W.nsIn K mainGlobals "_law_shares" = some (some (.ref fL_shares)))
    (lL_shares : K.lookup fL_shares = some ⟨ocL_shares, odL_shares, .func (PySem.W.fnOf "_law_shares" "_law_shares" (defArgs (top 57)) (defBody (top 57)) (defScope (top 57)) .none kVL_shares dcL_shares pmL_shares anL_shares cdL_shares ctL_shares), slL_shares⟩)
    (cL_shares : PySem.W.codeIn K cdL_shares "_law_shares" = true)
    (kL_shares : PySem.W.keepIn K (.ref fL_shares) = true)
    (aL_rival : PySem.W.nsIn K mainGlobals "_law_rival" = some (some (.ref fL_rival)))
    (lL_rival : K.lookup fL_rival = some ⟨ocL_rival, odL_rival, .func (PySem.W.fnOf "_law_rival" "_law_rival" (defArgs (top 58)) (defBody (top 58)) (defScope (top 58)) .none kVL_rival dcL_rival pmL_rival anL_rival cdL_rival ctL_rival), slL_rival⟩)
    (cL_rival : PySem.W.codeIn K cdL_rival "_law_rival" = true)
    (kL_rival : PySem.W.keepIn K (.ref fL_rival) = true)
    (a_ratio : PySem.W.nsIn K mainGlobals "ratio" = some (some (.ref f_ratio)))
    (l_ratio : K.lookup f_ratio = some ⟨oc_ratio, od_ratio, .func (PySem.W.fnOf "ratio" "ratio" (defArgs (top 4)) (defBody (top 4)) (defScope (top 4)) (.ref TR) kV_ratio dc_ratio pm_ratio an_ratio cd_ratio ct_ratio), sl_ratio⟩)
    (c_ratio : PySem.W.codeIn K cd_ratio "ratio" = true)
    (k_ratio : PySem.W.keepIn K (.ref f_ratio) = true)
    (dR : K.lookup TR = some oR)
    (eR : oR.data = .seq #[.int 1 tR] nR)
    (aZ : PySem.W.nsIn K mainGlobals "ZERO" = some (some (.ref zz)))
    (lZ : K.lookup zz = some oZ)
    (cZ : oZ.cls = .type "tuple")
    (eZ : oZ.data = .seq #[.int 0 t0, .int 1 t1] nZ)
    (aM : PySem.W.nsIn K mainGlobals "MOST_JOBS" = some (some (.int 12 tM)))
    (agcd : PySem.W.nsIn K mainGlobals "gcd" = some (some (.builtin "math.gcd")))
    (alcm : PySem.W.nsIn K mainGlobals "lcm" = some (some (.builtin "math.lcm")))
    (zabs : PySem.W.nsIn K mainGlobals "abs" = some none)
    (zint : PySem.W.nsIn K mainGlobals "int" = some none)
    (zlen : PySem.W.nsIn K mainGlobals "len" = some none)
    (zlist : PySem.W.nsIn K mainGlobals "list" = some none)
    (zmax : PySem.W.nsIn K mainGlobals "max" = some none)
    (zmin : PySem.W.nsIn K mainGlobals "min" = some none)
    (zrange : PySem.W.nsIn K mainGlobals "range" = some none)
    (zreversed : PySem.W.nsIn K mainGlobals "reversed" = some none)
    (zsorted : PySem.W.nsIn K mainGlobals "sorted" = some none)
    (zsum : PySem.W.nsIn K mainGlobals "sum" = some none)
    (ztuple : PySem.W.nsIn K mainGlobals "tuple" = some none)
    (aCS : PySem.W.nsIn K mainGlobals "Scan" = some (some (.ref CS)))
    (pgS : PySem.W.plainGet K CS Str.empty = true)
    (hdS : PySem.W.hasDictIn K CS = true)
    (poS : PySem.W.plainOver K CS = true)
    (saS : PySem.W.findIn K (.ref CS) "__setattr__" = some (some (.builtin "object.__setattr__")))
    (mkS : PySem.W.makesIn K CS = true)
    (kcS : PySem.W.keepIn K (.ref CS) = true)
    (nS0 : PySem.W.findIn K (.ref CS) "free" = some none)
    (nS1 : PySem.W.findIn K (.ref CS) "rows" = some none)
    (aCR : PySem.W.nsIn K mainGlobals "Runner" = some (some (.ref CR)))
    (pgR : PySem.W.plainGet K CR Str.empty = true)
    (hdR : PySem.W.hasDictIn K CR = true)
    (poR : PySem.W.plainOver K CR = true)
    (saR : PySem.W.findIn K (.ref CR) "__setattr__" = some (some (.builtin "object.__setattr__")))
    (mkR : PySem.W.makesIn K CR = true)
    (kcR : PySem.W.keepIn K (.ref CR) = true)
    (nR0 : PySem.W.findIn K (.ref CR) "cap" = some none)
    (nR1 : PySem.W.findIn K (.ref CR) "now" = some none)
    (nR2 : PySem.W.findIn K (.ref CR) "rows" = some none)
    (nR3 : PySem.W.findIn K (.ref CR) "work_left" = some none)
    (nR4 : PySem.W.findIn K (.ref CR) "pieces" = some none)
    (nR5 : PySem.W.findIn K (.ref CR) "ahead" = some none)
    (nR6 : PySem.W.findIn K (.ref CR) "history" = some none)
    (a_SI : PySem.W.findIn K (.ref CS) "__init__" = some (some (.ref f_SI)))
    (i_SI : PySem.W.isFn K (.ref f_SI) = true)
    (l_SI : K.lookup f_SI = some ⟨oc_SI, od_SI, .func (PySem.W.fnOf "__init__" "Scan.__init__" (defArgs sScI) (defBody sScI) (defScope sScI) .none kV_SI dc_SI pm_SI an_SI cd_SI ct_SI), sl_SI⟩)
    (c_SI : PySem.W.codeIn K cd_SI "Scan.__init__" = true)
    (k_SI : PySem.W.keepIn K (.ref f_SI) = true)
    (a_RI : PySem.W.findIn K (.ref CR) "__init__" = some (some (.ref f_RI)))
    (i_RI : PySem.W.isFn K (.ref f_RI) = true)
    (l_RI : K.lookup f_RI = some ⟨oc_RI, od_RI, .func (PySem.W.fnOf "__init__" "Runner.__init__" (defArgs sRuI) (defBody sRuI) (defScope sRuI) (.ref TI) kV_RI dc_RI pm_RI an_RI cd_RI ct_RI), sl_RI⟩)
    (c_RI : PySem.W.codeIn K cd_RI "Runner.__init__" = true)
    (k_RI : PySem.W.keepIn K (.ref f_RI) = true)
    (dI : K.lookup TI = some oI)
    (eI : oI.data = .seq #[.none] nI)
    (a_mload : PySem.W.findIn K (.ref CS) "load" = some (some (.ref f_mload)))
    (i_mload : PySem.W.isFn K (.ref f_mload) = true)
    (l_mload : K.lookup f_mload = some ⟨oc_mload, od_mload, .func (PySem.W.fnOf "load" "Scan.load" (defArgs sScL) (defBody sScL) (defScope sScL) .none kV_mload dc_mload pm_mload an_mload cd_mload ct_mload), sl_mload⟩)
    (c_mload : PySem.W.codeIn K cd_mload "Scan.load" = true)
    (k_mload : PySem.W.keepIn K (.ref f_mload) = true)
    (a_mlength : PySem.W.findIn K (.ref CS) "length" = some (some (.ref f_mlength)))
    (i_mlength : PySem.W.isFn K (.ref f_mlength) = true)
    (l_mlength : K.lookup f_mlength = some ⟨oc_mlength, od_mlength, .func (PySem.W.fnOf "length" "Scan.length" (defArgs sScN) (defBody sScN) (defScope sScN) .none kV_mlength dc_mlength pm_mlength an_mlength cd_mlength ct_mlength), sl_mlength⟩)
    (c_mlength : PySem.W.codeIn K cd_mlength "Scan.length" = true)
    (k_mlength : PySem.W.keepIn K (.ref f_mlength) = true)
    (a_mdensest : PySem.W.findIn K (.ref CS) "densest" = some (some (.ref f_mdensest)))
    (i_mdensest : PySem.W.isFn K (.ref f_mdensest) = true)
    (l_mdensest : K.lookup f_mdensest = some ⟨oc_mdensest, od_mdensest, .func (PySem.W.fnOf "densest" "Scan.densest" (defArgs sScD) (defBody sScD) (defScope sScD) .none kV_mdensest dc_mdensest pm_mdensest an_mdensest cd_mdensest ct_mdensest), sl_mdensest⟩)
    (c_mdensest : PySem.W.codeIn K cd_mdensest "Scan.densest" = true)
    (k_mdensest : PySem.W.keepIn K (.ref f_mdensest) = true)
    (a_madvance : PySem.W.findIn K (.ref CR) "advance" = some (some (.ref f_madvance)))
    (i_madvance : PySem.W.isFn K (.ref f_madvance) = true)
    (l_madvance : K.lookup f_madvance = some ⟨oc_madvance, od_madvance, .func (PySem.W.fnOf "advance" "Runner.advance" (defArgs sRuA) (defBody sRuA) (defScope sRuA) .none kV_madvance dc_madvance pm_madvance an_madvance cd_madvance ct_madvance), sl_madvance⟩)
    (c_madvance : PySem.W.codeIn K cd_madvance "Runner.advance" = true)
    (k_madvance : PySem.W.keepIn K (.ref f_madvance) = true)
    (a_mwaiting : PySem.W.findIn K (.ref CR) "waiting" = some (some (.ref f_mwaiting)))
    (i_mwaiting : PySem.W.isFn K (.ref f_mwaiting) = true)
    (l_mwaiting : K.lookup f_mwaiting = some ⟨oc_mwaiting, od_mwaiting, .func (PySem.W.fnOf "waiting" "Runner.waiting" (defArgs sRuW) (defBody sRuW) (defScope sRuW) .none kV_mwaiting dc_mwaiting pm_mwaiting an_mwaiting cd_mwaiting ct_mwaiting), sl_mwaiting⟩)
    (c_mwaiting : PySem.W.codeIn K cd_mwaiting "Runner.waiting" = true)
    (k_mwaiting : PySem.W.keepIn K (.ref f_mwaiting) = true)
    (a_mtoo_late : PySem.W.findIn K (.ref CR) "too_late" = some (some (.ref f_mtoo_late)))
    (i_mtoo_late : PySem.W.isFn K (.ref f_mtoo_late) = true)
    (l_mtoo_late : K.lookup f_mtoo_late = some ⟨oc_mtoo_late, od_mtoo_late, .func (PySem.W.fnOf "too_late" "Runner.too_late" (defArgs sRuT) (defBody sRuT) (defScope sRuT) .none kV_mtoo_late dc_mtoo_late pm_mtoo_late an_mtoo_late cd_mtoo_late ct_mtoo_late), sl_mtoo_late⟩)
    (c_mtoo_late : PySem.W.codeIn K cd_mtoo_late "Runner.too_late" = true)
    (k_mtoo_late : PySem.W.keepIn K (.ref f_mtoo_late) = true)
    (a_mdone : PySem.W.findIn K (.ref CR) "done" = some (some (.ref f_mdone)))
    (i_mdone : PySem.W.isFn K (.ref f_mdone) = true)
    (l_mdone : K.lookup f_mdone = some ⟨oc_mdone, od_mdone, .func (PySem.W.fnOf "done" "Runner.done" (defArgs sRuD) (defBody sRuD) (defScope sRuD) .none kV_mdone dc_mdone pm_mdone an_mdone cd_mdone ct_mdone), sl_mdone⟩)
    (c_mdone : PySem.W.codeIn K cd_mdone "Runner.done" = true)
    (k_mdone : PySem.W.keepIn K (.ref f_mdone) = true)
    (a_moffer : PySem.W.findIn K (.ref CR) "offer" = some (some (.ref f_moffer)))
    (i_moffer : PySem.W.isFn K (.ref f_moffer) = true)
    (l_moffer : K.lookup f_moffer = some ⟨oc_moffer, od_moffer, .func (PySem.W.fnOf "offer" "Runner.offer" (defArgs sRuO) (defBody sRuO) (defScope sRuO) .none kV_moffer dc_moffer pm_moffer an_moffer cd_moffer ct_moffer), sl_moffer⟩)
    (c_moffer : PySem.W.codeIn K cd_moffer "Runner.offer" = true)
    (k_moffer : PySem.W.keepIn K (.ref f_moffer) = true)
    (a_law : PySem.W.nsIn K mainGlobals "law" = some (some (.ref f_law)))
    (l_law : K.lookup f_law = some ⟨oc_law, od_law, .func (PySem.W.fnOf "law" "law" (defArgs (top 61)) (defBody (top 61)) (defScope (top 61)) .none kV_law dc_law pm_law an_law cd_law ct_law), sl_law⟩)
    (c_law : PySem.W.codeIn K cd_law "law" = true)
    (k_law : PySem.W.keepIn K (.ref f_law) = true) :
    ∃ fd : FuncData, (∀ (s : Shared) (v : Value), BindsTo s fd ⟨[v], []⟩ [("_law_script", v)]) ∧ ∀ base : Heap, K.In base → base.Ns mainGlobals mg → FnOk P w K mg base CX0 8 fa fd ["_law_script"] (spLaw K) := by
  have e := hfa.symm.trans (PySem.W.mg_of X G a_law)
  cases e
  have T_plus : TF K mg "plus" (top 5) ["a", "b"] := by
    have F := fun_mk (st := top 5) l_plus c_plus k_plus
    exact ⟨_, _, PySem.W.mg_of X G a_plus, F, F.binds (ps := ["a", "b"]) fun _ _ _ _ _ _ us hl => match us, hl with | [_, _], _ => rfl⟩
  have T_minus : TF K mg "minus" (top 6) ["a", "b"] := by
    have F := fun_mk (st := top 6) l_minus c_minus k_minus
    exact ⟨_, _, PySem.W.mg_of X G a_minus, F, F.binds (ps := ["a", "b"]) fun _ _ _ _ _ _ us hl => match us, hl with | [_, _], _ => rfl⟩
  have T_times : TF K mg "times" (top 7) ["a", "b"] := by
    have F := fun_mk (st := top 7) l_times c_times k_times
    exact ⟨_, _, PySem.W.mg_of X G a_times, F, F.binds (ps := ["a", "b"]) fun _ _ _ _ _ _ us hl => match us, hl with | [_, _], _ => rfl⟩
  have T_over : TF K mg "over" (top 8) ["a", "b"] := by
    have F := fun_mk (st := top 8) l_over c_over k_over
    exact ⟨_, _, PySem.W.mg_of X G a_over, F, F.binds (ps := ["a", "b"]) fun _ _ _ _ _ _ us hl => match us, hl with | [_, _], _ => rfl⟩
  have T_less : TF K mg "less" (top 9) ["a", "b"] := by
    have F := fun_mk (st := top 9) l_less c_less k_less
    exact ⟨_, _, PySem.W.mg_of X G a_less, F, F.binds (ps := ["a", "b"]) fun _ _ _ _ _ _ us hl => match us, hl with | [_, _], _ => rfl⟩
  have T_least : TF K mg "least" (top 10) ["a", "b"] := by
    have F := fun_mk (st := top 10) l_least c_least k_least
    exact ⟨_, _, PySem.W.mg_of X G a_least, F, F.binds (ps := ["a", "b"]) fun _ _ _ _ _ _ us hl => match us, hl with | [_, _], _ => rfl⟩
  have T_greatest : TF K mg "greatest" (top 11) ["a", "b"] := by
    have F := fun_mk (st := top 11) l_greatest c_greatest k_greatest
    exact ⟨_, _, PySem.W.mg_of X G a_greatest, F, F.binds (ps := ["a", "b"]) fun _ _ _ _ _ _ us hl => match us, hl with | [_, _], _ => rfl⟩
  have T_length : TF K mg "length" (top 13) ["piece"] := by
    have F := fun_mk (st := top 13) l_length c_length k_length
    exact ⟨_, _, PySem.W.mg_of X G a_length, F, F.binds (ps := ["piece"]) fun _ _ _ _ _ _ us hl => match us, hl with | [_], _ => rfl⟩
  have T_work_of : TF K mg "work_of" (top 14) ["piece"] := by
    have F := fun_mk (st := top 14) l_work_of c_work_of k_work_of
    exact ⟨_, _, PySem.W.mg_of X G a_work_of, F, F.binds (ps := ["piece"]) fun _ _ _ _ _ _ us hl => match us, hl with | [_], _ => rfl⟩
  have T_tidy : TF K mg "tidy" (top 15) ["plan"] := by
    have F := fun_mk (st := top 15) l_tidy c_tidy k_tidy
    exact ⟨_, _, PySem.W.mg_of X G a_tidy, F, F.binds (ps := ["plan"]) fun _ _ _ _ _ _ us hl => match us, hl with | [_], _ => rfl⟩
  have T_stretches : TF K mg "stretches" (top 16) ["plan", "begin", "end"] := by
    have F := fun_mk (st := top 16) l_stretches c_stretches k_stretches
    exact ⟨_, _, PySem.W.mg_of X G a_stretches, F, F.binds (ps := ["plan", "begin", "end"]) fun _ _ _ _ _ _ us hl => match us, hl with | [_, _, _], _ => rfl⟩
  have T_free_part : TF K mg "free_part" (top 18) ["free", "begin", "end"] := by
    have F := fun_mk (st := top 18) l_free_part c_free_part k_free_part
    exact ⟨_, _, PySem.W.mg_of X G a_free_part, F, F.binds (ps := ["free", "begin", "end"]) fun _ _ _ _ _ _ us hl => match us, hl with | [_, _, _], _ => rfl⟩
  have T_taken_away : TF K mg "taken_away" (top 19) ["free", "begin", "end"] := by
    have F := fun_mk (st := top 19) l_taken_away c_taken_away k_taken_away
    exact ⟨_, _, PySem.W.mg_of X G a_taken_away, F, F.binds (ps := ["free", "begin", "end"]) fun _ _ _ _ _ _ us hl => match us, hl with | [_, _, _], _ => rfl⟩
  have T_rounds_with : TF K mg "rounds_with" (top 21) ["jobs"] := by
    have F := fun_mk (st := top 21) l_rounds_with c_rounds_with k_rounds_with
    exact ⟨_, _, PySem.W.mg_of X G a_rounds_with, F, F.binds (ps := ["jobs"]) fun _ _ _ _ _ _ us hl => match us, hl with | [_], _ => rfl⟩
  have T_with_ratios : TF K mg "with_ratios" (top 22) ["jobs"] := by
    have F := fun_mk (st := top 22) l_with_ratios c_with_ratios k_with_ratios
    exact ⟨_, _, PySem.W.mg_of X G a_with_ratios, F, F.binds (ps := ["jobs"]) fun _ _ _ _ _ _ us hl => match us, hl with | [_], _ => rfl⟩
  have T_left_at : TF K mg "left_at" (top 25) ["jobs", "plan", "moment"] := by
    have F := fun_mk (st := top 25) l_left_at c_left_at k_left_at
    exact ⟨_, _, PySem.W.mg_of X G a_left_at, F, F.binds (ps := ["jobs", "plan", "moment"]) fun _ _ _ _ _ _ us hl => match us, hl with | [_, _, _], _ => rfl⟩
  have T_moments : TF K mg "moments" (top 24) ["taken", "plans"] := by
    have F := fun_mk (st := top 24) l_moments c_moments k_moments
    exact ⟨_, _, PySem.W.mg_of X G a_moments, F, F.binds (ps := ["taken", "plans"]) fun _ _ _ _ _ _ us hl => match us, hl with | [_, _], _ => rfl⟩
  have T_scaled : TF K mg "scaled" (top 26) ["jobs", "left", "moment"] := by
    have F := fun_mk (st := top 26) l_scaled c_scaled k_scaled
    exact ⟨_, _, PySem.W.mg_of X G a_scaled, F, F.binds (ps := ["jobs", "left", "moment"]) fun _ _ _ _ _ _ us hl => match us, hl with | [_, _, _], _ => rfl⟩
  have T_spent_until : TF K mg "spent_until" (top 28) ["plan", "moment"] := by
    have F := fun_mk (st := top 28) l_spent_until c_spent_until k_spent_until
    exact ⟨_, _, PySem.W.mg_of X G a_spent_until, F, F.binds (ps := ["plan", "moment"]) fun _ _ _ _ _ _ us hl => match us, hl with | [_, _], _ => rfl⟩
  have T_in_order : TF K mg "in_order" (top 33) ["pieces"] := by
    have F := fun_mk (st := top 33) l_in_order c_in_order k_in_order
    exact ⟨_, _, PySem.W.mg_of X G a_in_order, F, F.binds (ps := ["pieces"]) fun _ _ _ _ _ _ us hl => match us, hl with | [_], _ => rfl⟩
  have T_store : TF K mg "store" (top 27) ["jobs", "done", "rival", "moment"] := by
    have F := fun_mk (st := top 27) l_store c_store k_store
    exact ⟨_, _, PySem.W.mg_of X G a_store, F, F.binds (ps := ["jobs", "done", "rival", "moment"]) fun _ _ _ _ _ _ us hl => match us, hl with | [_, _, _, _], _ => rfl⟩
  have T_account : TF K mg "account" (top 29) ["taken", "done", "rival"] := by
    have F := fun_mk (st := top 29) l_account c_account k_account
    exact ⟨_, _, PySem.W.mg_of X G a_account, F, F.binds (ps := ["taken", "done", "rival"]) fun _ _ _ _ _ _ us hl => match us, hl with | [_, _, _], _ => rfl⟩
  have T_first_due : TF K mg "first_due" (top 31) ["jobs", "left", "now"] := by
    have F := fun_mk (st := top 31) l_first_due c_first_due k_first_due
    exact ⟨_, _, PySem.W.mg_of X G a_first_due, F, F.binds (ps := ["jobs", "left", "now"]) fun _ _ _ _ _ _ us hl => match us, hl with | [_, _, _], _ => rfl⟩
  have T_round_pieces : TF K mg "round_pieces" (top 32) ["own", "speed", "given"] := by
    have F := fun_mk (st := top 32) l_round_pieces c_round_pieces k_round_pieces
    exact ⟨_, _, PySem.W.mg_of X G a_round_pieces, F, F.binds (ps := ["own", "speed", "given"]) fun _ _ _ _ _ _ us hl => match us, hl with | [_, _, _], _ => rfl⟩
  have T_plan_with : TF K mg "plan_with" (top 34) ["jobs"] := by
    have F := fun_mk (st := top 34) l_plan_with c_plan_with k_plan_with
    exact ⟨_, _, PySem.W.mg_of X G a_plan_with, F, F.binds (ps := ["jobs"]) fun _ _ _ _ _ _ us hl => match us, hl with | [_], _ => rfl⟩
  have T_best_plan : TF K mg "best_plan" (top 35) ["jobs"] := by
    have F := fun_mk (st := top 35) l_best_plan c_best_plan k_best_plan
    exact ⟨_, _, PySem.W.mg_of X G a_best_plan, F, F.binds (ps := ["jobs"]) fun _ _ _ _ _ _ us hl => match us, hl with | [_], _ => rfl⟩
  have TL_pool : TF K mg "_law_pool" (top 43) ["_law_script"] := by
    have F := fun_mk (st := top 43) lL_pool cL_pool kL_pool
    exact ⟨_, _, PySem.W.mg_of X G aL_pool, F, F.binds (ps := ["_law_script"]) fun _ _ _ _ _ _ us hl => match us, hl with | [_], _ => rfl⟩
  have TL_draw : TF K mg "_law_draw" (top 44) ["_law_pool_here", "_law_many"] := by
    have F := fun_mk (st := top 44) lL_draw cL_draw kL_draw
    exact ⟨_, _, PySem.W.mg_of X G aL_draw, F, F.binds (ps := ["_law_pool_here", "_law_many"]) fun _ _ _ _ _ _ us hl => match us, hl with | [_, _], _ => rfl⟩
  have TL_gcd : TF K mg "_law_gcd" (top 45) ["_law_a", "_law_b"] := by
    have F := fun_mk (st := top 45) lL_gcd cL_gcd kL_gcd
    exact ⟨_, _, PySem.W.mg_of X G aL_gcd, F, F.binds (ps := ["_law_a", "_law_b"]) fun _ _ _ _ _ _ us hl => match us, hl with | [_, _], _ => rfl⟩
  have TL_ratio : TF K mg "_law_ratio" (top 46) ["_law_top", "_law_bottom"] := by
    have F := fun_mk (st := top 46) lL_ratio cL_ratio kL_ratio
    exact ⟨_, _, PySem.W.mg_of X G aL_ratio, F, F.binds (ps := ["_law_top", "_law_bottom"]) fun _ _ _ _ _ _ us hl => match us, hl with | [_, _], _ => rfl⟩
  have TL_plus : TF K mg "_law_plus" (top 47) ["_law_a", "_law_b"] := by
    have F := fun_mk (st := top 47) lL_plus cL_plus kL_plus
    exact ⟨_, _, PySem.W.mg_of X G aL_plus, F, F.binds (ps := ["_law_a", "_law_b"]) fun _ _ _ _ _ _ us hl => match us, hl with | [_, _], _ => rfl⟩
  have TL_minus : TF K mg "_law_minus" (top 48) ["_law_a", "_law_b"] := by
    have F := fun_mk (st := top 48) lL_minus cL_minus kL_minus
    exact ⟨_, _, PySem.W.mg_of X G aL_minus, F, F.binds (ps := ["_law_a", "_law_b"]) fun _ _ _ _ _ _ us hl => match us, hl with | [_, _], _ => rfl⟩
  have TL_times : TF K mg "_law_times" (top 49) ["_law_a", "_law_b"] := by
    have F := fun_mk (st := top 49) lL_times cL_times kL_times
    exact ⟨_, _, PySem.W.mg_of X G aL_times, F, F.binds (ps := ["_law_a", "_law_b"]) fun _ _ _ _ _ _ us hl => match us, hl with | [_, _], _ => rfl⟩
  have TL_over : TF K mg "_law_over" (top 50) ["_law_a", "_law_b"] := by
    have F := fun_mk (st := top 50) lL_over cL_over kL_over
    exact ⟨_, _, PySem.W.mg_of X G aL_over, F, F.binds (ps := ["_law_a", "_law_b"]) fun _ _ _ _ _ _ us hl => match us, hl with | [_, _], _ => rfl⟩
  have TL_less : TF K mg "_law_less" (top 51) ["_law_a", "_law_b"] := by
    have F := fun_mk (st := top 51) lL_less cL_less kL_less
    exact ⟨_, _, PySem.W.mg_of X G aL_less, F, F.binds (ps := ["_law_a", "_law_b"]) fun _ _ _ _ _ _ us hl => match us, hl with | [_, _], _ => rfl⟩
  have TL_sum : TF K mg "_law_sum" (top 52) ["_law_rows"] := by
    have F := fun_mk (st := top 52) lL_sum cL_sum kL_sum
    exact ⟨_, _, PySem.W.mg_of X G aL_sum, F, F.binds (ps := ["_law_rows"]) fun _ _ _ _ _ _ us hl => match us, hl with | [_], _ => rfl⟩
  have TL_name : TF K mg "_law_name" (top 53) ["_law_pool_here", "_law_index"] := by
    have F := fun_mk (st := top 53) lL_name cL_name kL_name
    exact ⟨_, _, PySem.W.mg_of X G aL_name, F, F.binds (ps := ["_law_pool_here", "_law_index"]) fun _ _ _ _ _ _ us hl => match us, hl with | [_, _], _ => rfl⟩
  have TL_window : TF K mg "_law_window" (top 54) ["_law_pool_here", "_law_wide"] := by
    have F := fun_mk (st := top 54) lL_window cL_window kL_window
    exact ⟨_, _, PySem.W.mg_of X G aL_window, F, F.binds (ps := ["_law_pool_here", "_law_wide"]) fun _ _ _ _ _ _ us hl => match us, hl with | [_, _], _ => rfl⟩
  have TL_jobs : TF K mg "_law_jobs" (top 55) ["_law_pool_here", "_law_most"] := by
    have F := fun_mk (st := top 55) lL_jobs cL_jobs kL_jobs
    exact ⟨_, _, PySem.W.mg_of X G aL_jobs, F, F.binds (ps := ["_law_pool_here", "_law_most"]) fun _ _ _ _ _ _ us hl => match us, hl with | [_, _], _ => rfl⟩
  have TL_in_order : TF K mg "_law_in_order" (top 59) ["_law_jobs_here"] := by
    have F := fun_mk (st := top 59) lL_in_order cL_in_order kL_in_order
    exact ⟨_, _, PySem.W.mg_of X G aL_in_order, F, F.binds (ps := ["_law_jobs_here"]) fun _ _ _ _ _ _ us hl => match us, hl with | [_], _ => rfl⟩
  have TL_driven : TF K mg "_law_driven" (top 60) ["_law_jobs_here"] := by
    have F := fun_mk (st := top 60) lL_driven cL_driven kL_driven
    exact ⟨_, _, PySem.W.mg_of X G aL_driven, F, F.binds (ps := ["_law_jobs_here"]) fun _ _ _ _ _ _ us hl => match us, hl with | [_], _ => rfl⟩
  have TL_points : TF K mg "_law_points" (top 56) ["_law_pool_here", "_law_jobs_here"] := by
    have F := fun_mk (st := top 56) lL_points cL_points kL_points
    exact ⟨_, _, PySem.W.mg_of X G aL_points, F, F.binds (ps := ["_law_pool_here", "_law_jobs_here"]) fun _ _ _ _ _ _ us hl => match us, hl with | [_, _], _ => rfl⟩
  have TL_shares : TF K mg "_law_shares" (top 57) ["_law_pool_here", "_law_job", "_law_slots"] := by
    have F := fun_mk (st := top 57) lL_shares cL_shares kL_shares
    exact ⟨_, _, PySem.W.mg_of X G aL_shares, F, F.binds (ps := ["_law_pool_here", "_law_job", "_law_slots"]) fun _ _ _ _ _ _ us hl => match us, hl with | [_, _, _], _ => rfl⟩
  have TL_rival : TF K mg "_law_rival" (top 58) ["_law_pool_here", "_law_jobs_here"] := by
    have F := fun_mk (st := top 58) lL_rival cL_rival kL_rival
    exact ⟨_, _, PySem.W.mg_of X G aL_rival, F, F.binds (ps := ["_law_pool_here", "_law_jobs_here"]) fun _ _ _ _ _ _ us hl => match us, hl with | [_, _], _ => rfl⟩
  have TD : TFD K mg := ⟨_, _, PySem.W.mg_of X G a_ratio, ⟨⟨_, _, _, _, _, _, _, _, _, _, rfl, l_ratio, c_ratio, .inr ⟨by simp, TR, oR, [.int 1 tR], nR, rfl, dR, eR, .cons ⟨_, rfl⟩ .nil⟩, .inl rfl⟩, k_ratio⟩⟩
  have Z : ZeroG K mg := ⟨zz, PySem.W.mg_of X G aZ, fun H => .inr ⟨oZ, _, _, lZ, cZ, eZ, (by show 2 ≤ sizeLine; decide), .cons ⟨_, rfl⟩ (.cons ⟨_, rfl⟩ .nil)⟩⟩
  have gM : ∃ tk, mg "MOST_JOBS" = some (.int 12 tk) := ⟨_, PySem.W.mg_of X G aM⟩
  have g_gcd : mg "gcd" = some (.builtin "math.gcd") := PySem.W.mg_of X G agcd
  have g_lcm : mg "lcm" = some (.builtin "math.lcm") := PySem.W.mg_of X G alcm
  have g_abs : mg "abs" = none := PySem.W.mg_none_of X G zabs
  have g_int : mg "int" = none := PySem.W.mg_none_of X G zint
  have g_len : mg "len" = none := PySem.W.mg_none_of X G zlen
  have g_list : mg "list" = none := PySem.W.mg_none_of X G zlist
  have g_max : mg "max" = none := PySem.W.mg_none_of X G zmax
  have g_min : mg "min" = none := PySem.W.mg_none_of X G zmin
  have g_range : mg "range" = none := PySem.W.mg_none_of X G zrange
  have g_reversed : mg "reversed" = none := PySem.W.mg_none_of X G zreversed
  have g_sorted : mg "sorted" = none := PySem.W.mg_none_of X G zsorted
  have g_sum : mg "sum" = none := PySem.W.mg_none_of X G zsum
  have g_tuple : mg "tuple" = none := PySem.W.mg_none_of X G ztuple
  have XS : TxS K mg CS := ⟨⟨pgS, hdS, poS, saS⟩, nS0, nS1, PySem.W.mg_of X G aCS⟩
  have XR : TxR K mg CR := ⟨⟨pgR, hdR, poR, saR⟩, nR0, nR1, nR2, nR3, nR4, nR5, nR6, PySem.W.mg_of X G aCR⟩
  have M_mload : TM K CS "load" "Scan.load" sScL ["self", "a", "b"] := by
    have F := fun_mk (st := sScL) l_mload c_mload k_mload
    exact ⟨_, _, ⟨a_mload, i_mload, k_mload⟩, F, F.binds (ps := ["self", "a", "b"]) fun _ _ _ _ _ _ us hl => match us, hl with | [_, _, _], _ => rfl⟩
  have M_mlength : TM K CS "length" "Scan.length" sScN ["self", "a", "b"] := by
    have F := fun_mk (st := sScN) l_mlength c_mlength k_mlength
    exact ⟨_, _, ⟨a_mlength, i_mlength, k_mlength⟩, F, F.binds (ps := ["self", "a", "b"]) fun _ _ _ _ _ _ us hl => match us, hl with | [_, _, _], _ => rfl⟩
  have M_mdensest : TM K CS "densest" "Scan.densest" sScD ["self"] := by
    have F := fun_mk (st := sScD) l_mdensest c_mdensest k_mdensest
    exact ⟨_, _, ⟨a_mdensest, i_mdensest, k_mdensest⟩, F, F.binds (ps := ["self"]) fun _ _ _ _ _ _ us hl => match us, hl with | [_], _ => rfl⟩
  have M_madvance : TM K CR "advance" "Runner.advance" sRuA ["self", "time"] := by
    have F := fun_mk (st := sRuA) l_madvance c_madvance k_madvance
    exact ⟨_, _, ⟨a_madvance, i_madvance, k_madvance⟩, F, F.binds (ps := ["self", "time"]) fun _ _ _ _ _ _ us hl => match us, hl with | [_, _], _ => rfl⟩
  have M_mwaiting : TM K CR "waiting" "Runner.waiting" sRuW ["self"] := by
    have F := fun_mk (st := sRuW) l_mwaiting c_mwaiting k_mwaiting
    exact ⟨_, _, ⟨a_mwaiting, i_mwaiting, k_mwaiting⟩, F, F.binds (ps := ["self"]) fun _ _ _ _ _ _ us hl => match us, hl with | [_], _ => rfl⟩
  have M_mtoo_late : TM K CR "too_late" "Runner.too_late" sRuT ["self", "jobs"] := by
    have F := fun_mk (st := sRuT) l_mtoo_late c_mtoo_late k_mtoo_late
    exact ⟨_, _, ⟨a_mtoo_late, i_mtoo_late, k_mtoo_late⟩, F, F.binds (ps := ["self", "jobs"]) fun _ _ _ _ _ _ us hl => match us, hl with | [_, _], _ => rfl⟩
  have M_mdone : TM K CR "done" "Runner.done" sRuD ["self"] := by
    have F := fun_mk (st := sRuD) l_mdone c_mdone k_mdone
    exact ⟨_, _, ⟨a_mdone, i_mdone, k_mdone⟩, F, F.binds (ps := ["self"]) fun _ _ _ _ _ _ us hl => match us, hl with | [_], _ => rfl⟩
  have M_moffer : TM K CR "offer" "Runner.offer" sRuO ["self", "name", "due", "work"] := by
    have F := fun_mk (st := sRuO) l_moffer c_moffer k_moffer
    exact ⟨_, _, ⟨a_moffer, i_moffer, k_moffer⟩, F, F.binds (ps := ["self", "name", "due", "work"]) fun _ _ _ _ _ _ us hl => match us, hl with | [_, _, _, _], _ => rfl⟩
  refine ⟨PySem.W.fnOf "law" "law" (defArgs (top 61)) (defBody (top 61)) (defScope (top 61)) .none kV_law dc_law pm_law an_law cd_law ct_law, fun s v => .of_eq rfl, fun base _ _ => ?_⟩
  obtain ⟨R0, R1⟩ := ok_ratio (P := P) (w := w) (base := base) TD g_gcd
  have D_plus := ok_plus (P := P) (w := w) (base := base) T_plus R0
  have D_minus := ok_minus (P := P) (w := w) (base := base) T_minus R0
  have D_times := ok_times (P := P) (w := w) (base := base) T_times R0
  have D_over := ok_over (P := P) (w := w) (base := base) T_over R0
  have D_less := ok_less (P := P) (w := w) (base := base) T_less
  have D_least := ok_least (P := P) (w := w) (base := base) T_least D_less
  have D_greatest := ok_greatest (P := P) (w := w) (base := base) T_greatest D_less
  have D_length := ok_length (N := Option Str) (f := nV) (P := P) (w := w) (base := base) T_length D_minus
  have D_work_of := ok_work (P := P) (w := w) (base := base) T_work_of D_times D_length
  have D_tidy := ok_tidy (P := P) (w := w) (base := base) T_tidy g_tuple
  have D_stretches := ok_str (P := P) (w := w) (base := base) T_stretches Z D_less D_least D_greatest
  have D_free_part := ok_fp (P := P) (w := w) (base := base) T_free_part g_max g_min
  have D_taken_away := ok_ta (P := P) (w := w) (base := base) T_taken_away D_free_part
  have IS : IDef P w K mg base "Scan" CS ["self", "jobs", "free"] 2 (spScI K CS) := by
    have F := fun_mk (st := sScI) l_SI c_SI k_SI
    exact ⟨_, _, PySem.W.mg_of X G aCS, ⟨mkS, a_SI, i_SI, kcS⟩, ok_scI F XS D_free_part, F.binds (ps := ["self", "jobs", "free"]) fun _ _ _ _ _ _ us hl => match us, hl with | [_, _, _], _ => rfl⟩
  have N_load := ok_scL (P := P) (w := w) (base := base) M_mload XS g_sum
  have N_length := ok_scN (P := P) (w := w) (base := base) M_mlength XS g_sum D_free_part
  have N_densest := ok_scD (P := P) (w := w) (base := base) M_mdensest XS g_sorted g_reversed N_load N_length
  have D_rounds_with := ok_rw (P := P) (w := w) (base := base) T_rounds_with XS g_lcm g_min g_max g_tuple IS N_densest R0 D_free_part D_taken_away
  have D_with_ratios := ok_wr (P := P) (w := w) (base := base) T_with_ratios R1
  have D_left_at := ok_la (P := P) (w := w) (base := base) T_left_at Z R1 D_stretches D_minus D_work_of
  have D_moments := ok_mo (P := P) (w := w) (base := base) T_moments Z g_len R1 D_less
  have D_scaled := ok_sca (P := P) (w := w) (base := base) T_scaled Z
  have D_spent_until := ok_su (P := P) (w := w) (base := base) T_spent_until Z D_stretches D_plus D_times D_minus
  have D_in_order := ok_io (P := P) (w := w) (base := base) T_in_order g_len D_less
  have D_store := ok_st (P := P) (w := w) (base := base) T_store Z D_left_at D_scaled D_rounds_with D_plus D_times D_minus
  have D_account := ok_ac (P := P) (w := w) (base := base) T_account g_tuple R1 D_less D_moments D_store D_spent_until
  have D_first_due := ok_fd (P := P) (w := w) (base := base) T_first_due Z R1 D_less
  have D_round_pieces := ok_rp (P := P) (w := w) (base := base) T_round_pieces R1 D_less D_least D_plus D_times D_minus D_over D_first_due
  have D_plan_with := ok_pw (P := P) (w := w) (base := base) T_plan_with D_rounds_with D_round_pieces D_in_order D_tidy
  have D_best_plan := ok_bp (P := P) (w := w) (base := base) T_best_plan D_with_ratios D_plan_with
  have IR : IDef0 P w K mg base "Runner" CR ["self", "cap"] [.non] 1 (spRuI K CR) := by
    have F : FunD K "__init__" "Runner.__init__" (defArgs sRuI) (defBody sRuI) (defScope sRuI) [.non] [] f_RI _ := ⟨⟨_, _, _, _, _, _, _, _, _, _, rfl, l_RI, c_RI, .inr ⟨by simp, TI, oI, [.none], nI, rfl, dI, eI, .cons rfl .nil⟩, .inl rfl⟩, k_RI⟩
    obtain ⟨ds1, v1, b1⟩ := F.binds1 (ps := ["self", "cap"]) 1 0 (by simp) rfl fun T kV doc pm an cdv ct us its h1 h2 => match us, its, h1, h2 with
      | [_], [_], _, _ => ⟨_, rfl, rfl⟩
    exact ⟨_, _, ds1, PySem.W.mg_of X G aCR, ⟨mkR, a_RI, i_RI, kcR⟩, ok_ruI F XR, b1, v1⟩
  have N_advance := ok_ruA (P := P) (w := w) (base := base) M_madvance XR g_tuple g_max R1 D_stretches D_minus D_work_of
  have N_waiting := ok_ruW (P := P) (w := w) (base := base) M_mwaiting XR Z
  have N_too_late := ok_ruT (P := P) (w := w) (base := base) M_mtoo_late XR
  have N_done := ok_ruD (P := P) (w := w) (base := base) M_mdone XR D_tidy
  have N_offer := ok_ruO (P := P) (w := w) (base := base) M_moffer XR g_len gM R1 D_plan_with N_waiting N_too_late
  have D__law_pool := ok_po (P := P) (w := w) (base := base) TL_pool g_list
  have D__law_draw := ok_dr (P := P) (w := w) (base := base) TL_draw g_int g_abs g_len
  have D__law_gcd := ok_gc (P := P) (w := w) (base := base) TL_gcd g_int g_range
  have D__law_ratio := ok_lr (P := P) (w := w) (base := base) TL_ratio g_abs D__law_gcd
  have D__law_plus := ok_lplus (P := P) (w := w) (base := base) TL_plus D__law_ratio
  have D__law_minus := ok_lminus (P := P) (w := w) (base := base) TL_minus D__law_ratio
  have D__law_times := ok_ltimes (P := P) (w := w) (base := base) TL_times D__law_ratio
  have D__law_over := ok_lover (P := P) (w := w) (base := base) TL_over D__law_ratio
  have D__law_less := ok_lless (P := P) (w := w) (base := base) TL_less
  have D__law_sum := ok_ls (P := P) (w := w) (base := base) TL_sum D__law_plus
  have D__law_name := ok_na (P := P) (w := w) (base := base) TL_name D__law_draw
  have D__law_window := ok_wi (P := P) (w := w) (base := base) TL_window D__law_draw
  have D__law_jobs := ok_jb (P := P) (w := w) (base := base) TL_jobs g_range g_tuple D__law_draw D__law_window D__law_name
  have D__law_in_order := ok_or (P := P) (w := w) (base := base) TL_in_order g_sorted g_tuple
  have D__law_driven := ok_dv (P := P) (w := w) (base := base) TL_driven XR g_max IR N_advance N_offer N_done
  have D__law_points := ok_pt (P := P) (w := w) (base := base) TL_points g_sorted g_range g_len D__law_draw
  have D__law_shares := ok_sh (P := P) (w := w) (base := base) TL_shares g_sum g_range g_len D__law_draw D__law_ratio
  have D__law_rival := ok_rv (P := P) (w := w) (base := base) TL_rival g_tuple g_range g_len g_int D__law_draw D__law_ratio D__law_points D__law_shares D__law_sum D__law_plus D__law_over
  exact ok_law (fun_mk (st := top 61) l_law c_law k_law) D__law_pool D__law_jobs D__law_in_order D__law_driven D__law_rival D_best_plan D_account D__law_minus D__law_plus D__law_times D__law_less
theorem walk {l : PySem.W.OpenLaw} {q : Program} {loose : List Str} {XP : (Str → Option Value) → Heap → Prop} {YP : World → Heap → Prop} {d : DefRec} {K : Params → PySem.W.Frag} (hn : l.most = some 63) (hdf : d.params.defaults = [])
    (hY : ∀ (w : World) (h : Heap), YP w h → (K w.params).In h)
    (F : ∀ (w : World) (mg : Str → Option Value) (fa : Addr) (h : Heap), (K w.params).In h → h.Ns mainGlobals mg → mg d.name = some (.ref fa) →
      ∃ fd : FuncData, (∀ (s : Shared) (u : Value), BindsTo s fd ⟨[u], []⟩ [("_law_script", u)]) ∧ ∀ base : Heap, (K w.params).In base → base.Ns mainGlobals mg → FnOk l.prog w (K w.params) mg base CX0 8 fa fd ["_law_script"] (spLaw (K w.params))) :
    PySem.W.WalkO q loose XP YP l.row.toRowW d [] (fun f vs => PySem.call f vs) :=
  L2.walk_of (n := 63) (k := 8) (x := "_law_script") (CX := fun _ => CX0) (sp := fun w => spLaw (K w.params)) hn (by decide) hdf ⟨rfl, by decide, by decide⟩ hY F (fun _ _ a ns hl _ hS => ⟨a, ns, rfl, hS, hl, fun _ => rfl⟩) fun _ _ _ _ _ z => z
end SW

set_option Elab.async false
set_option maxRecDepth 100000
open PySem PySem.W PyProof.Rows in
set_option maxRecDepth 100000 in
set_option maxHeartbeats 0 in
theorem PySem.Challenge.cw_sparewatts_k35_whole_why_four_times_is_e_holds : PySem.Challenge.rw_sparewatts_k35_whole_why_four_times_is_e.Holds := by
  w_on; o_law; k_head; (case hw => w_witness2)
  k_fill
  refine SW.walk (l := PySem.Challenge.rw_sparewatts_k35_whole_why_four_times_is_e) rfl rfl (fun w h Y => PySem.W.kIn_of Y) ?F
  case F =>
    intro w mg fa h KX G hmg
    refine' SW.all_mk KX G hmg ?a_plus ?l_plus ?c_plus ?k_plus ?a_minus ?l_minus ?c_minus ?k_minus ?a_times ?l_times ?c_times ?k_times ?a_over ?l_over ?c_over ?k_over ?a_less ?l_less ?c_less ?k_less ?a_least ?l_least ?c_least ?k_least ?a_greatest ?l_greatest ?c_greatest ?k_greatest ?a_length ?l_length ?c_length ?k_length ?a_work_of ?l_work_of ?c_work_of ?k_work_of ?a_tidy ?l_tidy ?c_tidy ?k_tidy ?a_stretches ?l_stretches ?c_stretches ?k_stretches ?a_free_part ?l_free_part ?c_free_part ?k_free_part ?a_taken_away ?l_taken_away ?c_taken_away ?k_taken_away ?a_rounds_with ?l_rounds_with ?c_rounds_with ?k_rounds_with ?a_with_ratios ?l_with_ratios ?c_with_ratios ?k_with_ratios ?a_left_at ?l_left_at ?c_left_at ?k_left_at ?a_moments ?l_moments ?c_moments ?k_moments ?a_scaled ?l_scaled ?c_scaled ?k_scaled ?a_spent_until ?l_spent_until ?c_spent_until ?k_spent_until ?a_in_order ?l_in_order ?c_in_order ?k_in_order ?a_store ?l_store ?c_store ?k_store ?a_account ?l_account ?c_account ?k_account ?a_first_due ?l_first_due ?c_first_due ?k_first_due ?a_round_pieces ?l_round_pieces ?c_round_pieces ?k_round_pieces ?a_plan_with ?l_plan_with ?c_plan_with ?k_plan_with ?a_best_plan ?l_best_plan ?c_best_plan ?k_best_plan ?aL_pool ?lL_pool ?cL_pool ?kL_pool ?aL_draw ?lL_draw ?cL_draw ?kL_draw ?aL_gcd ?lL_gcd ?cL_gcd ?kL_gcd ?aL_ratio ?lL_ratio ?cL_ratio ?kL_ratio ?aL_plus ?lL_plus ?cL_plus ?kL_plus ?aL_minus ?lL_minus ?cL_minus ?kL_minus ?aL_times ?lL_times ?cL_times ?kL_times ?aL_over ?lL_over ?cL_over ?kL_over ?aL_less ?lL_less ?cL_less ?kL_less ?aL_sum ?lL_sum ?cL_sum ?kL_sum ?aL_name ?lL_name ?cL_name ?kL_name ?aL_window ?lL_window ?cL_window ?kL_window ?aL_jobs ?lL_jobs ?cL_jobs ?kL_jobs ?aL_in_order ?lL_in_order ?cL_in_order ?kL_in_order ?aL_driven ?lL_driven ?cL_driven ?kL_driven ?aL_points ?lL_points ?cL_points ?kL_points ?aL_shares ?lL_shares ?cL_shares ?kL_shares ?aL_rival ?lL_rival ?cL_rival ?kL_rival ?a_ratio ?l_ratio ?c_ratio ?k_ratio ?dR ?eR ?aZ ?lZ ?cZ ?eZ ?aM ?agcd ?alcm ?zabs ?zint ?zlen ?zlist ?zmax ?zmin ?zrange ?zreversed ?zsorted ?zsum ?ztuple ?aCS ?pgS ?hdS ?poS ?saS ?mkS ?kcS ?nS0 ?nS1 ?aCR ?pgR ?hdR ?poR ?saR ?mkR ?kcR ?nR0 ?nR1 ?nR2 ?nR3 ?nR4 ?nR5 ?nR6 ?a_SI ?i_SI ?l_SI ?c_SI ?k_SI ?a_RI ?i_RI ?l_RI ?c_RI ?k_RI ?dI ?eI ?a_mload ?i_mload ?l_mload ?c_mload ?k_mload ?a_mlength ?i_mlength ?l_mlength ?c_mlength ?k_mlength ?a_mdensest ?i_mdensest ?l_mdensest ?c_mdensest ?k_mdensest ?a_madvance ?i_madvance ?l_madvance ?c_madvance ?k_madvance ?a_mwaiting ?i_mwaiting ?l_mwaiting ?c_mwaiting ?k_mwaiting ?a_mtoo_late ?i_mtoo_late ?l_mtoo_late ?c_mtoo_late ?k_mtoo_late ?a_mdone ?i_mdone ?l_mdone ?c_mdone ?k_mdone ?a_moffer ?i_moffer ?l_moffer ?c_moffer ?k_moffer ?a_law ?l_law ?c_law ?k_law
    (case a_plus => k_is)
    (case l_plus => k_is)
    (case c_plus => k_is)
    (case k_plus => k_is)
    (case a_minus => k_is)
    (case l_minus => k_is)
    (case c_minus => k_is)
    (case k_minus => k_is)
    (case a_times => k_is)
    (case l_times => k_is)
    (case c_times => k_is)
    (case k_times => k_is)
    (case a_over => k_is)
    (case l_over => k_is)
    (case c_over => k_is)
    (case k_over => k_is)
    (case a_less => k_is)
    (case l_less => k_is)
    (case c_less => k_is)
    (case k_less => k_is)
    (case a_least => k_is)
    (case l_least => k_is)
    (case c_least => k_is)
    (case k_least => k_is)
    (case a_greatest => k_is)
    (case l_greatest => k_is)
    (case c_greatest => k_is)
    (case k_greatest => k_is)
    (case a_length => k_is)
    (case l_length => k_is)
    (case c_length => k_is)
    (case k_length => k_is)
    (case a_work_of => k_is)
    (case l_work_of => k_is)
    (case c_work_of => k_is)
    (case k_work_of => k_is)
    (case a_tidy => k_is)
    (case l_tidy => k_is)
    (case c_tidy => k_is)
    (case k_tidy => k_is)
    (case a_stretches => k_is)
    (case l_stretches => k_is)
    (case c_stretches => k_is)
    (case k_stretches => k_is)
    (case a_free_part => k_is)
    (case l_free_part => k_is)
    (case c_free_part => k_is)
    (case k_free_part => k_is)
    (case a_taken_away => k_is)
    (case l_taken_away => k_is)
    (case c_taken_away => k_is)
    (case k_taken_away => k_is)
    (case a_rounds_with => k_is)
    (case l_rounds_with => k_is)
    (case c_rounds_with => k_is)
    (case k_rounds_with => k_is)
    (case a_with_ratios => k_is)
    (case l_with_ratios => k_is)
    (case c_with_ratios => k_is)
    (case k_with_ratios => k_is)
    (case a_left_at => k_is)
    (case l_left_at => k_is)
    (case c_left_at => k_is)
    (case k_left_at => k_is)
    (case a_moments => k_is)
    (case l_moments => k_is)
    (case c_moments => k_is)
    (case k_moments => k_is)
    (case a_scaled => k_is)
    (case l_scaled => k_is)
    (case c_scaled => k_is)
    (case k_scaled => k_is)
    (case a_spent_until => k_is)
    (case l_spent_until => k_is)
    (case c_spent_until => k_is)
    (case k_spent_until => k_is)
    (case a_in_order => k_is)
    (case l_in_order => k_is)
    (case c_in_order => k_is)
    (case k_in_order => k_is)
    (case a_store => k_is)
    (case l_store => k_is)
    (case c_store => k_is)
    (case k_store => k_is)
    (case a_account => k_is)
    (case l_account => k_is)
    (case c_account => k_is)
    (case k_account => k_is)
    (case a_first_due => k_is)
    (case l_first_due => k_is)
    (case c_first_due => k_is)
    (case k_first_due => k_is)
    (case a_round_pieces => k_is)
    (case l_round_pieces => k_is)
    (case c_round_pieces => k_is)
    (case k_round_pieces => k_is)
    (case a_plan_with => k_is)
    (case l_plan_with => k_is)
    (case c_plan_with => k_is)
    (case k_plan_with => k_is)
    (case a_best_plan => k_is)
    (case l_best_plan => k_is)
    (case c_best_plan => k_is)
    (case k_best_plan => k_is)
    (case aL_pool => k_is)
    (case lL_pool => k_is)
    (case cL_pool => k_is)
    (case kL_pool => k_is)
    (case aL_draw => k_is)
    (case lL_draw => k_is)
    (case cL_draw => k_is)
    (case kL_draw => k_is)
    (case aL_gcd => k_is)
    (case lL_gcd => k_is)
    (case cL_gcd => k_is)
    (case kL_gcd => k_is)
    (case aL_ratio => k_is)
    (case lL_ratio => k_is)
    (case cL_ratio => k_is)
    (case kL_ratio => k_is)
    (case aL_plus => k_is)
    (case lL_plus => k_is)
    (case cL_plus => k_is)
    (case kL_plus => k_is)
    (case aL_minus => k_is)
    (case lL_minus => k_is)
    (case cL_minus => k_is)
    (case kL_minus => k_is)
    (case aL_times => k_is)
    (case lL_times => k_is)
    (case cL_times => k_is)
    (case kL_times => k_is)
    (case aL_over => k_is)
    (case lL_over => k_is)
    (case cL_over => k_is)
    (case kL_over => k_is)
    (case aL_less => k_is)
    (case lL_less => k_is)
    (case cL_less => k_is)
    (case kL_less => k_is)
    (case aL_sum => k_is)
    (case lL_sum => k_is)
    (case cL_sum => k_is)
    (case kL_sum => k_is)
    (case aL_name => k_is)
    (case lL_name => k_is)
    (case cL_name => k_is)
    (case kL_name => k_is)
    (case aL_window => k_is)
    (case lL_window => k_is)
    (case cL_window => k_is)
    (case kL_window => k_is)
    (case aL_jobs => k_is)
    (case lL_jobs => k_is)
    (case cL_jobs => k_is)
    (case kL_jobs => k_is)
    (case aL_in_order => k_is)
    (case lL_in_order => k_is)
    (case cL_in_order => k_is)
    (case kL_in_order => k_is)
    (case aL_driven => k_is)
    (case lL_driven => k_is)
    (case cL_driven => k_is)
    (case kL_driven => k_is)
    (case aL_points => k_is)
    (case lL_points => k_is)
    (case cL_points => k_is)
    (case kL_points => k_is)
    (case aL_shares => k_is)
    (case lL_shares => k_is)
    (case cL_shares => k_is)
    (case kL_shares => k_is)
    (case aL_rival => k_is)
    (case lL_rival => k_is)
    (case cL_rival => k_is)
    (case kL_rival => k_is)
    (case a_ratio => k_is)
    (case l_ratio => k_is)
    (case c_ratio => k_is)
    (case k_ratio => k_is)
    (case dR => k_is)
    (case eR => rfl)
    (case aZ => k_is)
    (case lZ => k_is)
    (case cZ => rfl)
    (case eZ => rfl)
    (case aM => k_is)
    (case agcd => k_is)
    (case alcm => k_is)
    (case zabs => k_is)
    (case zint => k_is)
    (case zlen => k_is)
    (case zlist => k_is)
    (case zmax => k_is)
    (case zmin => k_is)
    (case zrange => k_is)
    (case zreversed => k_is)
    (case zsorted => k_is)
    (case zsum => k_is)
    (case ztuple => k_is)
    (case aCS => k_is)
    (case pgS => k_is)
    (case hdS => k_is)
    (case poS => k_is)
    (case saS => k_is)
    (case mkS => k_is)
    (case kcS => k_is)
    (case nS0 => k_is)
    (case nS1 => k_is)
    (case aCR => k_is)
    (case pgR => k_is)
    (case hdR => k_is)
    (case poR => k_is)
    (case saR => k_is)
    (case mkR => k_is)
    (case kcR => k_is)
    (case nR0 => k_is)
    (case nR1 => k_is)
    (case nR2 => k_is)
    (case nR3 => k_is)
    (case nR4 => k_is)
    (case nR5 => k_is)
    (case nR6 => k_is)
    (case a_SI => k_is)
    (case i_SI => k_is)
    (case l_SI => k_is)
    (case c_SI => k_is)
    (case k_SI => k_is)
    (case a_RI => k_is)
    (case i_RI => k_is)
    (case l_RI => k_is)
    (case c_RI => k_is)
    (case k_RI => k_is)
    (case dI => k_is)
    (case eI => rfl)
    (case a_mload => k_is)
    (case i_mload => k_is)
    (case l_mload => k_is)
    (case c_mload => k_is)
    (case k_mload => k_is)
    (case a_mlength => k_is)
    (case i_mlength => k_is)
    (case l_mlength => k_is)
    (case c_mlength => k_is)
    (case k_mlength => k_is)
    (case a_mdensest => k_is)
    (case i_mdensest => k_is)
    (case l_mdensest => k_is)
    (case c_mdensest => k_is)
    (case k_mdensest => k_is)
    (case a_madvance => k_is)
    (case i_madvance => k_is)
    (case l_madvance => k_is)
    (case c_madvance => k_is)
    (case k_madvance => k_is)
    (case a_mwaiting => k_is)
    (case i_mwaiting => k_is)
    (case l_mwaiting => k_is)
    (case c_mwaiting => k_is)
    (case k_mwaiting => k_is)
    (case a_mtoo_late => k_is)
    (case i_mtoo_late => k_is)
    (case l_mtoo_late => k_is)
    (case c_mtoo_late => k_is)
    (case k_mtoo_late => k_is)
    (case a_mdone => k_is)
    (case i_mdone => k_is)
    (case l_mdone => k_is)
    (case c_mdone => k_is)
    (case k_mdone => k_is)
    (case a_moffer => k_is)
    (case i_moffer => k_is)
    (case l_moffer => k_is)
    (case c_moffer => k_is)
    (case k_moffer => k_is)
    (case a_law => k_is)
    (case l_law => k_is)
    (case c_law => k_is)
    (case k_law => k_is)
#print axioms PySem.Challenge.cw_sparewatts_k35_whole_why_four_times_is_e_holds
