import PyProof.Rows.All
import Wide.All
import OpenK.AllK
import Wide.FinOn
import HandS.Codes
import HandS.Conv
import HandS.DictComp
import HandS.DictTup
import HandS.Exc
import HandS.Flow
import HandS.ForMost
import HandS.IsInst
import HandS.SortInts
import HandS.SortRule
import HandS.Star
import HandS.Style
import HandS.TupAny
import HandS.TupLen
import HandS.Walk
import HandS.Wide
import HandS.Zip
import KE.DataMinMax
import KE.DatumOrd
import KE.GoesEnum
import KE.SortData
import PySem.Challenge.RW_shapeholes_k63_whole_rows_and_columns_of
set_option Elab.async false
set_option linter.all false
set_option maxRecDepth 100000
set_option maxHeartbeats 8000000
/-! Sums and "more unknowns than equations". -/
namespace K63

def ls {α : Type} : List α → (α → Int) → Int
  | [], _ => 0
  | a :: l, f => f a + ls l f

@[simp] theorem ls_nil {α : Type} (f : α → Int) : ls [] f = 0 := rfl
@[simp] theorem ls_cons {α : Type} (a : α) (l : List α) (f : α → Int) : ls (a :: l) f = f a + ls l f := rfl

theorem ls_congr {α : Type} {l : List α} {f g : α → Int} (h : ∀ a ∈ l, f a = g a) : ls l f = ls l g := by
  induction l with
  | nil => rfl
  | cons a l ih =>
    simp only [ls_cons]
    rw [h a (by simp), ih (fun b hb => h b (by simp [hb]))]

theorem ls_zero {α : Type} {l : List α} {f : α → Int} (h : ∀ a ∈ l, f a = 0) : ls l f = 0 := by
  induction l with
  | nil => rfl
  | cons a l ih =>
    simp only [ls_cons]
    rw [h a (by simp), ih (fun b hb => h b (by simp [hb]))]; rfl

theorem ls_add {α : Type} (l : List α) (f g : α → Int) : ls l (fun a => f a + g a) = ls l f + ls l g := by
  induction l with
  | nil => rfl
  | cons a l ih => simp only [ls_cons, ih]; omega

theorem ls_mul {α : Type} (l : List α) (k : Int) (f : α → Int) : ls l (fun a => k * f a) = k * ls l f := by
  induction l with
  | nil => simp
  | cons a l ih => simp only [ls_cons, ih, Int.mul_add]

theorem ls_mul' {α : Type} (l : List α) (k : Int) (f : α → Int) : ls l (fun a => f a * k) = ls l f * k := by
  induction l with
  | nil => simp
  | cons a l ih => simp only [ls_cons, ih, Int.add_mul]

theorem ls_neg {α : Type} (l : List α) (f : α → Int) : ls l (fun a => - f a) = - ls l f := by
  induction l with
  | nil => rfl
  | cons a l ih => simp only [ls_cons, ih]; omega

theorem ls_sub {α : Type} (l : List α) (f g : α → Int) : ls l (fun a => f a - g a) = ls l f - ls l g := by
  induction l with
  | nil => rfl
  | cons a l ih => simp only [ls_cons, ih]; omega

theorem ls_comm {α β : Type} (l : List α) (m : List β) (f : α → β → Int) :
    ls l (fun a => ls m (fun b => f a b)) = ls m (fun b => ls l (fun a => f a b)) := by
  induction l with
  | nil => simp only [ls_nil]; exact (ls_zero (fun _ _ => rfl)).symm
  | cons a l ih => simp only [ls_cons, ih, ls_add]

theorem ls_append {α : Type} (l m : List α) (f : α → Int) : ls (l ++ m) f = ls l f + ls m f := by
  induction l with
  | nil => simp
  | cons a l ih => simp only [List.cons_append, ls_cons, ih]; omega

theorem ls_erase {l : List Nat} {u : Nat} (h : u ∈ l) (f : Nat → Int) : ls l f = f u + ls (l.erase u) f := by
  induction l with
  | nil => simp at h
  | cons a l ih =>
    by_cases e : a = u
    · subst e; simp
    · have hb : (a == u) = false := by simp [e]
      rw [List.erase_cons, hb]
      have := ih (by simpa [Ne.symm e] using h)
      simp only [ls_cons]
      simp [this]; omega

theorem ls_single {l : List Nat} {u : Nat} {f : Nat → Int} (hn : l.Nodup) (h : u ∈ l) (hz : ∀ a ∈ l, a ≠ u → f a = 0) :
    ls l f = f u := by
  rw [ls_erase h]
  rw [ls_zero (f := f)]
  · omega
  · intro a ha
    have := (hn.mem_erase_iff).1 ha
    exact hz a this.2 this.1

/-- more unknowns than equations: a solution that is not zero -/
theorem more : ∀ (E U : List Nat), U.Nodup → E.length < U.length → ∀ A : Nat → Nat → Int,
    ∃ x : Nat → Int, (∃ u, u ∈ U ∧ x u ≠ 0) ∧ (∀ u, u ∉ U → x u = 0) ∧ ∀ e ∈ E, ls U (fun u => A e u * x u) = 0 := by
  intro E
  induction E with
  | nil =>
    intro U hn hl A
    cases U with
    | nil => simp at hl
    | cons u U =>
      refine ⟨fun v => if v = u then 1 else 0, ⟨u, by simp, by simp⟩, ?_, ?_⟩
      · intro v hv
        have : v ≠ u := by intro h; apply hv; simp [h]
        simp [this]
      · intro e he; simp at he
  | cons e E ih =>
    intro U hn hl A
    by_cases hz : ∀ u ∈ U, A e u = 0
    · obtain ⟨x, h1, h2, h3⟩ := ih U hn (by simp at hl; omega) A
      refine ⟨x, h1, h2, ?_⟩
      intro i hi
      rcases List.mem_cons.1 hi with rfl | hi
      · apply ls_zero; intro u hu; rw [hz u hu]; simp
      · exact h3 i hi
    · have : ∃ u0, u0 ∈ U ∧ A e u0 ≠ 0 := by
        apply Classical.byContradiction; intro hh
        apply hz; intro u hu
        apply Classical.byContradiction; intro h2
        exact hh ⟨u, hu, h2⟩
      obtain ⟨u0, hu0, ha0⟩ := this
      have hlen : (U.erase u0).length = U.length - 1 := List.length_erase_of_mem hu0
      have hpos : 0 < U.length := List.length_pos_of_mem hu0
      obtain ⟨x', ⟨u1, hu1, hx1⟩, h2, h3⟩ := ih (U.erase u0) (hn.erase u0) (by simp at hl; omega)
        (fun i u => A e u0 * A i u - A i u0 * A e u)
      have hu1' := (hn.mem_erase_iff).1 hu1
      refine ⟨fun u => if u = u0 then - ls (U.erase u0) (fun u => A e u * x' u) else A e u0 * x' u, ⟨u1, hu1'.2, ?_⟩, ?_, ?_⟩
      · simp only [hu1'.1, if_false]
        exact Int.mul_ne_zero ha0 hx1
      · intro u hu
        have hne : u ≠ u0 := by intro h; exact hu (h ▸ hu0)
        simp only [hne, if_false]
        rw [h2 u (fun h => hu (List.mem_of_mem_erase h))]; simp
      · intro i hi
        rw [ls_erase hu0]
        have hc : ls (U.erase u0) (fun u => A i u * (if u = u0 then - ls (U.erase u0) (fun u => A e u * x' u) else A e u0 * x' u))
            = ls (U.erase u0) (fun u => A e u0 * (A i u * x' u)) := by
          apply ls_congr; intro u hu
          have := ((hn.mem_erase_iff).1 hu).1
          simp only [this, if_false]
          rw [← Int.mul_assoc, ← Int.mul_assoc, Int.mul_comm (A i u)]
        rw [hc, ls_mul]
        simp only [if_true]
        rcases List.mem_cons.1 hi with rfl | hi
        · rw [Int.mul_neg]; omega
        · have := h3 i hi
          have e2 : ls (U.erase u0) (fun u => (A e u0 * A i u - A i u0 * A e u) * x' u)
              = A e u0 * ls (U.erase u0) (fun u => A i u * x' u) - A i u0 * ls (U.erase u0) (fun u => A e u * x' u) := by
            rw [← ls_mul, ← ls_mul, ← ls_sub]
            apply ls_congr; intro u _
            rw [Int.sub_mul, Int.mul_assoc, Int.mul_assoc]
          rw [e2] at this
          rw [Int.mul_neg]; omega

end K63


namespace K63

def pc : Nat → Nat → Nat
  | 0, _ => 0
  | k + 1, m => pc k m + (if m.testBit k then 1 else 0)

/-- the sign of the point i over the set s -/
def sg (i s : Nat) : Int := if pc i s % 2 = 0 then 1 else -1

theorem sg_cases (i s : Nat) : sg i s = 1 ∨ sg i s = -1 := by
  unfold sg; split <;> simp

theorem sg_sq (i s : Nat) : sg i s * sg i s = 1 := by
  rcases sg_cases i s with h | h <;> rw [h] <;> rfl

/-- the boundary -/
def bd (n : Nat) (c : Nat → Int) (t : Nat) : Int :=
  ls (List.range n) (fun i => if t.testBit i then 0 else sg i t * c (t + 2 ^ i))

theorem sg_swap : ∀ t < 128, ∀ i < 7, ∀ j < 7, t.testBit i = false → (t + 2 ^ i).testBit j = false →
    t.testBit j = false ∧ (t + 2 ^ j).testBit i = false ∧ sg i t * sg j (t + 2 ^ i) = - (sg j t * sg i (t + 2 ^ j)) := by
  have h : ((List.range 128).all fun t => (List.range 7).all fun i => (List.range 7).all fun j =>
      t.testBit i || (t + 2 ^ i).testBit j ||
      (!t.testBit j && !(t + 2 ^ j).testBit i && decide (sg i t * sg j (t + 2 ^ i) = - (sg j t * sg i (t + 2 ^ j))))) = true := by
    decide +kernel
  intro t ht i hi j hj h1 h2
  have := List.all_eq_true.1 (List.all_eq_true.1 (List.all_eq_true.1 h t (List.mem_range.2 ht)) i (List.mem_range.2 hi)) j (List.mem_range.2 hj)
  simp only [h1, h2, Bool.false_or, Bool.and_eq_true, Bool.not_eq_true', decide_eq_true_eq] at this
  exact ⟨this.1.1, this.1.2, this.2⟩

theorem anti {L : List Nat} {f : Nat → Nat → Int} (h : ∀ i ∈ L, ∀ j ∈ L, f i j + f j i = 0) :
    ls L (fun i => ls L (fun j => f i j)) = 0 := by
  have h1 : ls L (fun i => ls L (fun j => f i j)) + ls L (fun i => ls L (fun j => f j i)) = 0 := by
    rw [← ls_add]
    apply ls_zero; intro i hi
    rw [← ls_add]
    exact ls_zero (fun j hj => h i hi j hj)
  have h2 : ls L (fun i => ls L (fun j => f j i)) = ls L (fun i => ls L (fun j => f i j)) := ls_comm L L (fun i j => f j i)
  omega

theorem bdbd {n : Nat} (hn : n ≤ 7) (c : Nat → Int) {t : Nat} (ht : t < 128) : bd n (bd n c) t = 0 := by
  have e : bd n (bd n c) t = ls (List.range n) (fun i => ls (List.range n) (fun j =>
      if t.testBit i then 0 else if (t + 2 ^ i).testBit j then 0 else sg i t * sg j (t + 2 ^ i) * c (t + 2 ^ i + 2 ^ j))) := by
    unfold bd
    apply ls_congr; intro i _
    by_cases h : t.testBit i = true
    · simp only [h, if_true]; exact (ls_zero (fun _ _ => rfl)).symm
    · simp only [h]
      rw [if_neg (by simp), ← ls_mul]
      apply ls_congr; intro j _
      by_cases h2 : (t + 2 ^ i).testBit j = true
      · simp [h2]
      · simp only [h2]; rw [if_neg (by simp), if_neg (by simp), if_neg (by simp), Int.mul_assoc]
  rw [e]
  apply anti
  intro i hi j hj
  have hi : i < 7 := by have := List.mem_range.1 hi; omega
  have hj : j < 7 := by have := List.mem_range.1 hj; omega
  by_cases h : t.testBit i = true
  · by_cases h2 : t.testBit j = true
    · simp [h, h2]
    · by_cases h3 : (t + 2 ^ j).testBit i = true
      · simp [h, h3]
      · have := (sg_swap t ht j hj i hi (by simpa using h2) (by simpa using h3)).1
        simp [h] at this
  · by_cases h2 : (t + 2 ^ i).testBit j = true
    · by_cases h3 : t.testBit j = true
      · simp [h2, h3]
      · by_cases h4 : (t + 2 ^ j).testBit i = true
        · simp [h2, h4]
        · have := (sg_swap t ht j hj i hi (by simpa using h3) (by simpa using h4)).2.1
          simp [h2] at this
    · obtain ⟨a, b, d⟩ := sg_swap t ht i hi j hj (by simpa using h) (by simpa using h2)
      simp only [a, b, h, h2]
      simp only [Bool.false_eq_true, if_false]
      rw [d, show t + 2 ^ j + 2 ^ i = t + 2 ^ i + 2 ^ j by omega, Int.neg_mul]; omega

/-- the sign with which s comes into the boundary at t -/
def inc (n : Nat) (t s : Nat) : Int :=
  ls (List.range n) (fun i => if t.testBit i then 0 else if t + 2 ^ i = s then sg i t else 0)

theorem ls_inc {n : Nat} {U : List Nat} (hU : U.Nodup) {x : Nat → Int} (hx : ∀ u, u ∉ U → x u = 0) (t : Nat) :
    ls U (fun s => inc n t s * x s) = bd n x t := by
  have e : ∀ s, inc n t s * x s = ls (List.range n) (fun i => if t.testBit i then 0 else if t + 2 ^ i = s then sg i t * x s else 0) := by
    intro s
    unfold inc
    rw [← ls_mul']
    apply ls_congr; intro i _
    by_cases h : t.testBit i = true
    · simp [h]
    · by_cases h2 : t + 2 ^ i = s <;> simp [h, h2]
  rw [ls_congr (fun s _ => e s), ls_comm]
  unfold bd
  apply ls_congr; intro i _
  by_cases h : t.testBit i = true
  · simp only [h, if_true]; exact ls_zero (fun _ _ => rfl)
  · simp only [h, if_false, Bool.false_eq_true]
    by_cases hm : t + 2 ^ i ∈ U
    · rw [ls_single hU hm]
      · simp
      · intro a _ hne; simp [Ne.symm hne]
    · rw [hx _ hm, Int.mul_zero]
      apply ls_zero; intro a ha
      have : t + 2 ^ i ≠ a := fun h => hm (h ▸ ha)
      simp [this]

end K63


namespace K63

def E21 : List Nat := [3, 5, 6, 9, 10, 12, 17, 18, 20, 24, 33, 34, 36, 40, 48, 65, 66, 68, 72, 80, 96]
def T35 : List Nat := [7, 11, 13, 14, 19, 21, 22, 25, 26, 28, 35, 37, 38, 41, 42, 44, 49, 50, 52, 56, 67, 69, 70, 73, 74, 76, 81, 82, 84, 88, 97, 98, 100, 104, 112]

theorem E21_nd : E21.Nodup := by decide
theorem T35_nd : T35.Nodup := by decide
theorem E21_iff : ∀ m < 128, m ∈ E21 ↔ pc 7 m = 2 := by decide +kernel
theorem E21_lt : ∀ e ∈ E21, e < 128 := by decide
theorem T35_lt : ∀ e ∈ T35, e < 128 := by decide

theorem ls_count {α : Type} (L : List α) (P : α → Bool) : ls L (fun a => if P a then 1 else 0) = ((L.filter P).length : Int) := by
  induction L with
  | nil => rfl
  | cons a L ih =>
    simp only [ls_cons, ih]
    by_cases h : P a = true
    · rw [List.filter_cons_of_pos h]; simp [h]; omega
    · rw [List.filter_cons_of_neg h]; simp [h]

theorem cnt1 (x : Nat → Int) : ls E21 (fun e => ls (List.range 7) (fun i => if e.testBit i then 0 else x (e + 2 ^ i))) = 3 * ls T35 x := by
  have r : List.range 7 = [0,1,2,3,4,5,6] := by decide
  rw [r]
  simp (decide := true) only [E21, T35, ls_cons, ls_nil, if_true, if_false, Nat.reducePow, Nat.reduceAdd]
  omega

theorem cnt2 (x : Nat → Int) : ls (List.range 7) (fun m => ls E21 (fun e => if e.testBit m then 0 else x e)) = 5 * ls E21 x := by
  have r : List.range 7 = [0,1,2,3,4,5,6] := by decide
  rw [r]
  simp (decide := true) only [E21, ls_cons, ls_nil, if_true, if_false]
  omega

end K63


namespace K63

theorem ls_le {α : Type} {l : List α} {f g : α → Int} (h : ∀ a ∈ l, f a ≤ g a) : ls l f ≤ ls l g := by
  induction l with
  | nil => exact Int.le_refl _
  | cons a l ih =>
    simp only [ls_cons]
    have := h a (by simp)
    have := ih (fun b hb => h b (by simp [hb]))
    omega

theorem ls_sub_le {x : Nat → Int} : ∀ (D L : List Nat), D.Nodup → (∀ d ∈ D, d ∈ L) → (∀ a ∈ L, 0 ≤ x a) → ls D x ≤ ls L x := by
  intro D
  induction D with
  | nil => intro L _ _ h; rw [ls_nil]; have := ls_le (f := fun _ => 0) (g := x) h; rwa [ls_zero (fun _ _ => rfl)] at this
  | cons d D ih =>
    intro L hn hs h
    have hd : d ∈ L := hs d (by simp)
    rw [ls_cons, ls_erase hd]
    have hn' := List.nodup_cons.1 hn
    have := ih (L.erase d) hn'.2 (fun a ha => by
      have hne : a ≠ d := fun e => hn'.1 (e ▸ ha)
      exact (List.mem_erase_of_ne hne).2 (hs a (by simp [ha]))) (fun a ha => h a (List.mem_of_mem_erase ha))
    omega

theorem ls_filter {α : Type} (L : List α) (P : α → Bool) (f : α → Int) :
    ls L f = ls (L.filter P) f + ls (L.filter (fun a => !P a)) f := by
  induction L with
  | nil => rfl
  | cons a L ih =>
    by_cases h : P a = true
    · simp [List.filter_cons, h, ih]; omega
    · simp [List.filter_cons, h, ih]; omega

theorem ls_dvd {α : Type} {p : Int} {L : List α} {f : α → Int} (h : ∀ a ∈ L, p ∣ f a) : p ∣ ls L f := by
  induction L with
  | nil => exact Int.dvd_zero p
  | cons a L ih =>
    simp only [ls_cons]
    exact Int.dvd_add (h a (by simp)) (ih (fun b hb => h b (by simp [hb])))

/-- the class of t: 1 if it is x, -1 if it is -x (mod p) -/
def cl (p x t : Int) : Int := if p ∣ t - x then 1 else if p ∣ t + x then -1 else 0

section
variable {p : Int} (hp2 : ¬ p ∣ 2) (hpr : ∀ a b : Int, p ∣ a * b → p ∣ a ∨ p ∣ b)

theorem cl_zero {x t : Int} (hx : ¬ p ∣ x) (ht : p ∣ t) : cl p x t = 0 := by
  have h1 : ¬ p ∣ t - x := fun h => hx (by have := Int.dvd_sub ht h; rwa [show t - (t - x) = x by omega] at this)
  have h2 : ¬ p ∣ t + x := fun h => hx (by have := Int.dvd_sub h ht; rwa [show t + x - t = x by omega] at this)
  simp [cl, h1, h2]

include hp2 hpr in
theorem cl_op {x t t' : Int} (hx : ¬ p ∣ x) (h : p ∣ t + t') : cl p x t' = - cl p x t := by
  have not_both : ∀ s, p ∣ s - x → p ∣ s + x → False := by
    intro s a b
    have := Int.dvd_sub b a
    rw [show s + x - (s - x) = 2 * x by omega] at this
    rcases hpr _ _ this with h | h
    · exact hp2 h
    · exact hx h
  have e1 : p ∣ t' - x ↔ p ∣ t + x := by
    constructor
    · intro a; have := Int.dvd_sub h a; rwa [show t + t' - (t' - x) = t + x by omega] at this
    · intro a; have := Int.dvd_sub h a; rwa [show t + t' - (t + x) = t' - x by omega] at this
  have e2 : p ∣ t' + x ↔ p ∣ t - x := by
    constructor
    · intro a; have := Int.dvd_sub h a; rwa [show t + t' - (t' + x) = t - x by omega] at this
    · intro a; have := Int.dvd_sub h a; rwa [show t + t' - (t - x) = t' + x by omega] at this
  unfold cl
  by_cases a : p ∣ t - x
  · have b : ¬ p ∣ t + x := fun b => not_both t a b
    simp [a, b, e1, e2]
  · by_cases b : p ∣ t + x <;> simp [a, b, e1, e2]

include hp2 hpr in
theorem cl_neg {x t : Int} (hx : ¬ p ∣ x) : cl p x (-t) = - cl p x t :=
  cl_op hp2 hpr hx (by rw [Int.add_right_neg]; exact Int.dvd_zero p)

include hp2 hpr in
theorem cl_sum {α : Type} {x : Int} (hx : ¬ p ∣ x) (L : List α) (f : α → Int)
    (hc : (L.filter (fun a => decide (¬ p ∣ f a))).length ≤ 2) (hs : p ∣ ls L f) : ls L (fun a => cl p x (f a)) = 0 := by
  have hz : ∀ a ∈ L.filter (fun a => !decide (¬ p ∣ f a)), p ∣ f a := by
    intro a ha; have := (List.mem_filter.1 ha).2; simpa using this
  rw [ls_filter L (fun a => decide (¬ p ∣ f a))] at hs
  rw [ls_filter L (fun a => decide (¬ p ∣ f a))]
  rw [ls_zero (l := L.filter (fun a => !decide (¬ p ∣ f a))) (fun a ha => cl_zero hx (hz a ha)), Int.add_zero]
  have hs' : p ∣ ls (L.filter (fun a => decide (¬ p ∣ f a))) f := by
    have := Int.dvd_sub hs (ls_dvd hz)
    rwa [Int.add_sub_cancel] at this
  have hm : ∀ a ∈ L.filter (fun a => decide (¬ p ∣ f a)), ¬ p ∣ f a := by
    intro a ha; have := (List.mem_filter.1 ha).2; simpa using this
  generalize L.filter (fun a => decide (¬ p ∣ f a)) = F at hc hs' hm
  match F, hc, hs', hm with
  | [], _, _, _ => rfl
  | [a], _, hs', hm => exact absurd (by simpa using hs') (hm a (by simp))
  | [a, b], _, hs', hm =>
    simp only [ls_cons, ls_nil, Int.add_zero] at hs' ⊢
    rw [cl_op hp2 hpr hx hs']; omega

theorem one_not {α : Type} (L : List α) (f : α → Int)
    (hs : p ∣ ls L f) : (L.filter (fun a => decide (¬ p ∣ f a))).length ≠ 1 := by
  have hz : ∀ a ∈ L.filter (fun a => !decide (¬ p ∣ f a)), p ∣ f a := by
    intro a ha; have := (List.mem_filter.1 ha).2; simpa using this
  rw [ls_filter L (fun a => decide (¬ p ∣ f a))] at hs
  have hs' : p ∣ ls (L.filter (fun a => decide (¬ p ∣ f a))) f := by
    have := Int.dvd_sub hs (ls_dvd hz)
    rwa [Int.add_sub_cancel] at this
  have hm : ∀ a ∈ L.filter (fun a => decide (¬ p ∣ f a)), ¬ p ∣ f a := by
    intro a ha; have := (List.mem_filter.1 ha).2; simpa using this
  generalize L.filter (fun a => decide (¬ p ∣ f a)) = F at hs' hm
  intro hl
  match F, hl, hs', hm with
  | [a], _, hs', hm => exact absurd (by simpa using hs') (hm a (by simp))

end

/-- what stands over t at the point i -/
def ov (c : Nat → Int) (t i : Nat) : Int := if t.testBit i then 0 else sg i t * c (t + 2 ^ i)

theorem bd_ov (n : Nat) (c : Nat → Int) (t : Nat) : bd n c t = ls (List.range n) (ov c t) := rfl

def chi (p : Int) (c : Nat → Int) (s : Nat) : Int := if p ∣ c s then 0 else 1

def dg (p : Int) (c : Nat → Int) (e : Nat) : Int :=
  ls (List.range 7) (fun i => if e.testBit i then 0 else chi p c (e + 2 ^ i))

theorem dvd_sg {p : Int} (i t : Nat) (x : Int) : p ∣ sg i t * x ↔ p ∣ x := by
  rcases sg_cases i t with h | h <;> rw [h] <;> simp [Int.neg_dvd, Int.dvd_neg]

theorem dg_len (p : Int) (c : Nat → Int) (e : Nat) :
    dg p c e = (((List.range 7).filter (fun i => decide (¬ p ∣ ov c e i))).length : Int) := by
  rw [← ls_count]
  unfold dg
  apply ls_congr; intro i _
  unfold ov chi
  by_cases h : e.testBit i = true
  · simp [h, Int.dvd_zero]
  · by_cases h2 : p ∣ c (e + 2 ^ i) <;> simp [h, h2, dvd_sg]

theorem class_edge {p : Int} (hp2 : ¬ p ∣ 2) (hpr : ∀ a b : Int, p ∣ a * b → p ∣ a ∨ p ∣ b) {x : Int} (hx : ¬ p ∣ x)
    (c : Nat → Int) (e : Nat) (hd : dg p c e ≤ 2) (hs : p ∣ bd 7 c e) : bd 7 (fun s => cl p x (c s)) e = 0 := by
  rw [bd_ov] at hs
  rw [dg_len] at hd
  have := cl_sum hp2 hpr hx (List.range 7) (ov c e) (by omega) hs
  rw [← this, bd_ov]
  apply ls_congr; intro i _
  unfold ov
  by_cases h : e.testBit i = true
  · simp only [h, if_true]; exact (cl_zero hx (Int.dvd_zero p)).symm
  · simp only [h, if_false, Bool.false_eq_true]
    rcases sg_cases i e with h2 | h2 <;> rw [h2]
    · simp
    · rw [Int.neg_mul, Int.neg_mul, Int.one_mul, Int.one_mul, cl_neg hp2 hpr hx]

theorem dg_ne_one {p : Int} (c : Nat → Int) (e : Nat) (hs : p ∣ bd 7 c e) : dg p c e ≠ 1 := by
  rw [dg_len]
  have := one_not (p := p) (List.range 7) (ov c e) (by rw [← bd_ov]; exact hs)
  omega

/-- an edge that a 1-cycle uses has a second one at each end -/
theorem vx {W : Nat → Int} {u v : Nat} (hu : u < 7) (hv : v < 7) (huv : u ≠ v) (h0 : bd 7 W (2 ^ u) = 0)
    (hw : W (2 ^ u + 2 ^ v) ≠ 0) : ∃ x, x < 7 ∧ x ≠ u ∧ x ≠ v ∧ W (2 ^ u + 2 ^ x) ≠ 0 := by
  apply Classical.byContradiction; intro hh
  have hz : ∀ x, x < 7 → x ≠ u → x ≠ v → W (2 ^ u + 2 ^ x) = 0 := by
    intro x a b d
    apply Classical.byContradiction; intro e
    exact hh ⟨x, a, b, d, e⟩
  have := ls_single (l := List.range 7) (u := v) (f := ov W (2 ^ u)) List.nodup_range (List.mem_range.2 hv) (by
    intro a ha hne
    unfold ov
    by_cases e : a = u
    · subst e; simp
    · rw [hz a (List.mem_range.1 ha) e hne]; simp)
  rw [← bd_ov, h0] at this
  unfold ov at this
  have hb : (2 ^ u).testBit v = false := by
    rw [Nat.testBit_two_pow]; simp [huv]
  rw [hb] at this
  simp only [Bool.false_eq_true, if_false] at this
  rcases sg_cases v (2 ^ u) with h | h <;> rw [h] at this <;> omega

theorem edge_uv : ∀ e ∈ E21, ∃ u v, u < 7 ∧ v < 7 ∧ u ≠ v ∧ e = 2 ^ u + 2 ^ v := by
  have h : (E21.all fun e => (List.range 7).any fun u => (List.range 7).any fun v => decide (u ≠ v) && decide (e = 2 ^ u + 2 ^ v)) = true := by
    decide +kernel
  intro e he
  have := List.all_eq_true.1 h e he
  obtain ⟨u, hu, h1⟩ := List.any_eq_true.1 this
  obtain ⟨v, hv, h2⟩ := List.any_eq_true.1 h1
  simp only [Bool.and_eq_true, decide_eq_true_eq] at h2
  exact ⟨u, v, List.mem_range.1 hu, List.mem_range.1 hv, h2.1, h2.2⟩

theorem edge_mem : ∀ u < 7, ∀ v < 7, u ≠ v → 2 ^ u + 2 ^ v ∈ E21 := by
  have h : ((List.range 7).all fun u => (List.range 7).all fun v => decide (u = v) || E21.contains (2 ^ u + 2 ^ v)) = true := by
    decide +kernel
  intro u hu v hv huv
  have := List.all_eq_true.1 (List.all_eq_true.1 h u (List.mem_range.2 hu)) v (List.mem_range.2 hv)
  simpa [huv] using this

theorem edge_eq : ∀ a < 7, ∀ b < 7, ∀ x < 7, ∀ y < 7, a ≠ b → 2 ^ a + 2 ^ b = 2 ^ x + 2 ^ y → (a = x ∧ b = y) ∨ (a = y ∧ b = x) := by
  have h : ((List.range 7).all fun a => (List.range 7).all fun b => (List.range 7).all fun x => (List.range 7).all fun y =>
      decide (a = b) || decide (2 ^ a + 2 ^ b ≠ 2 ^ x + 2 ^ y) || (decide (a = x) && decide (b = y)) || (decide (a = y) && decide (b = x))) = true := by
    decide +kernel
  intro a ha b hb x hx y hy hab he
  have := List.all_eq_true.1 (List.all_eq_true.1 (List.all_eq_true.1 (List.all_eq_true.1 h a (List.mem_range.2 ha)) b (List.mem_range.2 hb)) x (List.mem_range.2 hx)) y (List.mem_range.2 hy)
  simp only [hab, he, decide_false, decide_true, Bool.false_or, ne_eq, not_true_eq_false, Bool.or_eq_true, Bool.and_eq_true, decide_eq_true_eq] at this
  exact this

end K63


namespace K63

def delta (t : Nat) : Nat → Int := fun s => if s = t then 1 else 0

theorem inc_bd (n t s : Nat) : bd n (delta s) t = inc n t s := by
  unfold bd inc delta
  apply ls_congr; intro i _
  by_cases h : t.testBit i = true
  · simp [h]
  · by_cases h2 : t + 2 ^ i = s <;> simp [h, h2]

theorem bd_add (n : Nat) (a b : Nat → Int) (t : Nat) : bd n (fun s => a s + b s) t = bd n a t + bd n b t := by
  unfold bd; rw [← ls_add]
  apply ls_congr; intro i _
  by_cases h : t.testBit i = true
  · simp [h]
  · simp [h, Int.mul_add]

theorem bd_mul (n : Nat) (k : Int) (a : Nat → Int) (t : Nat) : bd n (fun s => k * a s) t = k * bd n a t := by
  unfold bd; rw [← ls_mul]
  apply ls_congr; intro i _
  by_cases h : t.testBit i = true
  · simp [h]
  · simp only [h, if_false, Bool.false_eq_true]; rw [← Int.mul_assoc, ← Int.mul_assoc, Int.mul_comm (sg i t)]

theorem bd_sub (n : Nat) (a b : Nat → Int) (t : Nat) : bd n (fun s => a s - b s) t = bd n a t - bd n b t := by
  unfold bd; rw [← ls_sub]
  apply ls_congr; intro i _
  by_cases h : t.testBit i = true
  · simp [h]
  · simp [h, Int.mul_sub]

theorem bd_congr (n : Nat) {a b : Nat → Int} (t : Nat) (h : ∀ i, i < n → t.testBit i = false → a (t + 2 ^ i) = b (t + 2 ^ i)) :
    bd n a t = bd n b t := by
  unfold bd
  apply ls_congr; intro i hi
  by_cases h2 : t.testBit i = true
  · simp [h2]
  · simp only [h2, if_false, Bool.false_eq_true]; rw [h i (List.mem_range.1 hi) (by simpa using h2)]

theorem inc_ne {n t s : Nat} (h : inc n t s ≠ 0) : ∃ i, i < n ∧ t.testBit i = false ∧ t + 2 ^ i = s := by
  apply Classical.byContradiction; intro hh
  apply h
  unfold inc
  apply ls_zero; intro i hi
  by_cases h1 : t.testBit i = true
  · simp [h1]
  · by_cases h2 : t + 2 ^ i = s
    · exact absurd ⟨i, List.mem_range.1 hi, by simpa using h1, h2⟩ hh
    · simp [h1, h2]

theorem inc_val {n t i : Nat} (hi : i < n) (h : t.testBit i = false) : inc n t (t + 2 ^ i) = sg i t := by
  unfold inc
  rw [ls_single (u := i) List.nodup_range (List.mem_range.2 hi)]
  · simp [h]
  · intro a _ hne
    by_cases h1 : t.testBit a = true
    · simp [h1]
    · have : t + 2 ^ a ≠ t + 2 ^ i := by
        intro e
        have e2 : 2 ^ a = 2 ^ i := by omega
        exact hne ((Nat.pow_right_inj (by decide)).1 e2)
      rw [if_neg h1, if_neg this]

/-- three points: the faces -/
theorem tri_face : ∀ u < 7, ∀ v < 7, ∀ x < 7, u ≠ v → u ≠ x → v ≠ x → ∀ e < 128, ∀ i < 7, e.testBit i = false →
    e + 2 ^ i = 2 ^ u + 2 ^ v + 2 ^ x → e = 2 ^ u + 2 ^ v ∨ e = 2 ^ u + 2 ^ x ∨ e = 2 ^ v + 2 ^ x := by
  have h : ((List.range 7).all fun u => (List.range 7).all fun v => (List.range 7).all fun x => (List.range 7).all fun i =>
      decide (u = v) || decide (u = x) || decide (v = x) || decide (2 ^ u + 2 ^ v + 2 ^ x < 2 ^ i) ||
      (2 ^ u + 2 ^ v + 2 ^ x - 2 ^ i).testBit i || decide (i = u) || decide (i = v) || decide (i = x)) = true := by
    decide +kernel
  intro u hu v hv x hx huv hux hvx e _ i hi hb he
  have := List.all_eq_true.1 (List.all_eq_true.1 (List.all_eq_true.1 (List.all_eq_true.1 h u (List.mem_range.2 hu)) v (List.mem_range.2 hv)) x (List.mem_range.2 hx)) i (List.mem_range.2 hi)
  have e1 : 2 ^ u + 2 ^ v + 2 ^ x - 2 ^ i = e := by omega
  have e2 : ¬ 2 ^ u + 2 ^ v + 2 ^ x < 2 ^ i := by omega
  rw [e1] at this
  simp only [huv, hux, hvx, e2, hb, decide_false, Bool.false_or, Bool.or_false, Bool.or_eq_true, decide_eq_true_eq] at this
  rcases this with (rfl | rfl) | rfl
  · right; right; omega
  · right; left; omega
  · left; omega

theorem bit3 : ∀ u < 7, ∀ v < 7, ∀ x < 7, ∀ i < 7, u ≠ v → u ≠ x → v ≠ x →
    ((2 ^ u + 2 ^ v + 2 ^ x).testBit i = true ↔ i = u ∨ i = v ∨ i = x) := by
  have h : ((List.range 7).all fun u => (List.range 7).all fun v => (List.range 7).all fun x => (List.range 7).all fun i =>
      decide (u = v) || decide (u = x) || decide (v = x) ||
      ((2 ^ u + 2 ^ v + 2 ^ x).testBit i == (decide (i = u) || decide (i = v) || decide (i = x)))) = true := by
    decide +kernel
  intro u hu v hv x hx i hi huv hux hvx
  have := List.all_eq_true.1 (List.all_eq_true.1 (List.all_eq_true.1 (List.all_eq_true.1 h u (List.mem_range.2 hu)) v (List.mem_range.2 hv)) x (List.mem_range.2 hx)) i (List.mem_range.2 hi)
  simp only [huv, hux, hvx, decide_false, Bool.false_or, beq_iff_eq] at this
  rw [this]; simp [or_assoc]

theorem bit2 : ∀ u < 7, ∀ v < 7, ∀ i < 7, u ≠ v → ((2 ^ u + 2 ^ v).testBit i = true ↔ i = u ∨ i = v) := by
  have h : ((List.range 7).all fun u => (List.range 7).all fun v => (List.range 7).all fun i =>
      decide (u = v) || ((2 ^ u + 2 ^ v).testBit i == (decide (i = u) || decide (i = v)))) = true := by
    decide +kernel
  intro u hu v hv i hi huv
  have := List.all_eq_true.1 (List.all_eq_true.1 (List.all_eq_true.1 h u (List.mem_range.2 hu)) v (List.mem_range.2 hv)) i (List.mem_range.2 hi)
  simp only [huv, decide_false, Bool.false_or, beq_iff_eq] at this
  rw [this]; simp

theorem bit4 : ∀ u < 7, ∀ v < 7, ∀ x < 7, ∀ i < 7, ∀ j < 7, u ≠ v → u ≠ x → v ≠ x → i ≠ u → i ≠ v → i ≠ x →
    ((2 ^ u + 2 ^ v + 2 ^ x + 2 ^ i).testBit j = true ↔ j = u ∨ j = v ∨ j = x ∨ j = i) := by
  have h : ((List.range 7).all fun u => (List.range 7).all fun v => (List.range 7).all fun x => (List.range 7).all fun i => (List.range 7).all fun j =>
      decide (u = v) || decide (u = x) || decide (v = x) || decide (i = u) || decide (i = v) || decide (i = x) ||
      ((2 ^ u + 2 ^ v + 2 ^ x + 2 ^ i).testBit j == (decide (j = u) || decide (j = v) || decide (j = x) || decide (j = i)))) = true := by
    decide +kernel
  intro u hu v hv x hx i hi j hj huv hux hvx hiu hiv hix
  have := List.all_eq_true.1 (List.all_eq_true.1 (List.all_eq_true.1 (List.all_eq_true.1 (List.all_eq_true.1 h u (List.mem_range.2 hu)) v (List.mem_range.2 hv)) x (List.mem_range.2 hx)) i (List.mem_range.2 hi)) j (List.mem_range.2 hj)
  simp only [huv, hux, hvx, hiu, hiv, hix, decide_false, Bool.false_or, beq_iff_eq] at this
  rw [this]; simp [or_assoc]

theorem add_bit : ∀ s < 128, ∀ i < 7, s.testBit i = false → (s + 2 ^ i).testBit i = true := by
  have h : ((List.range 128).all fun s => (List.range 7).all fun i => s.testBit i || (s + 2 ^ i).testBit i) = true := by
    decide +kernel
  intro s hs i hi hb
  have := List.all_eq_true.1 (List.all_eq_true.1 h s (List.mem_range.2 hs)) i (List.mem_range.2 hi)
  simpa [hb] using this

theorem rest4 : ∀ u < 7, ∀ v < 7, ∀ x < 7, u ≠ v → u ≠ x → v ≠ x →
    ls (List.range 7) (fun i => if i = u ∨ i = v ∨ i = x then 0 else 2) = 8 := by
  have h : ((List.range 7).all fun u => (List.range 7).all fun v => (List.range 7).all fun x =>
      decide (u = v) || decide (u = x) || decide (v = x) ||
      decide (ls (List.range 7) (fun i => if i = u ∨ i = v ∨ i = x then 0 else 2) = 8)) = true := by
    decide +kernel
  intro u hu v hv x hx huv hux hvx
  have := List.all_eq_true.1 (List.all_eq_true.1 (List.all_eq_true.1 h u (List.mem_range.2 hu)) v (List.mem_range.2 hv)) x (List.mem_range.2 hx)
  simpa only [huv, hux, hvx, decide_false, Bool.false_or, decide_eq_true_eq] using this

theorem pow_lt7 {i : Nat} (h : i < 7) : 2 ^ i < 128 :=
  Nat.lt_of_lt_of_le (Nat.pow_lt_pow_right (by decide) h) (by decide)

end K63


namespace K63

theorem chi_cases (p : Int) (c : Nat → Int) (s : Nat) : chi p c s = 0 ∨ chi p c s = 1 := by
  unfold chi; split <;> simp

theorem dg_nonneg (p : Int) (c : Nat → Int) (e : Nat) : 0 ≤ dg p c e := by
  rw [dg_len]; omega

theorem bd_zero_of_dg {p : Int} {c z : Nat → Int} (hz : ∀ s, p ∣ c s → z s = 0) {e : Nat} (h : dg p c e = 0) : bd 7 z e = 0 := by
  have : ∀ i ∈ List.range 7, (if e.testBit i then 0 else chi p c (e + 2 ^ i)) = 0 := by
    intro i hi
    rw [dg, ls_erase hi] at h
    have h1 : 0 ≤ ls ((List.range 7).erase i) (fun i => if e.testBit i then 0 else chi p c (e + 2 ^ i)) := by
      have := ls_le (l := (List.range 7).erase i) (f := fun _ => 0) (g := fun i => if e.testBit i then 0 else chi p c (e + 2 ^ i)) (by
        intro a _; by_cases hb : e.testBit a = true
        · simp [hb]
        · rcases chi_cases p c (e + 2 ^ a) with h | h <;> simp [hb, h])
      rwa [ls_zero (fun _ _ => rfl)] at this
    by_cases hb : e.testBit i = true
    · simp [hb]
    · simp only [hb, if_false, Bool.false_eq_true] at h ⊢
      rcases chi_cases p c (e + 2 ^ i) with h2 | h2
      · exact h2
      · omega
  unfold bd
  apply ls_zero; intro i hi
  have := this i hi
  by_cases hb : e.testBit i = true
  · simp [hb]
  · simp only [hb, if_false, Bool.false_eq_true] at this ⊢
    have hd : p ∣ c (e + 2 ^ i) := by
      unfold chi at this
      by_cases h : p ∣ c (e + 2 ^ i)
      · exact h
      · simp [h] at this
    rw [hz _ hd, Int.mul_zero]

/-- few enough edges: a cycle with its support there (equations away from one point) -/
theorem caseA {p : Int} {c : Nat → Int} (m : Nat) (hm : m < 7)
    (hlt : ls E21 (fun e => if e.testBit m then 0 else (if dg p c e = 0 then 0 else 1)) < ls T35 (chi p c)) :
    ∃ z : Nat → Int, (∃ s, z s ≠ 0) ∧ (∀ s, p ∣ c s → z s = 0) ∧ ∀ e ∈ E21, bd 7 z e = 0 := by
  have hU : ((T35.filter (fun s => decide (¬ p ∣ c s))).length : Int) = ls T35 (chi p c) := by
    rw [← ls_count]; apply ls_congr; intro s _; unfold chi; by_cases h : p ∣ c s <;> simp [h]
  have hE : ((E21.filter (fun e => !e.testBit m && decide (dg p c e ≠ 0))).length : Int)
      = ls E21 (fun e => if e.testBit m then 0 else (if dg p c e = 0 then 0 else 1)) := by
    rw [← ls_count]; apply ls_congr; intro e _
    by_cases h : e.testBit m = true <;> by_cases h2 : dg p c e = 0 <;> simp [h, h2]
  obtain ⟨z, ⟨u, hu, hzu⟩, h2, h3⟩ := more (E21.filter (fun e => !e.testBit m && decide (dg p c e ≠ 0)))
    (T35.filter (fun s => decide (¬ p ∣ c s))) (T35_nd.filter _) (by omega) (inc 7)
  have hsup : ∀ s, p ∣ c s → z s = 0 := by
    intro s hs; apply h2; intro hm'; have := (List.mem_filter.1 hm').2; simp at this; exact this hs
  refine ⟨z, ⟨u, hzu⟩, hsup, ?_⟩
  have hno : ∀ e ∈ E21, e.testBit m = false → bd 7 z e = 0 := by
    intro e he hb
    by_cases h : dg p c e = 0
    · exact bd_zero_of_dg hsup h
    · have := h3 e (List.mem_filter.2 ⟨he, by simp [hb, h]⟩)
      rwa [ls_inc (T35_nd.filter _) h2] at this
  intro e he
  by_cases hb : e.testBit m = true
  · obtain ⟨a, b, ha, hb7, hab, rfl⟩ := edge_uv e he
    have key : ∀ v, v < 7 → v ≠ m → bd 7 z (2 ^ v + 2 ^ m) = 0 := by
      intro v hv hvm
      have h0 := bdbd (n := 7) (by decide) z (pow_lt7 hv)
      rw [bd_ov, ls_single (u := m) List.nodup_range (List.mem_range.2 hm)] at h0
      · unfold ov at h0
        rw [Nat.testBit_two_pow] at h0
        simp only [hvm, decide_false, Bool.false_eq_true, if_false] at h0
        rcases sg_cases m (2 ^ v) with h | h <;> rw [h] at h0 <;> omega
      · intro x hx hxm
        have hx := List.mem_range.1 hx
        unfold ov
        by_cases e : v = x
        · subst e; simp
        · have hbit : (2 ^ v + 2 ^ x).testBit m = false := by
            have := bit2 v hv x hx m hm e
            cases hq : (2 ^ v + 2 ^ x).testBit m
            · rfl
            · rcases this.1 hq with h | h
              · exact absurd h.symm hvm
              · exact absurd h.symm hxm
          rw [hno _ (edge_mem v hv x hx e) hbit]; simp
    rcases (bit2 a ha b hb7 m hm hab).1 hb with rfl | rfl
    · rw [Nat.add_comm]; exact key b hb7 (Ne.symm hab)
    · exact key a ha hab
  · exact hno e he (by simpa using hb)

theorem nd4 {a b c d : Nat} (h1 : a ≠ b) (h2 : a ≠ c) (h3 : a ≠ d) (h4 : b ≠ c) (h5 : b ≠ d) (h6 : c ≠ d) : [a, b, c, d].Nodup := by
  simp [h1, h2, h3, h4, h5, h6]

theorem nd3 {a b c : Nat} (h1 : a ≠ b) (h2 : a ≠ c) (h4 : b ≠ c) : [a, b, c].Nodup := by
  simp [h1, h2, h4]

theorem other {p : Int} {c : Nat → Int} {e : Nat} (h : dg p c e = 3) (i0 : Nat) :
    ∃ j, j < 7 ∧ j ≠ i0 ∧ e.testBit j = false ∧ ¬ p ∣ c (e + 2 ^ j) := by
  apply Classical.byContradiction; intro hh
  have hz : ∀ j, j < 7 → j ≠ i0 → (if e.testBit j then 0 else chi p c (e + 2 ^ j)) = 0 := by
    intro j hj hne
    by_cases hb : e.testBit j = true
    · simp [hb]
    · simp only [hb, if_false, Bool.false_eq_true]
      rcases chi_cases p c (e + 2 ^ j) with h | h
      · exact h
      · exfalso; apply hh
        refine ⟨j, hj, hne, by simpa using hb, ?_⟩
        intro hd; unfold chi at h; simp [hd] at h
  unfold dg at h
  by_cases hi : i0 < 7
  · rw [ls_single (u := i0) List.nodup_range (List.mem_range.2 hi)] at h
    · by_cases hb : e.testBit i0 = true
      · simp [hb] at h
      · simp only [hb, if_false, Bool.false_eq_true] at h
        rcases chi_cases p c (e + 2 ^ i0) with h2 | h2 <;> omega
    · intro a ha hne; exact hz a (List.mem_range.1 ha) hne
  · rw [ls_zero] at h
    · omega
    · intro a ha
      have := List.mem_range.1 ha
      exact hz a this (by omega)

theorem finish {p : Int} {c : Nat → Int} {u v y : Nat} (hu : u < 7) (hv : v < 7) (hy : y < 7) (huv : u ≠ v) (huy : u ≠ y) (hvy : v ≠ y)
    (rest : ∀ x, ¬ p ∣ x → ∀ e ∈ E21, e ≠ 2 ^ u + 2 ^ v → e ≠ 2 ^ u + 2 ^ y → e ≠ 2 ^ v + 2 ^ y → bd 7 (fun s => cl p x (c s)) e = 0)
    (Y : Nat → Int) (hY : ∀ e ∈ E21, bd 7 Y e = inc 7 e (2 ^ u + 2 ^ v + 2 ^ y)) (hYs : ∀ s, p ∣ c s → Y s = 0)
    {s0 : Nat} (h0 : ¬ p ∣ c s0) (hY0 : Y s0 = 0) :
    ∃ z : Nat → Int, (∃ s, z s ≠ 0) ∧ (∀ s, p ∣ c s → z s = 0) ∧ ∀ e ∈ E21, bd 7 z e = 0 := by
  have m1 := edge_mem u hu v hv huv
  have b1 : (2 ^ u + 2 ^ v).testBit y = false := by
    have := bit2 u hu v hv y hy huv
    cases hq : (2 ^ u + 2 ^ v).testBit y
    · rfl
    · rcases this.1 hq with h | h
      · exact absurd h.symm huy
      · exact absurd h.symm hvy
  have hi1 : inc 7 (2 ^ u + 2 ^ v) (2 ^ u + 2 ^ v + 2 ^ y) = sg y (2 ^ u + 2 ^ v) := inc_val hy b1
  generalize hk : bd 7 (fun s => cl p (c s0) (c s)) (2 ^ u + 2 ^ v) * sg y (2 ^ u + 2 ^ v) = k
  refine ⟨fun s => cl p (c s0) (c s) - k * Y s, ⟨s0, ?_⟩, ?_, ?_⟩
  · show cl p (c s0) (c s0) - k * Y s0 ≠ 0
    rw [hY0]; unfold cl; rw [Int.sub_self]; simp [Int.dvd_zero]
  · intro s hs
    show cl p (c s0) (c s) - k * Y s = 0
    rw [cl_zero h0 hs, hYs s hs]; simp
  · have hall : ∀ e ∈ E21, e ≠ 2 ^ u + 2 ^ y → e ≠ 2 ^ v + 2 ^ y → bd 7 (fun s => cl p (c s0) (c s) - k * Y s) e = 0 := by
      intro e he e2 e3
      rw [bd_sub, bd_mul, hY e he]
      by_cases e1 : e = 2 ^ u + 2 ^ v
      · rw [e1, hi1, ← hk, Int.mul_assoc, sg_sq, Int.mul_one, Int.sub_self]
      · rw [rest _ h0 e he e1 e2 e3]
        have : inc 7 e (2 ^ u + 2 ^ v + 2 ^ y) = 0 := by
          apply Classical.byContradiction; intro h
          obtain ⟨i, hi, hb, hs⟩ := inc_ne h
          rcases tri_face u hu v hv y hy huv huy hvy e (E21_lt e he) i hi hb hs with h | h | h
          · exact e1 h
          · exact e2 h
          · exact e3 h
        rw [this]; simp
    generalize hV : bd 7 (fun s => cl p (c s0) (c s) - k * Y s) = V at hall
    have hVv : ∀ u, u < 7 → bd 7 V (2 ^ u) = 0 := by
      intro u hu; rw [← hV]; exact bdbd (by decide) _ (pow_lt7 hu)
    intro e he
    by_cases e2 : e = 2 ^ u + 2 ^ y
    · rw [e2]
      apply Classical.byContradiction; intro hne
      obtain ⟨x, hx, hxu, hxy, hW⟩ := vx hu hy huy (hVv u hu) hne
      apply hW
      apply hall _ (edge_mem u hu x hx (Ne.symm hxu))
      · intro h; rcases edge_eq u hu x hx u hu y hy (Ne.symm hxu) h with ⟨_, b⟩ | ⟨a, _⟩
        · exact hxy b
        · exact huy a
      · intro h; rcases edge_eq u hu x hx v hv y hy (Ne.symm hxu) h with ⟨a, _⟩ | ⟨a, _⟩
        · exact huv a
        · exact huy a
    · by_cases e3 : e = 2 ^ v + 2 ^ y
      · rw [e3]
        apply Classical.byContradiction; intro hne
        obtain ⟨x, hx, hxu, hxy, hW⟩ := vx hv hy hvy (hVv v hv) hne
        apply hW
        apply hall _ (edge_mem v hv x hx (Ne.symm hxu))
        · intro h; rcases edge_eq v hv x hx u hu y hy (Ne.symm hxu) h with ⟨a, _⟩ | ⟨a, _⟩
          · exact huv a.symm
          · exact hvy a
        · intro h; rcases edge_eq v hv x hx v hv y hy (Ne.symm hxu) h with ⟨_, b⟩ | ⟨a, _⟩
          · exact hxy b
          · exact hvy a
      · exact hall e he e2 e3

theorem X72 {p : Int} (hp2 : ¬ p ∣ 2) (hpr : ∀ a b : Int, p ∣ a * b → p ∣ a ∨ p ∣ b) {c : Nat → Int}
    (hcyc : ∀ e ∈ E21, p ∣ bd 7 c e) (hne : ∃ s, ¬ p ∣ c s) :
    ∃ z : Nat → Int, (∃ s, z s ≠ 0) ∧ (∀ s, p ∣ c s → z s = 0) ∧ ∀ e ∈ E21, bd 7 z e = 0 := by
  by_cases hA : ∃ m, m < 7 ∧ ls E21 (fun e => if e.testBit m then 0 else (if dg p c e = 0 then 0 else 1)) < ls T35 (chi p c)
  · obtain ⟨m, hm, h⟩ := hA
    exact caseA m hm h
  -- the excess over degree two is at most three
  have hB : ∀ m ∈ List.range 7, ls T35 (chi p c) ≤ ls E21 (fun e => if e.testBit m then 0 else (if dg p c e = 0 then 0 else 1)) := by
    intro m hm
    apply Int.not_lt.1; intro h; exact hA ⟨m, List.mem_range.1 hm, h⟩
  have h7 := ls_le hB
  rw [cnt2] at h7
  have h7' : ls (List.range 7) (fun _ => ls T35 (chi p c)) = 7 * ls T35 (chi p c) := by
    have r : List.range 7 = [0,1,2,3,4,5,6] := by decide
    rw [r]; simp only [ls_cons, ls_nil]; omega
  rw [h7'] at h7
  have h3 := cnt1 (chi p c)
  change ls E21 (dg p c) = _ at h3
  have h21 : ls E21 (fun e => if dg p c e = 0 then 0 else 1) ≤ 21 := by
    have := ls_le (l := E21) (f := fun e => if dg p c e = 0 then (0:Int) else 1) (g := fun _ => 1) (by intro e _; by_cases h : dg p c e = 0 <;> simp [h])
    exact Int.le_trans this (by decide)
  have hx : ls E21 (fun e => dg p c e - 2 * (if dg p c e = 0 then 0 else 1)) ≤ 3 := by
    rw [ls_sub, ls_mul]; omega
  have hx0 : ∀ e ∈ E21, 0 ≤ dg p c e - 2 * (if dg p c e = 0 then 0 else 1) := by
    intro e he
    have := dg_nonneg p c e
    have := dg_ne_one c e (hcyc e he)
    split <;> omega
  have hlow : ∀ {z : Nat → Int} {x : Int}, ¬ p ∣ x → (z = fun s => cl p x (c s)) → ∀ e ∈ E21, bd 7 z e ≠ 0 →
      1 ≤ dg p c e - 2 * (if dg p c e = 0 then 0 else 1) := by
    intro z x hx hz e he hb
    have h3 : ¬ dg p c e ≤ 2 := by
      intro h; apply hb; rw [hz]; exact class_edge hp2 hpr hx c e h (hcyc e he)
    split <;> omega
  obtain ⟨s0, hs0⟩ := hne
  have hcl1 : ∀ x : Int, ¬ p ∣ x → cl p x x = 1 := by
    intro x _; unfold cl; rw [Int.sub_self]; simp [Int.dvd_zero]
  by_cases hz0 : ∀ e ∈ E21, bd 7 (fun s => cl p (c s0) (c s)) e = 0
  · exact ⟨fun s => cl p (c s0) (c s), ⟨s0, by show cl p (c s0) (c s0) ≠ 0; rw [hcl1 _ hs0]; decide⟩, fun s hs => cl_zero hs0 hs, hz0⟩
  -- a triangle of three edges of degree three
  have : ∃ e, e ∈ E21 ∧ bd 7 (fun s => cl p (c s0) (c s)) e ≠ 0 := by
    apply Classical.byContradiction; intro hh
    apply hz0; intro e he
    apply Classical.byContradiction; intro h; exact hh ⟨e, he, h⟩
  obtain ⟨e0, he0, hbe0⟩ := this
  have hl0 := hlow (z := fun s => cl p (c s0) (c s)) hs0 rfl
  generalize hW : bd 7 (fun s => cl p (c s0) (c s)) = W at hbe0 hl0
  have hWv : ∀ u, u < 7 → bd 7 W (2 ^ u) = 0 := by
    intro u hu; rw [← hW]; exact bdbd (by decide) _ (pow_lt7 hu)
  obtain ⟨u, v, hu, hv, huv, rfl⟩ := edge_uv e0 he0
  obtain ⟨x, hx7, hxu, hxv, hWux⟩ := vx hu hv huv (hWv u hu) hbe0
  obtain ⟨y, hy7, hyv, hyu, hWvy⟩ := vx hv hu (Ne.symm huv) (hWv v hv) (by rwa [Nat.add_comm])
  have m1 := edge_mem u hu v hv huv
  have m2 := edge_mem u hu x hx7 (Ne.symm hxu)
  have m3 := edge_mem v hv y hy7 (Ne.symm hyv)
  have hyx : y = x := by
    apply Classical.byContradiction; intro hyx
    obtain ⟨w, hw7, hwx, hwu, hWxw⟩ := vx hx7 hu hxu (hWv x hx7) (by rwa [Nat.add_comm])
    have m4 := edge_mem x hx7 w hw7 (Ne.symm hwx)
    have d := ls_sub_le (x := fun e => dg p c e - 2 * (if dg p c e = 0 then 0 else 1)) [2 ^ u + 2 ^ v, 2 ^ u + 2 ^ x, 2 ^ v + 2 ^ y, 2 ^ x + 2 ^ w] E21 (by
      have n1 : 2 ^ u + 2 ^ v ≠ 2 ^ u + 2 ^ x := fun h => by
        rcases edge_eq u hu v hv u hu x hx7 huv h with ⟨_, b⟩ | ⟨a, b⟩
        · exact hxv b.symm
        · exact hxu a.symm
      have n2 : 2 ^ u + 2 ^ v ≠ 2 ^ v + 2 ^ y := fun h => by
        rcases edge_eq u hu v hv v hv y hy7 huv h with ⟨a, b⟩ | ⟨a, b⟩
        · exact huv a
        · exact hyu a.symm
      have n3 : 2 ^ u + 2 ^ v ≠ 2 ^ x + 2 ^ w := fun h => by
        rcases edge_eq u hu v hv x hx7 w hw7 huv h with ⟨a, b⟩ | ⟨a, b⟩
        · exact hxu a.symm
        · exact hxv b.symm
      have n4 : 2 ^ u + 2 ^ x ≠ 2 ^ v + 2 ^ y := fun h => by
        rcases edge_eq u hu x hx7 v hv y hy7 (Ne.symm hxu) h with ⟨a, b⟩ | ⟨a, b⟩
        · exact huv a
        · exact hxv b
      have n5 : 2 ^ u + 2 ^ x ≠ 2 ^ x + 2 ^ w := fun h => by
        rcases edge_eq u hu x hx7 x hx7 w hw7 (Ne.symm hxu) h with ⟨a, b⟩ | ⟨a, b⟩
        · exact hxu a.symm
        · exact hwu a.symm
      have n6 : 2 ^ v + 2 ^ y ≠ 2 ^ x + 2 ^ w := fun h => by
        rcases edge_eq v hv y hy7 x hx7 w hw7 (Ne.symm hyv) h with ⟨a, b⟩ | ⟨a, b⟩
        · exact hxv a.symm
        · exact hyx b
      exact nd4 n1 n2 n3 n4 n5 n6) (by
      intro d hd
      simp only [List.mem_cons, List.not_mem_nil, or_false] at hd
      rcases hd with rfl | rfl | rfl | rfl <;> assumption) hx0
    have a1 := hl0 _ m1 hbe0
    have a2 := hl0 _ m2 hWux
    have a3 := hl0 _ m3 hWvy
    have a4 := hl0 _ m4 hWxw
    simp only [ls_cons, ls_nil] at d
    omega
  subst hyx
  have n12 : 2 ^ u + 2 ^ v ≠ 2 ^ u + 2 ^ y := fun h => by
    rcases edge_eq u hu v hv u hu y hy7 huv h with ⟨_, b⟩ | ⟨a, b⟩
    · exact hxv b.symm
    · exact hxu a.symm
  have n13 : 2 ^ u + 2 ^ v ≠ 2 ^ v + 2 ^ y := fun h => by
    rcases edge_eq u hu v hv v hv y hy7 huv h with ⟨a, b⟩ | ⟨a, b⟩
    · exact huv a
    · exact hyu a.symm
  have n23 : 2 ^ u + 2 ^ y ≠ 2 ^ v + 2 ^ y := fun h => by
    rcases edge_eq u hu y hy7 v hv y hy7 (Ne.symm hxu) h with ⟨a, b⟩ | ⟨a, b⟩
    · exact huv a
    · exact hxv b
  have a1 := hl0 _ m1 hbe0
  have a2 := hl0 _ m2 hWux
  have a3 := hl0 _ m3 hWvy
  have d3 := ls_sub_le (x := fun e => dg p c e - 2 * (if dg p c e = 0 then 0 else 1)) [2 ^ u + 2 ^ v, 2 ^ u + 2 ^ y, 2 ^ v + 2 ^ y] E21 (nd3 n12 n13 n23) (by
      intro d hd
      simp only [List.mem_cons, List.not_mem_nil, or_false] at hd
      rcases hd with rfl | rfl | rfl <;> assumption) hx0
  simp only [ls_cons, ls_nil] at d3
  have g1 : dg p c (2 ^ u + 2 ^ v) = 3 := by
    have := dg_nonneg p c (2 ^ u + 2 ^ v); by_cases h : dg p c (2 ^ u + 2 ^ v) = 0 <;> simp only [h, if_true, if_false] at a1 a2 a3 d3 <;> omega
  have g2 : dg p c (2 ^ u + 2 ^ y) = 3 := by
    have := dg_nonneg p c (2 ^ u + 2 ^ y); by_cases h : dg p c (2 ^ u + 2 ^ y) = 0 <;> simp only [h, if_true, if_false] at a1 a2 a3 d3 <;> omega
  have g3 : dg p c (2 ^ v + 2 ^ y) = 3 := by
    have := dg_nonneg p c (2 ^ v + 2 ^ y); by_cases h : dg p c (2 ^ v + 2 ^ y) = 0 <;> simp only [h, if_true, if_false] at a1 a2 a3 d3 <;> omega
  have rest : ∀ e ∈ E21, e ≠ 2 ^ u + 2 ^ v → e ≠ 2 ^ u + 2 ^ y → e ≠ 2 ^ v + 2 ^ y → dg p c e ≤ 2 := by
    intro e he e1 e2 e3
    have d4 := ls_sub_le (x := fun e => dg p c e - 2 * (if dg p c e = 0 then 0 else 1)) [e, 2 ^ u + 2 ^ v, 2 ^ u + 2 ^ y, 2 ^ v + 2 ^ y] E21 (nd4 e1 e2 e3 n12 n13 n23) (by
      intro d hd
      simp only [List.mem_cons, List.not_mem_nil, or_false] at hd
      rcases hd with rfl | rfl | rfl | rfl <;> assumption) hx0
    simp only [ls_cons, ls_nil] at d4
    have := hx0 e he
    by_cases h : dg p c e = 0
    · omega
    · simp only [h, if_false] at d4 this; omega
  have rest' : ∀ x, ¬ p ∣ x → ∀ e ∈ E21, e ≠ 2 ^ u + 2 ^ v → e ≠ 2 ^ u + 2 ^ y → e ≠ 2 ^ v + 2 ^ y → bd 7 (fun s => cl p x (c s)) e = 0 :=
    fun x hx e he e1 e2 e3 => class_edge hp2 hpr hx c e (rest e he e1 e2 e3) (hcyc e he)
  have huy := Ne.symm hxu
  have hvy := Ne.symm hxv
  by_cases ht : p ∣ c (2 ^ u + 2 ^ v + 2 ^ y)
  · -- nine triangles over four points
    have hi : ∃ i, i < 7 ∧ i ≠ u ∧ i ≠ v ∧ i ≠ y ∧ ¬ p ∣ c (2 ^ u + 2 ^ v + 2 ^ i) ∧ ¬ p ∣ c (2 ^ u + 2 ^ y + 2 ^ i) ∧ ¬ p ∣ c (2 ^ v + 2 ^ y + 2 ^ i) := by
      apply Classical.byContradiction; intro hh
      have h8 := rest4 u hu v hv y hy7 huv huy hvy
      have hle := ls_le (l := List.range 7) (f := fun i => ((if (2 ^ u + 2 ^ v).testBit i then 0 else chi p c (2 ^ u + 2 ^ v + 2 ^ i)) +
          (if (2 ^ u + 2 ^ y).testBit i then 0 else chi p c (2 ^ u + 2 ^ y + 2 ^ i))) +
          (if (2 ^ v + 2 ^ y).testBit i then 0 else chi p c (2 ^ v + 2 ^ y + 2 ^ i)))
        (g := fun i => if i = u ∨ i = v ∨ i = y then 0 else 2) (by
        intro i hi
        have hi := List.mem_range.1 hi
        have t1 := bit2 u hu v hv i hi huv
        have t2 := bit2 u hu y hy7 i hi huy
        have t3 := bit2 v hv y hy7 i hi hvy
        have hct : chi p c (2 ^ u + 2 ^ v + 2 ^ y) = 0 := by simp [chi, ht]
        by_cases iu : i = u
        · have a1 := t1.2 (.inl iu)
          have a2 := t2.2 (.inl iu)
          have a3 : (2 ^ v + 2 ^ y).testBit i = false := by
            cases hq : (2 ^ v + 2 ^ y).testBit i
            · rfl
            · rcases t3.1 hq with h | h
              · exact absurd (iu.symm.trans h) huv
              · exact absurd (iu.symm.trans h) huy
          rw [a1, a2, a3]
          simp only [if_true, Bool.false_eq_true, if_false, iu, true_or]
          rw [show 2 ^ v + 2 ^ y + 2 ^ u = 2 ^ u + 2 ^ v + 2 ^ y by omega, hct]; decide
        · by_cases iv : i = v
          · have a1 := t1.2 (.inr iv)
            have a3 := t3.2 (.inl iv)
            have a2 : (2 ^ u + 2 ^ y).testBit i = false := by
              cases hq : (2 ^ u + 2 ^ y).testBit i
              · rfl
              · rcases t2.1 hq with h | h
                · exact absurd h iu
                · exact absurd (iv.symm.trans h) hvy
            rw [a1, a2, a3]
            simp only [if_true, Bool.false_eq_true, if_false, iv, true_or, or_true]
            rw [show 2 ^ u + 2 ^ y + 2 ^ v = 2 ^ u + 2 ^ v + 2 ^ y by omega, hct]; decide
          · by_cases iy : i = y
            · have a2 := t2.2 (.inr iy)
              have a3 := t3.2 (.inr iy)
              have a1 : (2 ^ u + 2 ^ v).testBit i = false := by
                cases hq : (2 ^ u + 2 ^ v).testBit i
                · rfl
                · rcases t1.1 hq with h | h
                  · exact absurd h iu
                  · exact absurd h iv
              rw [a1, a2, a3]
              simp only [if_true, Bool.false_eq_true, if_false, iy, or_true]
              rw [hct]; decide
            · have a1 : (2 ^ u + 2 ^ v).testBit i = false := by
                cases hq : (2 ^ u + 2 ^ v).testBit i
                · rfl
                · rcases t1.1 hq with h | h
                  · exact absurd h iu
                  · exact absurd h iv
              have a2 : (2 ^ u + 2 ^ y).testBit i = false := by
                cases hq : (2 ^ u + 2 ^ y).testBit i
                · rfl
                · rcases t2.1 hq with h | h
                  · exact absurd h iu
                  · exact absurd h iy
              have a3 : (2 ^ v + 2 ^ y).testBit i = false := by
                cases hq : (2 ^ v + 2 ^ y).testBit i
                · rfl
                · rcases t3.1 hq with h | h
                  · exact absurd h iv
                  · exact absurd h iy
              rw [a1, a2, a3]
              simp only [Bool.false_eq_true, if_false, iu, iv, iy, or_self]
              have cc : ∀ s, p ∣ c s → chi p c s = 0 := fun s hs => by simp [chi, hs]
              have r1 := chi_cases p c (2 ^ u + 2 ^ v + 2 ^ i)
              have r2 := chi_cases p c (2 ^ u + 2 ^ y + 2 ^ i)
              have r3 := chi_cases p c (2 ^ v + 2 ^ y + 2 ^ i)
              by_cases q1 : p ∣ c (2 ^ u + 2 ^ v + 2 ^ i)
              · have := cc _ q1; omega
              · by_cases q2 : p ∣ c (2 ^ u + 2 ^ y + 2 ^ i)
                · have := cc _ q2; omega
                · by_cases q3 : p ∣ c (2 ^ v + 2 ^ y + 2 ^ i)
                  · have := cc _ q3; omega
                  · exact absurd ⟨i, hi, iu, iv, iy, q1, q2, q3⟩ hh)
      rw [h8, ls_add, ls_add] at hle
      change dg p c (2 ^ u + 2 ^ v) + dg p c (2 ^ u + 2 ^ y) + dg p c (2 ^ v + 2 ^ y) ≤ 8 at hle
      omega
    obtain ⟨i, hi, iu, iv, iy, q1, q2, q3⟩ := hi
    have hbt : (2 ^ u + 2 ^ v + 2 ^ y).testBit i = false := by
      cases hq : (2 ^ u + 2 ^ v + 2 ^ y).testBit i
      · rfl
      · rcases (bit3 u hu v hv y hy7 i hi huv huy hvy).1 hq with h | h | h
        · exact absurd h iu
        · exact absurd h iv
        · exact absurd h iy
    have hq128 : 2 ^ u + 2 ^ v + 2 ^ y + 2 ^ i < 128 := by
      have h : ((List.range 7).all fun u => (List.range 7).all fun v => (List.range 7).all fun x => (List.range 7).all fun i =>
        decide (u = v) || decide (u = x) || decide (v = x) || decide (i = u) || decide (i = v) || decide (i = x) || decide (2 ^ u + 2 ^ v + 2 ^ x + 2 ^ i < 128)) = true := by
        decide +kernel
      have := List.all_eq_true.1 (List.all_eq_true.1 (List.all_eq_true.1 (List.all_eq_true.1 h u (List.mem_range.2 hu)) v (List.mem_range.2 hv)) y (List.mem_range.2 hy7)) i (List.mem_range.2 hi)
      simpa only [huv, huy, hvy, iu, iv, iy, decide_false, Bool.false_or, decide_eq_true_eq] using this
    -- where the disc is not zero
    have hsupp : ∀ s, delta (2 ^ u + 2 ^ v + 2 ^ y) s - sg i (2 ^ u + 2 ^ v + 2 ^ y) * bd 7 (delta (2 ^ u + 2 ^ v + 2 ^ y + 2 ^ i)) s ≠ 0 →
        s = 2 ^ u + 2 ^ v + 2 ^ i ∨ s = 2 ^ u + 2 ^ y + 2 ^ i ∨ s = 2 ^ v + 2 ^ y + 2 ^ i := by
      intro s hs
      rw [inc_bd] at hs
      by_cases hst : s = 2 ^ u + 2 ^ v + 2 ^ y
      · exfalso; apply hs
        rw [hst, inc_val hi hbt, sg_sq]; simp [delta]
      · have hne : inc 7 s (2 ^ u + 2 ^ v + 2 ^ y + 2 ^ i) ≠ 0 := by
          intro h; apply hs; rw [h]; simp [delta, hst]
        obtain ⟨j, hj, hb, he⟩ := inc_ne hne
        have hs128 : s < 128 := Nat.lt_of_le_of_lt (Nat.le_add_right s (2 ^ j)) (by rw [he]; exact hq128)
        have hbj := add_bit s hs128 j hj hb
        rw [he] at hbj
        rcases (bit4 u hu v hv y hy7 i hi j hj huv huy hvy iu iv iy).1 hbj with h | h | h | h
        · subst h; right; right; omega
        · subst h; right; left; omega
        · subst h; left; omega
        · subst h; exfalso; apply hst; omega
    obtain ⟨j, hj, hji, hbj, hcj⟩ := other g1 i
    refine finish hu hv hy7 huv huy hvy rest'
      (fun s => delta (2 ^ u + 2 ^ v + 2 ^ y) s - sg i (2 ^ u + 2 ^ v + 2 ^ y) * bd 7 (delta (2 ^ u + 2 ^ v + 2 ^ y + 2 ^ i)) s) ?_ ?_ (s0 := 2 ^ u + 2 ^ v + 2 ^ j) hcj ?_
    · intro e he
      rw [bd_sub, bd_mul, inc_bd, bdbd (by decide) _ (E21_lt e he)]; simp
    · intro s hs
      apply Classical.byContradiction; intro h
      rcases hsupp s h with rfl | rfl | rfl
      · exact q1 hs
      · exact q2 hs
      · exact q3 hs
    · apply Classical.byContradiction; intro h
      rcases hsupp _ h with h | h | h
      · have e2 : 2 ^ j = 2 ^ i := by omega
        exact hji ((Nat.pow_right_inj (by decide)).1 e2)
      · have hv1 : (2 ^ u + 2 ^ v + 2 ^ j).testBit v = true :=
          (bit3 u hu v hv j hj v hv huv (fun h => by subst h; rw [(bit2 u hu v hv u hu huv).2 (.inl rfl)] at hbj; cases hbj)
            (fun h => by subst h; rw [(bit2 u hu v hv v hv huv).2 (.inr rfl)] at hbj; cases hbj)).2 (.inr (.inl rfl))
        rw [h] at hv1
        rcases (bit3 u hu y hy7 i hi v hv huy (Ne.symm iu) (Ne.symm iy)).1 hv1 with h | h | h
        · exact huv h.symm
        · exact hvy h
        · exact iv h.symm
      · have hv1 : (2 ^ u + 2 ^ v + 2 ^ j).testBit u = true :=
          (bit3 u hu v hv j hj u hu huv (fun h => by subst h; rw [(bit2 u hu v hv u hu huv).2 (.inl rfl)] at hbj; cases hbj)
            (fun h => by subst h; rw [(bit2 u hu v hv v hv huv).2 (.inr rfl)] at hbj; cases hbj)).2 (.inl rfl)
        rw [h] at hv1
        rcases (bit3 v hv y hy7 i hi u hu hvy (Ne.symm iv) (Ne.symm iy)).1 hv1 with h | h | h
        · exact huv h
        · exact huy h
        · exact iu h.symm
  · obtain ⟨j, hj, hjy, hbj, hcj⟩ := other g1 y
    refine finish hu hv hy7 huv huy hvy rest' (delta (2 ^ u + 2 ^ v + 2 ^ y)) (fun e _ => inc_bd 7 e _) ?_ (s0 := 2 ^ u + 2 ^ v + 2 ^ j) hcj ?_
    · intro s hs
      by_cases h : s = 2 ^ u + 2 ^ v + 2 ^ y
      · subst h; exact absurd hs ht
      · simp [delta, h]
    · have : 2 ^ u + 2 ^ v + 2 ^ j ≠ 2 ^ u + 2 ^ v + 2 ^ y := by
        intro h
        have e2 : 2 ^ j = 2 ^ y := by omega
        exact hjy ((Nat.pow_right_inj (by decide)).1 e2)
      unfold delta; rw [if_neg this]

end K63


namespace K63

theorem cntV (x : Nat → Int) : ls (List.range 7) (fun v => ls (List.range 7) (fun i => if (2 ^ v).testBit i then 0 else x (2 ^ v + 2 ^ i))) = 2 * ls E21 x := by
  have r : List.range 7 = [0,1,2,3,4,5,6] := by decide
  rw [r]
  simp (decide := true) only [E21, ls_cons, ls_nil, if_true, if_false, Nat.reducePow, Nat.reduceAdd]
  omega

theorem X71 {p : Int} {c : Nat → Int} (hcyc : ∀ v, v < 7 → p ∣ bd 7 c (2 ^ v)) (hne : ∃ e, e ∈ E21 ∧ ¬ p ∣ c e) :
    ∃ z : Nat → Int, (∃ s, z s ≠ 0) ∧ (∀ s, s ∉ E21 → z s = 0) ∧ (∀ s, p ∣ c s → z s = 0) ∧ ∀ v, v < 7 → bd 7 z (2 ^ v) = 0 := by
  obtain ⟨e, he, hpe⟩ := hne
  obtain ⟨u, v, hu, hv, huv, rfl⟩ := edge_uv e he
  have hdu : dg p c (2 ^ u) ≠ 0 := by
    intro h
    have hb : (2 ^ u).testBit v = false := by rw [Nat.testBit_two_pow]; simp [huv]
    have h0 : bd 7 (fun s => chi p c s) (2 ^ u) = 0 :=
      bd_zero_of_dg (p := p) (c := c) (z := fun s => chi p c s) (fun s hs => by simp [chi, hs]) h
    have hm : ls ((List.range 7).erase v) (fun i => if (2 ^ u).testBit i then 0 else chi p c (2 ^ u + 2 ^ i)) ≥ 0 := by
      have := ls_le (l := (List.range 7).erase v) (f := fun _ => 0) (g := fun i => if (2 ^ u).testBit i then 0 else chi p c (2 ^ u + 2 ^ i)) (by
        intro a _; by_cases hb : (2 ^ u).testBit a = true
        · simp [hb]
        · rcases chi_cases p c (2 ^ u + 2 ^ a) with h | h <;> simp [hb, h])
      rwa [ls_zero (fun _ _ => rfl)] at this
    rw [dg, ls_erase (List.mem_range.2 hv)] at h
    simp only [hb, if_false, Bool.false_eq_true] at h
    have : chi p c (2 ^ u + 2 ^ v) = 1 := by simp [chi, hpe]
    omega
  have hsum := cntV (chi p c)
  change ls (List.range 7) (fun v => dg p c (2 ^ v)) = _ at hsum
  have h2 : ls (List.range 7) (fun v => 2 * (if dg p c (2 ^ v) = 0 then 0 else 1)) ≤ ls (List.range 7) (fun v => dg p c (2 ^ v)) := by
    apply ls_le; intro v hv
    have := dg_nonneg p c (2 ^ v)
    have := dg_ne_one c (2 ^ v) (hcyc v (List.mem_range.1 hv))
    split <;> omega
  rw [ls_mul, hsum] at h2
  have hU : ((E21.filter (fun s => decide (¬ p ∣ c s))).length : Int) = ls E21 (chi p c) := by
    rw [← ls_count]; apply ls_congr; intro s _; unfold chi; by_cases h : p ∣ c s <;> simp [h]
  have hE : (((List.range 7).filter (fun v => decide (v ≠ u) && decide (dg p c (2 ^ v) ≠ 0))).length : Int) + 1
      = ls (List.range 7) (fun v => if dg p c (2 ^ v) = 0 then 0 else 1) := by
    rw [ls_erase (List.mem_range.2 hu), if_neg hdu, ← ls_count, ls_erase (List.mem_range.2 hu)]
    have : ls ((List.range 7).erase u) (fun a => if (decide (a ≠ u) && decide (dg p c (2 ^ a) ≠ 0)) = true then 1 else 0)
        = ls ((List.range 7).erase u) (fun v => if dg p c (2 ^ v) = 0 then 0 else 1) := by
      apply ls_congr; intro a ha
      have := (List.nodup_range.mem_erase_iff).1 ha
      by_cases h : dg p c (2 ^ a) = 0 <;> simp [h, this.1]
    rw [this]; simp; omega
  obtain ⟨z, ⟨s, hs, hzs⟩, hz2, hz3⟩ := more (((List.range 7).filter (fun v => decide (v ≠ u) && decide (dg p c (2 ^ v) ≠ 0))))
    (E21.filter (fun s => decide (¬ p ∣ c s))) (E21_nd.filter _) (by omega) (fun v s => inc 7 (2 ^ v) s)
  have hsup : ∀ s, p ∣ c s → z s = 0 := by
    intro s hs; apply hz2; intro hm'; have := (List.mem_filter.1 hm').2; simp at this; exact this hs
  have hno : ∀ v, v < 7 → v ≠ u → bd 7 z (2 ^ v) = 0 := by
    intro v hv hvu
    by_cases h : dg p c (2 ^ v) = 0
    · exact bd_zero_of_dg hsup h
    · have := hz3 v (List.mem_filter.2 ⟨List.mem_range.2 hv, by simp [hvu, h]⟩)
      rwa [ls_inc (E21_nd.filter _) hz2] at this
  refine ⟨z, ⟨s, hzs⟩, fun s hs => hz2 s (fun h => hs (List.mem_filter.1 h).1), hsup, ?_⟩
  intro v hv
  by_cases hvu : v = u
  · subst hvu
    have h0 := bdbd (n := 7) (by decide) z (t := 0) (by decide)
    rw [bd_ov, ls_single (u := v) List.nodup_range (List.mem_range.2 hv)] at h0
    · unfold ov at h0
      simp only [Nat.zero_testBit, Bool.false_eq_true, if_false, Nat.zero_add] at h0
      rcases sg_cases v 0 with h | h <;> rw [h] at h0 <;> omega
    · intro x hx hxm
      unfold ov
      simp only [Nat.zero_testBit, Bool.false_eq_true, if_false, Nat.zero_add]
      rw [hno x (List.mem_range.1 hx) hxm]; simp
  · exact hno v hv hvu

theorem sg0 (i : Nat) : sg i 0 = 1 := by
  have : ∀ i, pc i 0 = 0 := by
    intro i; induction i with
    | zero => rfl
    | succ n ih => simp [pc, ih]
  simp [sg, this]

theorem X70 {p : Int} {c : Nat → Int} (hcyc : p ∣ bd 7 c 0) (hne : ∃ v, v < 7 ∧ ¬ p ∣ c (2 ^ v)) :
    ∃ z : Nat → Int, (∃ s, z s ≠ 0) ∧ (∀ s, (∀ v, v < 7 → s ≠ 2 ^ v) → z s = 0) ∧ (∀ s, p ∣ c s → z s = 0) ∧ bd 7 z 0 = 0 := by
  obtain ⟨a, ha, hpa⟩ := hne
  have hb : ∃ b, b < 7 ∧ b ≠ a ∧ ¬ p ∣ c (2 ^ b) := by
    apply Classical.byContradiction; intro hh
    rw [bd_ov, ls_erase (List.mem_range.2 ha)] at hcyc
    have : p ∣ ls ((List.range 7).erase a) (ov c 0) := by
      apply ls_dvd; intro i hi
      have := (List.nodup_range.mem_erase_iff).1 hi
      unfold ov
      simp only [Nat.zero_testBit, Bool.false_eq_true, if_false, Nat.zero_add, sg0, Int.one_mul]
      apply Classical.byContradiction; intro h
      exact hh ⟨i, List.mem_range.1 this.2, this.1, h⟩
    have h2 := Int.dvd_sub hcyc this
    rw [Int.add_sub_cancel] at h2
    unfold ov at h2
    simp only [Nat.zero_testBit, Bool.false_eq_true, if_false, Nat.zero_add, sg0, Int.one_mul] at h2
    exact hpa h2
  obtain ⟨b, hb7, hba, hpb⟩ := hb
  have hne : (2 : Nat) ^ b ≠ 2 ^ a := fun h => hba ((Nat.pow_right_inj (by decide)).1 h)
  refine ⟨fun s => delta (2 ^ a) s - delta (2 ^ b) s, ⟨2 ^ a, ?_⟩, ?_, ?_, ?_⟩
  · simp [delta, Ne.symm hne]
  · intro s hs; simp [delta, hs a ha, hs b hb7]
  · intro s hs
    have h1 : s ≠ 2 ^ a := fun h => hpa (h ▸ hs)
    have h2 : s ≠ 2 ^ b := fun h => hpb (h ▸ hs)
    simp [delta, h1, h2]
  · rw [bd_sub, inc_bd, inc_bd]
    have e1 : inc 7 0 (2 ^ a) = 1 := by have := inc_val (n := 7) (t := 0) ha (by simp); simpa [sg0] using this
    have e2 : inc 7 0 (2 ^ b) = 1 := by have := inc_val (n := 7) (t := 0) hb7 (by simp); simpa [sg0] using this
    rw [e1, e2]; rfl

theorem mem_T35 : ∀ s < 128, pc 7 s = 3 → s ∈ T35 := by
  have h : ((List.range 128).all fun s => decide (pc 7 s ≠ 3) || T35.contains s) = true := by decide +kernel
  intro s hs hp
  have := List.all_eq_true.1 h s (List.mem_range.2 hs)
  simpa [hp] using this
theorem T35_pc : ∀ s ∈ T35, pc 7 s = 3 := by decide +kernel
theorem E21_pc : ∀ s ∈ E21, pc 7 s = 2 := by decide +kernel
theorem one_pc : ∀ s < 128, pc 7 s = 1 → ∃ v, v < 7 ∧ s = 2 ^ v := by
  have h : ((List.range 128).all fun s => decide (pc 7 s ≠ 1) || (List.range 7).any fun v => decide (s = 2 ^ v)) = true := by decide +kernel
  intro s hs hp
  have := List.all_eq_true.1 h s (List.mem_range.2 hs)
  simp only [hp, ne_eq, not_true_eq_false, decide_false, Bool.false_or, List.any_eq_true, List.mem_range, decide_eq_true_eq] at this
  exact this
theorem pow_pc : ∀ v < 7, pc 7 (2 ^ v) = 1 := by decide +kernel
theorem zero_pc : ∀ s < 128, pc 7 s = 0 → s = 0 := by
  have h : ((List.range 128).all fun s => decide (pc 7 s ≠ 0) || decide (s = 0)) = true := by decide +kernel
  intro s hs hp
  have := List.all_eq_true.1 h s (List.mem_range.2 hs)
  simpa [hp] using this

/-- a cycle mod an odd p on seven points holds an integer cycle (sizes one, two, three) -/
theorem X7 {p : Int} (hp2 : ¬ p ∣ 2) (hpr : ∀ a b : Int, p ∣ a * b → p ∣ a ∨ p ∣ b) (k : Nat) (hk : k ≤ 2) {c : Nat → Int}
    (hcyc : ∀ t, t < 128 → pc 7 t = k → p ∣ bd 7 c t) (hne : ∃ s, s < 128 ∧ pc 7 s = k + 1 ∧ ¬ p ∣ c s) :
    ∃ z : Nat → Int, (∃ s, z s ≠ 0) ∧ (∀ s, ¬ (s < 128 ∧ pc 7 s = k + 1) → z s = 0) ∧ (∀ s, p ∣ c s → z s = 0) ∧
      ∀ t, t < 128 → pc 7 t = k → bd 7 z t = 0 := by
  obtain ⟨s0, hs0, hk0, hp0⟩ := hne
  match k, hk with
  | 0, _ =>
    obtain ⟨v, hv, rfl⟩ := one_pc s0 hs0 hk0
    obtain ⟨z, h1, h2, h3, h4⟩ := X70 (p := p) (c := c) (hcyc 0 (by decide) (by decide)) ⟨v, hv, hp0⟩
    refine ⟨z, h1, ?_, h3, ?_⟩
    · intro s hs; apply h2; intro v hv e; apply hs; subst e; exact ⟨pow_lt7 hv, pow_pc v hv⟩
    · intro t ht htp; rw [zero_pc t ht htp]; exact h4
  | 1, _ =>
    obtain ⟨z, h1, h2, h3, h4⟩ := X71 (p := p) (c := c) (fun v hv => hcyc _ (pow_lt7 hv) (pow_pc v hv))
      ⟨s0, (E21_iff s0 hs0).2 hk0, hp0⟩
    refine ⟨z, h1, ?_, h3, ?_⟩
    · intro s hs; apply h2; intro h; exact hs ⟨E21_lt s h, E21_pc s h⟩
    · intro t ht htp; obtain ⟨v, hv, rfl⟩ := one_pc t ht htp; exact h4 v hv
  | 2, _ =>
    have hb : ∀ t, t < 128 → pc 7 t = 2 → bd 7 (fun s => if s ∈ T35 then c s else 0) t = bd 7 c t := by
      intro t ht htp
      apply bd_congr
      intro i hi hbit
      have : t + 2 ^ i ∈ T35 := by
        have h : ((List.range 128).all fun t => (List.range 7).all fun i => decide (pc 7 t ≠ 2) || t.testBit i || T35.contains (t + 2 ^ i)) = true := by decide +kernel
        have := List.all_eq_true.1 (List.all_eq_true.1 h t (List.mem_range.2 ht)) i (List.mem_range.2 hi)
        simpa [htp, hbit] using this
      simp [this]
    have hs0T := mem_T35 s0 hs0 hk0
    obtain ⟨z, h1, h3, h4⟩ := X72 hp2 hpr (c := fun s => if s ∈ T35 then c s else 0)
      (fun e he => by rw [hb e (E21_lt e he) (E21_pc e he)]; exact hcyc e (E21_lt e he) (E21_pc e he)) ⟨s0, by simpa [hs0T] using hp0⟩
    refine ⟨z, h1, ?_, ?_, ?_⟩
    · intro s hs; apply h3
      have : s ∉ T35 := fun h => hs ⟨T35_lt s h, T35_pc s h⟩
      simp [this, Int.dvd_zero]
    · intro s hs; apply h3; by_cases h : s ∈ T35 <;> simp [h, hs, Int.dvd_zero]
    · intro t ht htp; exact h4 t ((E21_iff t ht).2 htp)

end K63


namespace K63

def sw (a b i : Nat) : Nat := if i = a then b else if i = b then a else i

theorem sw_sw (a b i : Nat) : sw a b (sw a b i) = i := by
  unfold sw
  by_cases h1 : i = a
  · subst h1; simp
  · by_cases h2 : i = b
    · subst h2; simp [h1]
    · simp [h1, h2]

theorem sw_lt {a b i n : Nat} (ha : a < n) (hb : b < n) (hi : i < n) : sw a b i < n := by
  unfold sw; split
  · exact hb
  · split <;> assumption

theorem sw_fix {a b i : Nat} (ha : i ≠ a) (hb : i ≠ b) : sw a b i = i := by simp [sw, ha, hb]

theorem sw_inj {a b i j : Nat} (h : sw a b i = sw a b j) : i = j := by
  have := congrArg (sw a b) h; rwa [sw_sw, sw_sw] at this

theorem sw_ge {a b i : Nat} (hb : a ≤ b) (hi : a ≤ i) : a ≤ sw a b i := by
  unfold sw; split
  · exact hb
  · split
    · exact Nat.le_refl a
    · exact hi

structure Inv (A : Nat → Nat → Int) (h w a : Nat) (π κ : Nat → Nat) (M : Nat → Nat → Int) : Prop where
  ah : a ≤ h
  aw : a ≤ w
  πlt : ∀ i, i < h → π i < h
  πinj : ∀ i, i < h → ∀ j, j < h → π i = π j → i = j
  πsur : ∀ r, r < h → ∃ i, i < h ∧ π i = r
  κlt : ∀ i, i < w → κ i < w
  κinj : ∀ i, i < w → ∀ j, j < w → κ i = κ j → i = j
  κsur : ∀ r, r < w → ∃ i, i < w ∧ κ i = r
  diag : ∀ i, i < a → M i i = 1
  rowz : ∀ i, i < a → ∀ j, j < w → j ≠ i → M i j = 0
  colz : ∀ j, j < a → ∀ i, i < h → i ≠ j → M i j = 0
  yv : ∀ i, a ≤ i → i < h → ∃ y : Nat → Int, (∀ r, y r ≠ 0 → r = π i ∨ ∃ t, t < a ∧ r = π t) ∧ y (π i) = 1 ∧
    (∀ j, j < a → ls (List.range h) (fun r => y r * A r (κ j)) = 0) ∧
    ∀ j, a ≤ j → j < w → ls (List.range h) (fun r => y r * A r (κ j)) = M i j
  cv : ∀ j, a ≤ j → j < w → ∃ c : Nat → Int, (∀ l, c l ≠ 0 → l = κ j ∨ ∃ t, t < a ∧ l = κ t) ∧ c (κ j) = 1 ∧
    (∀ i, i < a → ls (List.range w) (fun l => A (π i) l * c l) = 0) ∧
    ∀ i, a ≤ i → i < h → ls (List.range w) (fun l => A (π i) l * c l) = M i j
  n1 : ∀ (m : Int) (y : Nat → Int), (∀ r, y r ≠ 0 → ∃ t, t < a ∧ r = π t) →
    (∀ j, j < a → m ∣ ls (List.range h) (fun r => y r * A r (κ j))) → ∀ r, m ∣ y r
  n2 : ∀ (m : Int) (c : Nat → Int), (∀ l, c l ≠ 0 → ∃ t, t < a ∧ l = κ t) →
    (∀ i, i < a → m ∣ ls (List.range w) (fun l => A (π i) l * c l)) → ∀ l, m ∣ c l

theorem Inv.start (A : Nat → Nat → Int) (h w : Nat) : Inv A h w 0 id id A where
  ah := Nat.zero_le _
  aw := Nat.zero_le _
  πlt := fun _ h => h
  πinj := fun _ _ _ _ h => h
  πsur := fun r h => ⟨r, h, rfl⟩
  κlt := fun _ h => h
  κinj := fun _ _ _ _ h => h
  κsur := fun r h => ⟨r, h, rfl⟩
  diag := fun i h => absurd h (Nat.not_lt_zero i)
  rowz := fun i h => absurd h (Nat.not_lt_zero i)
  colz := fun i h => absurd h (Nat.not_lt_zero i)
  yv := by
    intro i _ hi
    refine ⟨fun r => if r = i then 1 else 0, ?_, by simp, fun j hj => absurd hj (Nat.not_lt_zero j), ?_⟩
    · intro r hr; left; by_cases h : r = i
      · exact h
      · simp [h] at hr
    · intro j _ _
      rw [ls_single (u := i) List.nodup_range (List.mem_range.2 hi)]
      · simp
      · intro r _ hne; simp [hne]
  cv := by
    intro i _ hi
    refine ⟨fun r => if r = i then 1 else 0, ?_, by simp, fun j hj => absurd hj (Nat.not_lt_zero j), ?_⟩
    · intro r hr; left; by_cases h : r = i
      · exact h
      · simp [h] at hr
    · intro j _ _
      rw [ls_single (u := i) List.nodup_range (List.mem_range.2 hi)]
      · simp
      · intro r _ hne; simp [hne]
  n1 := by
    intro m y hy _ r
    by_cases h : y r = 0
    · rw [h]; exact Int.dvd_zero m
    · obtain ⟨t, ht, _⟩ := hy r h; exact absurd ht (Nat.not_lt_zero t)
  n2 := by
    intro m y hy _ r
    by_cases h : y r = 0
    · rw [h]; exact Int.dvd_zero m
    · obtain ⟨t, ht, _⟩ := hy r h; exact absurd ht (Nat.not_lt_zero t)

theorem Inv.swap {A : Nat → Nat → Int} {h w a : Nat} {π κ : Nat → Nat} {M : Nat → Nat → Int} (I : Inv A h w a π κ M)
    {p q : Nat} (hp : a ≤ p) (hph : p < h) (hq : a ≤ q) (hqw : q < w) :
    Inv A h w a (fun i => π (sw a p i)) (fun j => κ (sw a q j)) (fun i j => M (sw a p i) (sw a q j)) := by
  have fp : ∀ t, t < a → sw a p t = t := fun t ht => sw_fix (by omega) (by omega)
  have fq : ∀ t, t < a → sw a q t = t := fun t ht => sw_fix (by omega) (by omega)
  have hah : a < h := by omega
  have haw : a < w := by omega
  refine ⟨I.ah, I.aw, ?_, ?_, ?_, ?_, ?_, ?_, ?_, ?_, ?_, ?_, ?_, ?_, ?_⟩
  · intro i hi; exact I.πlt _ (sw_lt hah hph hi)
  · intro i hi j hj e; exact sw_inj (I.πinj _ (sw_lt hah hph hi) _ (sw_lt hah hph hj) e)
  · intro r hr; obtain ⟨i, hi, e⟩ := I.πsur r hr
    exact ⟨sw a p i, sw_lt hah hph hi, by rw [sw_sw]; exact e⟩
  · intro i hi; exact I.κlt _ (sw_lt haw hqw hi)
  · intro i hi j hj e; exact sw_inj (I.κinj _ (sw_lt haw hqw hi) _ (sw_lt haw hqw hj) e)
  · intro r hr; obtain ⟨i, hi, e⟩ := I.κsur r hr
    exact ⟨sw a q i, sw_lt haw hqw hi, by rw [sw_sw]; exact e⟩
  · intro i hi; show M (sw a p i) (sw a q i) = 1; rw [fp i hi, fq i hi]; exact I.diag i hi
  · intro i hi j hj hne
    show M (sw a p i) (sw a q j) = 0
    rw [fp i hi]
    apply I.rowz i hi _ (sw_lt haw hqw hj)
    intro e; apply hne; have := congrArg (sw a q) e; rwa [sw_sw, fq i hi] at this
  · intro j hj i hi hne
    show M (sw a p i) (sw a q j) = 0
    rw [fq j hj]
    apply I.colz j hj _ (sw_lt hah hph hi)
    intro e; apply hne; have := congrArg (sw a p) e; rwa [sw_sw, fp j hj] at this
  · intro i hi hih
    obtain ⟨y, h1, h2, h3, h4⟩ := I.yv (sw a p i) (sw_ge hp hi) (sw_lt hah hph hih)
    refine ⟨y, ?_, h2, ?_, ?_⟩
    · intro r hr
      rcases h1 r hr with h | ⟨t, ht, h⟩
      · exact .inl h
      · exact .inr ⟨t, ht, by rw [fp t ht]; exact h⟩
    · intro j hj; rw [fq j hj]; exact h3 j hj
    · intro j hj hjw; exact h4 _ (sw_ge hq hj) (sw_lt haw hqw hjw)
  · intro i hi hih
    obtain ⟨y, h1, h2, h3, h4⟩ := I.cv (sw a q i) (sw_ge hq hi) (sw_lt haw hqw hih)
    refine ⟨y, ?_, h2, ?_, ?_⟩
    · intro r hr
      rcases h1 r hr with h | ⟨t, ht, h⟩
      · exact .inl h
      · exact .inr ⟨t, ht, by rw [fq t ht]; exact h⟩
    · intro j hj; rw [fp j hj]; exact h3 j hj
    · intro j hj hjw; exact h4 _ (sw_ge hp hj) (sw_lt hah hph hjw)
  · intro m y hy hd
    apply I.n1 m y
    · intro r hr; obtain ⟨t, ht, e⟩ := hy r hr; exact ⟨t, ht, by rw [fp t ht] at e; exact e⟩
    · intro j hj; have := hd j hj; rwa [fq j hj] at this
  · intro m y hy hd
    apply I.n2 m y
    · intro r hr; obtain ⟨t, ht, e⟩ := hy r hr; exact ⟨t, ht, by rw [fq t ht] at e; exact e⟩
    · intro j hj; have := hd j hj; rwa [fp j hj] at this

theorem Inv.elim {A : Nat → Nat → Int} {h w a : Nat} {π κ : Nat → Nat} {M : Nat → Nat → Int} (I : Inv A h w a π κ M)
    (hh : a < h) (hw : a < w) {d : Int} (hM : M a a = d) (hd : d * d = 1) {M' : Nat → Nat → Int}
    (e1 : ∀ i, i < h → ∀ j, j < w → i < a ∨ j < a → M' i j = M i j) (e2 : M' a a = 1)
    (e3 : ∀ j, a < j → j < w → M' a j = 0) (e4 : ∀ i, a < i → i < h → M' i a = 0)
    (e5 : ∀ i, a < i → i < h → ∀ j, a < j → j < w → M' i j = M i j - M i a * d * M a j) : Inv A h w (a + 1) π κ M' := by
  obtain ⟨ya, ya1, ya2, ya3, ya4⟩ := I.yv a (Nat.le_refl a) hh
  obtain ⟨ca, ca1, ca2, ca3, ca4⟩ := I.cv a (Nat.le_refl a) hw
  refine ⟨hh, hw, I.πlt, I.πinj, I.πsur, I.κlt, I.κinj, I.κsur, ?_, ?_, ?_, ?_, ?_, ?_, ?_⟩
  · intro i hi
    by_cases h : i < a
    · rw [e1 i (by omega) i (by omega) (.inl h)]; exact I.diag i h
    · have : i = a := by omega
      subst this; exact e2
  · intro i hi j hj hne
    by_cases h : i < a
    · rw [e1 i (by omega) j hj (.inl h)]; exact I.rowz i h j hj hne
    · have : i = a := by omega
      subst this
      by_cases h2 : j < i
      · rw [e1 i hh j hj (.inr h2)]; exact I.colz j h2 i hh (by omega)
      · exact e3 j (by omega) hj
  · intro j hj i hi hne
    by_cases h : j < a
    · rw [e1 i hi j (by omega) (.inr h)]; exact I.colz j h i hi hne
    · have : j = a := by omega
      subst this
      by_cases h2 : i < j
      · rw [e1 i hi j hw (.inl h2)]; exact I.rowz i h2 j hw (by omega)
      · exact e4 i (by omega) hi
  · intro i hi hih
    obtain ⟨y, y1, y2, y3, y4⟩ := I.yv i (by omega) hih
    refine ⟨fun r => y r - (M i a * d) * ya r, ?_, ?_, ?_, ?_⟩
    · intro r hr
      by_cases h : y r = 0
      · have : ya r ≠ 0 := by intro h2; apply hr; simp [h, h2]
        rcases ya1 r this with h | ⟨t, ht, h⟩
        · exact .inr ⟨a, by omega, h⟩
        · exact .inr ⟨t, by omega, h⟩
      · rcases y1 r h with h | ⟨t, ht, h⟩
        · exact .inl h
        · exact .inr ⟨t, by omega, h⟩
    · have : ya (π i) = 0 := by
        apply Classical.byContradiction; intro h
        rcases ya1 _ h with h | ⟨t, ht, h⟩
        · have := I.πinj i hih a hh h; omega
        · have := I.πinj i hih t (by omega) h; omega
      simp [this, y2]
    · intro j hj
      have e : ls (List.range h) (fun r => (y r - (M i a * d) * ya r) * A r (κ j))
          = ls (List.range h) (fun r => y r * A r (κ j)) - (M i a * d) * ls (List.range h) (fun r => ya r * A r (κ j)) := by
        rw [← ls_mul, ← ls_sub]; apply ls_congr; intro r _; rw [Int.sub_mul, Int.mul_assoc]
      rw [e]
      by_cases h : j < a
      · rw [y3 j h, ya3 j h]; simp
      · have : j = a := by omega
        subst this
        rw [y4 j (Nat.le_refl _) hw, ya4 j (Nat.le_refl _) hw, hM, Int.mul_assoc, hd]; simp
    · intro j hj hjw
      have e : ls (List.range h) (fun r => (y r - (M i a * d) * ya r) * A r (κ j))
          = ls (List.range h) (fun r => y r * A r (κ j)) - (M i a * d) * ls (List.range h) (fun r => ya r * A r (κ j)) := by
        rw [← ls_mul, ← ls_sub]; apply ls_congr; intro r _; rw [Int.sub_mul, Int.mul_assoc]
      rw [e, y4 j (by omega) hjw, ya4 j (by omega) hjw, e5 i (by omega) hih j (by omega) hjw]
  · intro i hi hih
    obtain ⟨y, y1, y2, y3, y4⟩ := I.cv i (by omega) hih
    refine ⟨fun r => y r - (M a i * d) * ca r, ?_, ?_, ?_, ?_⟩
    · intro r hr
      by_cases h : y r = 0
      · have : ca r ≠ 0 := by intro h2; apply hr; simp [h, h2]
        rcases ca1 r this with h | ⟨t, ht, h⟩
        · exact .inr ⟨a, by omega, h⟩
        · exact .inr ⟨t, by omega, h⟩
      · rcases y1 r h with h | ⟨t, ht, h⟩
        · exact .inl h
        · exact .inr ⟨t, by omega, h⟩
    · have : ca (κ i) = 0 := by
        apply Classical.byContradiction; intro h
        rcases ca1 _ h with h | ⟨t, ht, h⟩
        · have := I.κinj i hih a hw h; omega
        · have := I.κinj i hih t (by omega) h; omega
      simp [this, y2]
    · intro j hj
      have e : ls (List.range w) (fun r => A (π j) r * (y r - (M a i * d) * ca r))
          = ls (List.range w) (fun r => A (π j) r * y r) - (M a i * d) * ls (List.range w) (fun r => A (π j) r * ca r) := by
        rw [← ls_mul, ← ls_sub]; apply ls_congr; intro r _; rw [Int.mul_sub, Int.mul_left_comm]
      rw [e]
      by_cases h : j < a
      · rw [y3 j h, ca3 j h]; simp
      · have : j = a := by omega
        subst this
        rw [y4 j (Nat.le_refl _) hh, ca4 j (Nat.le_refl _) hh, hM, Int.mul_assoc, hd]; simp
    · intro j hj hjw
      have e : ls (List.range w) (fun r => A (π j) r * (y r - (M a i * d) * ca r))
          = ls (List.range w) (fun r => A (π j) r * y r) - (M a i * d) * ls (List.range w) (fun r => A (π j) r * ca r) := by
        rw [← ls_mul, ← ls_sub]; apply ls_congr; intro r _; rw [Int.mul_sub, Int.mul_left_comm]
      rw [e, y4 j (by omega) hjw, ca4 j (by omega) hjw, e5 j (by omega) hjw i (by omega) hih]
      rw [show M a i * d * M j a = M j a * d * M a i by rw [Int.mul_comm (M a i * d), Int.mul_comm (M a i) d, ← Int.mul_assoc]]
  · intro m y hy hdv
    have e : ∀ j, ls (List.range h) (fun r => (y r - y (π a) * ya r) * A r (κ j))
          = ls (List.range h) (fun r => y r * A r (κ j)) - y (π a) * ls (List.range h) (fun r => ya r * A r (κ j)) := by
        intro j
        rw [← ls_mul, ← ls_sub]; apply ls_congr; intro r _; rw [Int.sub_mul, Int.mul_assoc]
    have hd1 := I.n1 m (fun r => y r - y (π a) * ya r) (by
      intro r hr
      by_cases h : r = π a
      · exfalso; apply hr; rw [h]; simp [ya2]
      · by_cases h0 : y r = 0
        · have : ya r ≠ 0 := by intro h2; apply hr; simp [h0, h2]
          rcases ya1 r this with h' | h'
          · exact absurd h' h
          · exact h'
        · obtain ⟨t, ht, hr'⟩ := hy r h0
          by_cases hta : t = a
          · subst hta; exact absurd hr' h
          · exact ⟨t, by omega, hr'⟩) (by
      intro j hj
      rw [e j, ya3 j hj]
      simpa using hdv j (by omega))
    have h2 := hdv a (by omega)
    have h3 : m ∣ ls (List.range h) (fun r => (y r - y (π a) * ya r) * A r (κ a)) :=
      ls_dvd (fun r _ => Int.dvd_trans (hd1 r) (Int.dvd_mul_right _ _))
    rw [e a, ya4 a (Nat.le_refl a) hw, hM] at h3
    have h4 := Int.dvd_sub h2 h3
    rw [show ∀ x z : Int, x - (x - z) = z from fun x z => by omega] at h4
    have h5 : m ∣ y (π a) := by
      have := Int.dvd_trans h4 (Int.dvd_mul_right _ d)
      rwa [Int.mul_assoc, hd, Int.mul_one] at this
    intro r
    have := Int.dvd_add (hd1 r) (Int.dvd_trans h5 (Int.dvd_mul_right _ (ya r)))
    rwa [Int.sub_add_cancel] at this
  · intro m y hy hdv
    have e : ∀ j, ls (List.range w) (fun r => A (π j) r * (y r - y (κ a) * ca r))
          = ls (List.range w) (fun r => A (π j) r * y r) - y (κ a) * ls (List.range w) (fun r => A (π j) r * ca r) := by
        intro j
        rw [← ls_mul, ← ls_sub]; apply ls_congr; intro r _; rw [Int.mul_sub, Int.mul_left_comm]
    have hd1 := I.n2 m (fun r => y r - y (κ a) * ca r) (by
      intro r hr
      by_cases h : r = κ a
      · exfalso; apply hr; rw [h]; simp [ca2]
      · by_cases h0 : y r = 0
        · have : ca r ≠ 0 := by intro h2; apply hr; simp [h0, h2]
          rcases ca1 r this with h' | h'
          · exact absurd h' h
          · exact h'
        · obtain ⟨t, ht, hr'⟩ := hy r h0
          by_cases hta : t = a
          · subst hta; exact absurd hr' h
          · exact ⟨t, by omega, hr'⟩) (by
      intro j hj
      rw [e j, ca3 j hj]
      simpa using hdv j (by omega))
    have h2 := hdv a (by omega)
    have h3 : m ∣ ls (List.range w) (fun r => A (π a) r * (y r - y (κ a) * ca r)) :=
      ls_dvd (fun r _ => Int.dvd_trans (hd1 r) (Int.dvd_mul_left _ _))
    rw [e a, ca4 a (Nat.le_refl a) hh, hM] at h3
    have h4 := Int.dvd_sub h2 h3
    rw [show ∀ x z : Int, x - (x - z) = z from fun x z => by omega] at h4
    have h5 : m ∣ y (κ a) := by
      have := Int.dvd_trans h4 (Int.dvd_mul_right _ d)
      rwa [Int.mul_assoc, hd, Int.mul_one] at this
    intro r
    have := Int.dvd_add (hd1 r) (Int.dvd_trans h5 (Int.dvd_mul_right _ (ca r)))
    rwa [Int.sub_add_cancel] at this

end K63


namespace K63

structure Cx (h w k : Nat) (R C : Nat → Nat) (A : Nat → Nat → Int) : Prop where
  Rlt : ∀ i, i < h → R i < 128 ∧ pc 7 (R i) = k
  Rinj : ∀ i, i < h → ∀ j, j < h → R i = R j → i = j
  Clt : ∀ j, j < w → C j < 128 ∧ pc 7 (C j) = k + 1
  Cinj : ∀ i, i < w → ∀ j, j < w → C i = C j → i = j
  Aeq : ∀ i, i < h → ∀ j, j < w → A i j = inc 7 (R i) (C j)
  closed : ∀ j, j < w → ∀ t, t < 128 → inc 7 t (C j) ≠ 0 → ∃ i, i < h ∧ R i = t
  order : ∀ i, i < h → ∀ i', i' < h → ∀ r, r < 64 → ∀ x, x < 6 → r.testBit x = false → R i = r + 2 ^ x → R i' = r + 64 → i < i'

theorem lt64 : ∀ r < 64, ∀ x < 6, r.testBit x = false → r + 2 ^ x < 64 := by
  have h : ((List.range 64).all fun r => (List.range 6).all fun x => r.testBit x || decide (r + 2 ^ x < 64)) = true := by decide +kernel
  intro r hr x hx hb
  have := List.all_eq_true.1 (List.all_eq_true.1 h r (List.mem_range.2 hr)) x (List.mem_range.2 hx)
  simpa [hb] using this

theorem bit6 : ∀ r < 64, r.testBit 6 = false := by
  have h : ((List.range 64).all fun r => !r.testBit 6) = true := by decide +kernel
  intro r hr
  have := List.all_eq_true.1 h r (List.mem_range.2 hr)
  simpa using this

theorem face64 {r t x : Nat} (hr : r < 64) (ht : 64 ≤ t) (hx : x < 7) (hb : r.testBit x = false) (he : r + 2 ^ x = t) : x = 6 ∧ t = r + 64 := by
  by_cases h : x < 6
  · have := lt64 r hr x h hb; omega
  · have : x = 6 := by omega
    subst this; exact ⟨rfl, by omega⟩

theorem pc64 : ∀ r < 64, pc 7 (r + 64) = pc 7 r + 1 := by
  have h : ((List.range 64).all fun r => decide (pc 7 (r + 64) = pc 7 r + 1)) = true := by decide +kernel
  intro r hr
  have := List.all_eq_true.1 h r (List.mem_range.2 hr)
  simpa using this

theorem pc_add : ∀ r < 128, ∀ x < 7, r.testBit x = false → pc 7 (r + 2 ^ x) = pc 7 r + 1 ∧ r + 2 ^ x < 128 := by
  have h : ((List.range 128).all fun r => (List.range 7).all fun x => r.testBit x || (decide (pc 7 (r + 2 ^ x) = pc 7 r + 1) && decide (r + 2 ^ x < 128))) = true := by decide +kernel
  intro r hr x hx hb
  have := List.all_eq_true.1 (List.all_eq_true.1 h r (List.mem_range.2 hr)) x (List.mem_range.2 hx)
  simpa [hb] using this

/-- a chain on the columns, read on masks -/
def spread (w : Nat) (C : Nat → Nat) (c : Nat → Int) (s : Nat) : Int := ls (List.range w) (fun l => if C l = s then c l else 0)

theorem bd_spread (w : Nat) (C : Nat → Nat) (c : Nat → Int) (n t : Nat) :
    bd n (spread w C c) t = ls (List.range w) (fun l => inc n t (C l) * c l) := by
  have e : ∀ l, inc n t (C l) * c l = ls (List.range n) (fun i => if t.testBit i then 0 else sg i t * (if C l = t + 2 ^ i then c l else 0)) := by
    intro l; unfold inc; rw [← ls_mul']; apply ls_congr; intro i _
    by_cases h : t.testBit i = true
    · simp [h]
    · by_cases h2 : t + 2 ^ i = C l
      · simp [h, h2]
      · simp [h, h2, Ne.symm h2]
  rw [ls_congr (fun l _ => e l), ls_comm]
  unfold bd spread
  apply ls_congr; intro i _
  by_cases h : t.testBit i = true
  · simp only [h, if_true]; exact (ls_zero (fun _ _ => rfl)).symm
  · simp only [h, if_false, Bool.false_eq_true]; rw [ls_mul]

theorem spread_at {w : Nat} {C : Nat → Nat} {c : Nat → Int} (hC : ∀ i, i < w → ∀ j, j < w → C i = C j → i = j) {l : Nat} (hl : l < w) :
    spread w C c (C l) = c l := by
  unfold spread
  rw [ls_single (u := l) List.nodup_range (List.mem_range.2 hl)]
  · simp
  · intro a ha hne
    have : C a ≠ C l := fun h => hne (hC a (List.mem_range.1 ha) l hl h)
    simp [this]

theorem spread_ne {w : Nat} {C : Nat → Nat} {c : Nat → Int} {s : Nat} (h : spread w C c s ≠ 0) : ∃ l, l < w ∧ C l = s ∧ c l ≠ 0 := by
  apply Classical.byContradiction; intro hh
  apply h; unfold spread; apply ls_zero; intro l hl
  by_cases e : C l = s
  · by_cases e2 : c l = 0
    · simp [e2]
    · exact absurd ⟨l, List.mem_range.1 hl, e, e2⟩ hh
  · simp [e]

/-- above a face with the point 6 the boundary follows from the others -/
theorem top6 {c : Nat → Int} {p : Int} {r : Nat} (hr : r < 64) (h : ∀ x, x < 6 → r.testBit x = false → p ∣ bd 7 c (r + 2 ^ x)) :
    p ∣ bd 7 c (r + 64) := by
  have h0 := bdbd (n := 7) (by decide) c (t := r) (by omega)
  rw [bd_ov, ls_erase (u := 6) (by decide)] at h0
  have h1 : p ∣ ls ((List.range 7).erase 6) (ov (bd 7 c) r) := by
    apply ls_dvd; intro x hx
    have := (List.nodup_range.mem_erase_iff).1 hx
    have hx6 : x < 6 := by have := List.mem_range.1 this.2; omega
    unfold ov
    by_cases hb : r.testBit x = true
    · simp [hb, Int.dvd_zero]
    · simp only [hb, if_false, Bool.false_eq_true]
      exact (dvd_sg x r _).2 (h x hx6 (by simpa using hb))
  have h2 : p ∣ ov (bd 7 c) r 6 := by
    have := Int.dvd_sub (Int.dvd_zero p) h1
    rw [← h0] at this
    rwa [Int.add_sub_cancel] at this
  unfold ov at h2
  rw [bit6 r hr] at h2
  simp only [Bool.false_eq_true, if_false] at h2
  exact (dvd_sg 6 r _).1 h2

open Classical in
theorem noodd_c {h w k a : Nat} {R C : Nat → Nat} {A : Nat → Nat → Int} {π κ : Nat → Nat} {M : Nat → Nat → Int}
    (X : Cx h w k R C A) (I : Inv A h w a π κ M) (hP : ∀ t, t < a → R (π t) < 64) (hk : k ≤ 2) {i j : Nat}
    (hai : a ≤ i) (hih : i < h) (haj : a ≤ j) (hjw : j < w) (hRi : R (π i) < 64)
    {p : Int} (hp2 : ¬ p ∣ 2) (hpr : ∀ a b : Int, p ∣ a * b → p ∣ a ∨ p ∣ b) (hd : p ∣ M i j) : M i j = 0 := by
  obtain ⟨c, c1, c2, c3, c4⟩ := I.cv j haj hjw
  apply Classical.byContradiction; intro hM0
  have hAi : ∀ r, r < h → ls (List.range w) (fun l => A r l * c l) = bd 7 (spread w C c) (R r) := by
    intro r hr; rw [bd_spread]; apply ls_congr; intro l hl; rw [X.Aeq r hr l (List.mem_range.1 hl)]
  -- an extra cone column is asked for at t
  let ex : Nat → Prop := fun t => t < 64 ∧ pc 7 t = k ∧ (∀ s, s < a → t ≠ R (π s)) ∧ t ≠ R (π i)
  have hcol : ∀ t, ex t → C (κ j) ≠ t + 64 := by
    intro t ⟨ht, _, htP, hti⟩ he
    have hz : ∀ r, r < h → R r < 64 → R r ≠ t → A r (κ j) = 0 := by
      intro r hr hr6 hne
      rw [X.Aeq r hr _ (I.κlt j hjw), he]
      apply Classical.byContradiction; intro h
      obtain ⟨x, hx, hb, e⟩ := inc_ne h
      have := (face64 hr6 (by omega) hx hb e).2
      exact hne (by omega)
    have hdl := I.n2 0 (fun l => c l - if l = κ j then 1 else 0) (by
      intro l hl
      by_cases e : l = κ j
      · exfalso; apply hl; rw [e, c2]; simp
      · simp only [e, if_false, Int.sub_zero] at hl
        rcases c1 l hl with h | h
        · exact absurd h e
        · exact h) (by
      intro s hs
      have : ls (List.range w) (fun l => A (π s) l * (c l - if l = κ j then 1 else 0)) = ls (List.range w) (fun l => A (π s) l * c l) - A (π s) (κ j) := by
        have e1 : ls (List.range w) (fun l => A (π s) l * if l = κ j then 1 else 0) = A (π s) (κ j) := by
          rw [ls_single (u := κ j) List.nodup_range (List.mem_range.2 (I.κlt j hjw))]
          · simp
          · intro b _ hb; simp [hb]
        rw [← e1, ← ls_sub]; apply ls_congr; intro l _; rw [Int.mul_sub]
      rw [this, c3 s hs, hz (π s) (I.πlt s (by have := I.ah; omega)) (hP s hs) (fun e => htP s hs e.symm)]
      simp)
    have : M i j = A (π i) (κ j) := by
      rw [← c4 i hai hih, ls_single (u := κ j) List.nodup_range (List.mem_range.2 (I.κlt j hjw)), c2, Int.mul_one]
      intro b _ hb
      have := Int.zero_dvd.1 (hdl b)
      simp only [hb, if_false, Int.sub_zero] at this
      rw [this, Int.mul_zero]
    apply hM0; rw [this]
    exact hz (π i) (I.πlt i hih) hRi (Ne.symm hti)
  let g : Nat → Int := fun s => if 64 ≤ s ∧ ex (s - 64) then sg 6 (s - 64) * bd 7 (spread w C c) (s - 64) else 0
  let c' : Nat → Int := fun s => spread w C c s - g s
  have hbd : ∀ t, t < 64 → pc 7 t = k → bd 7 c' t = if ex t then 0 else bd 7 (spread w C c) t := by
    intro t ht hpk
    have hg : bd 7 g t = if ex t then bd 7 (spread w C c) t else 0 := by
      rw [bd_ov, ls_single (u := 6) List.nodup_range (by decide)]
      · unfold ov
        rw [bit6 t ht]
        simp only [Bool.false_eq_true, if_false]
        show sg 6 t * (if 64 ≤ t + 64 ∧ ex (t + 64 - 64) then sg 6 (t + 64 - 64) * bd 7 (spread w C c) (t + 64 - 64) else 0) = _
        rw [Nat.add_sub_cancel]
        by_cases he : ex t
        · rw [if_pos ⟨by omega, he⟩, if_pos he, ← Int.mul_assoc, sg_sq, Int.one_mul]
        · rw [if_neg (fun h => he h.2), if_neg he, Int.mul_zero]
      · intro x hx hne
        unfold ov
        by_cases hb : t.testBit x = true
        · simp [hb]
        · simp only [hb, if_false, Bool.false_eq_true]
          have := lt64 t ht x (by have := List.mem_range.1 hx; omega) (by simpa using hb)
          have : g (t + 2 ^ x) = 0 := if_neg (fun h => by omega)
          rw [this, Int.mul_zero]
    show bd 7 (fun s => spread w C c s - g s) t = _
    rw [bd_sub, hg]
    by_cases he : ex t <;> simp [he]
  have hP' : ∀ t, t < 64 → pc 7 t = k → ¬ ex t → p ∣ bd 7 (spread w C c) t := by
    intro t ht hpk he
    by_cases h1 : ∃ s, s < a ∧ t = R (π s)
    · obtain ⟨s, hs, rfl⟩ := h1
      rw [← hAi _ (I.πlt s (by have := I.ah; omega)), c3 s hs]; exact Int.dvd_zero p
    · by_cases h2 : t = R (π i)
      · rw [h2, ← hAi _ (I.πlt i hih), c4 i hai hih]; exact hd
      · exfalso; apply he
        exact ⟨ht, hpk, fun s hs e => h1 ⟨s, hs, e⟩, h2⟩
  have hcyc : ∀ t, t < 128 → pc 7 t = k → p ∣ bd 7 c' t := by
    have hlow : ∀ t, t < 64 → pc 7 t = k → p ∣ bd 7 c' t := by
      intro t ht hpk
      rw [hbd t ht hpk]
      by_cases he : ex t
      · rw [if_pos he]; exact Int.dvd_zero p
      · rw [if_neg he]; exact hP' t ht hpk he
    intro t ht hpk
    by_cases h6 : t < 64
    · exact hlow t h6 hpk
    · have ht' : t = (t - 64) + 64 := by omega
      rw [ht']
      apply top6 (by omega)
      intro x hx hb
      have hp := pc64 (t - 64) (by omega)
      rw [← ht', hpk] at hp
      have := pc_add (t - 64) (by omega) x (by omega) hb
      exact hlow _ (lt64 _ (by omega) x hx hb) (by omega)
  have hκj := I.κlt j hjw
  have hne : ¬ p ∣ c' (C (κ j)) := by
    have h1 : spread w C c (C (κ j)) = 1 := by rw [spread_at X.Cinj hκj, c2]
    have h2 : g (C (κ j)) = 0 := by
      apply if_neg; intro ⟨h64, he⟩
      exact hcol _ he (by omega)
    show ¬ p ∣ spread w C c (C (κ j)) - g (C (κ j))
    rw [h1, h2]; intro h
    exact hp2 (Int.dvd_trans h (by decide))
  obtain ⟨z, ⟨s0, hs0⟩, z2, z3, z4⟩ := X7 hp2 hpr k hk hcyc ⟨C (κ j), (X.Clt _ hκj).1, (X.Clt _ hκj).2, hne⟩
  -- the support of z
  have zsup : ∀ s, z s ≠ 0 → (64 ≤ s ∧ ex (s - 64)) ∨ ∃ l, l < w ∧ C l = s ∧ c l ≠ 0 := by
    intro s hs
    by_cases hg : 64 ≤ s ∧ ex (s - 64)
    · exact .inl hg
    · right
      apply spread_ne
      intro h0
      apply hs; apply z3
      show p ∣ spread w C c s - g s
      have : g s = 0 := if_neg hg
      rw [h0, this]; exact Int.dvd_zero p
  let v : Nat → Int := fun l => if l < w ∧ c l ≠ 0 then z (C l) else 0
  have hv : ∀ t, t < 64 → pc 7 t = k → ¬ ex t → ls (List.range w) (fun l => inc 7 t (C l) * v l) = 0 := by
    intro t ht hpk he
    rw [← bd_spread, ← z4 t (by omega) hpk]
    apply bd_congr
    intro x hx hb
    by_cases hz : z (t + 2 ^ x) = 0
    · rw [hz]
      unfold spread; apply ls_zero; intro l _
      by_cases e : C l = t + 2 ^ x
      · rw [if_pos e]
        show (if l < w ∧ c l ≠ 0 then z (C l) else 0) = 0
        rw [e, hz]; simp
      · exact if_neg e
    · rcases zsup _ hz with ⟨h64, hex⟩ | ⟨l, hl, hC, hcl⟩
      · have := face64 ht h64 hx hb rfl
        rw [this.2, Nat.add_sub_cancel] at hex
        exact absurd hex he
      · rw [← hC, spread_at X.Cinj hl]
        exact if_pos ⟨hl, hcl⟩
  have hvA : ∀ r, r < h → R r < 64 → ¬ ex (R r) → ls (List.range w) (fun l => A r l * v l) = 0 := by
    intro r hr hr6 he
    rw [← hv (R r) hr6 (X.Rlt r hr).2 he]
    apply ls_congr; intro l hl; rw [X.Aeq r hr l (List.mem_range.1 hl)]
  have heqv := I.n2 0 (fun l => v l - v (κ j) * c l) (by
    intro l hl
    by_cases e : l = κ j
    · exfalso; apply hl; rw [e, c2]; simp
    · by_cases hc0 : c l = 0
      · exfalso; apply hl
        have : v l = 0 := if_neg (fun h => h.2 hc0)
        rw [this, hc0]; simp
      · rcases c1 l hc0 with h | h
        · exact absurd h e
        · exact h) (by
    intro s hs
    have : ls (List.range w) (fun l => A (π s) l * (v l - v (κ j) * c l)) = ls (List.range w) (fun l => A (π s) l * v l) - v (κ j) * ls (List.range w) (fun l => A (π s) l * c l) := by
      rw [← ls_mul, ← ls_sub]; apply ls_congr; intro l _; rw [Int.mul_sub, Int.mul_left_comm]
    rw [this, c3 s hs, hvA _ (I.πlt s (by have := I.ah; omega)) (hP s hs) (fun he => he.2.2.1 s hs rfl)]
    simp)
  have heq : ∀ l, v l = v (κ j) * c l := by
    intro l; have := Int.zero_dvd.1 (heqv l); omega
  have hv0 : v (κ j) = 0 := by
    have h1 := hvA (π i) (I.πlt i hih) hRi (fun he => he.2.2.2 rfl)
    have h2 : ls (List.range w) (fun l => A (π i) l * v l) = v (κ j) * ls (List.range w) (fun l => A (π i) l * c l) := by
      rw [← ls_mul]; apply ls_congr; intro l _; rw [heq l, Int.mul_left_comm]
    rw [h2, c4 i hai hih] at h1
    rcases Int.mul_eq_zero.1 h1 with h | h
    · exact h
    · exact absurd h hM0
  have hzC : ∀ l, l < w → c l ≠ 0 → z (C l) = 0 := by
    intro l hl hcl
    have h1 : v l = z (C l) := if_pos ⟨hl, hcl⟩
    rw [← h1, heq l, hv0, Int.zero_mul]
  rcases zsup s0 hs0 with ⟨h64, hex⟩ | ⟨l, hl, hC, hcl⟩
  · have hb := z4 (s0 - 64) (by have := hex.1; omega) hex.2.1
    rw [bd_ov, ls_single (u := 6) List.nodup_range (by decide)] at hb
    · unfold ov at hb
      rw [bit6 _ hex.1] at hb
      simp only [Bool.false_eq_true, if_false] at hb
      rw [show s0 - 64 + 2 ^ 6 = s0 by omega] at hb
      rcases sg_cases 6 (s0 - 64) with h | h <;> rw [h] at hb <;> omega
    · intro x hx hne
      unfold ov
      by_cases hbx : (s0 - 64).testBit x = true
      · simp [hbx]
      · simp only [hbx, if_false, Bool.false_eq_true]
        have h64' := lt64 _ hex.1 x (by have := List.mem_range.1 hx; omega) (by simpa using hbx)
        have : z (s0 - 64 + 2 ^ x) = 0 := by
          apply Classical.byContradiction; intro hz
          rcases zsup _ hz with ⟨h, _⟩ | ⟨l, hl, hC, hcl⟩
          · omega
          · apply hz; rw [← hC]; exact hzC l hl hcl
        rw [this, Int.mul_zero]
  · apply hs0; rw [← hC]; exact hzC l hl hcl

end K63


namespace K63

open Classical in
theorem ext {p : Int} (hp2 : ¬ p ∣ 2) (hpr : ∀ a b : Int, p ∣ a * b → p ∣ a ∨ p ∣ b) {k : Nat} (hk : k ≤ 2) (u : Nat → Int) (ex : Nat → Prop)
    (hu : ∀ t, t < 64 → pc 7 t = k → ¬ ex t → p ∣ bd 7 u t) {s0 : Nat} (hs0 : s0 < 128) (hs1 : pc 7 s0 = k + 1)
    (hs2 : ¬ p ∣ u s0) (hs3 : ¬ (64 ≤ s0 ∧ ex (s0 - 64))) :
    ∃ z : Nat → Int, (∃ s, z s ≠ 0) ∧ (∀ s, z s ≠ 0 → s < 128 ∧ pc 7 s = k + 1) ∧
      (∀ s, z s ≠ 0 → (64 ≤ s ∧ ex (s - 64)) ∨ ¬ p ∣ u s) ∧ ∀ t, t < 128 → pc 7 t = k → bd 7 z t = 0 := by
  let g : Nat → Int := fun s => if 64 ≤ s ∧ ex (s - 64) then sg 6 (s - 64) * bd 7 u (s - 64) else 0
  let c' : Nat → Int := fun s => u s - g s
  have hbd : ∀ t, t < 64 → pc 7 t = k → bd 7 c' t = if ex t then 0 else bd 7 u t := by
    intro t ht hpk
    have hg : bd 7 g t = if ex t then bd 7 u t else 0 := by
      rw [bd_ov, ls_single (u := 6) List.nodup_range (by decide)]
      · unfold ov
        rw [bit6 t ht]
        simp only [Bool.false_eq_true, if_false]
        show sg 6 t * (if 64 ≤ t + 64 ∧ ex (t + 64 - 64) then sg 6 (t + 64 - 64) * bd 7 u (t + 64 - 64) else 0) = _
        rw [Nat.add_sub_cancel]
        by_cases he : ex t
        · rw [if_pos ⟨by omega, he⟩, if_pos he, ← Int.mul_assoc, sg_sq, Int.one_mul]
        · rw [if_neg (fun h => he h.2), if_neg he, Int.mul_zero]
      · intro x hx hne
        unfold ov
        by_cases hb : t.testBit x = true
        · simp [hb]
        · simp only [hb, if_false, Bool.false_eq_true]
          have := lt64 t ht x (by have := List.mem_range.1 hx; omega) (by simpa using hb)
          have : g (t + 2 ^ x) = 0 := if_neg (fun h => by omega)
          rw [this, Int.mul_zero]
    show bd 7 (fun s => u s - g s) t = _
    rw [bd_sub, hg]
    by_cases he : ex t <;> simp [he]
  have hcyc : ∀ t, t < 128 → pc 7 t = k → p ∣ bd 7 c' t := by
    have hlow : ∀ t, t < 64 → pc 7 t = k → p ∣ bd 7 c' t := by
      intro t ht hpk
      rw [hbd t ht hpk]
      by_cases he : ex t
      · rw [if_pos he]; exact Int.dvd_zero p
      · rw [if_neg he]; exact hu t ht hpk he
    intro t ht hpk
    by_cases h6 : t < 64
    · exact hlow t h6 hpk
    · have ht' : t = (t - 64) + 64 := by omega
      rw [ht']
      apply top6 (by omega)
      intro x hx hb
      have hp := pc64 (t - 64) (by omega)
      rw [← ht', hpk] at hp
      have := pc_add (t - 64) (by omega) x (by omega) hb
      exact hlow _ (lt64 _ (by omega) x hx hb) (by omega)
  have hne : ¬ p ∣ c' s0 := by
    have h2 : g s0 = 0 := if_neg hs3
    show ¬ p ∣ u s0 - g s0
    rw [h2, Int.sub_zero]; exact hs2
  obtain ⟨z, z1, z2, z3, z4⟩ := X7 hp2 hpr k hk hcyc ⟨s0, hs0, hs1, hne⟩
  refine ⟨z, z1, ?_, ?_, z4⟩
  · intro s hs
    apply Classical.byContradiction; intro h; exact hs (z2 s h)
  · intro s hs
    by_cases hg : 64 ≤ s ∧ ex (s - 64)
    · exact .inl hg
    · right
      intro h0
      apply hs; apply z3
      show p ∣ u s - g s
      have : g s = 0 := if_neg hg
      rw [this, Int.sub_zero]; exact h0

/-- the sign of the complement -/
def ep (t : Nat) : Int := if pc 7 (t &&& 42) % 2 = 0 then 1 else -1

theorem ep_sq (t : Nat) : ep t * ep t = 1 := by unfold ep; split <;> rfl

theorem co_inc : ∀ t < 64, ∀ s < 64, inc 7 (63 - s) (63 - t) * ep t = ep s * inc 7 t s := by
  have h : ((List.range 64).all fun t => (List.range 64).all fun s => decide (inc 7 (63 - s) (63 - t) * ep t = ep s * inc 7 t s)) = true := by
    decide +kernel
  intro t ht s hs
  have := List.all_eq_true.1 (List.all_eq_true.1 h t (List.mem_range.2 ht)) s (List.mem_range.2 hs)
  simpa using this

theorem co_pc : ∀ t < 64, pc 7 (63 - t) + pc 7 t = 6 := by
  have h : ((List.range 64).all fun t => decide (pc 7 (63 - t) + pc 7 t = 6)) = true := by decide +kernel
  intro t ht
  have := List.all_eq_true.1 h t (List.mem_range.2 ht)
  simpa using this

theorem dvd_ep {p : Int} (t : Nat) (x : Int) : p ∣ ep t * x ↔ p ∣ x := by
  unfold ep; split <;> simp [Int.dvd_neg]

open Classical in
theorem noodd_y {h w k a : Nat} {R C : Nat → Nat} {A : Nat → Nat → Int} {π κ : Nat → Nat} {M : Nat → Nat → Int}
    (X : Cx h w k R C A) (I : Inv A h w a π κ M) (hP : ∀ t, t < a → R (π t) < 64) (hk3 : 3 ≤ k) (hk5 : k ≤ 5) {i j : Nat}
    (hai : a ≤ i) (hih : i < h) (haj : a ≤ j) (hjw : j < w) (hRi : R (π i) < 64)
    {p : Int} (hp2 : ¬ p ∣ 2) (hpr : ∀ a b : Int, p ∣ a * b → p ∣ a ∨ p ∣ b) (hd : p ∣ M i j) : M i j = 0 := by
  obtain ⟨y, y1, y2, y3, y4⟩ := I.yv i hai hih
  apply Classical.byContradiction; intro hM0
  have y6 : ∀ r, y r ≠ 0 → r < h ∧ R r < 64 := by
    intro r hr
    rcases y1 r hr with rfl | ⟨t, ht, rfl⟩
    · exact ⟨I.πlt i hih, hRi⟩
    · exact ⟨I.πlt t (by have := I.ah; omega), hP t ht⟩
  let F : Nat → Nat := fun r => if R r < 64 then 63 - R r else R r
  have Finj : ∀ i, i < h → ∀ j, j < h → F i = F j → i = j := by
    intro i hi j hj e
    apply X.Rinj i hi j hj
    show R i = R j
    have e : (if R i < 64 then 63 - R i else R i) = (if R j < 64 then 63 - R j else R j) := e
    split at e <;> split at e <;> omega
  have Fv : ∀ r, R r < 64 → F r = 63 - R r := fun r hr => if_pos hr
  -- boundary of the complement chain = the coboundary
  have key : ∀ v : Nat → Int, (∀ r, v r ≠ 0 → R r < 64) → ∀ s, s < 64 →
      bd 7 (spread h F (fun r => ep (R r) * v r)) (63 - s) = ep s * ls (List.range h) (fun r => v r * inc 7 (R r) s) := by
    intro v hv s hs
    rw [bd_spread, ← ls_mul]
    apply ls_congr; intro r _
    by_cases h0 : v r = 0
    · simp [h0]
    · have hr := hv r h0
      rw [Fv r hr, ← Int.mul_assoc, co_inc _ hr _ hs, Int.mul_assoc, Int.mul_comm (v r)]
  have keyA : ∀ v : Nat → Int, ∀ l, l < w → ls (List.range h) (fun r => v r * inc 7 (R r) (C l)) = ls (List.range h) (fun r => v r * A r l) := by
    intro v l hl; apply ls_congr; intro r hr; rw [X.Aeq r (List.mem_range.1 hr) l hl]
  have hQ : ∀ l, l < w → (l = κ j ∨ ∃ t, t < a ∧ l = κ t) → p ∣ ls (List.range h) (fun r => y r * A r l) := by
    intro l _ h
    rcases h with rfl | ⟨t, ht, rfl⟩
    · rw [y4 j haj hjw]; exact hd
    · rw [y3 t ht]; exact Int.dvd_zero p
  -- columns with the point 6 read one row
  have col6 : ∀ v : Nat → Int, (∀ r, v r ≠ 0 → R r < 64) → ∀ l, l < w → 64 ≤ C l → ∀ r, r < h → R r + 64 = C l →
      ls (List.range h) (fun r => v r * A r l) = v r * sg 6 (R r) := by
    intro v hv l hl hC r hr he
    rw [ls_single (u := r) List.nodup_range (List.mem_range.2 hr)]
    · rw [X.Aeq r hr l hl, ← he]
      have hlt := (X.Clt l hl).1
      have := inc_val (n := 7) (t := R r) (i := 6) (by decide) (bit6 _ (by omega))
      rw [show R r + 64 = R r + 2 ^ 6 from rfl, this]
    · intro b hb hne
      by_cases h0 : v b = 0
      · simp [h0]
      · rw [X.Aeq b (List.mem_range.1 hb) l hl]
        have : inc 7 (R b) (C l) = 0 := by
          apply Classical.byContradiction; intro h
          obtain ⟨x, hx, hbx, e⟩ := inc_ne h
          have := (face64 (hv b h0) hC hx hbx e).2
          exact hne (X.Rinj b (List.mem_range.1 hb) r hr (by omega))
        rw [this, Int.mul_zero]
  let ex : Nat → Prop := fun t => t < 64 ∧ ∀ l, l < w → (l = κ j ∨ ∃ t, t < a ∧ l = κ t) → C l ≠ 63 - t
  obtain ⟨z, ⟨s0, hs0⟩, z2, z3, z4⟩ := ext hp2 hpr (k := 5 - k) (by omega) (spread h F (fun r => ep (R r) * y r)) ex (by
    intro t ht hpk he
    have : ∃ l, l < w ∧ (l = κ j ∨ ∃ t, t < a ∧ l = κ t) ∧ C l = 63 - t := by
      apply Classical.byContradiction; intro hh
      apply he; exact ⟨ht, fun l hl hq e => hh ⟨l, hl, hq, e⟩⟩
    obtain ⟨l, hl, hq, e⟩ := this
    have e2 : t = 63 - C l := by omega
    rw [e2, key y (fun r hr => (y6 r hr).2) (C l) (by omega), keyA y l hl]
    exact (dvd_ep _ _).2 (hQ l hl hq)) (s0 := F (π i)) (by
      rw [Fv _ hRi]; omega) (by
      rw [Fv _ hRi]; have := co_pc _ hRi; have := (X.Rlt _ (I.πlt i hih)).2; omega) (by
      rw [spread_at Finj (I.πlt i hih), y2, Int.mul_one]
      intro h
      exact hp2 (Int.dvd_trans (Int.dvd_trans h (Int.dvd_mul_right _ (ep (R (π i))))) (by rw [ep_sq]; decide))) (by
      rw [Fv _ hRi]; intro h; omega)
  have zsup : ∀ s, z s ≠ 0 → (64 ≤ s ∧ ex (s - 64)) ∨ ∃ r, r < h ∧ F r = s ∧ y r ≠ 0 := by
    intro s hs
    rcases z3 s hs with hh | hh
    · exact .inl hh
    · right
      have : spread h F (fun r => ep (R r) * y r) s ≠ 0 := fun e => hh (by rw [e]; exact Int.dvd_zero p)
      obtain ⟨r, hr, hF, hy⟩ := spread_ne this
      exact ⟨r, hr, hF, fun h0 => hy (by rw [h0, Int.mul_zero])⟩
  let v : Nat → Int := fun r => if r < h ∧ y r ≠ 0 then ep (R r) * z (F r) else 0
  have v6 : ∀ r, v r ≠ 0 → r < h ∧ y r ≠ 0 ∧ z (F r) ≠ 0 := by
    intro r hr
    by_cases hc : r < h ∧ y r ≠ 0
    · refine ⟨hc.1, hc.2, fun h0 => hr ?_⟩
      show (if r < h ∧ y r ≠ 0 then ep (R r) * z (F r) else 0) = 0
      rw [h0]; simp
    · exact absurd (if_neg hc) hr
  have hv64 : ∀ r, v r ≠ 0 → R r < 64 := fun r hr => (y6 r (v6 r hr).2.1).2
  have hvQ : ∀ l, l < w → (l = κ j ∨ ∃ t, t < a ∧ l = κ t) → ls (List.range h) (fun r => v r * A r l) = 0 := by
    intro l hl hq
    by_cases h64 : C l < 64
    · have h1 : bd 7 (spread h F (fun r => ep (R r) * v r)) (63 - C l) = bd 7 z (63 - C l) := by
        apply bd_congr
        intro x hx hb
        by_cases hz : z (63 - C l + 2 ^ x) = 0
        · rw [hz]
          unfold spread; apply ls_zero; intro r _
          by_cases e : F r = 63 - C l + 2 ^ x
          · rw [if_pos e]
            by_cases hvr : v r = 0
            · simp [hvr]
            · exact absurd (e ▸ hz) (v6 r hvr).2.2
          · exact if_neg e
        · rcases zsup _ hz with ⟨h64', hex⟩ | ⟨r, hr, hF, hyr⟩
          · have := face64 (by omega) h64' hx hb rfl
            rw [this.2, Nat.add_sub_cancel] at hex
            exact absurd (by omega) (hex.2 l hl hq)
          · rw [← hF, spread_at Finj hr]
            have : v r = ep (R r) * z (F r) := if_pos ⟨hr, hyr⟩
            rw [this, ← Int.mul_assoc, ep_sq, Int.one_mul]
      have hpcl := (X.Clt l hl).2
      have hco := co_pc (C l) h64
      rw [z4 (63 - C l) (by omega) (by omega), key v hv64 (C l) h64, keyA v l hl] at h1
      have := congrArg (fun t => ep (C l) * t) h1
      simpa [← Int.mul_assoc, ep_sq] using this
    · -- a column with the point 6
      by_cases hr : ∃ r, r < h ∧ R r + 64 = C l
      · obtain ⟨r, hr, he⟩ := hr
        rw [col6 v hv64 l hl (by omega) r hr he]
        by_cases hvr : v r = 0
        · simp [hvr]
        · exfalso
          have h3 := v6 r hvr
          have hr6 := (y6 r h3.2.1).2
          rcases z3 _ h3.2.2 with ⟨h64', _⟩ | hnp
          · rw [Fv r hr6] at h64'; omega
          · apply hnp
            rw [spread_at Finj hr]
            have := hQ l hl hq
            rw [col6 y (fun r hr => (y6 r hr).2) l hl (by omega) r hr he, Int.mul_comm] at this
            exact (dvd_ep _ _).2 ((dvd_sg _ _ _).1 this)
      · apply ls_zero; intro r hr'
        by_cases hvr : v r = 0
        · simp [hvr]
        · rw [X.Aeq r (List.mem_range.1 hr') l hl]
          have : inc 7 (R r) (C l) = 0 := by
            apply Classical.byContradiction; intro h
            obtain ⟨x, hx, hbx, e⟩ := inc_ne h
            have := (face64 (hv64 r hvr) (by omega) hx hbx e).2
            exact hr ⟨r, List.mem_range.1 hr', by omega⟩
          rw [this, Int.mul_zero]
  have hκ : ∀ t, t < a → κ t < w := fun t ht => I.κlt t (by have := I.aw; omega)
  have heqv := I.n1 0 (fun r => v r - v (π i) * y r) (by
    intro r hr
    by_cases e : r = π i
    · exfalso; apply hr; rw [e, y2]; simp
    · by_cases hc0 : y r = 0
      · exfalso; apply hr
        have : v r = 0 := if_neg (fun h => h.2 hc0)
        rw [this, hc0]; simp
      · rcases y1 r hc0 with h | h
        · exact absurd h e
        · exact h) (by
    intro s hs
    have : ls (List.range h) (fun r => (v r - v (π i) * y r) * A r (κ s)) = ls (List.range h) (fun r => v r * A r (κ s)) - v (π i) * ls (List.range h) (fun r => y r * A r (κ s)) := by
      rw [← ls_mul, ← ls_sub]; apply ls_congr; intro l _; rw [Int.sub_mul, Int.mul_assoc]
    rw [this, y3 s hs, hvQ _ (hκ s hs) (.inr ⟨s, hs, rfl⟩)]
    simp)
  have heq : ∀ r, v r = v (π i) * y r := by
    intro r; have := Int.zero_dvd.1 (heqv r); omega
  have hv0 : v (π i) = 0 := by
    have h1 := hvQ (κ j) (I.κlt j hjw) (.inl rfl)
    have h2 : ls (List.range h) (fun r => v r * A r (κ j)) = v (π i) * ls (List.range h) (fun r => y r * A r (κ j)) := by
      rw [← ls_mul]; apply ls_congr; intro l _; rw [heq l, Int.mul_assoc]
    rw [h2, y4 j haj hjw] at h1
    rcases Int.mul_eq_zero.1 h1 with h | h
    · exact h
    · exact absurd h hM0
  have hzF : ∀ r, r < h → y r ≠ 0 → z (F r) = 0 := by
    intro r hr hyr
    have h1 : v r = ep (R r) * z (F r) := if_pos ⟨hr, hyr⟩
    rw [heq r, hv0, Int.zero_mul] at h1
    have := congrArg (fun t => ep (R r) * t) h1
    simpa [← Int.mul_assoc, ep_sq] using this.symm
  rcases zsup s0 hs0 with ⟨h64, hex⟩ | ⟨l, hl, hC, hcl⟩
  · have h2 := z2 s0 hs0
    have hp := pc64 (s0 - 64) hex.1
    rw [show s0 - 64 + 64 = s0 by omega, h2.2] at hp
    have hb := z4 (s0 - 64) (by have := hex.1; omega) (by omega)
    rw [bd_ov, ls_single (u := 6) List.nodup_range (by decide)] at hb
    · unfold ov at hb
      rw [bit6 _ hex.1] at hb
      simp only [Bool.false_eq_true, if_false] at hb
      rw [show s0 - 64 + 2 ^ 6 = s0 by omega] at hb
      rcases sg_cases 6 (s0 - 64) with h | h <;> rw [h] at hb <;> omega
    · intro x hx hne
      unfold ov
      by_cases hbx : (s0 - 64).testBit x = true
      · simp [hbx]
      · simp only [hbx, if_false, Bool.false_eq_true]
        have h64' := lt64 _ hex.1 x (by have := List.mem_range.1 hx; omega) (by simpa using hbx)
        have : z (s0 - 64 + 2 ^ x) = 0 := by
          apply Classical.byContradiction; intro hz
          rcases zsup _ hz with ⟨h, _⟩ | ⟨l, hl, hC, hcl⟩
          · omega
          · apply hz; rw [← hC]; exact hzF l hl hcl
        rw [this, Int.mul_zero]
  · apply hs0; rw [← hC]; exact hzF l hl hcl

end K63


namespace K63

theorem prime_factor : ∀ n : Nat, 2 ≤ n → ∃ p : Nat, 2 ≤ p ∧ p ∣ n ∧ ∀ a b : Nat, p ∣ a * b → p ∣ a ∨ p ∣ b := by
  intro n hn
  -- the least divisor above one
  have hex : ∃ p, 2 ≤ p ∧ p ∣ n := ⟨n, hn, Nat.dvd_refl n⟩
  have hmin : ∃ p, (2 ≤ p ∧ p ∣ n) ∧ ∀ q, 2 ≤ q → q ∣ n → p ≤ q := by
    have : ∀ m, (∃ p, p ≤ m ∧ 2 ≤ p ∧ p ∣ n) → ∃ p, (2 ≤ p ∧ p ∣ n) ∧ ∀ q, 2 ≤ q → q ∣ n → p ≤ q := by
      intro m
      induction m with
      | zero => intro ⟨p, h0, h2, _⟩; omega
      | succ m ih =>
        intro ⟨p, hp, h2, hd⟩
        by_cases h : ∃ q, q ≤ m ∧ 2 ≤ q ∧ q ∣ n
        · exact ih h
        · refine ⟨p, ⟨h2, hd⟩, ?_⟩
          intro q hq hqn
          apply Nat.le_of_not_lt; intro hlt
          exact h ⟨q, by omega, hq, hqn⟩
    exact this n ⟨n, Nat.le_refl n, hn, Nat.dvd_refl n⟩
  obtain ⟨p, ⟨h2, hpn⟩, hle⟩ := hmin
  refine ⟨p, h2, hpn, ?_⟩
  intro a b hab
  by_cases hg : Nat.gcd p a = 1
  · right; exact Nat.Coprime.dvd_of_dvd_mul_left hg hab
  · left
    have hgp : Nat.gcd p a ∣ p := Nat.gcd_dvd_left p a
    have hg0 : Nat.gcd p a ≠ 0 := by
      intro h; have := Nat.eq_zero_of_gcd_eq_zero_left h; omega
    have h3 := hle (Nat.gcd p a) (by omega) (Nat.dvd_trans hgp hpn)
    have h4 := Nat.le_of_dvd (by omega) hgp
    have : Nat.gcd p a = p := by omega
    rw [← this]; exact Nat.gcd_dvd_right p a

theorem unit_of_odd {d : Int} (h : ∀ p : Int, ¬ p ∣ 2 → (∀ a b : Int, p ∣ a * b → p ∣ a ∨ p ∣ b) → p ∣ d → d = 0) (ho : d % 2 ≠ 0) :
    d = 1 ∨ d = -1 := by
  by_cases h2 : 2 ≤ d.natAbs
  · obtain ⟨p, hp, hd, hpr⟩ := prime_factor _ h2
    have hd' : (p : Int) ∣ d := Int.ofNat_dvd_left.2 hd
    exfalso
    have h0 := h p (by
      intro hp2
      have : p ∣ 2 := by exact_mod_cast hp2
      have hle := Nat.le_of_dvd (by decide) this
      have : p = 2 := by omega
      subst this
      exact ho (Int.emod_eq_zero_of_dvd hd')) (by
      intro a b hab
      have : p ∣ a.natAbs * b.natAbs := by rw [← Int.natAbs_mul]; exact Int.ofNat_dvd_left.1 hab
      rcases hpr _ _ this with h | h
      · exact .inl (Int.ofNat_dvd_left.2 h)
      · exact .inr (Int.ofNat_dvd_left.2 h)) hd'
    rw [h0] at h2; simp at h2
  · omega

structure St (h w : Nat) (R : Nat → Nat) (A : Nat → Nat → Int) (a : Nat) (π κ : Nat → Nat) (M : Nat → Nat → Int) : Prop where
  inv : Inv A h w a π κ M
  low : ∀ t, t < a → R (π t) < 64
  ord : ∀ i i', a ≤ i → i < i' → i' < h → (∃ j, a ≤ j ∧ j < w ∧ M i j % 2 ≠ 0) → (∃ j, a ≤ j ∧ j < w ∧ M i' j % 2 ≠ 0) → π i < π i'

theorem St.start {h w k : Nat} {R C : Nat → Nat} {A : Nat → Nat → Int} (_ : Cx h w k R C A) : St h w R A 0 id id A :=
  ⟨Inv.start A h w, fun t ht => absurd ht (Nat.not_lt_zero t), fun _ _ _ h _ _ _ => h⟩

theorem noodd {h w k a : Nat} {R C : Nat → Nat} {A : Nat → Nat → Int} {π κ : Nat → Nat} {M : Nat → Nat → Int}
    (X : Cx h w k R C A) (hk : k ≤ 5) (S : St h w R A a π κ M) {i j : Nat}
    (hai : a ≤ i) (hih : i < h) (haj : a ≤ j) (hjw : j < w) (hRi : R (π i) < 64) (ho : M i j % 2 ≠ 0) : M i j = 1 ∨ M i j = -1 := by
  apply unit_of_odd _ ho
  intro p hp2 hpr hd
  by_cases h : k ≤ 2
  · exact noodd_c X S.inv S.low h hai hih haj hjw hRi hp2 hpr hd
  · exact noodd_y X S.inv S.low (by omega) hk hai hih haj hjw hRi hp2 hpr hd

theorem low_odd {h w k a : Nat} {R C : Nat → Nat} {A : Nat → Nat → Int} {π κ : Nat → Nat} {M : Nat → Nat → Int}
    (X : Cx h w k R C A) (S : St h w R A a π κ M) {i j : Nat}
    (hai : a ≤ i) (hih : i < h) (haj : a ≤ j) (hjw : j < w) (hRi : 64 ≤ R (π i)) (ho : M i j % 2 ≠ 0) :
    ∃ i', a ≤ i' ∧ i' < h ∧ R (π i') < 64 ∧ M i' j % 2 ≠ 0 ∧ π i' < π i := by
  have I := S.inv
  obtain ⟨c, c1, c2, c3, c4⟩ := I.cv j haj hjw
  have hAi : ∀ r, r < h → ls (List.range w) (fun l => A r l * c l) = bd 7 (spread w C c) (R r) := by
    intro r hr; rw [bd_spread]; apply ls_congr; intro l hl; rw [X.Aeq r hr l (List.mem_range.1 hl)]
  have hπi := I.πlt i hih
  have hlt := (X.Rlt _ hπi).1
  have hex : ∃ x, x < 6 ∧ (R (π i) - 64).testBit x = false ∧ ¬ (2 : Int) ∣ bd 7 (spread w C c) (R (π i) - 64 + 2 ^ x) := by
    apply Classical.byContradiction; intro hh
    have := top6 (c := spread w C c) (p := 2) (r := R (π i) - 64) (by omega) (by
      intro x hx hb
      apply Classical.byContradiction; intro hd
      exact hh ⟨x, hx, hb, hd⟩)
    rw [show R (π i) - 64 + 64 = R (π i) by omega, ← hAi _ hπi, c4 i hai hih] at this
    omega
  obtain ⟨x, hx, hb, hd⟩ := hex
  have hrow : ∃ r, r < h ∧ R r = R (π i) - 64 + 2 ^ x := by
    have hne : bd 7 (spread w C c) (R (π i) - 64 + 2 ^ x) ≠ 0 := by intro e; rw [e] at hd; exact hd (Int.dvd_zero 2)
    rw [bd_spread] at hne
    apply Classical.byContradiction; intro hh
    apply hne; apply ls_zero; intro l hl
    have : inc 7 (R (π i) - 64 + 2 ^ x) (C l) = 0 := by
      apply Classical.byContradiction; intro h0
      exact hh (X.closed l (List.mem_range.1 hl) _ (pc_add _ (by omega) x (by omega) hb).2 h0)
    rw [this, Int.zero_mul]
  obtain ⟨r, hr, hRr⟩ := hrow
  obtain ⟨i', hi', e⟩ := I.πsur r hr
  subst e
  have h64 : R (π i') < 64 := by rw [hRr]; exact lt64 _ (by omega) x hx hb
  rw [← hRr, ← hAi _ hr] at hd
  have ha' : a ≤ i' := by
    apply Classical.byContradiction; intro hlt
    rw [c3 i' (by omega)] at hd; exact hd (Int.dvd_zero 2)
  rw [c4 i' ha' hi'] at hd
  refine ⟨i', ha', hi', h64, by omega, ?_⟩
  exact X.order _ hr _ hπi (R (π i) - 64) (by omega) x hx hb hRr (by omega)

/-- what is so at the first row with a unit -/
theorem first_unit {h w k a : Nat} {R C : Nat → Nat} {A : Nat → Nat → Int} {π κ : Nat → Nat} {M : Nat → Nat → Int}
    (X : Cx h w k R C A) (hk : k ≤ 5) (S : St h w R A a π κ M) {p q : Nat} (hap : a ≤ p) (hph : p < h) (haq : a ≤ q) (hqw : q < w)
    (hu : M p q = 1 ∨ M p q = -1) (hf : ∀ i, a ≤ i → i < p → ∀ j, a ≤ j → j < w → M i j ≠ 1 ∧ M i j ≠ -1) :
    R (π p) < 64 ∧ ∀ i, a ≤ i → i < p → ∀ j, a ≤ j → j < w → M i j % 2 = 0 := by
  have key : ∀ i, a ≤ i → i ≤ p → ∀ j, a ≤ j → j < w → M i j % 2 ≠ 0 → (i = p ∧ R (π i) < 64) := by
    intro i hai hip j haj hjw ho
    by_cases h64 : R (π i) < 64
    · have := noodd X hk S hai (by omega) haj hjw h64 ho
      by_cases e : i = p
      · exact ⟨e, h64⟩
      · have h2 := hf i hai (by omega) j haj hjw
        rcases this with h | h
        · exact absurd h h2.1
        · exact absurd h h2.2
    · exfalso
      obtain ⟨i', ha', hi', h6', ho', hlt⟩ := low_odd X S hai (by omega) haj hjw (by omega) ho
      have hu' := noodd X hk S ha' hi' haj hjw h6' ho'
      have hii : i' < i := by
        apply Classical.byContradiction; intro hn
        have hne : i ≠ i' := by intro e; subst e; omega
        have := S.ord i i' hai (by omega) hi' ⟨j, haj, hjw, ho⟩ ⟨j, haj, hjw, ho'⟩
        omega
      have h2 := hf i' ha' (by omega) j haj hjw
      rcases hu' with h | h
      · exact h2.1 h
      · exact h2.2 h
  constructor
  · exact (key p hap (Nat.le_refl p) q haq hqw (by rcases hu with h | h <;> rw [h] <;> decide)).2
  · intro i hai hip j haj hjw
    apply Classical.byContradiction; intro ho
    have := (key i hai (by omega) j haj hjw ho).1
    omega

theorem St.step {h w k a : Nat} {R C : Nat → Nat} {A : Nat → Nat → Int} {π κ : Nat → Nat} {M : Nat → Nat → Int}
    (X : Cx h w k R C A) (hk : k ≤ 5) (S : St h w R A a π κ M) {p q : Nat} (hap : a ≤ p) (hph : p < h) (haq : a ≤ q) (hqw : q < w)
    {d : Int} (hpq : M p q = d) (hd : d = 1 ∨ d = -1) (hf : ∀ i, a ≤ i → i < p → ∀ j, a ≤ j → j < w → M i j ≠ 1 ∧ M i j ≠ -1)
    {M' : Nat → Nat → Int}
    (e1 : ∀ i, i < h → ∀ j, j < w → i < a ∨ j < a → M' i j = M (sw a p i) (sw a q j)) (e2 : M' a a = 1)
    (e3 : ∀ j, a < j → j < w → M' a j = 0) (e4 : ∀ i, a < i → i < h → M' i a = 0)
    (e5 : ∀ i, a < i → i < h → ∀ j, a < j → j < w → M' i j = M (sw a p i) (sw a q j) - M (sw a p i) q * d * M p (sw a q j)) :
    St h w R A (a + 1) (fun i => π (sw a p i)) (fun j => κ (sw a q j)) M' := by
  have hdd : d * d = 1 := by rcases hd with h | h <;> subst h <;> decide
  obtain ⟨h64, heven⟩ := first_unit X hk S hap hph haq hqw (by rcases hd with h | h <;> subst h <;> simp [hpq]) hf
  have I' := S.inv.swap hap hph haq hqw
  have swa : ∀ b, sw a b a = b := fun b => by simp [sw]
  have I2 := I'.elim (by omega) (by omega) (d := d) (by show M (sw a p a) (sw a q a) = d; rw [swa, swa]; exact hpq) hdd e1 e2 e3 e4 (by
    intro i hi hih j hj hjw
    rw [e5 i hi hih j hj hjw]
    show _ = M (sw a p i) (sw a q j) - M (sw a p i) (sw a q a) * d * M (sw a p a) (sw a q j)
    rw [swa, swa])
  refine ⟨I2, ?_, ?_⟩
  · intro t ht
    by_cases hta : t = a
    · subst hta; show R (π (sw t p t)) < 64; rw [swa]; exact h64
    · show R (π (sw a p t)) < 64
      rw [sw_fix hta (by omega)]; exact S.low t (by omega)
  · -- an odd row of the new matrix was odd before, and it stands where it stood
    have old : ∀ i, a + 1 ≤ i → i < h → (∃ j, a + 1 ≤ j ∧ j < w ∧ M' i j % 2 ≠ 0) → sw a p i = i ∧ ∃ j, a ≤ j ∧ j < w ∧ M i j % 2 ≠ 0 := by
      intro i hi hih ⟨j, hj, hjw, ho⟩
      have hqa : a ≤ sw a q j := sw_ge haq (by omega)
      have hqw' : sw a q j < w := sw_lt (by omega) hqw hjw
      have hne : i ≠ p := by
        intro e
        have hsw : sw a p i = a := by subst e; simp only [sw]; split <;> simp_all
        have hz : ∀ j, a ≤ j → j < w → M a j % 2 = 0 := fun j h1 h2 => heven a (Nat.le_refl a) (by omega) j h1 h2
        apply ho
        rw [e5 i (by omega) hih j (by omega) hjw, hsw]
        have z1 := hz q haq hqw
        have z2 := hz (sw a q j) hqa hqw'
        have : M a q * d * M p (sw a q j) % 2 = 0 := by
          rw [Int.mul_assoc, Int.mul_emod, z1]; simp
        omega
      have hsw : sw a p i = i := sw_fix (by omega) hne
      refine ⟨hsw, ?_⟩
      apply Classical.byContradiction; intro hh
      have hz : ∀ j, a ≤ j → j < w → M i j % 2 = 0 := by
        intro j h1 h2
        apply Classical.byContradiction; intro h3; exact hh ⟨j, h1, h2, h3⟩
      apply ho
      rw [e5 i (by omega) hih j (by omega) hjw, hsw]
      have z1 := hz q haq hqw
      have z2 := hz (sw a q j) hqa hqw'
      have : M i q * d * M p (sw a q j) % 2 = 0 := by
        rw [Int.mul_assoc, Int.mul_emod, z1]; simp
      omega
    intro i i' hi hii hi' h1 h2
    obtain ⟨s1, o1⟩ := old i hi (by omega) h1
    obtain ⟨s2, o2⟩ := old i' (by omega) hi' h2
    show π (sw a p i) < π (sw a p i')
    rw [s1, s2]
    exact S.ord i i' (by omega) hii hi' o1 o2

/-- an odd number anywhere: then there is a unit -/
theorem unit_ex {h w k a : Nat} {R C : Nat → Nat} {A : Nat → Nat → Int} {π κ : Nat → Nat} {M : Nat → Nat → Int}
    (X : Cx h w k R C A) (hk : k ≤ 5) (S : St h w R A a π κ M) {i j : Nat} (hai : a ≤ i) (hih : i < h) (haj : a ≤ j) (hjw : j < w)
    (ho : M i j % 2 ≠ 0) : ∃ p, a ≤ p ∧ p < h ∧ (M p j = 1 ∨ M p j = -1) := by
  by_cases h64 : R (π i) < 64
  · exact ⟨i, hai, hih, noodd X hk S hai hih haj hjw h64 ho⟩
  · obtain ⟨i', ha', hi', h6', ho', _⟩ := low_odd X S hai hih haj hjw (by omega) ho
    exact ⟨i', ha', hi', noodd X hk S ha' hi' haj hjw h6' ho'⟩

end K63


namespace K63

/-- the cone with the point a -/
def Hc (a : Nat) (u : Nat → Int) (s : Nat) : Int := if s < 128 ∧ s.testBit a = true then sg a (s - 2 ^ a) * u (s - 2 ^ a) else 0

theorem sub_bit : ∀ s < 128, ∀ a < 7, s.testBit a = true → (s - 2 ^ a).testBit a = false ∧ s - 2 ^ a + 2 ^ a = s ∧
    ∀ i < 7, i ≠ a → (s - 2 ^ a).testBit i = s.testBit i := by
  have h : ((List.range 128).all fun s => (List.range 7).all fun a => !s.testBit a || (!(s - 2 ^ a).testBit a && decide (s - 2 ^ a + 2 ^ a = s) &&
      (List.range 7).all fun i => decide (i = a) || ((s - 2 ^ a).testBit i == s.testBit i))) = true := by decide +kernel
  intro s hs a ha hb
  have := List.all_eq_true.1 (List.all_eq_true.1 h s (List.mem_range.2 hs)) a (List.mem_range.2 ha)
  simp only [hb, Bool.not_true, Bool.false_or, Bool.and_eq_true, Bool.not_eq_true', decide_eq_true_eq] at this
  refine ⟨this.1.1, this.1.2, ?_⟩
  intro i hi hia
  have h2 := List.all_eq_true.1 this.2 i (List.mem_range.2 hi)
  simpa [hia] using h2

theorem add_other : ∀ s < 128, ∀ i < 7, ∀ a < 7, i ≠ a → s.testBit i = false → (s + 2 ^ i).testBit a = s.testBit a := by
  have h : ((List.range 128).all fun s => (List.range 7).all fun i => (List.range 7).all fun a => decide (i = a) || s.testBit i ||
      ((s + 2 ^ i).testBit a == s.testBit a)) = true := by decide +kernel
  intro s hs i hi a ha hia hb
  have := List.all_eq_true.1 (List.all_eq_true.1 (List.all_eq_true.1 h s (List.mem_range.2 hs)) i (List.mem_range.2 hi)) a (List.mem_range.2 ha)
  simpa [hia, hb] using this

theorem cone {a : Nat} (ha : a < 7) (u : Nat → Int) {s : Nat} (hs : s < 128) : bd 7 (Hc a u) s + Hc a (bd 7 u) s = u s := by
  by_cases hb : s.testBit a = true
  · obtain ⟨h1, h2, h3⟩ := sub_bit s hs a ha hb
    generalize hr : s - 2 ^ a = r at h1 h2 h3
    have hr128 : r < 128 := by have := Nat.two_pow_pos a; omega
    have e1 : Hc a (bd 7 u) s = sg a r * bd 7 u r := by unfold Hc; rw [if_pos ⟨hs, hb⟩, hr]
    rw [e1, bd_ov 7 u r, ls_erase (List.mem_range.2 ha)]
    have e2 : ov u r a = sg a r * u s := by unfold ov; rw [h1]; simp [h2]
    rw [e2, bd_ov, ls_erase (List.mem_range.2 ha)]
    have e3 : ov (Hc a u) s a = 0 := by unfold ov; simp [hb]
    rw [e3, Int.mul_add, ← Int.mul_assoc, sg_sq, ← ls_mul]
    have e4 : ls ((List.range 7).erase a) (ov (Hc a u) s) + ls ((List.range 7).erase a) (fun i => sg a r * ov u r i) = 0 := by
      rw [← ls_add]
      apply ls_zero; intro i hi
      have := (List.nodup_range.mem_erase_iff).1 hi
      have hi7 := List.mem_range.1 this.2
      unfold ov
      rw [← h3 i hi7 this.1]
      by_cases hbi : r.testBit i = true
      · simp [hbi]
      · have hbi : r.testBit i = false := by simpa using hbi
        simp only [hbi, if_false, Bool.false_eq_true]
        have hsi : s.testBit i = false := by rw [← h3 i hi7 this.1]; exact hbi
        have q1 := pc_add s hs i hi7 hsi
        have q2 : (s + 2 ^ i).testBit a = true := by rw [add_other s hs i hi7 a ha this.1 hsi]; exact hb
        have q3 : s + 2 ^ i - 2 ^ a = r + 2 ^ i := by have := Nat.two_pow_pos a; have := Nat.two_pow_pos i; omega
        have e5 : Hc a u (s + 2 ^ i) = sg a (r + 2 ^ i) * u (r + 2 ^ i) := by
          unfold Hc; rw [if_pos ⟨q1.2, q2⟩, q3]
        rw [e5, ← h2]
        have hri : (r + 2 ^ i).testBit a = false := by rw [add_other r hr128 i hi7 a ha this.1 hbi]; exact h1
        have sgn := (sg_swap r hr128 i hi7 a ha hbi hri).2.2
        rcases sg_cases i r with c1 | c1 <;> rcases sg_cases a r with c2 | c2 <;> rcases sg_cases a (r + 2 ^ i) with c3 | c3 <;>
          rcases sg_cases i (r + 2 ^ a) with c4 | c4 <;> rw [c1, c2, c3, c4] at sgn <;> rw [c1, c2, c3, c4] <;> omega
    omega
  · have hb : s.testBit a = false := by simpa using hb
    have e1 : Hc a (bd 7 u) s = 0 := by unfold Hc; simp [hb]
    rw [e1, bd_ov, ls_single (u := a) List.nodup_range (List.mem_range.2 ha)]
    · unfold ov
      simp only [hb, if_false, Bool.false_eq_true]
      have q1 := pc_add s hs a ha hb
      have q2 := add_bit s hs a ha hb
      have e5 : Hc a u (s + 2 ^ a) = sg a s * u s := by
        unfold Hc; rw [if_pos ⟨q1.2, q2⟩, Nat.add_sub_cancel]
      rw [e5, ← Int.mul_assoc, sg_sq]; omega
    · intro i hi hne
      have hi7 := List.mem_range.1 hi
      unfold ov
      by_cases hbi : s.testBit i = true
      · simp [hbi]
      · have hbi : s.testBit i = false := by simpa using hbi
        simp only [hbi, if_false, Bool.false_eq_true]
        have : (s + 2 ^ i).testBit a = false := by rw [add_other s hs i hi7 a ha hne hbi]; exact hb
        unfold Hc; simp [this]

def fl (T : Nat → Nat → Bool) : Nat → Nat → Bool := fun i j => T j i

def Kc (T : Nat → Nat → Bool) (s : Nat) : Prop := s < 128 ∧ (s = 0 ∨ ∃ j, j < 7 ∧ ∀ i, i < 7 → s.testBit i = true → T i j = true)

def rect (T : Nat → Nat → Bool) (s t : Nat) : Prop := ∀ i, i < 7 → ∀ j, j < 7 → s.testBit i = true → t.testBit j = true → T i j = true

def Em (T : Nat → Nat → Bool) (s t : Nat) : Prop := Kc T s ∧ Kc (fl T) t ∧ rect T s t

open Classical in
/-- a common column of the rows in s -/
noncomputable def bc (T : Nat → Nat → Bool) (s : Nat) : Nat :=
  if h : ∃ j, j < 7 ∧ ∀ i, i < 7 → s.testBit i = true → T i j = true then choose h else 0

theorem bc_lt (T : Nat → Nat → Bool) (s : Nat) : bc T s < 7 := by
  unfold bc; split
  · rename_i h; exact (Classical.choose_spec h).1
  · decide

theorem bc_all {T : Nat → Nat → Bool} {s : Nat} (hs : Kc T s) (h0 : s ≠ 0) : ∀ i, i < 7 → s.testBit i = true → T i (bc T s) = true := by
  rcases hs.2 with h | h
  · exact absurd h h0
  · unfold bc; rw [dif_pos h]; exact (Classical.choose_spec h).2

def D1 (x : Nat → Nat → Int) : Nat → Nat → Int := fun s t => bd 7 (fun s' => x s' t) s
def D2 (x : Nat → Nat → Int) : Nat → Nat → Int := fun s t => bd 7 (x s) t
noncomputable def Vc (T : Nat → Nat → Bool) (x : Nat → Nat → Int) : Nat → Nat → Int := fun s t => Hc (bc T s) (x s) t
noncomputable def Hr (T : Nat → Nat → Bool) (x : Nat → Nat → Int) : Nat → Nat → Int := fun s t => Hc (bc (fl T) t) (fun s' => x s' t) s

theorem D12 (x : Nat → Nat → Int) (s t : Nat) : D1 (D2 x) s t = D2 (D1 x) s t := by
  have e : ∀ (x : Nat → Nat → Int) (s t : Nat), bd 7 (fun s' => bd 7 (x s') t) s = ls (List.range 7) (fun i => ls (List.range 7) (fun j =>
      (if s.testBit i then 0 else sg i s) * ((if t.testBit j then 0 else sg j t) * x (s + 2 ^ i) (t + 2 ^ j)))) := by
    intro x s t; unfold bd; apply ls_congr; intro i _
    rw [ls_mul]
    by_cases h : s.testBit i = true
    · simp [h]
    · simp only [h, if_false, Bool.false_eq_true]
      congr 1; apply ls_congr; intro j _
      by_cases h2 : t.testBit j = true <;> simp [h2]
  show bd 7 (fun s' => bd 7 (x s') t) s = bd 7 (fun t' => bd 7 (fun s' => x s' t') s) t
  rw [e x s t, e (fun t s => x s t) t s, ls_comm]
  apply ls_congr; intro j _; apply ls_congr; intro i _
  rw [Int.mul_left_comm]

/-- x lives on pairs in E, with sizes m and n -/
def On (T : Nat → Nat → Bool) (m n : Nat) (x : Nat → Nat → Int) : Prop :=
  ∀ s t, x s t ≠ 0 → Em T s t ∧ pc 7 s = m ∧ pc 7 t = n

def Z2 (x : Nat → Nat → Int) : Prop := ∀ s t, s < 128 → t < 128 → x s t = 0

theorem Kc_sub {T : Nat → Nat → Bool} {s i : Nat} (hi : i < 7) (hs : s < 128) (hb : s.testBit i = false) (h : Kc T (s + 2 ^ i)) : Kc T s := by
  refine ⟨hs, ?_⟩
  rcases h.2 with h | ⟨j, hj, h⟩
  · left; have := Nat.two_pow_pos i; omega
  · right; refine ⟨j, hj, ?_⟩
    intro i' hi' hb'
    apply h i' hi'
    by_cases e : i = i'
    · subst e; rw [hb] at hb'; cases hb'
    · rw [add_other s hs i hi i' hi' e hb]; exact hb'

theorem lt_of_add {T : Nat → Nat → Bool} {s i : Nat} (h : Kc T (s + 2 ^ i)) : s < 128 := by
  have := h.1; have := Nat.le_add_right s (2 ^ i); omega

theorem On.D1 {T : Nat → Nat → Bool} {m n : Nat} {x : Nat → Nat → Int} (h : On T (m + 1) n x) : On T m n (D1 x) := by
  intro s t hne
  have : ∃ i, i < 7 ∧ s.testBit i = false ∧ x (s + 2 ^ i) t ≠ 0 := by
    apply Classical.byContradiction; intro hh
    apply hne; show bd 7 (fun s' => x s' t) s = 0
    unfold bd; apply ls_zero; intro i hi
    by_cases hb : s.testBit i = true
    · simp [hb]
    · simp only [hb, if_false, Bool.false_eq_true]
      by_cases h0 : x (s + 2 ^ i) t = 0
      · rw [h0, Int.mul_zero]
      · exact absurd ⟨i, List.mem_range.1 hi, by simpa using hb, h0⟩ hh
  obtain ⟨i, hi, hb, hx⟩ := this
  obtain ⟨⟨h1, h2, h3⟩, h4, h5⟩ := h _ _ hx
  have hs := lt_of_add h1
  have hp := pc_add s hs i hi hb
  refine ⟨⟨Kc_sub hi hs hb h1, h2, ?_⟩, by omega, h5⟩
  intro i' hi' j hj hb' hbj
  apply h3 i' hi' j hj _ hbj
  by_cases e : i = i'
  · subst e; rw [hb] at hb'; cases hb'
  · rw [add_other s hs i hi i' hi' e hb]; exact hb'

theorem On.D2 {T : Nat → Nat → Bool} {m n : Nat} {x : Nat → Nat → Int} (h : On T m (n + 1) x) : On T m n (D2 x) := by
  intro s t hne
  have : ∃ i, i < 7 ∧ t.testBit i = false ∧ x s (t + 2 ^ i) ≠ 0 := by
    apply Classical.byContradiction; intro hh
    apply hne; show bd 7 (x s) t = 0
    unfold bd; apply ls_zero; intro i hi
    by_cases hb : t.testBit i = true
    · simp [hb]
    · simp only [hb, if_false, Bool.false_eq_true]
      by_cases h0 : x s (t + 2 ^ i) = 0
      · rw [h0, Int.mul_zero]
      · exact absurd ⟨i, List.mem_range.1 hi, by simpa using hb, h0⟩ hh
  obtain ⟨i, hi, hb, hx⟩ := this
  obtain ⟨⟨h1, h2, h3⟩, h4, h5⟩ := h _ _ hx
  have ht := lt_of_add h2
  have hp := pc_add t ht i hi hb
  refine ⟨⟨h1, Kc_sub hi ht hb h2, ?_⟩, h4, by omega⟩
  intro i' hi' j hj hb' hbj
  apply h3 i' hi' j hj hb'
  by_cases e : i = j
  · subst e; rw [hb] at hbj; cases hbj
  · rw [add_other t ht i hi j hj e hb]; exact hbj

theorem pc_pos : ∀ s < 128, pc 7 s ≠ 0 → s ≠ 0 := by
  intro s _ h e; subst e; exact h (by decide)

theorem bit_of_pos : ∀ s < 128, s ≠ 0 → ∃ i, i < 7 ∧ s.testBit i = true := by
  have h : ((List.range 128).all fun s => decide (s = 0) || (List.range 7).any fun i => s.testBit i) = true := by decide +kernel
  intro s hs h0
  have := List.all_eq_true.1 h s (List.mem_range.2 hs)
  simp only [h0, decide_false, Bool.false_or, List.any_eq_true, List.mem_range] at this
  exact this

theorem On.V {T : Nat → Nat → Bool} {m n : Nat} {x : Nat → Nat → Int} (h : On T (m + 1) n x) : On T (m + 1) (n + 1) (Vc T x) := by
  intro s t hne
  have hb7 := bc_lt T s
  have hc : t < 128 ∧ t.testBit (bc T s) = true := by
    apply Classical.byContradiction; intro hh; exact hne (if_neg hh)
  have e : Vc T x s t = sg (bc T s) (t - 2 ^ bc T s) * x s (t - 2 ^ bc T s) := if_pos hc
  have hx : x s (t - 2 ^ bc T s) ≠ 0 := by intro h0; apply hne; rw [e, h0, Int.mul_zero]
  obtain ⟨⟨h1, h2, h3⟩, h4, h5⟩ := h _ _ hx
  obtain ⟨q1, q2, q3⟩ := sub_bit t hc.1 _ hb7 hc.2
  have hs0 : s ≠ 0 := pc_pos s h1.1 (by omega)
  have hall := bc_all h1 hs0
  have hp := pc_add (t - 2 ^ bc T s) (Nat.lt_of_le_of_lt (Nat.sub_le _ _) hc.1) _ hb7 q1
  rw [q2] at hp
  have hrect : rect T s t := by
    intro i hi j hj hbi hbj
    by_cases ej : j = bc T s
    · subst ej; exact hall i hi hbi
    · exact h3 i hi j hj hbi (by rw [q3 j hj ej]; exact hbj)
  refine ⟨⟨h1, ⟨hc.1, .inr ?_⟩, hrect⟩, h4, by omega⟩
  obtain ⟨i, hi, hbi⟩ := bit_of_pos s h1.1 hs0
  exact ⟨i, hi, fun j hj hbj => hrect i hi j hj hbi hbj⟩

theorem On.H {T : Nat → Nat → Bool} {m n : Nat} {x : Nat → Nat → Int} (h : On T m (n + 1) x) : On T (m + 1) (n + 1) (Hr T x) := by
  intro s t hne
  have hb7 := bc_lt (fl T) t
  have hc : s < 128 ∧ s.testBit (bc (fl T) t) = true := by
    apply Classical.byContradiction; intro hh; exact hne (if_neg hh)
  have e : Hr T x s t = sg (bc (fl T) t) (s - 2 ^ bc (fl T) t) * x (s - 2 ^ bc (fl T) t) t := if_pos hc
  have hx : x (s - 2 ^ bc (fl T) t) t ≠ 0 := by intro h0; apply hne; rw [e, h0, Int.mul_zero]
  obtain ⟨⟨h1, h2, h3⟩, h4, h5⟩ := h _ _ hx
  obtain ⟨q1, q2, q3⟩ := sub_bit s hc.1 _ hb7 hc.2
  have ht0 : t ≠ 0 := pc_pos t h2.1 (by omega)
  have hall := bc_all h2 ht0
  have hp := pc_add (s - 2 ^ bc (fl T) t) (Nat.lt_of_le_of_lt (Nat.sub_le _ _) hc.1) _ hb7 q1
  rw [q2] at hp
  have hrect : rect T s t := by
    intro i hi j hj hbi hbj
    by_cases ei : i = bc (fl T) t
    · subst ei; exact hall j hj hbj
    · exact h3 i hi j hj (by rw [q3 i hi ei]; exact hbi) hbj
  refine ⟨⟨⟨hc.1, .inr ?_⟩, h2, hrect⟩, by omega, h5⟩
  obtain ⟨j, hj, hbj⟩ := bit_of_pos t h2.1 ht0
  exact ⟨j, hj, fun i hi hbi => hrect i hi j hj hbi hbj⟩

/-- a column cycle is the column boundary of its cone -/
theorem D2V {T : Nat → Nat → Bool} {x : Nat → Nat → Int} (h : Z2 (D2 x)) : ∀ s t, s < 128 → t < 128 → D2 (Vc T x) s t = x s t := by
  intro s t hs ht
  have := cone (bc_lt T s) (x s) ht
  have h2 : Hc (bc T s) (bd 7 (x s)) t = 0 := by
    unfold Hc
    by_cases hc : t < 128 ∧ t.testBit (bc T s) = true
    · rw [if_pos hc]
      have : bd 7 (x s) (t - 2 ^ bc T s) = 0 := h s _ hs (Nat.lt_of_le_of_lt (Nat.sub_le _ _) hc.1)
      rw [this, Int.mul_zero]
    · exact if_neg hc
  rw [h2, Int.add_zero] at this; exact this

theorem D1H {T : Nat → Nat → Bool} {x : Nat → Nat → Int} (h : Z2 (D1 x)) : ∀ s t, s < 128 → t < 128 → D1 (Hr T x) s t = x s t := by
  intro s t hs ht
  have := cone (bc_lt (fl T) t) (fun s' => x s' t) hs
  have h2 : Hc (bc (fl T) t) (bd 7 (fun s' => x s' t)) s = 0 := by
    unfold Hc
    by_cases hc : s < 128 ∧ s.testBit (bc (fl T) t) = true
    · rw [if_pos hc]
      have : bd 7 (fun s' => x s' t) (s - 2 ^ bc (fl T) t) = 0 := h _ t (Nat.lt_of_le_of_lt (Nat.sub_le _ _) hc.1) ht
      rw [this, Int.mul_zero]
    · exact if_neg hc
  rw [h2, Int.add_zero] at this; exact this

end K63


namespace K63

noncomputable def Xi (T : Nat → Nat → Bool) (z : Nat → Int) : Nat → Nat → Nat → Int
  | 0 => fun s t => if t = 0 then z s else 0
  | i + 1 => D1 (Vc T (Xi T z i))

noncomputable def phi (T : Nat → Nat → Bool) (m : Nat) (z : Nat → Int) (t : Nat) : Int := Xi T z m 0 t

def Ch (T : Nat → Nat → Bool) (m : Nat) (z : Nat → Int) : Prop := ∀ s, z s ≠ 0 → Kc T s ∧ pc 7 s = m

theorem On.sub {T : Nat → Nat → Bool} {m n : Nat} {x y : Nat → Nat → Int} (hx : On T m n x) (hy : On T m n y) :
    On T m n (fun s t => x s t - y s t) := by
  intro s t h
  by_cases h0 : x s t = 0
  · apply hy; intro h1; apply h; show x s t - y s t = 0; rw [h0, h1]; rfl
  · exact hx s t h0

theorem D1_sub (x y : Nat → Nat → Int) (s t : Nat) : D1 (fun s t => x s t - y s t) s t = D1 x s t - D1 y s t :=
  bd_sub 7 (fun s => x s t) (fun s => y s t) s

theorem D2_sub (x y : Nat → Nat → Int) (s t : Nat) : D2 (fun s t => x s t - y s t) s t = D2 x s t - D2 y s t :=
  bd_sub 7 (x s) (y s) t

theorem D1_congr {x y : Nat → Nat → Int} (h : ∀ s t, s < 128 → t < 128 → x s t = y s t) {s t : Nat} (hs : s < 128) (ht : t < 128) :
    D1 x s t = D1 y s t :=
  bd_congr 7 s (fun i hi hb => h _ t (pc_add s hs i hi hb).2 ht)

theorem D2_congr {x y : Nat → Nat → Int} (h : ∀ s t, s < 128 → t < 128 → x s t = y s t) {s t : Nat} (hs : s < 128) (ht : t < 128) :
    D2 x s t = D2 y s t :=
  bd_congr 7 t (fun i hi hb => h s _ hs (pc_add t ht i hi hb).2)

theorem D11 (x : Nat → Nat → Int) {s t : Nat} (hs : s < 128) : D1 (D1 x) s t = 0 := bdbd (by decide) (fun s => x s t) hs
theorem D22 (x : Nat → Nat → Int) {s t : Nat} (ht : t < 128) : D2 (D2 x) s t = 0 := bdbd (by decide) (x s) ht

theorem Kc0 (T : Nat → Nat → Bool) : Kc T 0 := ⟨by decide, .inl rfl⟩

theorem bd_zero (n s : Nat) : bd n (fun _ => 0) s = 0 := by
  unfold bd; apply ls_zero; intro i _; split <;> simp

theorem add_ne (t j : Nat) : t + 2 ^ j ≠ 0 := by have := Nat.two_pow_pos j; omega

/-- a chain of rows as a chain of pairs -/
def left0 (z : Nat → Int) : Nat → Nat → Int := fun s t => if t = 0 then z s else 0
def right0 (z : Nat → Int) : Nat → Nat → Int := fun s t => if s = 0 then z t else 0

theorem left0_on {T : Nat → Nat → Bool} {m : Nat} {z : Nat → Int} (h : Ch T m z) : On T m 0 (left0 z) := by
  intro s t hne
  by_cases ht : t = 0
  · subst ht
    have h2 := h s (by intro h0; apply hne; simp [left0, h0])
    refine ⟨⟨h2.1, Kc0 _, ?_⟩, h2.2, by decide⟩
    intro i _ j _ _ hb; simp at hb
  · exact absurd (by simp [left0, ht]) hne

theorem right0_on {T : Nat → Nat → Bool} {m : Nat} {z : Nat → Int} (h : Ch (fl T) m z) : On T 0 m (right0 z) := by
  intro s t hne
  by_cases ht : s = 0
  · subst ht
    have h2 := h t (by intro h0; apply hne; simp [right0, h0])
    refine ⟨⟨Kc0 _, h2.1, ?_⟩, by decide, h2.2⟩
    intro i _ j _ hb _; simp at hb
  · exact absurd (by simp [right0, ht]) hne

theorem D1_left0 (z : Nat → Int) (s t : Nat) : D1 (left0 z) s t = if t = 0 then bd 7 z s else 0 := by
  show bd 7 (fun s => if t = 0 then z s else 0) s = _
  by_cases h : t = 0
  · simp only [h, if_true]
  · simp only [h, if_false]; exact bd_zero 7 s

theorem D2_left0 (z : Nat → Int) (s t : Nat) : D2 (left0 z) s t = 0 := by
  show bd 7 (fun t => if t = 0 then z s else 0) t = 0
  unfold bd; apply ls_zero; intro j _
  split
  · rfl
  · show sg j t * (if t + 2 ^ j = 0 then z s else 0) = 0
    rw [if_neg (add_ne t j), Int.mul_zero]

theorem D2_right0 (z : Nat → Int) (s t : Nat) : D2 (right0 z) s t = if s = 0 then bd 7 z t else 0 := by
  show bd 7 (fun t => if s = 0 then z t else 0) t = _
  by_cases h : s = 0
  · simp only [h, if_true]
  · simp only [h, if_false]; exact bd_zero 7 t

theorem D1_right0 (z : Nat → Int) (s t : Nat) : D1 (right0 z) s t = 0 := by
  show bd 7 (fun s => if s = 0 then z t else 0) s = 0
  unfold bd; apply ls_zero; intro j _
  split
  · rfl
  · show sg j s * (if s + 2 ^ j = 0 then z t else 0) = 0
    rw [if_neg (add_ne s j), Int.mul_zero]

theorem Xi_on {T : Nat → Nat → Bool} {m : Nat} {z : Nat → Int} (h : Ch T m z) : ∀ i n, i + n = m → On T n i (Xi T z i) := by
  intro i
  induction i with
  | zero => intro n hn; have : n = m := by omega
            subst this; exact left0_on h
  | succ i ih => intro n hn; exact (ih (n + 1) (by omega)).V.D1

theorem Xi_cyc {T : Nat → Nat → Bool} {z : Nat → Int} (hz : ∀ s, s < 128 → bd 7 z s = 0) :
    ∀ i, Z2 (D1 (Xi T z i)) ∧ Z2 (D2 (Xi T z i)) := by
  intro i
  induction i with
  | zero =>
    constructor
    · intro s t hs _
      show D1 (left0 z) s t = 0
      rw [D1_left0, hz s hs]; split <;> rfl
    · intro s t _ _; exact D2_left0 z s t
  | succ i ih =>
    constructor
    · intro s t hs _; exact D11 _ hs
    · intro s t hs ht
      show D2 (D1 (Vc T (Xi T z i))) s t = 0
      rw [← D12, D1_congr (D2V ih.2) hs ht]; exact ih.1 s t hs ht

theorem phi_cyc {T : Nat → Nat → Bool} {m : Nat} {z : Nat → Int} (hz : ∀ s, s < 128 → bd 7 z s = 0) :
    ∀ t, t < 128 → bd 7 (phi T m z) t = 0 := fun t ht => (Xi_cyc (T := T) hz m).2 0 t (by decide) ht

theorem phi_ch {T : Nat → Nat → Bool} {m : Nat} {z : Nat → Int} (h : Ch T m z) : Ch (fl T) m (phi T m z) := by
  intro t ht
  have := Xi_on h m 0 (by omega) 0 t ht
  exact ⟨this.1.2.1, this.2.2⟩

/-- what bounds on the side of the columns bounded on the side of the rows -/
theorem phi_back {T : Nat → Nat → Bool} {m : Nat} {z u : Nat → Int} (h : Ch T m z) (hz : ∀ s, s < 128 → bd 7 z s = 0)
    (hu : Ch (fl T) (m + 1) u) (hb : ∀ t, t < 128 → bd 7 u t = phi T m z t) :
    ∃ c, Ch T (m + 1) c ∧ ∀ s, s < 128 → bd 7 c s = z s := by
  have down : ∀ n i, i + n = m → ∃ w, On T n (i + 1) w ∧ Z2 (D1 w) ∧ ∀ s t, s < 128 → t < 128 → D2 w s t = Xi T z i s t := by
    intro n
    induction n with
    | zero =>
      intro i hi
      have : i = m := by omega
      subst this
      refine ⟨right0 u, right0_on hu, fun s t _ _ => D1_right0 u s t, ?_⟩
      intro s t hs ht
      rw [D2_right0]
      by_cases h0 : s = 0
      · subst h0; rw [if_pos rfl, hb t ht]; rfl
      · rw [if_neg h0]
        apply Classical.byContradiction; intro hne
        have := (Xi_on h i 0 (by omega) s t (Ne.symm hne)).2.1
        exact h0 (zero_pc s hs this)
    | succ n ih =>
      intro i hi
      obtain ⟨w', o', c', d'⟩ := ih (i + 1) (by omega)
      have og := o'.H
      have hg := D1H (T := T) c'
      refine ⟨fun s t => Vc T (Xi T z i) s t - D2 (Hr T w') s t, (Xi_on h i (n + 1) hi).V.sub og.D2, ?_, ?_⟩
      · intro s t hs ht
        rw [D1_sub, D12, D2_congr hg hs ht, d' s t hs ht]
        show D1 (Vc T (Xi T z i)) s t - D1 (Vc T (Xi T z i)) s t = 0
        omega
      · intro s t hs ht
        rw [D2_sub, D22 _ ht, D2V (Xi_cyc hz i).2 s t hs ht]; omega
  obtain ⟨w, o, c1, d⟩ := down m 0 (by omega)
  have og := o.H
  have hg := D1H (T := T) c1
  refine ⟨fun s => D2 (Hr T w) s 0, ?_, ?_⟩
  · intro s hs
    have := og.D2 s 0 hs
    exact ⟨this.1.1, this.2.1⟩
  · intro s hs
    show D1 (D2 (Hr T w)) s 0 = z s
    rw [D12, D2_congr hg hs (by decide), d s 0 hs (by decide)]
    show (if 0 = 0 then z s else 0) = z s
    simp

/-- a boundary goes to a boundary -/
theorem phi_bd {T : Nat → Nat → Bool} {m : Nat} {z c : Nat → Int} (hc : Ch T (m + 1) c) (hzc : ∀ s, s < 128 → bd 7 c s = z s) (h : Ch T m z) :
    ∃ u, Ch (fl T) (m + 1) u ∧ ∀ t, t < 128 → bd 7 u t = phi T m z t := by
  have hz : ∀ s, s < 128 → bd 7 z s = 0 := by
    intro s hs
    rw [← bdbd (n := 7) (by decide) c hs]
    exact bd_congr 7 s (fun i hi hb => (hzc _ (pc_add s hs i hi hb).2).symm)
  have up : ∀ i n, i + n = m → ∃ W, On T (n + 1) i W ∧ Z2 (D2 W) ∧ ∀ s t, s < 128 → t < 128 → D1 W s t = Xi T z i s t := by
    intro i
    induction i with
    | zero =>
      intro n hn
      have : n = m := by omega
      subst this
      refine ⟨left0 c, left0_on hc, fun s t _ _ => D2_left0 c s t, ?_⟩
      intro s t hs ht
      rw [D1_left0, hzc s hs]; rfl
    | succ i ih =>
      intro n hn
      obtain ⟨W, o, c1, d⟩ := ih (n + 1) (by omega)
      have hV := D2V (T := T) c1
      refine ⟨fun s t => Vc T (Xi T z i) s t - D1 (Vc T W) s t, (Xi_on h i (n + 1) (by omega)).V.sub o.V.D1, ?_, ?_⟩
      · intro s t hs ht
        rw [D2_sub, ← D12, D1_congr hV hs ht, d s t hs ht, D2V (Xi_cyc hz i).2 s t hs ht]; omega
      · intro s t hs ht
        rw [D1_sub, D11 _ hs]
        show D1 (Vc T (Xi T z i)) s t - 0 = D1 (Vc T (Xi T z i)) s t
        omega
  obtain ⟨W, o, c1, d⟩ := up m 0 (by omega)
  have hV := D2V (T := T) c1
  refine ⟨fun t => D1 (Vc T W) 0 t, ?_, ?_⟩
  · intro t ht
    have := o.V.D1 0 t ht
    exact ⟨this.1.2.1, this.2.2⟩
  · intro t ht
    show D2 (D1 (Vc T W)) 0 t = Xi T z m 0 t
    rw [← D12, D1_congr hV (by decide) ht, d 0 t (by decide) ht]

theorem Hc_add (a : Nat) (u v : Nat → Int) (s : Nat) : Hc a (fun s => u s + v s) s = Hc a u s + Hc a v s := by
  unfold Hc; split
  · rw [Int.mul_add]
  · rfl

theorem Hc_mul (a : Nat) (k : Int) (u : Nat → Int) (s : Nat) : Hc a (fun s => k * u s) s = k * Hc a u s := by
  unfold Hc; split
  · rw [Int.mul_left_comm]
  · simp

theorem Xi_add (T : Nat → Nat → Bool) (z z' : Nat → Int) : ∀ i s t, Xi T (fun s => z s + z' s) i s t = Xi T z i s t + Xi T z' i s t := by
  intro i
  induction i with
  | zero => intro s t; show (if t = 0 then z s + z' s else 0) = (if t = 0 then z s else 0) + (if t = 0 then z' s else 0); split <;> rfl
  | succ i ih =>
    intro s t
    have e : Vc T (Xi T (fun s => z s + z' s) i) = fun s t => Vc T (Xi T z i) s t + Vc T (Xi T z' i) s t := by
      funext s t
      show Hc (bc T s) (Xi T (fun s => z s + z' s) i s) t = Hc (bc T s) (Xi T z i s) t + Hc (bc T s) (Xi T z' i s) t
      rw [← Hc_add]; congr 1; funext t; exact ih s t
    show D1 (Vc T (Xi T (fun s => z s + z' s) i)) s t = _
    rw [e]; exact bd_add 7 (fun s => Vc T (Xi T z i) s t) (fun s => Vc T (Xi T z' i) s t) s

theorem Xi_mul (T : Nat → Nat → Bool) (k : Int) (z : Nat → Int) : ∀ i s t, Xi T (fun s => k * z s) i s t = k * Xi T z i s t := by
  intro i
  induction i with
  | zero => intro s t; show (if t = 0 then k * z s else 0) = k * (if t = 0 then z s else 0); split <;> simp
  | succ i ih =>
    intro s t
    have e : Vc T (Xi T (fun s => k * z s) i) = fun s t => k * Vc T (Xi T z i) s t := by
      funext s t
      show Hc (bc T s) (Xi T (fun s => k * z s) i s) t = k * Hc (bc T s) (Xi T z i s) t
      rw [← Hc_mul]; congr 1; funext t; exact ih s t
    show D1 (Vc T (Xi T (fun s => k * z s) i)) s t = _
    rw [e]; exact bd_mul 7 k (fun s => Vc T (Xi T z i) s t) s

theorem phi_sum (T : Nat → Nat → Bool) (m : Nat) (x : Nat → Int) (t : Nat) : ∀ U : List Nat,
    phi T m (fun s => ls U (fun u => x u * delta u s)) t = ls U (fun u => x u * phi T m (delta u) t) := by
  intro U
  induction U with
  | nil =>
    show Xi T (fun s => 0) m 0 t = 0
    have := Xi_mul T 0 (fun _ => 0) m 0 t
    simpa using this
  | cons u U ih =>
    show Xi T (fun s => x u * delta u s + ls U (fun u => x u * delta u s)) m 0 t = x u * Xi T (delta u) m 0 t + _
    rw [Xi_add, Xi_mul]
    unfold phi at ih
    rw [ih]; rfl

end K63


namespace K63

theorem more' (F : List (Nat → Int)) (U : List Nat) (hU : U.Nodup) (hl : F.length < U.length) :
    ∃ x : Nat → Int, (∃ u, u ∈ U ∧ x u ≠ 0) ∧ (∀ u, u ∉ U → x u = 0) ∧ ∀ f ∈ F, ls U (fun u => f u * x u) = 0 := by
  obtain ⟨x, h1, h2, h3⟩ := more (List.range F.length) U hU (by simpa using hl) (fun e u => (F.getD e (fun _ => 0)) u)
  refine ⟨x, h1, h2, ?_⟩
  intro f hf
  obtain ⟨i, hi, he⟩ := List.getElem_of_mem hf
  have := h3 i (List.mem_range.2 hi)
  rw [← this]; apply ls_congr; intro u _
  simp [List.getD, hi, he]

def Cyc (T : Nat → Nat → Bool) (s r : Nat) : Prop := ∃ F : List (Nat → Int), F.length = r ∧
  ∀ z, Ch T s z → (∀ f ∈ F, ls (List.range 128) (fun u => f u * z u) = 0) → ∀ t, t < 128 → bd 7 z t = 0
def Tr (T : Nat → Nat → Bool) (s r : Nat) : Prop := ∃ V : List Nat, V.Nodup ∧ V.length = r ∧ (∀ m ∈ V, Kc T m ∧ pc 7 m = s) ∧
  ∀ v : Nat → Int, (∀ m, v m ≠ 0 → m ∈ V) → (∀ t, t < 128 → bd 7 v t = 0) → ∀ m, v m = 0
def Van (T : Nat → Nat → Bool) (s r : Nat) : Prop := ∃ F : List (Nat → Int), F.length = r ∧
  ∀ c, Ch T (s + 1) c → (∀ f ∈ F, ls (List.range 128) (fun u => f u * bd 7 c u) = 0) → ∀ t, t < 128 → bd 7 c t = 0
def Img (T : Nat → Nat → Bool) (s n r : Nat) : Prop := ∃ F : List (Nat → Int), F.length + r = n ∧
  ∀ b, Ch T s b → (∀ f ∈ F, ls (List.range 128) (fun u => f u * b u) = 0) → ∃ c, Ch T (s + 1) c ∧ ∀ t, t < 128 → bd 7 c t = b t
def Cnt (T : Nat → Nat → Bool) (s n : Nat) : Prop := ∃ Z : List Nat, Z.Nodup ∧ Z.length = n ∧ ∀ m ∈ Z, Kc T m ∧ pc 7 m = s

theorem ls_map {α β : Type} (g : α → β) (f : β → Int) (l : List α) : ls (l.map g) f = ls l (fun a => f (g a)) := by
  induction l with
  | nil => rfl
  | cons a l ih => simp [ih]

theorem ls_perm {α : Type} {l m : List α} (h : l.Perm m) (f : α → Int) : ls l f = ls m f := by
  induction h with
  | nil => rfl
  | cons a _ ih => simp [ih]
  | swap a b l => simp only [ls_cons]; omega
  | trans _ _ h1 h2 => rw [h1, h2]

theorem ls_extend {Z : List Nat} (hn : Z.Nodup) (hlt : ∀ m ∈ Z, m < 128) {f g : Nat → Int} (hz : ∀ m, m ∉ Z → g m = 0)
    (he : ∀ m ∈ Z, g m = f m) : ls (List.range 128) g = ls Z f := by
  rw [ls_filter (List.range 128) (fun m => decide (m ∈ Z))]
  rw [ls_zero (l := (List.range 128).filter (fun m => !decide (m ∈ Z)))]
  · rw [Int.add_zero, ← ls_congr he]
    apply ls_perm
    rw [List.perm_ext_iff_of_nodup (List.nodup_range.filter _) hn]
    intro a; simp only [List.mem_filter, List.mem_range, decide_eq_true_eq]
    exact ⟨fun h => h.2, fun h => ⟨hlt a h, h⟩⟩
  · intro a ha
    have := (List.mem_filter.1 ha).2
    exact hz a (by simpa using this)

/-- the holes of the rows are no more than those of the columns -/
theorem hle {T : Nat → Nat → Bool} {s n n' r1 r r1' r' : Nat} (hN : Cnt T s n) (hC : Cyc T s r1) (hV : Van T s r) (hT : Tr (fl T) s r1')
    (hI : Img (fl T) s n' r') : n + r1' + r' ≤ n' + r1 + r := by
  obtain ⟨Z, Zn, Zl, Zm⟩ := hN
  obtain ⟨F1, F1l, F1h⟩ := hC
  obtain ⟨F2, F2l, F2h⟩ := hV
  obtain ⟨V, Vn, Vl, Vm, Vh⟩ := hT
  obtain ⟨F3, F3l, F3h⟩ := hI
  apply Nat.le_of_not_lt; intro hlt
  let G1 : List (Nat → Int) := F1.map (fun f => fun u => if u < 128 then f u else 0)
  let G2 : List (Nat → Int) := F2.map (fun f => fun u => if u < 128 then f u else 0)
  let G3 : List (Nat → Int) := F3.map (fun f => fun u => if u < 128 then ls (List.range 128) (fun t => f t * phi T s (delta u) t) else f (u - 128))
  have Zlt : ∀ m ∈ Z, m < 128 := fun m hm => (Zm m hm).1.1
  have Vlt : ∀ m ∈ V, m < 128 := fun m hm => (Vm m hm).1.1
  have hU : (Z ++ V.map (128 + ·)).Nodup := by
    rw [List.nodup_append]
    refine ⟨Zn, ?_, ?_⟩
    · exact List.Pairwise.map _ (fun a b hab => by omega) Vn
    · intro a ha b hb e
      obtain ⟨c, hc, rfl⟩ := List.mem_map.1 hb
      have := Zlt a ha; omega
  obtain ⟨x, ⟨u0, hu0, hx0⟩, hx1, hx2⟩ := more' (G1 ++ G2 ++ G3) (Z ++ V.map (128 + ·)) hU (by
    simp only [G1, G2, G3, List.length_append, List.length_map]; omega)
  let z : Nat → Int := fun m => if m ∈ Z then x m else 0
  let v : Nat → Int := fun m => if m ∈ V then x (128 + m) else 0
  have hzch : Ch T s z := by
    intro m hm
    by_cases h : m ∈ Z
    · exact Zm m h
    · exact absurd (if_neg h) hm
  have low : ∀ f : Nat → Int, ls (Z ++ V.map (128 + ·)) (fun u => (if u < 128 then f u else 0) * x u) = ls (List.range 128) (fun u => f u * z u) := by
    intro f
    rw [ls_append, ls_map]
    rw [ls_zero (l := V)]
    · rw [Int.add_zero]
      symm
      apply ls_extend Zn Zlt
      · intro m hm; show f m * (if m ∈ Z then x m else 0) = 0; rw [if_neg hm, Int.mul_zero]
      · intro m hm; show f m * (if m ∈ Z then x m else 0) = _; rw [if_pos hm, if_pos (Zlt m hm)]
    · intro a _; rw [if_neg (by omega), Int.zero_mul]
  have hz1 : ∀ t, t < 128 → bd 7 z t = 0 := by
    apply F1h z hzch
    intro f hf
    rw [← low]
    exact hx2 _ (List.mem_append.2 (.inl (List.mem_append.2 (.inl (List.mem_map.2 ⟨f, hf, rfl⟩)))))
  have hz2 : ∀ f ∈ F2, ls (List.range 128) (fun u => f u * z u) = 0 := by
    intro f hf
    rw [← low]
    exact hx2 _ (List.mem_append.2 (.inl (List.mem_append.2 (.inr (List.mem_map.2 ⟨f, hf, rfl⟩)))))
  have hzsum : ∀ m, z m = ls Z (fun u => x u * delta u m) := by
    intro m
    by_cases h : m ∈ Z
    · rw [ls_single Zn h]
      · show (if m ∈ Z then x m else 0) = _; rw [if_pos h]; simp [delta]
      · intro a _ hne; simp [delta, Ne.symm hne]
    · show (if m ∈ Z then x m else 0) = _
      rw [if_neg h, ls_zero]
      intro a ha
      have : m ≠ a := fun e => h (e ▸ ha)
      simp [delta, this]
  have hphi : ∀ t, phi T s z t = ls Z (fun u => x u * phi T s (delta u) t) := by
    intro t; rw [← phi_sum]; congr 1; funext m; exact hzsum m
  have hb : ∀ f ∈ F3, ls (List.range 128) (fun t => f t * (phi T s z t + v t)) = 0 := by
    intro f hf
    rw [← hx2 _ (List.mem_append.2 (.inr (List.mem_map.2 ⟨f, hf, rfl⟩))), ls_append, ls_map]
    have e1 : ls V (fun a => (if 128 + a < 128 then ls (List.range 128) (fun t => f t * phi T s (delta (128 + a)) t) else f (128 + a - 128)) * x (128 + a))
        = ls (List.range 128) (fun t => f t * v t) := by
      symm; apply ls_extend Vn Vlt
      · intro m hm; show f m * (if m ∈ V then x (128 + m) else 0) = 0; rw [if_neg hm, Int.mul_zero]
      · intro m hm; show f m * (if m ∈ V then x (128 + m) else 0) = _
        rw [if_pos hm, if_neg (by omega), Nat.add_sub_cancel_left]
    have e2 : ls Z (fun u => (if u < 128 then ls (List.range 128) (fun t => f t * phi T s (delta u) t) else f (u - 128)) * x u)
        = ls (List.range 128) (fun t => f t * phi T s z t) := by
      have : ∀ t ∈ List.range 128, f t * phi T s z t = ls Z (fun u => f t * phi T s (delta u) t * x u) := by
        intro t _; rw [hphi, ← ls_mul]; apply ls_congr; intro u _
        rw [Int.mul_comm (x u), Int.mul_assoc]
      rw [ls_congr this, ls_comm]
      apply ls_congr; intro u hu
      rw [if_pos (Zlt u hu), ← ls_mul']
    rw [e1, e2, ← ls_add]; apply ls_congr; intro t _; rw [Int.mul_add]
  have hbch : Ch (fl T) s (fun t => phi T s z t + v t) := by
    intro m hm
    by_cases h : phi T s z m = 0
    · have h2 : v m ≠ 0 := by intro h2; apply hm; show phi T s z m + v m = 0; rw [h, h2]; rfl
      by_cases h3 : m ∈ V
      · exact Vm m h3
      · exact absurd (if_neg h3) h2
    · exact phi_ch hzch m h
  obtain ⟨c', hc', hbc'⟩ := F3h _ hbch hb
  have hv0 : ∀ m, v m = 0 := by
    apply Vh v
    · intro m hm
      by_cases h3 : m ∈ V
      · exact h3
      · exact absurd (if_neg h3) hm
    · intro t ht
      have h1 := bdbd (n := 7) (by decide) c' ht
      have h2 : bd 7 (bd 7 c') t = bd 7 (fun t => phi T s z t + v t) t :=
        bd_congr 7 t (fun i hi hb => hbc' _ (pc_add t ht i hi hb).2)
      rw [h2, bd_add, phi_cyc hz1 t ht] at h1
      omega
  obtain ⟨c, hc, hbc⟩ := phi_back hzch hz1 hc' (fun t ht => by rw [hbc' t ht, hv0 t, Int.add_zero])
  have hz0 : ∀ m, m < 128 → z m = 0 := by
    intro m hm
    rw [← hbc m hm]
    apply F2h c hc _ m hm
    intro f hf
    rw [← hz2 f hf]; apply ls_congr; intro u hu
    rw [hbc u (List.mem_range.1 hu)]
  apply hx0
  rcases List.mem_append.1 hu0 with h | h
  · have := hz0 u0 (Zlt u0 h)
    have e : z u0 = x u0 := if_pos h
    rw [← e]; exact this
  · obtain ⟨m, hm, rfl⟩ := List.mem_map.1 h
    have := hv0 m
    have e : v m = x (128 + m) := if_pos hm
    rw [← e]; exact this

end K63


namespace K63

structure Lev (T : Nat → Nat → Bool) (k h : Nat) (R : Nat → Nat) : Prop where
  mem : ∀ i, i < h → Kc T (R i) ∧ pc 7 (R i) = k
  inj : ∀ i, i < h → ∀ j, j < h → R i = R j → i = j
  sur : ∀ s, Kc T s → pc 7 s = k → ∃ i, i < h ∧ R i = s
  ord : ∀ i, i < h → ∀ i', i' < h → ∀ r, r < 64 → ∀ x, x < 6 → r.testBit x = false → R i = r + 2 ^ x → R i' = r + 64 → i < i'

section
variable {T : Nat → Nat → Bool} {k h w : Nat} {R C : Nat → Nat} {A : Nat → Nat → Int}

theorem Cx_of (L1 : Lev T k h R) (L2 : Lev T (k + 1) w C) (hA : ∀ i, i < h → ∀ j, j < w → A i j = inc 7 (R i) (C j)) : Cx h w k R C A where
  Rlt := fun i hi => ⟨(L1.mem i hi).1.1, (L1.mem i hi).2⟩
  Rinj := L1.inj
  Clt := fun i hi => ⟨(L2.mem i hi).1.1, (L2.mem i hi).2⟩
  Cinj := L2.inj
  Aeq := hA
  closed := by
    intro j hj t ht hne
    obtain ⟨x, hx, hb, e⟩ := inc_ne hne
    have hm := L2.mem j hj
    rw [← e] at hm
    have hp := pc_add t ht x hx hb
    exact L1.sur t (Kc_sub hx ht hb hm.1) (by omega)
  order := L1.ord

theorem ch_spread (L2 : Lev T (k + 1) w C) {c : Nat → Int} (hc : Ch T (k + 1) c) (s : Nat) : c s = spread w C (fun l => c (C l)) s := by
  by_cases h : c s = 0
  · rw [h]; symm; unfold spread; apply ls_zero; intro l _
    by_cases e : C l = s
    · rw [if_pos e]; show c (C l) = 0; rw [e, h]
    · exact if_neg e
  · have := hc s h
    obtain ⟨l, hl, e⟩ := L2.sur s this.1 this.2
    rw [← e, spread_at L2.inj hl]

theorem spread_ch (L2 : Lev T (k + 1) w C) (c : Nat → Int) : Ch T (k + 1) (spread w C c) := by
  intro s hs
  obtain ⟨l, hl, e, _⟩ := spread_ne hs
  rw [← e]; exact L2.mem l hl

theorem col_bd (hA : ∀ i, i < h → ∀ j, j < w → A i j = inc 7 (R i) (C j)) (L2 : Lev T (k + 1) w C) {c : Nat → Int} (hc : Ch T (k + 1) c)
    {i : Nat} (hi : i < h) : bd 7 c (R i) = ls (List.range w) (fun l => A i l * c (C l)) := by
  have : bd 7 c (R i) = bd 7 (spread w C (fun l => c (C l))) (R i) := bd_congr 7 _ (fun x _ _ => ch_spread L2 hc _)
  rw [this, bd_spread]; apply ls_congr; intro l hl; rw [hA i hi l (List.mem_range.1 hl)]

theorem bd_off (L1 : Lev T k h R) {c : Nat → Int} (hc : Ch T (k + 1) c) {s : Nat} (hs : s < 128) (hn : ∀ i, i < h → R i ≠ s) : bd 7 c s = 0 := by
  unfold bd; apply ls_zero; intro x hx
  have hx := List.mem_range.1 hx
  by_cases hb : s.testBit x = true
  · simp [hb]
  · have hb : s.testBit x = false := by simpa using hb
    simp only [hb, if_false, Bool.false_eq_true]
    by_cases h0 : c (s + 2 ^ x) = 0
    · rw [h0, Int.mul_zero]
    · exfalso
      have hm := hc _ h0
      have hp := pc_add s hs x hx hb
      obtain ⟨i, hi, e⟩ := L1.sur s (Kc_sub hx hs hb hm.1) (by omega)
      exact hn i hi e

variable {r : Nat} {π κ : Nat → Nat} {M : Nat → Nat → Int}

/-- a row vector against the columns -/
theorem y_col (I : Inv A h w r π κ M) (h0 : ∀ i, r ≤ i → i < h → ∀ j, r ≤ j → j < w → M i j = 0) {i : Nat} (hi : r ≤ i) (hih : i < h)
    {y : Nat → Int} (y3 : ∀ j, j < r → ls (List.range h) (fun q => y q * A q (κ j)) = 0)
    (y4 : ∀ j, r ≤ j → j < w → ls (List.range h) (fun q => y q * A q (κ j)) = M i j) {l : Nat} (hl : l < w) :
    ls (List.range h) (fun q => y q * A q l) = 0 := by
  obtain ⟨j, hj, rfl⟩ := I.κsur l hl
  by_cases h : j < r
  · exact y3 j h
  · rw [y4 j (by omega) hj]; exact h0 i hi hih j (by omega) hj

theorem y_im (I : Inv A h w r π κ M) (h0 : ∀ i, r ≤ i → i < h → ∀ j, r ≤ j → j < w → M i j = 0) {i : Nat} (hi : r ≤ i) (hih : i < h)
    {y : Nat → Int} (y3 : ∀ j, j < r → ls (List.range h) (fun q => y q * A q (κ j)) = 0)
    (y4 : ∀ j, r ≤ j → j < w → ls (List.range h) (fun q => y q * A q (κ j)) = M i j) (c : Nat → Int) :
    ls (List.range h) (fun q => y q * ls (List.range w) (fun l => A q l * c l)) = 0 := by
  have : ∀ q ∈ List.range h, y q * ls (List.range w) (fun l => A q l * c l) = ls (List.range w) (fun l => y q * A q l * c l) := by
    intro q _; rw [← ls_mul]; apply ls_congr; intro l _; rw [Int.mul_assoc]
  rw [ls_congr this, ls_comm]
  apply ls_zero; intro l hl
  rw [ls_mul', y_col I h0 hi hih y3 y4 (List.mem_range.1 hl), Int.zero_mul]

/-- rows that aren't pivots follow from those that are -/
theorem rowrel (I : Inv A h w r π κ M) (h0 : ∀ i, r ≤ i → i < h → ∀ j, r ≤ j → j < w → M i j = 0) {c : Nat → Int}
    (hc : ∀ t, t < r → ls (List.range w) (fun l => A (π t) l * c l) = 0) : ∀ i, i < h → ls (List.range w) (fun l => A i l * c l) = 0 := by
  intro i hi
  obtain ⟨p, hp, rfl⟩ := I.πsur i hi
  by_cases hpr : p < r
  · exact hc p hpr
  · obtain ⟨y, y1, y2, y3, y4⟩ := I.yv p (by omega) hp
    have := y_im I h0 (by omega) hp y3 y4 c
    rw [ls_single (u := π p) List.nodup_range (List.mem_range.2 hi), y2, Int.one_mul] at this
    · exact this
    · intro q _ hne
      by_cases hy : y q = 0
      · rw [hy, Int.zero_mul]
      · rcases y1 q hy with h | ⟨t, ht, h⟩
        · exact absurd h hne
        · rw [h, hc t ht, Int.mul_zero]

/-- the pivots' square can be solved -/
theorem solve (I : Inv A h w r π κ M) (u : Nat → Int) : ∃ v : Nat → Int, ∀ t, t < r → ls (List.range w) (fun l => A (π t) l * v l) = u t := by
  have hκ : ∀ t, t < r → κ t < w := fun t ht => I.κlt t (by have := I.aw; omega)
  have hnd : ((List.range r).map κ ++ [w]).Nodup := by
    rw [List.nodup_append]
    refine ⟨?_, by simp, ?_⟩
    · rw [List.nodup_iff_pairwise_ne, List.pairwise_map]
      apply List.Pairwise.imp_of_mem _ List.nodup_range
      intro a b ha hb hab e
      have ha := List.mem_range.1 ha
      have hb := List.mem_range.1 hb
      exact hab (I.κinj a (by have := I.aw; omega) b (by have := I.aw; omega) e)
    · intro a ha b hb e
      obtain ⟨t, ht, rfl⟩ := List.mem_map.1 ha
      have := hκ t (List.mem_range.1 ht)
      simp at hb; omega
  obtain ⟨x, ⟨u0, hu0, hx0⟩, hx1, hx2⟩ := more (List.range r) ((List.range r).map κ ++ [w]) hnd (by simp)
    (fun e l => if l = w then - u e else A (π e) l)
  -- the combination of the columns
  have hsum : ∀ e, e < r → ls (List.range w) (fun l => A (π e) l * (if l < w then x l else 0)) = u e * x w := by
    intro e he
    have h1 := hx2 e (List.mem_range.2 he)
    rw [ls_append, ls_map] at h1
    simp only [ls_cons, ls_nil, if_true] at h1
    have h2 : ls (List.range r) (fun t => (if κ t = w then - u e else A (π e) (κ t)) * x (κ t)) = ls (List.range w) (fun l => A (π e) l * (if l < w then x l else 0)) := by
      have e1 : ls (List.range r) (fun t => (if κ t = w then - u e else A (π e) (κ t)) * x (κ t)) = ls ((List.range r).map κ) (fun l => A (π e) l * (if l < w then x l else 0)) := by
        rw [ls_map]; apply ls_congr; intro t ht
        have := hκ t (List.mem_range.1 ht)
        rw [if_neg (by omega), if_pos this]
      rw [e1]
      have hn2 := (List.nodup_append.1 hnd).1
      rw [ls_filter (List.range w) (fun l => decide (l ∈ (List.range r).map κ))]
      rw [ls_zero (l := (List.range w).filter (fun l => !decide (l ∈ (List.range r).map κ)))]
      · rw [Int.add_zero]
        apply ls_perm
        rw [List.perm_ext_iff_of_nodup hn2 (List.nodup_range.filter _)]
        intro a; simp only [List.mem_filter, List.mem_range, decide_eq_true_eq]
        constructor
        · intro h; refine ⟨?_, h⟩
          obtain ⟨t, ht, rfl⟩ := List.mem_map.1 h
          exact hκ t (List.mem_range.1 ht)
        · exact fun h => h.2
      · intro a ha
        have h3 := List.mem_filter.1 ha
        have haw := List.mem_range.1 h3.1
        have hna : a ∉ (List.range r).map κ := by simpa using h3.2
        rw [if_pos haw, hx1 a (by
          intro h; rcases List.mem_append.1 h with h | h
          · exact hna h
          · simp at h; omega), Int.mul_zero]
    rw [h2] at h1
    rw [Int.add_zero, Int.neg_mul] at h1
    omega
  have hdv : ∀ l, x w ∣ (if l < w then x l else 0) := by
    apply I.n2 (x w) (fun l => if l < w then x l else 0)
    · intro l hl
      by_cases hlw : l < w
      · have hxl : x l ≠ 0 := by intro h; apply hl; simp [h]
        have : l ∈ (List.range r).map κ ++ [w] := by
          apply Classical.byContradiction; intro h; exact hxl (hx1 l h)
        rcases List.mem_append.1 this with h | h
        · obtain ⟨t, ht, e⟩ := List.mem_map.1 h; exact ⟨t, List.mem_range.1 ht, e.symm⟩
        · simp at h; omega
      · exact absurd (if_neg hlw) hl
    · intro t ht; rw [hsum t ht]; exact Int.dvd_mul_left _ _
  have hxw : x w ≠ 0 := by
    intro h0
    have hall : ∀ l, l < w → x l = 0 := by
      intro l hl; have := hdv l; rw [h0, if_pos hl] at this; exact Int.zero_dvd.1 this
    apply hx0
    rcases List.mem_append.1 hu0 with h | h
    · obtain ⟨t, ht, rfl⟩ := List.mem_map.1 h; exact hall _ (hκ t (List.mem_range.1 ht))
    · simp at h; rw [h]; exact h0
  refine ⟨fun l => (if l < w then x l else 0) / x w, ?_⟩
  intro t ht
  have h1 := hsum t ht
  have h2 : ls (List.range w) (fun l => A (π t) l * (if l < w then x l else 0)) = x w * ls (List.range w) (fun l => A (π t) l * ((if l < w then x l else 0) / x w)) := by
    rw [← ls_mul]; apply ls_congr; intro l _
    have := Int.mul_ediv_cancel' (hdv l)
    rw [Int.mul_left_comm, this]
  rw [h2, Int.mul_comm (u t)] at h1
  exact Int.eq_of_mul_eq_mul_left hxw h1

theorem img (I : Inv A h w r π κ M) (h0 : ∀ i, r ≤ i → i < h → ∀ j, r ≤ j → j < w → M i j = 0) {Y : Nat → Nat → Int}
    (hY : ∀ i, r ≤ i → i < h → (∀ q, Y i q ≠ 0 → q = π i ∨ ∃ t, t < r ∧ q = π t) ∧ Y i (π i) = 1 ∧
      (∀ j, j < r → ls (List.range h) (fun q => Y i q * A q (κ j)) = 0) ∧
      ∀ j, r ≤ j → j < w → ls (List.range h) (fun q => Y i q * A q (κ j)) = M i j)
    {b : Nat → Int} (hb : ∀ i, r ≤ i → i < h → ls (List.range h) (fun q => Y i q * b q) = 0) :
    ∃ v : Nat → Int, ∀ i, i < h → ls (List.range w) (fun l => A i l * v l) = b i := by
  obtain ⟨v, hv⟩ := solve I (fun t => b (π t))
  refine ⟨v, ?_⟩
  intro i hi
  obtain ⟨p, hp, rfl⟩ := I.πsur i hi
  by_cases hpr : p < r
  · exact hv p hpr
  · obtain ⟨y1, y2, y3, y4⟩ := hY p (by omega) hp
    have h1 := y_im I h0 (by omega) hp y3 y4 v
    have h2 := hb p (by omega) hp
    have h3 : ls (List.range h) (fun q => Y p q * (ls (List.range w) (fun l => A q l * v l) - b q)) = 0 := by
      have : ∀ q ∈ List.range h, Y p q * (ls (List.range w) (fun l => A q l * v l) - b q) = Y p q * ls (List.range w) (fun l => A q l * v l) - Y p q * b q := by
        intro q _; rw [Int.mul_sub]
      rw [ls_congr this, ls_sub, h1, h2]; rfl
    rw [ls_single (u := π p) List.nodup_range (List.mem_range.2 hi), y2, Int.one_mul] at h3
    · omega
    · intro q _ hne
      by_cases hy : Y p q = 0
      · rw [hy, Int.zero_mul]
      · rcases y1 q hy with h | ⟨t, ht, h⟩
        · exact absurd h hne
        · rw [h, hv t ht, Int.sub_self, Int.mul_zero]

theorem chooseY (I : Inv A h w r π κ M) : ∃ Y : Nat → Nat → Int, ∀ i, r ≤ i → i < h → (∀ q, Y i q ≠ 0 → q = π i ∨ ∃ t, t < r ∧ q = π t) ∧ Y i (π i) = 1 ∧
      (∀ j, j < r → ls (List.range h) (fun q => Y i q * A q (κ j)) = 0) ∧
      ∀ j, r ≤ j → j < w → ls (List.range h) (fun q => Y i q * A q (κ j)) = M i j := by
  have : ∀ i, ∃ y : Nat → Int, r ≤ i → i < h → (∀ q, y q ≠ 0 → q = π i ∨ ∃ t, t < r ∧ q = π t) ∧ y (π i) = 1 ∧
      (∀ j, j < r → ls (List.range h) (fun q => y q * A q (κ j)) = 0) ∧
      ∀ j, r ≤ j → j < w → ls (List.range h) (fun q => y q * A q (κ j)) = M i j := by
    intro i
    by_cases hi : r ≤ i ∧ i < h
    · obtain ⟨y, hy⟩ := I.yv i hi.1 hi.2; exact ⟨y, fun _ _ => hy⟩
    · exact ⟨fun _ => 0, fun a b => absurd ⟨a, b⟩ hi⟩
  exact ⟨fun i => Classical.choose (this i), fun i a b => Classical.choose_spec (this i) a b⟩

end

/-- the last state: nothing is left -/
structure Dn (T : Nat → Nat → Bool) (k h w r : Nat) : Prop where
  ex : ∃ (R C : Nat → Nat) (A : Nat → Nat → Int) (π κ : Nat → Nat) (M : Nat → Nat → Int),
    Lev T k h R ∧ Lev T (k + 1) w C ∧ (∀ i, i < h → ∀ j, j < w → A i j = inc 7 (R i) (C j)) ∧ Inv A h w r π κ M ∧
    ∀ i, r ≤ i → i < h → ∀ j, r ≤ j → j < w → M i j = 0

theorem ls_delta {L : List Nat} (hL : L.Nodup) {a : Nat} (ha : a ∈ L) (f : Nat → Int) : ls L (fun u => delta a u * f u) = f a := by
  rw [ls_single hL ha]
  · simp [delta]
  · intro b _ hne; simp [delta, hne]

theorem Dn.cnt {T : Nat → Nat → Bool} {k h w r : Nat} (D : Dn T k h w r) : Cnt T k h := by
  obtain ⟨R, C, A, π, κ, M, L1, L2, hA, I, h0⟩ := D.ex
  refine ⟨(List.range h).map R, ?_, by simp, ?_⟩
  · rw [List.nodup_iff_pairwise_ne, List.pairwise_map]
    apply List.Pairwise.imp_of_mem _ List.nodup_range
    intro a b ha hb hab e
    exact hab (L1.inj a (List.mem_range.1 ha) b (List.mem_range.1 hb) e)
  · intro m hm
    obtain ⟨i, hi, rfl⟩ := List.mem_map.1 hm
    exact L1.mem i (List.mem_range.1 hi)

theorem Dn.cntC {T : Nat → Nat → Bool} {k h w r : Nat} (D : Dn T k h w r) : Cnt T (k + 1) w := by
  obtain ⟨R, C, A, π, κ, M, L1, L2, hA, I, h0⟩ := D.ex
  refine ⟨(List.range w).map C, ?_, by simp, ?_⟩
  · rw [List.nodup_iff_pairwise_ne, List.pairwise_map]
    apply List.Pairwise.imp_of_mem _ List.nodup_range
    intro a b ha hb hab e
    exact hab (L2.inj a (List.mem_range.1 ha) b (List.mem_range.1 hb) e)
  · intro m hm
    obtain ⟨i, hi, rfl⟩ := List.mem_map.1 hm
    exact L2.mem i (List.mem_range.1 hi)

theorem Dn.piv {T : Nat → Nat → Bool} {k h w r : Nat} (D : Dn T k h w r) :
    ∃ P : List Nat, P.length = r ∧ (∀ m ∈ P, m < 128) ∧ ∀ c, Ch T (k + 1) c → (∀ m ∈ P, bd 7 c m = 0) → ∀ t, t < 128 → bd 7 c t = 0 := by
  obtain ⟨R, C, A, π, κ, M, L1, L2, hA, I, h0⟩ := D.ex
  have hπ : ∀ t, t < r → π t < h := fun t ht => I.πlt t (by have := I.ah; omega)
  refine ⟨(List.range r).map (fun t => R (π t)), by simp, ?_, ?_⟩
  · intro m hm
    obtain ⟨t, ht, rfl⟩ := List.mem_map.1 hm
    exact (L1.mem _ (hπ t (List.mem_range.1 ht))).1.1
  · intro c hc hP
    have hall := rowrel (c := fun l => c (C l)) I h0 (by
      intro t ht
      rw [← col_bd hA L2 hc (hπ t ht)]
      exact hP _ (List.mem_map.2 ⟨t, List.mem_range.2 ht, rfl⟩))
    intro s hs
    by_cases hh : ∃ i, i < h ∧ R i = s
    · obtain ⟨i, hi, rfl⟩ := hh
      rw [col_bd hA L2 hc hi]; exact hall i hi
    · exact bd_off L1 hc hs (fun i hi e => hh ⟨i, hi, e⟩)

theorem Dn.van {T : Nat → Nat → Bool} {k h w r : Nat} (D : Dn T k h w r) : Van T k r := by
  obtain ⟨P, Pl, Plt, Ph⟩ := D.piv
  refine ⟨P.map delta, by simpa using Pl, ?_⟩
  intro c hc hf
  apply Ph c hc
  intro m hm
  have := hf _ (List.mem_map.2 ⟨m, hm, rfl⟩)
  rwa [ls_delta List.nodup_range (List.mem_range.2 (Plt m hm))] at this

theorem Dn.cyc {T : Nat → Nat → Bool} {k h w r : Nat} (D : Dn T k h w r) : Cyc T (k + 1) r := by
  obtain ⟨P, Pl, Plt, Ph⟩ := D.piv
  refine ⟨P.map (inc 7), by simpa using Pl, ?_⟩
  intro c hc hf
  apply Ph c hc
  intro m hm
  have := hf _ (List.mem_map.2 ⟨m, hm, rfl⟩)
  rwa [ls_inc List.nodup_range (by
    intro u hu
    apply Classical.byContradiction; intro h
    exact hu (List.mem_range.2 (hc u h).1.1))] at this

theorem cyc0 (T : Nat → Nat → Bool) : Cyc T 0 0 := by
  refine ⟨[], rfl, ?_⟩
  intro z hz _ t _
  unfold bd; apply ls_zero; intro x _
  split
  · rfl
  · by_cases h : z (t + 2 ^ x) = 0
    · rw [h, Int.mul_zero]
    · have := hz _ h
      exact absurd (zero_pc _ this.1.1 this.2) (add_ne t x)

theorem tr0 (T : Nat → Nat → Bool) : Tr T 0 0 := by
  refine ⟨[], List.nodup_nil, rfl, by simp, ?_⟩
  intro v hv _ m
  apply Classical.byContradiction; intro h
  exact absurd (hv m h) (by simp)

theorem Dn.tr {T : Nat → Nat → Bool} {k h w r : Nat} (D : Dn T k h w r) : Tr T (k + 1) r := by
  obtain ⟨R, C, A, π, κ, M, L1, L2, hA, I, h0⟩ := D.ex
  have hκ : ∀ t, t < r → κ t < w := fun t ht => I.κlt t (by have := I.aw; omega)
  refine ⟨(List.range r).map (fun t => C (κ t)), ?_, by simp, ?_, ?_⟩
  · rw [List.nodup_iff_pairwise_ne, List.pairwise_map]
    apply List.Pairwise.imp_of_mem _ List.nodup_range
    intro a b ha hb hab e
    have ha := List.mem_range.1 ha
    have hb := List.mem_range.1 hb
    have := L2.inj _ (hκ a ha) _ (hκ b hb) e
    exact hab (I.κinj a (by have := I.aw; omega) b (by have := I.aw; omega) this)
  · intro m hm
    obtain ⟨t, ht, rfl⟩ := List.mem_map.1 hm
    exact L2.mem _ (hκ t (List.mem_range.1 ht))
  · intro v hv hb
    have hch : Ch T (k + 1) v := by
      intro m hm
      obtain ⟨t, ht, rfl⟩ := List.mem_map.1 (hv m hm)
      exact L2.mem _ (hκ t (List.mem_range.1 ht))
    have hz := I.n2 0 (fun l => if l < w then v (C l) else 0) (by
      intro l hl
      by_cases hlw : l < w
      · rw [if_pos hlw] at hl
        obtain ⟨t, ht, e⟩ := List.mem_map.1 (hv _ hl)
        have ht := List.mem_range.1 ht
        exact ⟨t, ht, (L2.inj _ (hκ t ht) _ hlw e).symm⟩
      · exact absurd (if_neg hlw) hl) (by
      intro t ht
      have hπ : π t < h := I.πlt t (by have := I.ah; omega)
      have : ls (List.range w) (fun l => A (π t) l * (if l < w then v (C l) else 0)) = bd 7 v (R (π t)) := by
        rw [col_bd hA L2 hch hπ]; apply ls_congr; intro l hl; rw [if_pos (List.mem_range.1 hl)]
      rw [this, hb _ (L1.mem _ hπ).1.1]; exact Int.dvd_zero 0)
    intro m
    apply Classical.byContradiction; intro hm
    obtain ⟨t, ht, e⟩ := List.mem_map.1 (hv m hm)
    have h1 := Int.zero_dvd.1 (hz (κ t))
    rw [if_pos (hκ t (List.mem_range.1 ht)), e] at h1
    exact hm h1

theorem Dn.img {T : Nat → Nat → Bool} {k h w r : Nat} (D : Dn T k h w r) :
    ∃ F : List (Nat → Int), F.length + r = h ∧ (∀ c, Ch T (k + 1) c → ∀ f ∈ F, ls (List.range 128) (fun u => f u * bd 7 c u) = 0) ∧
    ∀ b, Ch T k b → (∀ f ∈ F, ls (List.range 128) (fun u => f u * b u) = 0) → ∃ c, Ch T (k + 1) c ∧ ∀ t, t < 128 → bd 7 c t = b t := by
  obtain ⟨R, C, A, π, κ, M, L1, L2, hA, I, h0⟩ := D.ex
  obtain ⟨Y, hY⟩ := chooseY I
  have hsp : ∀ (y b : Nat → Int), ls (List.range 128) (fun u => spread h R y u * b u) = ls (List.range h) (fun q => y q * b (R q)) := by
    intro y b
    have : ∀ u ∈ List.range 128, spread h R y u * b u = ls (List.range h) (fun q => if R q = u then y q * b u else 0) := by
      intro u _; unfold spread; rw [← ls_mul']; apply ls_congr; intro q _
      by_cases e : R q = u <;> simp [e]
    rw [ls_congr this, ls_comm]
    apply ls_congr; intro q hq
    rw [ls_single (u := R q) List.nodup_range (List.mem_range.2 (L1.mem q (List.mem_range.1 hq)).1.1)]
    · simp
    · intro a _ hne; simp [Ne.symm hne]
  refine ⟨(List.range (h - r)).map (fun i => spread h R (Y (r + i))), by have := I.ah; simp; omega, ?_, ?_⟩
  · intro c hc f hf
    obtain ⟨i, hi, rfl⟩ := List.mem_map.1 hf
    have hi := List.mem_range.1 hi
    obtain ⟨y1, y2, y3, y4⟩ := hY (r + i) (by omega) (by omega)
    rw [hsp, ← y_im I h0 (i := r + i) (by omega) (by omega) y3 y4 (fun l => c (C l))]
    apply ls_congr; intro q hq
    rw [col_bd hA L2 hc (List.mem_range.1 hq)]
  · intro b hb hf
    obtain ⟨v, hv⟩ := K63.img (b := fun q => b (R q)) I h0 hY (by
      intro i hi hih
      have := hf _ (List.mem_map.2 ⟨i - r, List.mem_range.2 (by omega), rfl⟩)
      rw [hsp, show r + (i - r) = i by omega] at this
      exact this)
    refine ⟨spread w C v, spread_ch L2 v, ?_⟩
    intro t ht
    by_cases hh : ∃ i, i < h ∧ R i = t
    · obtain ⟨i, hi, rfl⟩ := hh
      rw [col_bd hA L2 (spread_ch L2 v) hi, ← hv i hi]
      apply ls_congr; intro l hl; rw [spread_at L2.inj (List.mem_range.1 hl)]
    · rw [bd_off L1 (spread_ch L2 v) ht (fun i hi e => hh ⟨i, hi, e⟩)]
      apply Classical.byContradiction; intro hne
      have := hb t (Ne.symm hne)
      obtain ⟨i, hi, e⟩ := L1.sur t this.1 this.2
      exact hh ⟨i, hi, e⟩

theorem Dn.img' {T : Nat → Nat → Bool} {k h w r : Nat} (D : Dn T k h w r) : Img T k h r := by
  obtain ⟨F, a, _, c⟩ := D.img
  exact ⟨F, a, c⟩

def TF (T : Nat → Nat → Bool) (k : Nat) : Prop := ∀ b c, Ch T k b → Ch T (k + 1) c → (∀ t, t < 128 → bd 7 c t = 2 * b t) →
  ∃ c', Ch T (k + 1) c' ∧ ∀ t, t < 128 → bd 7 c' t = b t

theorem Dn.tf {T : Nat → Nat → Bool} {k h w r : Nat} (D : Dn T k h w r) : TF T k := by
  obtain ⟨F, _, hF, hI⟩ := D.img
  intro b c hb hc hbc
  apply hI b hb
  intro f hf
  have h1 := hF c hc f hf
  have h2 : ls (List.range 128) (fun u => f u * bd 7 c u) = 2 * ls (List.range 128) (fun u => f u * b u) := by
    rw [← ls_mul]; apply ls_congr; intro u hu; rw [hbc u (List.mem_range.1 hu), Int.mul_left_comm]
  omega

/-- no torsion on one side, none on the other -/
theorem TF.back {T : Nat → Nat → Bool} {k : Nat} (h : TF (fl T) k) : TF T k := by
  intro b c hb hc hbc
  have hbz : ∀ s, s < 128 → bd 7 b s = 0 := by
    intro s hs
    have h1 := bdbd (n := 7) (by decide) c hs
    have h2 : bd 7 (bd 7 c) s = bd 7 (fun t => 2 * b t) s := bd_congr 7 s (fun i hi hb => hbc _ (pc_add s hs i hi hb).2)
    rw [h2, bd_mul] at h1; omega
  have h2b : Ch T k (fun t => 2 * b t) := fun s hs => hb s (by intro h; apply hs; show 2 * b s = 0; rw [h]; rfl)
  obtain ⟨u, hu, hub⟩ := phi_bd hc hbc h2b
  obtain ⟨u', hu', hub'⟩ := h (phi T k b) u (phi_ch hb) hu (by
    intro t ht; rw [hub t ht]; exact Xi_mul T 2 b k 0 t)
  exact phi_back hb hbz hu' hub'

/-- the same holes -/
theorem heq_s {T : Nat → Nat → Bool} {s n w r r1 n' w' r' r1' : Nat} (D : Dn T s n w r) (D' : Dn (fl T) s n' w' r')
    (hC : Cyc T s r1) (hT : Tr T s r1) (hC' : Cyc (fl T) s r1') (hT' : Tr (fl T) s r1') : n + r1' + r' = n' + r1 + r := by
  have a := hle D.cnt hC D.van hT' D'.img'
  have b := hle (T := fl T) (r1' := r1) D'.cnt hC' D'.van hT D.img'
  omega

end K63


namespace K63

section
variable {T : Nat → Nat → Bool} {k h w a : Nat} {R C : Nat → Nat} {A : Nat → Nat → Int} {π κ : Nat → Nat} {M : Nat → Nat → Int}

theorem chooseC (I : Inv A h w a π κ M) : ∃ Y : Nat → Nat → Int, ∀ j, a ≤ j → j < w → (∀ l, Y j l ≠ 0 → l = κ j ∨ ∃ t, t < a ∧ l = κ t) ∧ Y j (κ j) = 1 ∧
      (∀ i, i < a → ls (List.range w) (fun l => A (π i) l * Y j l) = 0) ∧
      ∀ i, a ≤ i → i < h → ls (List.range w) (fun l => A (π i) l * Y j l) = M i j := by
  have : ∀ j, ∃ y : Nat → Int, a ≤ j → j < w → (∀ l, y l ≠ 0 → l = κ j ∨ ∃ t, t < a ∧ l = κ t) ∧ y (κ j) = 1 ∧
      (∀ i, i < a → ls (List.range w) (fun l => A (π i) l * y l) = 0) ∧
      ∀ i, a ≤ i → i < h → ls (List.range w) (fun l => A (π i) l * y l) = M i j := by
    intro j
    by_cases hi : a ≤ j ∧ j < w
    · obtain ⟨y, hy⟩ := I.cv j hi.1 hi.2; exact ⟨y, fun _ _ => hy⟩
    · exact ⟨fun _ => 0, fun a b => absurd ⟨a, b⟩ hi⟩
  exact ⟨fun i => Classical.choose (this i), fun i a b => Classical.choose_spec (this i) a b⟩

/-- a vector whose image misses the pivot rows: its image is a combination of what is left -/
theorem expand (I : Inv A h w a π κ M) {Y : Nat → Nat → Int} (hY : ∀ j, a ≤ j → j < w → (∀ l, Y j l ≠ 0 → l = κ j ∨ ∃ t, t < a ∧ l = κ t) ∧ Y j (κ j) = 1 ∧
      (∀ i, i < a → ls (List.range w) (fun l => A (π i) l * Y j l) = 0) ∧
      ∀ i, a ≤ i → i < h → ls (List.range w) (fun l => A (π i) l * Y j l) = M i j)
    {v : Nat → Int} (hv : ∀ i, i < a → ls (List.range w) (fun l => A (π i) l * v l) = 0) :
    ∀ l, l < w → v l = ls (List.range (w - a)) (fun d => v (κ (a + d)) * Y (a + d) l) := by
  have haw := I.aw
  have lin : ∀ i, ls (List.range w) (fun l => A i l * ls (List.range (w - a)) (fun d => v (κ (a + d)) * Y (a + d) l))
      = ls (List.range (w - a)) (fun d => v (κ (a + d)) * ls (List.range w) (fun l => A i l * Y (a + d) l)) := by
    intro i
    have : ∀ l ∈ List.range w, A i l * ls (List.range (w - a)) (fun d => v (κ (a + d)) * Y (a + d) l)
        = ls (List.range (w - a)) (fun d => v (κ (a + d)) * (A i l * Y (a + d) l)) := by
      intro l _; rw [← ls_mul]; apply ls_congr; intro d _; rw [Int.mul_left_comm]
    rw [ls_congr this, ls_comm]; apply ls_congr; intro d _; rw [ls_mul]
  have hz := I.n2 0 (fun l => if l < w then v l - ls (List.range (w - a)) (fun d => v (κ (a + d)) * Y (a + d) l) else 0) (by
    intro l hl
    by_cases hlw : l < w
    · rw [if_pos hlw] at hl
      obtain ⟨p, hp, rfl⟩ := I.κsur l hlw
      by_cases hpa : p < a
      · exact ⟨p, hpa, rfl⟩
      · exfalso; apply hl
        rw [ls_single (u := p - a) List.nodup_range (List.mem_range.2 (by omega))]
        · rw [show a + (p - a) = p by omega, (hY p (by omega) hp).2.1]; omega
        · intro d hd hne
          have hd := List.mem_range.1 hd
          have : Y (a + d) (κ p) = 0 := by
            apply Classical.byContradiction; intro hy
            rcases (hY (a + d) (by omega) (by omega)).1 _ hy with h | ⟨t, ht, h⟩
            · have := I.κinj p hp (a + d) (by omega) h; omega
            · have := I.κinj p hp t (by omega) h; omega
          rw [this, Int.mul_zero]
    · exact absurd (if_neg hlw) hl) (by
    intro i hi
    have e : ls (List.range w) (fun l => A (π i) l * (if l < w then v l - ls (List.range (w - a)) (fun d => v (κ (a + d)) * Y (a + d) l) else 0))
        = ls (List.range w) (fun l => A (π i) l * v l) - ls (List.range w) (fun l => A (π i) l * ls (List.range (w - a)) (fun d => v (κ (a + d)) * Y (a + d) l)) := by
      rw [← ls_sub]; apply ls_congr; intro l hl; rw [if_pos (List.mem_range.1 hl), Int.mul_sub]
    rw [e, hv i hi, lin, ls_zero]
    · exact Int.dvd_zero 0
    · intro d hd
      have hd := List.mem_range.1 hd
      rw [(hY (a + d) (by omega) (by omega)).2.2.1 i hi, Int.mul_zero])
  intro l hl
  have := Int.zero_dvd.1 (hz l)
  rw [if_pos hl] at this; omega

theorem expand_row (I : Inv A h w a π κ M) {Y : Nat → Nat → Int} (hY : ∀ j, a ≤ j → j < w → (∀ l, Y j l ≠ 0 → l = κ j ∨ ∃ t, t < a ∧ l = κ t) ∧ Y j (κ j) = 1 ∧
      (∀ i, i < a → ls (List.range w) (fun l => A (π i) l * Y j l) = 0) ∧
      ∀ i, a ≤ i → i < h → ls (List.range w) (fun l => A (π i) l * Y j l) = M i j)
    {v : Nat → Int} (hv : ∀ i, i < a → ls (List.range w) (fun l => A (π i) l * v l) = 0) {i : Nat} (hi : a ≤ i) (hih : i < h) :
    ls (List.range w) (fun l => A (π i) l * v l) = ls (List.range (w - a)) (fun d => v (κ (a + d)) * M i (a + d)) := by
  have he := expand I hY hv
  have : ∀ l ∈ List.range w, A (π i) l * v l = ls (List.range (w - a)) (fun d => v (κ (a + d)) * (A (π i) l * Y (a + d) l)) := by
    intro l hl
    conv => lhs; rw [he l (List.mem_range.1 hl)]
    rw [← ls_mul]; apply ls_congr; intro d _; rw [Int.mul_left_comm]
  rw [ls_congr this, ls_comm]
  apply ls_congr; intro d hd
  have hd := List.mem_range.1 hd
  rw [ls_mul, (hY (a + d) (by omega) (by omega)).2.2.2 i hi hih]

/-- without torsion: what is even is zero -/
theorem even_zero (L1 : Lev T k h R) (L2 : Lev T (k + 1) w C) (hA : ∀ i, i < h → ∀ j, j < w → A i j = inc 7 (R i) (C j))
    (I : Inv A h w a π κ M) (hTF : TF T k) (hev : ∀ i, a ≤ i → i < h → ∀ j, a ≤ j → j < w → M i j % 2 = 0) :
    ∀ i, a ≤ i → i < h → ∀ j, a ≤ j → j < w → M i j = 0 := by
  obtain ⟨Y, hY⟩ := chooseC I
  have hπ : ∀ i, i < h → π i < h := I.πlt
  have step : ∀ j, a ≤ j → j < w → ∃ W : Nat → Int, ∀ i, a ≤ i → i < h → M i j = 2 * ls (List.range (w - a)) (fun d => W d * M i (a + d)) := by
    intro j hj hjw
    obtain ⟨y1, y2, y3, y4⟩ := hY j hj hjw
    have hbd : ∀ i, i < h → bd 7 (spread w C (Y j)) (R i) = ls (List.range w) (fun l => A i l * Y j l) := by
      intro i hi; rw [bd_spread]; apply ls_congr; intro l hl; rw [hA i hi l (List.mem_range.1 hl)]
    have heven : ∀ t, t < 128 → bd 7 (spread w C (Y j)) t % 2 = 0 := by
      intro t ht
      by_cases hh : ∃ i, i < h ∧ R i = t
      · obtain ⟨i, hi, rfl⟩ := hh
        rw [hbd i hi]
        obtain ⟨p, hp, rfl⟩ := I.πsur i hi
        by_cases hpa : p < a
        · rw [y3 p hpa]; rfl
        · rw [y4 p (by omega) hp]; exact hev p (by omega) hp j hj hjw
      · rw [bd_off L1 (spread_ch L2 _) ht (fun i hi e => hh ⟨i, hi, e⟩)]; rfl
    obtain ⟨c', hc', hbc'⟩ := hTF (fun t => if t < 128 then bd 7 (spread w C (Y j)) t / 2 else 0) (spread w C (Y j)) (by
      intro t ht
      by_cases h128 : t < 128
      · have hne : bd 7 (spread w C (Y j)) t ≠ 0 := by
          intro h0; apply ht; show (if t < 128 then bd 7 (spread w C (Y j)) t / 2 else 0) = 0
          rw [h0]; simp
        by_cases hh : ∃ i, i < h ∧ R i = t
        · obtain ⟨i, hi, rfl⟩ := hh; exact L1.mem i hi
        · exact absurd (bd_off L1 (spread_ch L2 _) h128 (fun i hi e => hh ⟨i, hi, e⟩)) hne
      · exact absurd (if_neg h128) ht) (spread_ch L2 _) (by
      intro t ht
      show _ = 2 * (if t < 128 then bd 7 (spread w C (Y j)) t / 2 else 0)
      rw [if_pos ht]; have := heven t ht; omega)
    have hrow : ∀ i, i < h → ls (List.range w) (fun l => A i l * Y j l) = 2 * ls (List.range w) (fun l => A i l * c' (C l)) := by
      intro i hi
      rw [← hbd i hi, ← col_bd hA L2 hc' hi, hbc' _ (L1.mem i hi).1.1]
      show _ = 2 * (if R i < 128 then bd 7 (spread w C (Y j)) (R i) / 2 else 0)
      rw [if_pos (L1.mem i hi).1.1]; have := heven _ (L1.mem i hi).1.1; omega
    refine ⟨fun d => c' (C (κ (a + d))), ?_⟩
    intro i hi hih
    rw [← y4 i hi hih, hrow _ (hπ i hih)]
    congr 1
    apply expand_row (v := fun l => c' (C l)) I hY _ hi hih
    intro p hp
    have h1 := hrow _ (hπ p (by have := I.ah; omega))
    rw [y3 p hp] at h1; omega
  have pow : ∀ n i, a ≤ i → i < h → ∀ j, a ≤ j → j < w → (2 : Int) ^ n ∣ M i j := by
    intro n
    induction n with
    | zero => intro i _ _ j _ _; simp
    | succ n ih =>
      intro i hi hih j hj hjw
      obtain ⟨W, hW⟩ := step j hj hjw
      rw [hW i hi hih, Int.pow_succ, Int.mul_comm ((2 : Int) ^ n)]
      apply Int.mul_dvd_mul_left
      apply ls_dvd; intro d hd
      have hd := List.mem_range.1 hd
      exact Int.dvd_trans (ih i hi hih (a + d) (by omega) (by omega)) (Int.dvd_mul_left _ _)
  intro i hi hih j hj hjw
  apply Classical.byContradiction; intro hne
  have h1 := pow (M i j).natAbs i hi hih j hj hjw
  have h2 := Int.le_of_dvd (by omega) (Int.dvd_natAbs.2 h1)
  have h3 : (M i j).natAbs < 2 ^ (M i j).natAbs := Nat.lt_two_pow_self
  have h4 : (((2 : Nat) ^ (M i j).natAbs : Nat) : Int) = (2 : Int) ^ (M i j).natAbs := by simp
  omega

end
end K63


namespace K63

def Nk : Nat → List Nat
  | 2 => [14, 22, 26, 28, 38, 42, 44, 50, 52, 56]
  | 3 => [30, 46, 54, 58, 60]
  | 4 => [62]
  | _ => []

def Ek : Nat → List Nat
  | 2 => [0, 0, 0, 2, 0, 0, 4, 2, 0, 8, 0, 10, 8, 8, 4, 10, 0, 16, 16, 0, 0, 16, 20, 2, 0, 24, 16, 10, 8, 24, 20, 10, 0, 0, 0, 2, 32, 0, 4, 2, 0, 8, 0, 10, 40, 8, 4, 10, 32, 16, 16, 16, 32, 16, 20, 36, 32, 24, 16, 26, 40, 24, 20, 42, 0, 64, 0, 66, 0, 64, 4, 66, 64, 0, 64, 10, 8, 8, 68, 10, 0, 80, 80, 80, 0, 80, 84, 82, 80, 80, 80, 0, 8, 88, 84, 10, 64, 64, 64, 66, 32, 64, 68, 66, 64, 64, 64, 74, 40, 72, 68, 74, 32, 80, 80, 80, 32, 80, 84, 84, 80, 80, 80, 80, 40, 88, 84, 36, 0, 0, 0, 130, 0, 0, 0, 2, 0, 8, 0, 138, 8, 8, 4, 10, 128, 16, 16, 16, 16, 16, 16, 128, 128, 24, 16, 138, 24, 24, 20, 138, 128, 128, 32, 130, 32, 32, 32, 130, 128, 136, 32, 138, 40, 40, 132, 138, 0, 16, 16, 0, 32, 16, 48, 0, 0, 24, 16, 138, 40, 24, 20, 10, 0, 64, 0, 194, 0, 64, 0, 66, 64, 0, 64, 138, 8, 8, 68, 10, 128, 80, 80, 80, 80, 80, 80, 80, 80, 80, 80, 80, 0, 88, 84, 138, 192, 192, 32, 194, 32, 196, 32, 194, 192, 192, 0, 202, 40, 40, 196, 202, 32, 80, 80, 80, 32, 80, 84, 80, 80, 80, 80, 80, 40, 88, 84, 36, 0, 0, 256, 2, 0, 0, 260, 2, 0, 264, 0, 10, 264, 264, 4, 10, 0, 272, 272, 272, 0, 272, 276, 2, 0, 280, 272, 8, 280, 280, 276, 10, 0, 0, 256, 2, 32, 0, 260, 2, 0, 264, 0, 10, 296, 264, 4, 10, 32, 272, 272, 272, 32, 272, 276, 276, 32, 280, 272, 280, 0, 280, 276, 42, 256, 64, 256, 66, 256, 64, 260, 66, 64, 64, 64, 258, 264, 264, 68, 266, 0, 80, 272, 320, 0, 80, 276, 66, 64, 16, 80, 0, 264, 280, 84, 10, 64, 64, 288, 66, 288, 64, 0, 66, 64, 64, 64, 66, 296, 296, 68, 74, 32, 80, 336, 336, 32, 80, 340, 340, 80, 80, 80, 80, 296, 344, 84, 36, 256, 256, 256, 130, 256, 256, 256, 130, 128, 264, 256, 138, 264, 264, 264, 266, 128, 272, 272, 272, 272, 272, 272, 272, 128, 280, 272, 280, 280, 280, 280, 136, 128, 128, 288, 130, 288, 288, 288, 130, 128, 0, 288, 138, 296, 296, 296, 138, 128, 272, 272, 272, 304, 272, 304, 272, 128, 280, 272, 280, 312, 280, 312, 136, 256, 192, 256, 194, 256, 0, 256, 194, 192, 192, 264, 194, 264, 264, 264, 266, 128, 336, 272, 336, 272, 336, 272, 336, 192, 280, 336, 272, 280, 280, 280, 136, 192, 192, 288, 194, 288, 196, 288, 194, 192, 192, 296, 194, 296, 296, 296, 202, 320, 336, 336, 320, 288, 336, 304, 320, 192, 208, 336, 320, 296, 344, 312, 328, 0, 0, 0, 2, 512, 512, 4, 514, 512, 8, 512, 10, 0, 8, 4, 10, 0, 16, 16, 0, 512, 528, 20, 514, 512, 24, 528, 10, 0, 24, 20, 10, 0, 0, 0, 2, 544, 544, 4, 546, 544, 8, 544, 10, 544, 8, 4, 10, 544, 16, 16, 16, 544, 20, 20, 20, 544, 24, 0, 26, 544, 24, 20, 554, 0, 576, 0, 578, 576, 576, 4, 578, 576, 576, 576, 10, 576, 0, 580, 10, 0, 592, 592, 592, 592, 592, 0, 594, 592, 592, 592, 592, 592, 592, 596, 10, 0, 64, 0, 66, 544, 576, 4, 578, 576, 512, 576, 10, 96, 0, 68, 10, 32, 80, 80, 80, 544, 592, 84, 84, 592, 592, 592, 592, 40, 80, 84, 36, 512, 512, 512, 130, 512, 512, 512, 514, 512, 136, 512, 138, 512, 520, 512, 522, 128, 528, 528, 528, 528, 528, 528, 528, 528, 0, 528, 138, 528, 536, 528, 138, 128, 128, 544, 130, 544, 544, 544, 546, 544, 136, 544, 138, 544, 552, 544, 138, 128, 144, 560, 130, 544, 560, 560, 544, 544, 152, 560, 138, 544, 568, 560, 138, 128, 576, 576, 0, 576, 576, 576, 578, 576, 576, 576, 138, 576, 576, 576, 138, 128, 592, 592, 592, 592, 592, 592, 592, 592, 592, 592, 592, 592, 592, 592, 128, 128, 192, 544, 194, 544, 608, 544, 610, 608, 136, 608, 138, 608, 544, 608, 138, 512, 592, 592, 592, 544, 592, 624, 592, 592, 592, 592, 512, 624, 592, 624, 512, 512, 512, 256, 514, 512, 512, 260, 514, 512, 264, 512, 266, 512, 264, 516, 522, 512, 272, 272, 272, 512, 0, 276, 514, 512, 280, 280, 280, 512, 280, 276, 522, 256, 256, 256, 0, 544, 544, 260, 546, 544, 264, 544, 266, 544, 264, 260, 266, 544, 272, 272, 272, 544, 276, 276, 276, 544, 280, 280, 280, 544, 280, 276, 556, 256, 576, 256, 578, 576, 576, 260, 578, 576, 576, 576, 578, 576, 576, 580, 258, 256, 592, 272, 578, 576, 592, 276, 578, 576, 592, 592, 576, 576, 592, 596, 258, 256, 576, 256, 578, 608, 576, 260, 578, 576, 576, 576, 578, 608, 576, 580, 258, 544, 592, 272, 336, 544, 592, 276, 356, 608, 528, 592, 528, 608, 528, 596, 548, 0, 0, 256, 130, 512, 512, 768, 514, 512, 264, 512, 138, 0, 264, 0, 10, 128, 272, 272, 272, 784, 784, 784, 784, 640, 280, 784, 280, 280, 280, 272, 136, 128, 128, 800, 130, 544, 544, 800, 546, 544, 392, 544, 138, 544, 808, 544, 138, 0, 272, 272, 272, 544, 816, 816, 816, 544, 280, 816, 8, 544, 280, 816, 8, 256, 576, 256, 706, 576, 576, 260, 578, 576, 576, 576, 706, 576, 576, 576, 258, 128, 592, 272, 848, 592, 592, 848, 960, 704, 592, 592, 592, 592, 16, 592, 128, 384, 192, 288, 194, 800, 608, 800, 706, 704, 704, 608, 898, 96, 96, 96, 386, 0, 80, 272, 320, 544, 592, 816, 832, 576, 528, 592, 512, 96, 16, 112, 0]
  | 3 => [0, 0, 0, 2, 0, 0, 4, 2, 0, 8, 0, 10, 8, 8, 4, 10, 0, 0, 16, 2, 0, 0, 20, 2, 16, 8, 16, 10, 8, 8, 20, 10]
  | 4 => [0, 0]
  | _ => []

/-- a set of six points with its cone partners: place and sign -/
def PT : Nat → List (Nat × List (Nat × Int))
  | 2 => [(7, [(0, -1), (1, -1), (4, -1)]), (11, [(0, 1), (2, -1), (5, -1)]), (13, [(0, -1), (3, -1), (6, -1)]), (14, [(0, 1)]), (19, [(1, 1), (2, 1), (7, -1)]), (21, [(1, -1), (3, 1), (8, -1)]), (22, [(1, 1)]), (25, [(2, -1), (3, -1), (9, -1)]), (26, [(2, 1)]), (28, [(3, 1)]), (35, [(4, 1), (5, 1), (7, 1)]), (37, [(4, -1), (6, 1), (8, 1)]), (38, [(4, 1)]), (41, [(5, -1), (6, -1), (9, 1)]), (42, [(5, 1)]), (44, [(6, 1)]), (49, [(7, -1), (8, -1), (9, -1)]), (50, [(7, 1)]), (52, [(8, 1)]), (56, [(9, 1)])]
  | 3 => [(15, [(0, 1), (1, 1)]), (23, [(0, -1), (2, 1)]), (27, [(0, 1), (3, 1)]), (29, [(0, -1), (4, 1)]), (30, [(0, 1)]), (39, [(1, -1), (2, -1)]), (43, [(1, 1), (3, -1)]), (45, [(1, -1), (4, -1)]), (46, [(1, 1)]), (51, [(2, 1), (3, 1)]), (53, [(2, -1), (4, 1)]), (54, [(2, 1)]), (57, [(3, -1), (4, -1)]), (58, [(3, 1)]), (60, [(4, 1)])]
  | 4 => [(31, [(0, -1)]), (47, [(0, 1)]), (55, [(0, -1)]), (59, [(0, 1)]), (61, [(0, -1)]), (62, [(0, 1)])]
  | _ => []

/-- the twelve projective planes -/
def planes : List Nat := [220, 234, 316, 358, 425, 453, 570, 598, 665, 707, 789, 803]

def Pk (k s : Nat) : List (Nat × Int) :=
  ((List.range 7).filter (fun x => !s.testBit x && (s + 2 ^ x).testBit 0 && decide (s + 2 ^ x < 64))).map (fun x => ((Nk k).idxOf (s + 2 ^ x - 1), sg x s))

theorem PT_ok : ([2, 3, 4].all fun k => (PT k).all fun sp => decide (sp.2 = Pk k sp.1)) = true := by decide +kernel
theorem PT_all : ([2, 3, 4].all fun k => (List.range 64).all fun s => decide (pc 7 s ≠ k + 1) || ((PT k).map (·.1)).contains s) = true := by decide +kernel
theorem PT_pc : ([2, 3, 4].all fun k => (PT k).all fun sp => decide (pc 7 sp.1 = k + 1) && decide (sp.1 < 64)) = true := by decide +kernel
theorem Nk_all : ([2, 3, 4].all fun k => (List.range 64).all fun s => decide (pc 7 s ≠ k + 1) || s.testBit 0 || (Nk k).contains s) = true := by decide +kernel
theorem Nk_ok : ([2, 3, 4].all fun k => (Nk k).all fun s => decide (pc 7 s = k + 1) && !s.testBit 0 && decide (s < 64)) = true := by decide +kernel
theorem Nk_nd : ∀ k, (Nk k).Nodup := by
  intro k; unfold Nk; split <;> decide

def val (A E i : Nat) : Int := if A.testBit i then (if E.testBit i then -1 else 1) else 0
def zp (A E : Nat) (ps : List (Nat × Int)) : Int := ls ps (fun p => p.2 * val A E p.1)
def odp (A : Nat) (ps : List (Nat × Int)) : Bool := ps.foldr (fun p b => Bool.xor (A.testBit p.1) b) false
def okA (A E : Nat) (ps : List (Nat × Int)) : Bool := odp A ps || decide (zp A E ps = 0)
def Lo (A : Nat) : List Nat := ((PT 2).filter (fun sp => odp A sp.2)).map (·.1)

theorem tab4 : ((List.range 2).all fun A => (PT 4).all fun sp => okA A ((Ek 4).getD A 0) sp.2) = true := by decide +kernel
theorem tab3 : ((List.range 32).all fun A => (PT 3).all fun sp => okA A ((Ek 3).getD A 0) sp.2) = true := by decide +kernel
/-- the table in parts: the kernel's memory is given back behind each -/
theorem in_parts {f : Nat → Bool} (h : ∀ c, c < 16 → ((List.range 64).all fun i => f (64 * c + i)) = true) : ((List.range 1024).all f) = true := by
  refine List.all_eq_true.2 fun A hA => ?_
  have hA := List.mem_range.1 hA
  have := List.all_eq_true.1 (h (A / 64) (by omega)) (A % 64) (List.mem_range.2 (by omega))
  rwa [Nat.div_add_mod] at this
def T2 (A : Nat) : Bool := planes.contains A || (PT 2).all fun sp => okA A ((Ek 2).getD A 0) sp.2
theorem tab2_0 : ((List.range 64).all fun i => T2 (64 * 0 + i)) = true := by decide +kernel
theorem tab2_1 : ((List.range 64).all fun i => T2 (64 * 1 + i)) = true := by decide +kernel
theorem tab2_2 : ((List.range 64).all fun i => T2 (64 * 2 + i)) = true := by decide +kernel
theorem tab2_3 : ((List.range 64).all fun i => T2 (64 * 3 + i)) = true := by decide +kernel
theorem tab2_4 : ((List.range 64).all fun i => T2 (64 * 4 + i)) = true := by decide +kernel
theorem tab2_5 : ((List.range 64).all fun i => T2 (64 * 5 + i)) = true := by decide +kernel
theorem tab2_6 : ((List.range 64).all fun i => T2 (64 * 6 + i)) = true := by decide +kernel
theorem tab2_7 : ((List.range 64).all fun i => T2 (64 * 7 + i)) = true := by decide +kernel
theorem tab2_8 : ((List.range 64).all fun i => T2 (64 * 8 + i)) = true := by decide +kernel
theorem tab2_9 : ((List.range 64).all fun i => T2 (64 * 9 + i)) = true := by decide +kernel
theorem tab2_10 : ((List.range 64).all fun i => T2 (64 * 10 + i)) = true := by decide +kernel
theorem tab2_11 : ((List.range 64).all fun i => T2 (64 * 11 + i)) = true := by decide +kernel
theorem tab2_12 : ((List.range 64).all fun i => T2 (64 * 12 + i)) = true := by decide +kernel
theorem tab2_13 : ((List.range 64).all fun i => T2 (64 * 13 + i)) = true := by decide +kernel
theorem tab2_14 : ((List.range 64).all fun i => T2 (64 * 14 + i)) = true := by decide +kernel
theorem tab2_15 : ((List.range 64).all fun i => T2 (64 * 15 + i)) = true := by decide +kernel
theorem tab2 : ((List.range 1024).all fun A => planes.contains A || (PT 2).all fun sp => okA A ((Ek 2).getD A 0) sp.2) = true := by
  refine in_parts (f := T2) fun c hc => ?_
  match c, hc with
  | 0, _ => exact tab2_0
  | 1, _ => exact tab2_1
  | 2, _ => exact tab2_2
  | 3, _ => exact tab2_3
  | 4, _ => exact tab2_4
  | 5, _ => exact tab2_5
  | 6, _ => exact tab2_6
  | 7, _ => exact tab2_7
  | 8, _ => exact tab2_8
  | 9, _ => exact tab2_9
  | 10, _ => exact tab2_10
  | 11, _ => exact tab2_11
  | 12, _ => exact tab2_12
  | 13, _ => exact tab2_13
  | 14, _ => exact tab2_14
  | 15, _ => exact tab2_15
  | c + 16, hc => exact absurd hc (by omega)

def PL : List (List Nat) := [[7, 11, 21, 26, 28, 38, 41, 44, 49, 50], [7, 11, 22, 25, 28, 37, 42, 44, 49, 50], [7, 13, 19, 26, 28, 38, 41, 42, 49, 52], [7, 13, 22, 25, 26, 35, 42, 44, 49, 52], [7, 14, 19, 25, 28, 37, 41, 42, 50, 52], [7, 14, 21, 25, 26, 35, 41, 44, 50, 52], [11, 13, 19, 22, 28, 37, 38, 42, 49, 56], [11, 13, 21, 22, 26, 35, 38, 44, 49, 56], [11, 14, 19, 21, 28, 37, 38, 41, 50, 56], [11, 14, 21, 22, 25, 35, 37, 44, 50, 56], [13, 14, 19, 21, 26, 35, 38, 41, 52, 56], [13, 14, 19, 22, 25, 35, 37, 42, 52, 56]]
theorem PL_eq : planes.map Lo = PL := by decide +kernel
theorem pl_ten : (PL.all fun Q => decide (Q.length = 10) && decide Q.Nodup) = true := by decide +kernel
def T1 (B : Nat) : Bool := (fun L => PL.all fun Q => decide ((L.filter (fun s => !Q.contains s)).length ≠ 1)) (Lo B)
theorem pl_one_0 : ((List.range 64).all fun i => T1 (64 * 0 + i)) = true := by decide +kernel
theorem pl_one_1 : ((List.range 64).all fun i => T1 (64 * 1 + i)) = true := by decide +kernel
theorem pl_one_2 : ((List.range 64).all fun i => T1 (64 * 2 + i)) = true := by decide +kernel
theorem pl_one_3 : ((List.range 64).all fun i => T1 (64 * 3 + i)) = true := by decide +kernel
theorem pl_one_4 : ((List.range 64).all fun i => T1 (64 * 4 + i)) = true := by decide +kernel
theorem pl_one_5 : ((List.range 64).all fun i => T1 (64 * 5 + i)) = true := by decide +kernel
theorem pl_one_6 : ((List.range 64).all fun i => T1 (64 * 6 + i)) = true := by decide +kernel
theorem pl_one_7 : ((List.range 64).all fun i => T1 (64 * 7 + i)) = true := by decide +kernel
theorem pl_one_8 : ((List.range 64).all fun i => T1 (64 * 8 + i)) = true := by decide +kernel
theorem pl_one_9 : ((List.range 64).all fun i => T1 (64 * 9 + i)) = true := by decide +kernel
theorem pl_one_10 : ((List.range 64).all fun i => T1 (64 * 10 + i)) = true := by decide +kernel
theorem pl_one_11 : ((List.range 64).all fun i => T1 (64 * 11 + i)) = true := by decide +kernel
theorem pl_one_12 : ((List.range 64).all fun i => T1 (64 * 12 + i)) = true := by decide +kernel
theorem pl_one_13 : ((List.range 64).all fun i => T1 (64 * 13 + i)) = true := by decide +kernel
theorem pl_one_14 : ((List.range 64).all fun i => T1 (64 * 14 + i)) = true := by decide +kernel
theorem pl_one_15 : ((List.range 64).all fun i => T1 (64 * 15 + i)) = true := by decide +kernel
theorem pl_one : ((List.range 1024).all fun B => (fun L => PL.all fun Q => decide ((L.filter (fun s => !Q.contains s)).length ≠ 1)) (Lo B)) = true := by
  refine in_parts (f := T1) fun c hc => ?_
  match c, hc with
  | 0, _ => exact pl_one_0
  | 1, _ => exact pl_one_1
  | 2, _ => exact pl_one_2
  | 3, _ => exact pl_one_3
  | 4, _ => exact pl_one_4
  | 5, _ => exact pl_one_5
  | 6, _ => exact pl_one_6
  | 7, _ => exact pl_one_7
  | 8, _ => exact pl_one_8
  | 9, _ => exact pl_one_9
  | 10, _ => exact pl_one_10
  | 11, _ => exact pl_one_11
  | 12, _ => exact pl_one_12
  | 13, _ => exact pl_one_13
  | 14, _ => exact pl_one_14
  | 15, _ => exact pl_one_15
  | c + 16, hc => exact absurd hc (by omega)
theorem pl_two : (PL.all fun Q => Q.all fun s => Q.all fun t => decide (s = t) ||
    (PT 2).any fun sp => decide (sp.1 &&& (s ||| t) = sp.1) && !Q.contains sp.1) = true := by decide +kernel

end K63


namespace K63

theorem addlt {p q : Nat} {n : Nat} (h : p < n) (h2 : q = p) : q < n := h2 ▸ h

/-- a number by its bits -/
def code (f : Nat → Bool) : Nat → Nat
  | 0 => 0
  | n + 1 => code f n + if f n then 2 ^ n else 0

theorem code_lt (f : Nat → Bool) : ∀ n, code f n < 2 ^ n := by
  intro n
  induction n with
  | zero => simp [code]
  | succ n ih => unfold code; have : 2 ^ (n + 1) = 2 ^ n + 2 ^ n := by rw [Nat.pow_succ]; omega
                 split <;> omega

theorem code_bit (f : Nat → Bool) : ∀ n i, i < n → (code f n).testBit i = f i := by
  intro n
  induction n with
  | zero => intro i hi; omega
  | succ n ih =>
    intro i hi
    unfold code
    by_cases hn : f n = true
    · rw [if_pos hn, Nat.add_comm]
      by_cases h : i = n
      · subst h; rw [Nat.testBit_two_pow_add_eq, Nat.testBit_lt_two_pow (code_lt f i), hn]; rfl
      · rw [Nat.testBit_two_pow_add_gt (by omega)]; exact ih i (by omega)
    · rw [if_neg hn, Nat.add_zero]
      by_cases h : i = n
      · subst h; rw [Nat.testBit_lt_two_pow (code_lt f i)]; simpa using hn
      · exact ih i (by omega)

theorem xp {e : Int} (a b : Int) (he : e = 1 ∨ e = -1) :
    Bool.xor (decide (a % 2 ≠ 0)) (decide (b % 2 ≠ 0)) = decide ((e * a + b) % 2 ≠ 0) := by
  rcases he with rfl | rfl
  · by_cases h1 : a % 2 = 0 <;> by_cases h2 : b % 2 = 0
    · have : (1 * a + b) % 2 = 0 := by omega
      simp only [h1, h2, this, ne_eq, not_true_eq_false, not_false_eq_true, decide_true, decide_false]; rfl
    · have : (1 * a + b) % 2 ≠ 0 := by omega
      simp only [h1, h2, this, ne_eq, not_true_eq_false, not_false_eq_true, decide_true, decide_false]; rfl
    · have : (1 * a + b) % 2 ≠ 0 := by omega
      simp only [h1, h2, this, ne_eq, not_true_eq_false, not_false_eq_true, decide_true, decide_false]; rfl
    · have : (1 * a + b) % 2 = 0 := by omega
      simp only [h1, h2, this, ne_eq, not_true_eq_false, not_false_eq_true, decide_true, decide_false]; rfl
  · by_cases h1 : a % 2 = 0 <;> by_cases h2 : b % 2 = 0
    · have : (-1 * a + b) % 2 = 0 := by omega
      simp only [h1, h2, this, ne_eq, not_true_eq_false, not_false_eq_true, decide_true, decide_false]; rfl
    · have : (-1 * a + b) % 2 ≠ 0 := by omega
      simp only [h1, h2, this, ne_eq, not_true_eq_false, not_false_eq_true, decide_true, decide_false]; rfl
    · have : (-1 * a + b) % 2 ≠ 0 := by omega
      simp only [h1, h2, this, ne_eq, not_true_eq_false, not_false_eq_true, decide_true, decide_false]; rfl
    · have : (-1 * a + b) % 2 = 0 := by omega
      simp only [h1, h2, this, ne_eq, not_true_eq_false, not_false_eq_true, decide_true, decide_false]; rfl

/-- sums of signed numbers mod 2 -/
theorem parity : ∀ (ps : List (Nat × Int)) (v : Nat → Int) (b : Nat → Bool), (∀ p ∈ ps, p.2 = 1 ∨ p.2 = -1) →
    (∀ p ∈ ps, b p.1 = decide (v p.1 % 2 ≠ 0)) →
    (ps.foldr (fun p c => Bool.xor (b p.1) c) false = decide (ls ps (fun p => p.2 * v p.1) % 2 ≠ 0)) := by
  intro ps
  induction ps with
  | nil => intros; rfl
  | cons p ps ih =>
    intro v b h1 h2
    have h3 := ih v b (fun q hq => h1 q (by simp [hq])) (fun q hq => h2 q (by simp [hq]))
    rw [List.foldr_cons, h3, h2 p (by simp)]
    exact xp _ _ (h1 p (by simp))

theorem Pk_sign (k s : Nat) : ∀ p ∈ Pk k s, p.2 = 1 ∨ p.2 = -1 := by
  intro p hp
  obtain ⟨x, _, rfl⟩ := List.mem_map.1 hp
  exact sg_cases x s

/-- the boundary of a chain over the point 0, read by the pairs -/
theorem form (k s : Nat) (v : Nat → Int) (G : Nat → Int)
    (hG : ∀ x, x < 7 → s.testBit x = false → G (s + 2 ^ x) = if (s + 2 ^ x).testBit 0 = true ∧ s + 2 ^ x < 64 then v ((Nk k).idxOf (s + 2 ^ x - 1)) else 0) :
    bd 7 G s = ls (Pk k s) (fun p => p.2 * v p.1) := by
  unfold Pk
  rw [ls_map, bd_ov, ls_filter (List.range 7) (fun x => !s.testBit x && (s + 2 ^ x).testBit 0 && decide (s + 2 ^ x < 64))]
  rw [ls_zero (l := (List.range 7).filter (fun a => !(!s.testBit a && (s + 2 ^ a).testBit 0 && decide (s + 2 ^ a < 64))))]
  · rw [Int.add_zero]
    apply ls_congr; intro x hx
    have h := List.mem_filter.1 hx
    simp only [Bool.and_eq_true, Bool.not_eq_true', decide_eq_true_eq] at h
    unfold ov
    rw [h.2.1.1]
    simp only [Bool.false_eq_true, if_false]
    rw [hG x (List.mem_range.1 h.1) h.2.1.1, if_pos ⟨h.2.1.2, h.2.2⟩]
  · intro x hx
    have h := List.mem_filter.1 hx
    unfold ov
    by_cases hb : s.testBit x = true
    · simp [hb]
    · have hb : s.testBit x = false := by simpa using hb
      simp only [hb, Bool.false_eq_true, if_false]
      rw [hG x (List.mem_range.1 h.1) hb, if_neg, Int.mul_zero]
      intro h2
      have := h.2
      simp [hb, h2.1, h2.2] at this

theorem k234 {k : Nat} (h2 : 2 ≤ k) (h4 : k ≤ 4) : k ∈ [2, 3, 4] := by
  have : k = 2 ∨ k = 3 ∨ k = 4 := by omega
  rcases this with rfl | rfl | rfl <;> simp

theorem Nk_mem {k : Nat} (hk : k ∈ [2, 3, 4]) {s : Nat} (hs : s < 64) (hp : pc 7 s = k + 1) (hb : s.testBit 0 = false) : s ∈ Nk k := by
  have := List.all_eq_true.1 (List.all_eq_true.1 Nk_all k hk) s (List.mem_range.2 hs)
  simpa [hp, hb] using this

theorem Nk_prop {k : Nat} (hk : k ∈ [2, 3, 4]) {s : Nat} (hs : s ∈ Nk k) : pc 7 s = k + 1 ∧ s.testBit 0 = false ∧ s < 64 := by
  have := List.all_eq_true.1 (List.all_eq_true.1 Nk_ok k hk) s hs
  simp only [Bool.and_eq_true, decide_eq_true_eq, Bool.not_eq_true'] at this
  exact ⟨this.1.1, this.1.2, this.2⟩

theorem idx_get {k : Nat} {s : Nat} (hs : s ∈ Nk k) : (Nk k).getD ((Nk k).idxOf s) 0 = s := by
  have := List.idxOf_lt_length_of_mem hs
  rw [List.getD_eq_getElem?_getD, List.getElem?_eq_getElem this]
  simp

theorem PT_mem {k : Nat} (hk : k ∈ [2, 3, 4]) {s : Nat} (hs : s < 64) (hp : pc 7 s = k + 1) : (s, Pk k s) ∈ PT k := by
  have := List.all_eq_true.1 (List.all_eq_true.1 PT_all k hk) s (List.mem_range.2 hs)
  simp only [hp, ne_eq, not_true_eq_false, decide_false, Bool.false_or, List.contains_iff_mem, List.mem_map] at this
  obtain ⟨sp, h1, h2⟩ := this
  have h3 := List.all_eq_true.1 (List.all_eq_true.1 PT_ok k hk) sp h1
  simp only [decide_eq_true_eq] at h3
  have : sp = (s, Pk k s) := by rw [← h2, ← h3]
  rwa [this] at h1

theorem PT_prop {k : Nat} (hk : k ∈ [2, 3, 4]) {sp : Nat × List (Nat × Int)} (h : sp ∈ PT k) : pc 7 sp.1 = k + 1 ∧ sp.1 < 64 ∧ sp.2 = Pk k sp.1 := by
  have h3 := List.all_eq_true.1 (List.all_eq_true.1 PT_ok k hk) sp h
  have h4 := List.all_eq_true.1 (List.all_eq_true.1 PT_pc k hk) sp h
  simp only [decide_eq_true_eq, Bool.and_eq_true] at h3 h4
  exact ⟨h4.1, h4.2, h3⟩

theorem bit0_sub : ∀ m < 64, m.testBit 0 = true → (m - 1).testBit 0 = false ∧ pc 7 (m - 1) + 1 = pc 7 m := by
  have h : ((List.range 64).all fun m => !m.testBit 0 || (!(m - 1).testBit 0 && decide (pc 7 (m - 1) + 1 = pc 7 m))) = true := by decide +kernel
  intro m hm hb
  have := List.all_eq_true.1 h m (List.mem_range.2 hm)
  simpa [hb] using this

def codeOf (k : Nat) (u : Nat → Int) : Nat := code (fun i => decide (u ((Nk k).getD i 0) % 2 ≠ 0)) (Nk k).length

/-- a chain with even boundary is known mod 2 by its part away from the point 0 -/
theorem odd_iff {k : Nat} (hk : k ∈ [2, 3, 4]) {u : Nat → Int} (hu : ∀ s, u s ≠ 0 → s < 64 ∧ pc 7 s = k + 1)
    (hb : ∀ t, t < 128 → bd 7 u t % 2 = 0) {s : Nat} (hs : s < 64) (hp : pc 7 s = k + 1) :
    odp (codeOf k u) (Pk k s) = decide (u s % 2 ≠ 0) := by
  have hc := cone (a := 0) (by decide) u (s := s) (by omega)
  have h2 : Hc 0 (bd 7 u) s % 2 = 0 := by
    unfold Hc
    by_cases h : s < 128 ∧ s.testBit 0 = true
    · rw [if_pos h]
      have := hb (s - 2 ^ 0) (by omega)
      rcases sg_cases 0 (s - 2 ^ 0) with h | h <;> rw [h] <;> omega
    · rw [if_neg h]; rfl
  have hform := form k s (fun i => u ((Nk k).getD i 0)) (Hc 0 u) (by
    intro x hx hbx
    have hpa := pc_add s (by omega) x hx hbx
    unfold Hc
    by_cases h0 : (s + 2 ^ x).testBit 0 = true
    · rw [if_pos ⟨hpa.2, h0⟩]
      have e1 : sg 0 (s + 2 ^ x - 2 ^ 0) = 1 := by unfold sg pc; rfl
      rw [e1, Int.one_mul]
      by_cases h64 : s + 2 ^ x < 64
      · rw [if_pos ⟨h0, h64⟩]
        have q := bit0_sub _ h64 h0
        have hm := Nk_mem hk (s := s + 2 ^ x - 1) (by omega) (by omega) q.1
        show u (s + 2 ^ x - 1) = u ((Nk k).getD ((Nk k).idxOf (s + 2 ^ x - 1)) 0)
        rw [idx_get hm]
      · rw [if_neg (fun h => h64 h.2)]
        apply Classical.byContradiction; intro hne
        have := (hu _ hne).1
        have h64' : s + 2 ^ x = 64 := by
          have : s + 2 ^ x - 2 ^ 0 = s + 2 ^ x - 1 := rfl
          omega
        rw [h64'] at h0; revert h0; decide
    · rw [if_neg (fun h => h0 h.2), if_neg (fun h => h0 h.1)])
  unfold odp codeOf
  rw [parity (Pk k s) (fun i => u ((Nk k).getD i 0)) (fun i => (code (fun i => decide (u ((Nk k).getD i 0) % 2 ≠ 0)) (Nk k).length).testBit i) (Pk_sign k s) ?_]
  · rw [← hform]
    have : bd 7 (Hc 0 u) s % 2 = u s % 2 := by omega
    rw [this]
  · intro p hp'
    obtain ⟨x, hx, rfl⟩ := List.mem_map.1 hp'
    have h := List.mem_filter.1 hx
    simp only [Bool.and_eq_true, Bool.not_eq_true', decide_eq_true_eq] at h
    have hpa := pc_add s (by omega) x (List.mem_range.1 h.1) h.2.1.1
    have q := bit0_sub _ h.2.2 h.2.1.2
    have hm := Nk_mem hk (s := s + 2 ^ x - 1) (by omega) (by omega) q.1
    exact code_bit _ _ _ (List.idxOf_lt_length_of_mem hm)

theorem len3 : (Nk 2).length = 10 ∧ (Nk 3).length = 5 ∧ (Nk 4).length = 1 := by decide

/-- the integer cycle over a code -/
theorem lift {k : Nat} (hk : k ∈ [2, 3, 4]) {u : Nat → Int} (hu : ∀ s, u s ≠ 0 → s < 64 ∧ pc 7 s = k + 1)
    (hb : ∀ t, t < 128 → bd 7 u t % 2 = 0) (hne : ∃ s, u s % 2 ≠ 0) (hpl : k = 2 → codeOf k u ∉ planes) :
    ∃ z : Nat → Int, (∃ s, z s ≠ 0) ∧ (∀ s, z s ≠ 0 → u s ≠ 0) ∧ ∀ t, t < 128 → bd 7 z t = 0 := by
  let A := codeOf k u
  let E := (Ek k).getD A 0
  let g : Nat → Int := fun m => if m.testBit 0 = true ∧ m < 64 then val A E ((Nk k).idxOf (m - 1)) else 0
  have hA : A < 2 ^ (Nk k).length := code_lt _ _
  have hbit : ∀ ρ ∈ Nk k, A.testBit ((Nk k).idxOf ρ) = decide (u ρ % 2 ≠ 0) := by
    intro ρ hρ
    have := code_bit (fun i => decide (u ((Nk k).getD i 0) % 2 ≠ 0)) (Nk k).length _ (List.idxOf_lt_length_of_mem hρ)
    rw [idx_get hρ] at this; exact this
  have htab : ∀ s, s < 64 → pc 7 s = k + 1 → okA A E (Pk k s) = true := by
    intro s hs hp
    have hm := PT_mem hk hs hp
    have hlen := len3
    have : k = 2 ∨ k = 3 ∨ k = 4 := by simpa using hk
    rcases this with rfl | rfl | rfl
    · have h := List.all_eq_true.1 tab2 A (List.mem_range.2 (by rw [hlen.1] at hA; exact hA))
      have hn : planes.contains A = false := by
        have := hpl rfl
        simpa using this
      rw [hn, Bool.false_or] at h
      exact List.all_eq_true.1 h _ hm
    · have h := List.all_eq_true.1 tab3 A (List.mem_range.2 (by rw [hlen.2.1] at hA; exact hA))
      exact List.all_eq_true.1 h _ hm
    · have h := List.all_eq_true.1 tab4 A (List.mem_range.2 (by rw [hlen.2.2] at hA; exact hA))
      exact List.all_eq_true.1 h _ hm
  have hz : ∀ s, bd 7 g s = zp A E (Pk k s) := fun s => form k s (val A E) g (fun x _ _ => rfl)
  refine ⟨bd 7 g, ?_, ?_, fun t ht => bdbd (by decide) g ht⟩
  · -- not zero
    have : ∃ ρ, ρ ∈ Nk k ∧ u ρ % 2 ≠ 0 := by
      apply Classical.byContradiction; intro hh
      obtain ⟨s, hs⟩ := hne
      have hsu := hu s (by intro h; rw [h] at hs; exact hs rfl)
      have h1 := odd_iff hk hu hb hsu.1 hsu.2
      have h2 : odp (codeOf k u) (Pk k s) = false := by
        unfold odp
        have : ∀ ps : List (Nat × Int), (∀ p ∈ ps, (codeOf k u).testBit p.1 = false) → ps.foldr (fun p b => Bool.xor ((codeOf k u).testBit p.1) b) false = false := by
          intro ps
          induction ps with
          | nil => intro _; rfl
          | cons p ps ih => intro h; simp only [List.foldr_cons]; rw [ih (fun q hq => h q (by simp [hq])), h p (by simp)]; rfl
        apply this
        intro p hp'
        obtain ⟨x, hx, rfl⟩ := List.mem_map.1 hp'
        have h := List.mem_filter.1 hx
        simp only [Bool.and_eq_true, Bool.not_eq_true', decide_eq_true_eq] at h
        have hpa := pc_add s (by omega) x (List.mem_range.1 h.1) h.2.1.1
        have q := bit0_sub _ h.2.2 h.2.1.2
        have hm := Nk_mem hk (s := s + 2 ^ x - 1) (by omega) (by omega) q.1
        have h3 := hbit _ hm
        have h4 : u (s + 2 ^ x - 1) % 2 = 0 := by
          apply Classical.byContradiction; intro h; exact hh ⟨_, hm, h⟩
        show A.testBit _ = false
        rw [h3, h4]; rfl
      rw [h2] at h1
      simp at h1
      omega
    obtain ⟨ρ, hρ, hodd⟩ := this
    obtain ⟨q1, q2, q3⟩ := Nk_prop hk hρ
    refine ⟨ρ, ?_⟩
    rw [bd_ov, ls_single (u := 0) List.nodup_range (by decide)]
    · unfold ov
      rw [q2]
      simp only [Bool.false_eq_true, if_false]
      have e1 : sg 0 ρ = 1 := by unfold sg pc; rfl
      have b0 := add_bit ρ (by omega) 0 (by decide) q2
      have l64 := lt64 ρ q3 0 (by decide) q2
      have e2 : g (ρ + 2 ^ 0) = val A E ((Nk k).idxOf ρ) := if_pos ⟨b0, l64⟩
      rw [e1, e2, Int.one_mul]
      have := hbit ρ hρ
      unfold val
      rw [if_pos (by rw [this]; simpa using hodd)]
      split <;> decide
    · intro x hx hne
      unfold ov
      by_cases hbx : ρ.testBit x = true
      · simp [hbx]
      · have hbx : ρ.testBit x = false := by simpa using hbx
        simp only [hbx, Bool.false_eq_true, if_false]
        have := add_other ρ (by omega) x (List.mem_range.1 hx) 0 (by decide) hne hbx
        have : g (ρ + 2 ^ x) = 0 := if_neg (by rw [this, q2]; simp)
        rw [this, Int.mul_zero]
  · intro s hs
    have hex : ∃ x, x < 7 ∧ s.testBit x = false ∧ g (s + 2 ^ x) ≠ 0 := by
      apply Classical.byContradiction; intro hh
      apply hs; rw [bd_ov]; apply ls_zero; intro x hx
      unfold ov
      by_cases hbx : s.testBit x = true
      · simp [hbx]
      · simp only [hbx, Bool.false_eq_true, if_false]
        by_cases h0 : g (s + 2 ^ x) = 0
        · rw [h0, Int.mul_zero]
        · exact absurd ⟨x, List.mem_range.1 hx, by simpa using hbx, h0⟩ hh
    obtain ⟨x, hx, hbx, hg⟩ := hex
    have hc : (s + 2 ^ x).testBit 0 = true ∧ s + 2 ^ x < 64 := by
      apply Classical.byContradiction; intro h; exact hg (if_neg h)
    have hs64 : s < 64 := by have := Nat.two_pow_pos x; omega
    have hpa := pc_add s (by omega) x hx hbx
    have hin : s + 2 ^ x - 1 ∈ Nk k := by
      apply Classical.byContradiction; intro hn
      have e : g (s + 2 ^ x) = val A E ((Nk k).idxOf (s + 2 ^ x - 1)) := if_pos hc
      apply hg; rw [e, List.idxOf_eq_length hn]
      unfold val
      rw [if_neg]
      rw [Nat.testBit_lt_two_pow hA]; simp
    have q := bit0_sub _ hc.2 hc.1
    have q2 := Nk_prop hk hin
    have hpk : pc 7 s = k + 1 := by omega
    have h1 := htab s hs64 hpk
    rw [hz s] at hs
    unfold okA at h1
    simp only [hs, decide_false, Bool.or_false] at h1
    have h2 := odd_iff hk hu hb hs64 hpk
    change odp (codeOf k u) (Pk k s) = true at h1
    rw [h1] at h2
    have h3 : u s % 2 ≠ 0 := by simpa using h2.symm
    intro h0; rw [h0] at h3; exact h3 rfl

end K63


namespace K63

theorem six_lt {T : Nat → Nat → Bool} (h6 : ∀ j, T 6 j = false) {s : Nat} (h : Kc T s) : s < 64 := by
  have hb : s.testBit 6 = false := by
    cases hq : s.testBit 6
    · rfl
    · rcases h.2 with h0 | ⟨j, _, hj⟩
      · subst h0; simp at hq
      · have := hj 6 (by decide) hq; rw [h6] at this; cases this
  have hh : ((List.range 128).all fun s => s.testBit 6 || decide (s < 64)) = true := by decide +kernel
  have := List.all_eq_true.1 hh s (List.mem_range.2 h.1)
  simpa [hb] using this

def E10 : List Nat := (List.range 64).filter (fun e => decide (pc 7 e = 2) && !e.testBit 0)

section
variable {T : Nat → Nat → Bool} {k h w a : Nat} {R C : Nat → Nat} {A : Nat → Nat → Int} {π κ : Nat → Nat} {M : Nat → Nat → Int}

theorem even_bd (L1 : Lev T k h R) (L2 : Lev T (k + 1) w C) (hA : ∀ i, i < h → ∀ j, j < w → A i j = inc 7 (R i) (C j))
    (I : Inv A h w a π κ M) (hev : ∀ i, a ≤ i → i < h → ∀ j, a ≤ j → j < w → M i j % 2 = 0) {j : Nat} (hj : a ≤ j) (hjw : j < w) {y : Nat → Int}
    (y3 : ∀ i, i < a → ls (List.range w) (fun l => A (π i) l * y l) = 0)
    (y4 : ∀ i, a ≤ i → i < h → ls (List.range w) (fun l => A (π i) l * y l) = M i j) : ∀ t, t < 128 → bd 7 (spread w C y) t % 2 = 0 := by
  intro t ht
  by_cases hh : ∃ i, i < h ∧ R i = t
  · obtain ⟨i, hi, rfl⟩ := hh
    have hbd : bd 7 (spread w C y) (R i) = ls (List.range w) (fun l => A i l * y l) := by
      rw [bd_spread]; apply ls_congr; intro l hl; rw [hA i hi l (List.mem_range.1 hl)]
    rw [hbd]
    obtain ⟨p, hp, rfl⟩ := I.πsur i hi
    by_cases hpa : p < a
    · rw [y3 p hpa]; rfl
    · rw [y4 p (by omega) hp]; exact hev p (by omega) hp j hj hjw
  · rw [bd_off L1 (spread_ch L2 _) ht (fun i hi e => hh ⟨i, hi, e⟩)]; rfl

/-- the pivots' columns and one that is left hold no cycle -/
theorem indep (L1 : Lev T k h R) (L2 : Lev T (k + 1) w C) (hA : ∀ i, i < h → ∀ j, j < w → A i j = inc 7 (R i) (C j))
    (I : Inv A h w a π κ M) {i j : Nat} (hi : a ≤ i) (hih : i < h) (hj : a ≤ j) (hjw : j < w) (hM : M i j ≠ 0)
    {z : Nat → Int} (hz : ∀ s, z s ≠ 0 → ∃ l, l < w ∧ C l = s ∧ (l = κ j ∨ ∃ t, t < a ∧ l = κ t)) (hb : ∀ t, t < 128 → pc 7 t = k → bd 7 z t = 0) :
    ∀ s, z s = 0 := by
  obtain ⟨c, c1, c2, c3, c4⟩ := I.cv j hj hjw
  have hch : Ch T (k + 1) z := by
    intro s hs; obtain ⟨l, hl, e, _⟩ := hz s hs; rw [← e]; exact L2.mem l hl
  have hrow : ∀ r, r < h → ls (List.range w) (fun l => A r l * z (C l)) = 0 := by
    intro r hr; rw [← col_bd hA L2 hch hr]; exact hb _ (L1.mem r hr).1.1 (L1.mem r hr).2
  have hzC : ∀ l, l < w → z (C l) ≠ 0 → l = κ j ∨ ∃ t, t < a ∧ l = κ t := by
    intro l hl h
    obtain ⟨l', hl', e, h'⟩ := hz _ h
    rw [← L2.inj l' hl' l hl e]; exact h'
  have heqv := I.n2 0 (fun l => if l < w then z (C l) - z (C (κ j)) * c l else 0) (by
    intro l hl
    by_cases hlw : l < w
    · rw [if_pos hlw] at hl
      by_cases e : l = κ j
      · exfalso; apply hl; rw [e, c2]; simp
      · by_cases hc0 : c l = 0
        · by_cases hz0 : z (C l) = 0
          · exfalso; apply hl; rw [hz0, hc0]; simp
          · rcases hzC l hlw hz0 with h | h
            · exact absurd h e
            · exact h
        · rcases c1 l hc0 with h | h
          · exact absurd h e
          · exact h
    · exact absurd (if_neg hlw) hl) (by
    intro s hs
    have : ls (List.range w) (fun l => A (π s) l * (if l < w then z (C l) - z (C (κ j)) * c l else 0))
        = ls (List.range w) (fun l => A (π s) l * z (C l)) - z (C (κ j)) * ls (List.range w) (fun l => A (π s) l * c l) := by
      rw [← ls_mul, ← ls_sub]; apply ls_congr; intro l hl; rw [if_pos (List.mem_range.1 hl), Int.mul_sub, Int.mul_left_comm]
    rw [this, c3 s hs, hrow _ (I.πlt s (by have := I.ah; omega))]
    simp)
  have heq : ∀ l, l < w → z (C l) = z (C (κ j)) * c l := by
    intro l hl; have := Int.zero_dvd.1 (heqv l); rw [if_pos hl] at this; omega
  have hv0 : z (C (κ j)) = 0 := by
    have h1 := hrow (π i) (I.πlt i hih)
    have h2 : ls (List.range w) (fun l => A (π i) l * z (C l)) = z (C (κ j)) * ls (List.range w) (fun l => A (π i) l * c l) := by
      rw [← ls_mul]; apply ls_congr; intro l hl; rw [heq l (List.mem_range.1 hl), Int.mul_left_comm]
    rw [h2, c4 i hi hih] at h1
    rcases Int.mul_eq_zero.1 h1 with h | h
    · exact h
    · exact absurd h hM
  intro s
  apply Classical.byContradiction; intro hs
  obtain ⟨l, hl, e, _⟩ := hz s hs
  apply hs; rw [← e, heq l hl, hv0, Int.zero_mul]

theorem nodup_map_inj {α : Type} {f : Nat → α} {l : List Nat} (hl : l.Nodup) (hf : ∀ x ∈ l, ∀ y ∈ l, f x = f y → x = y) : (l.map f).Nodup := by
  rw [List.nodup_iff_pairwise_ne, List.pairwise_map]
  apply List.Pairwise.imp_of_mem _ hl
  intro a b ha hb hab e
  exact hab (hf a ha b hb e)

theorem nodup_len {D L : List Nat} (hD : D.Nodup) (hs : ∀ d ∈ D, d ∈ L) : D.length ≤ L.length := by
  have h1 := ls_sub_le (x := fun _ => 1) D L hD hs (fun _ _ => by decide)
  have h2 : ∀ L : List Nat, ls L (fun _ => 1) = (L.length : Int) := by
    intro L; induction L with
    | nil => rfl
    | cons a L ih => simp [ih]; omega
  rw [h2, h2] at h1; omega

/-- six points, seven rows: what is even is zero -/
theorem even_zero_six (h6 : ∀ j, T 6 j = false) (hk5 : k ≤ 5) (L1 : Lev T k h R) (L2 : Lev T (k + 1) w C) (hA : ∀ i, i < h → ∀ j, j < w → A i j = inc 7 (R i) (C j))
    (I : Inv A h w a π κ M) (hev : ∀ i, a ≤ i → i < h → ∀ j, a ≤ j → j < w → M i j % 2 = 0) :
    ∀ i, a ≤ i → i < h → ∀ j, a ≤ j → j < w → M i j = 0 := by
  intro i hi hih j hj hjw
  apply Classical.byContradiction; intro hM
  obtain ⟨Y, hY⟩ := chooseC I
  have hC64 : ∀ l, l < w → C l < 64 ∧ pc 7 (C l) = k + 1 := fun l hl => ⟨six_lt h6 (L2.mem l hl).1, (L2.mem l hl).2⟩
  have hus : ∀ y : Nat → Int, ∀ s, spread w C y s ≠ 0 → s < 64 ∧ pc 7 s = k + 1 := by
    intro y s hs; obtain ⟨l, hl, e, _⟩ := spread_ne hs; rw [← e]; exact hC64 l hl
  have hub : ∀ j, a ≤ j → j < w → ∀ t, t < 128 → bd 7 (spread w C (Y j)) t % 2 = 0 := fun j hj hjw =>
    even_bd L1 L2 hA I hev hj hjw (hY j hj hjw).2.2.1 (hY j hj hjw).2.2.2
  have hu1 : ∀ j, a ≤ j → j < w → spread w C (Y j) (C (κ j)) = 1 := fun j hj hjw => by
    rw [spread_at L2.inj (I.κlt j hjw)]; exact (hY j hj hjw).2.1
  have husup : ∀ j, a ≤ j → j < w → ∀ s, spread w C (Y j) s ≠ 0 → ∃ l, l < w ∧ C l = s ∧ (l = κ j ∨ ∃ t, t < a ∧ l = κ t) := by
    intro j hj hjw s hs; obtain ⟨l, hl, e, h⟩ := spread_ne hs
    exact ⟨l, hl, e, (hY j hj hjw).1 l h⟩
  have fin : ∀ z : Nat → Int, (∃ s, z s ≠ 0) → (∀ s, z s ≠ 0 → spread w C (Y j) s ≠ 0) → (∀ t, t < 128 → pc 7 t = k → bd 7 z t = 0) → False := by
    intro z ⟨s, hs⟩ h1 h2
    exact hs (indep L1 L2 hA I hi hih hj hjw hM (fun s hs => husup j hj hjw s (h1 s hs)) h2 s)
  have hκj := I.κlt j hjw
  have hd2 : ∀ t, t < 128 → (2 : Int) ∣ bd 7 (spread w C (Y j)) t := fun t ht => Int.dvd_of_emod_eq_zero (hub j hj hjw t ht)
  have hcase : k = 0 ∨ k = 1 ∨ (2 ≤ k ∧ k ≤ 4) ∨ k = 5 := by omega
  rcases hcase with rfl | rfl | hk | rfl
  · obtain ⟨v, hv, e⟩ := one_pc (C (κ j)) (L2.mem _ hκj).1.1 (L2.mem _ hκj).2
    obtain ⟨z, h1, h2, h3, h4⟩ := X70 (p := 2) (c := spread w C (Y j)) (hd2 0 (by decide)) ⟨v, hv, by rw [← e, hu1 j hj hjw]; decide⟩
    refine fin z h1 ?_ ?_
    · intro s hs h0; apply hs; apply h3; rw [h0]; exact Int.dvd_zero 2
    · intro t ht htp; rw [zero_pc t ht htp]; exact h4
  · obtain ⟨z, h1, h2, h3, h4⟩ := X71 (p := 2) (c := spread w C (Y j)) (fun v hv => hd2 _ (pow_lt7 hv))
      ⟨C (κ j), (E21_iff _ (L2.mem _ hκj).1.1).2 (L2.mem _ hκj).2, by rw [hu1 j hj hjw]; decide⟩
    refine fin z h1 ?_ ?_
    · intro s hs h0; apply hs; apply h3; rw [h0]; exact Int.dvd_zero 2
    · intro t ht htp; obtain ⟨v, hv, rfl⟩ := one_pc t ht htp; exact h4 v hv
  · have hkm := k234 hk.1 hk.2
    by_cases hpl : k = 2 → codeOf k (spread w C (Y j)) ∉ planes
    · obtain ⟨z, h1, h2, h3⟩ := lift hkm (hus (Y j)) (hub j hj hjw) ⟨C (κ j), by rw [hu1 j hj hjw]; decide⟩ hpl
      exact fin z h1 h2 (fun t ht _ => h3 t ht)
    · -- a projective plane
      have hk2 : k = 2 := by
        apply Classical.byContradiction; intro h; exact hpl (fun e => absurd e h)
      subst hk2
      have hin : codeOf 2 (spread w C (Y j)) ∈ planes := by
        apply Classical.byContradiction; intro h; exact hpl (fun _ => h)
      generalize hQ : Lo (codeOf 2 (spread w C (Y j))) = Q
      have hQPL : Q ∈ PL := by rw [← PL_eq, ← hQ]; exact List.mem_map.2 ⟨_, hin, rfl⟩
      have hten := List.all_eq_true.1 pl_ten Q hQPL
      simp only [Bool.and_eq_true, decide_eq_true_eq] at hten
      have memLo : ∀ u : Nat → Int, (∀ s, u s ≠ 0 → s < 64 ∧ pc 7 s = 2 + 1) → (∀ t, t < 128 → bd 7 u t % 2 = 0) →
          ∀ s, s ∈ Lo (codeOf 2 u) ↔ u s % 2 ≠ 0 := by
        intro u hu hb s
        unfold Lo
        rw [List.mem_map]
        constructor
        · rintro ⟨sp, hsp, rfl⟩
          have h1 := List.mem_filter.1 hsp
          obtain ⟨q1, q2, q3⟩ := PT_prop hkm h1.1
          have h2 := odd_iff hkm hu hb q2 q1
          rw [← q3, h1.2] at h2
          simpa using h2.symm
        · intro ho
          have hs := hu s (by intro h; rw [h] at ho; exact ho rfl)
          have h2 := odd_iff hkm hu hb hs.1 hs.2
          refine ⟨(s, Pk 2 s), List.mem_filter.2 ⟨PT_mem hkm hs.1 hs.2, ?_⟩, rfl⟩
          show odp _ (Pk 2 s) = true
          rw [h2]; simpa using ho
      have hQm : ∀ s, s ∈ Q ↔ spread w C (Y j) s % 2 ≠ 0 := by
        intro s; rw [← hQ]; exact memLo _ (hus (Y j)) (hub j hj hjw) s
      -- the columns in use
      let V : List Nat := ((List.range a).map (fun t => C (κ t))) ++ [C (κ j)]
      have hκt : ∀ t, t < a → κ t < w := fun t ht => I.κlt t (by have := I.aw; omega)
      have hVn : V.Nodup := by
        show (((List.range a).map (fun t => C (κ t))) ++ [C (κ j)]).Nodup
        rw [List.nodup_append]
        refine ⟨?_, by simp, ?_⟩
        · apply nodup_map_inj List.nodup_range
          intro x hx y hy e
          have hx := List.mem_range.1 hx
          have hy := List.mem_range.1 hy
          exact I.κinj x (by have := I.aw; omega) y (by have := I.aw; omega) (L2.inj _ (hκt x hx) _ (hκt y hy) e)
        · intro x hx y hy e
          obtain ⟨t, ht, rfl⟩ := List.mem_map.1 hx
          simp only [List.mem_singleton] at hy
          rw [hy] at e
          have ht := List.mem_range.1 ht
          have := I.κinj t (by have := I.aw; omega) j hjw (L2.inj _ (hκt t ht) _ hκj e)
          omega
      have hVl : V.length = a + 1 := by simp [V]
      have hVm : ∀ s, (∃ l, l < w ∧ C l = s ∧ (l = κ j ∨ ∃ t, t < a ∧ l = κ t)) ↔ s ∈ V := by
        intro s
        show _ ↔ s ∈ ((List.range a).map (fun t => C (κ t))) ++ [C (κ j)]
        rw [List.mem_append, List.mem_map, List.mem_singleton]
        constructor
        · rintro ⟨l, hl, rfl, rfl | ⟨t, ht, rfl⟩⟩
          · exact .inr rfl
          · exact .inl ⟨t, List.mem_range.2 ht, rfl⟩
        · rintro (⟨t, ht, rfl⟩ | rfl)
          · exact ⟨κ t, hκt t (List.mem_range.1 ht), rfl, .inr ⟨t, List.mem_range.1 ht, rfl⟩⟩
          · exact ⟨κ j, hκj, rfl, .inl rfl⟩
      have hQV : ∀ s ∈ Q, s ∈ V := by
        intro s hs
        have h1 := (hQm s).1 hs
        exact (hVm s).1 (husup j hj hjw s (by intro h; rw [h] at h1; exact h1 rfl))
      have hVlt : ∀ s ∈ V, s < 64 ∧ pc 7 s = 3 := by
        intro s hs; obtain ⟨l, hl, e, _⟩ := (hVm s).2 hs; rw [← e]; exact hC64 l hl
      -- no more than ten columns in use
      have ha10 : a + 1 ≤ 10 := by
        apply Nat.le_of_not_lt; intro hlt
        obtain ⟨x, ⟨s0, hs0, hx0⟩, hx1, hx2⟩ := more E10 V hVn (by rw [hVl]; exact Nat.lt_of_le_of_lt (by decide) hlt) (inc 7)
        apply hx0
        apply indep L1 L2 hA I hi hih hj hjw hM (z := x)
        · intro s hs
          apply (hVm s).2
          apply Classical.byContradiction; intro h; exact hs (hx1 s h)
        · have h64 : ∀ t, 64 ≤ t → bd 7 x t = 0 := by
            intro t ht
            unfold bd; apply ls_zero; intro y _
            split
            · rfl
            · rw [hx1, Int.mul_zero]
              intro h; have := hVlt _ h; have := Nat.le_add_right t (2 ^ y); omega
          have hlow : ∀ t, t < 128 → pc 7 t = 2 → t.testBit 0 = false → bd 7 x t = 0 := by
            intro t ht htp hb
            by_cases h : t < 64
            · have := hx2 t (List.mem_filter.2 ⟨List.mem_range.2 h, by simp [htp, hb]⟩)
              rwa [ls_inc hVn hx1] at this
            · exact h64 t (by omega)
          intro t ht htp
          by_cases hb : t.testBit 0 = true
          · obtain ⟨q1, q2, q3⟩ := sub_bit t ht 0 (by decide) hb
            have h0 := bdbd (n := 7) (by decide) x (t := t - 2 ^ 0) (by omega)
            rw [bd_ov, ls_single (u := 0) List.nodup_range (by decide)] at h0
            · unfold ov at h0
              rw [q1, q2] at h0
              simp only [Bool.false_eq_true, if_false] at h0
              rcases sg_cases 0 (t - 2 ^ 0) with h | h <;> rw [h] at h0 <;> omega
            · intro y hy hne
              unfold ov
              by_cases hby : (t - 2 ^ 0).testBit y = true
              · simp [hby]
              · have hby : (t - 2 ^ 0).testBit y = false := by simpa using hby
                simp only [hby, Bool.false_eq_true, if_false]
                have hp1 := pc_add (t - 2 ^ 0) (by omega) 0 (by decide) q1
                have hp2 := pc_add (t - 2 ^ 0) (by omega) y (List.mem_range.1 hy) hby
                rw [q2] at hp1
                rw [hlow _ hp2.2 (by omega) (by rw [add_other _ (by omega) y (List.mem_range.1 hy) 0 (by decide) hne hby]; exact q1), Int.mul_zero]
          · exact hlow t ht htp (by simpa using hb)
      have hVQ : ∀ s ∈ V, s ∈ Q := by
        intro s hs
        apply Classical.byContradiction; intro hn
        have := nodup_len (D := s :: Q) (L := V) (List.nodup_cons.2 ⟨hn, hten.2⟩) (by
          intro d hd
          rcases List.mem_cons.1 hd with rfl | hd
          · exact hs
          · exact hQV d hd)
        rw [hVl, List.length_cons, hten.1] at this; omega
      -- no other column
      have hother : ∀ j', a ≤ j' → j' < w → j' = j := by
        intro j' hj' hjw'
        apply Classical.byContradiction; intro hne
        have hκj' := I.κlt j' hjw'
        have hnV : C (κ j') ∉ V := by
          intro h
          obtain ⟨l, hl, e, h⟩ := (hVm _).2 h
          have e := L2.inj _ hl _ hκj' e
          rcases h with h | ⟨t, ht, h⟩
          · exact hne (I.κinj j' hjw' j hjw (by rw [← e, h]))
          · have := I.κinj j' hjw' t (by have := I.aw; omega) (by rw [← e, h]); omega
        have hcl : codeOf 2 (spread w C (Y j')) < 1024 := by
          have := code_lt (fun i => decide (spread w C (Y j') ((Nk 2).getD i 0) % 2 ≠ 0)) (Nk 2).length
          rw [len3.1] at this; unfold codeOf; rw [len3.1]; exact this
        have h1 := List.all_eq_true.1 (List.all_eq_true.1 pl_one _ (List.mem_range.2 hcl)) Q hQPL
        simp only [ne_eq, decide_eq_true_eq] at h1
        apply h1
        have hmem : ∀ s, s ∈ (Lo (codeOf 2 (spread w C (Y j')))).filter (fun s => !Q.contains s) ↔ s = C (κ j') := by
          intro s
          rw [List.mem_filter, memLo _ (hus (Y j')) (hub j' hj' hjw')]
          constructor
          · rintro ⟨ho, hq⟩
            obtain ⟨l, hl, e, h⟩ := husup j' hj' hjw' s (by intro h; rw [h] at ho; exact ho rfl)
            rcases h with h | ⟨t, ht, h⟩
            · rw [← e, h]
            · exfalso
              have : s ∈ Q := hVQ s ((hVm s).1 ⟨l, hl, e, .inr ⟨t, ht, h⟩⟩)
              simp [this] at hq
          · rintro rfl
            refine ⟨by rw [hu1 j' hj' hjw']; decide, ?_⟩
            have : C (κ j') ∉ Q := fun h => hnV (hQV _ h)
            simpa using this
        have hnd : ((Lo (codeOf 2 (spread w C (Y j')))).filter (fun s => !Q.contains s)).Nodup := by
          apply List.Pairwise.filter
          unfold Lo
          have hs : ((PT 2).map (·.1)).Nodup := by decide
          exact hs.sublist (List.Sublist.map _ List.filter_sublist)
        have a1 := nodup_len hnd (L := [C (κ j')]) (fun d hd => by simp [(hmem d).1 hd])
        have a2 := nodup_len (D := [C (κ j')]) (by simp) (fun d hd => by
          simp only [List.mem_singleton] at hd; exact (hmem d).2 hd)
        simp only [List.length_singleton] at a1 a2
        omega
      -- all triangles are in Q
      have hall : ∀ s, Kc T s → pc 7 s = 3 → s ∈ Q := by
        intro s hs hp
        obtain ⟨l, hl, rfl⟩ := L2.sur s hs hp
        obtain ⟨p, hpw, rfl⟩ := I.κsur l hl
        apply hVQ
        by_cases hpa : p < a
        · exact (hVm _).1 ⟨κ p, hl, rfl, .inr ⟨p, hpa, rfl⟩⟩
        · rw [hother p (by omega) hpw]; exact (hVm _).1 ⟨κ j, hκj, rfl, .inl rfl⟩
      have hback : ∀ s ∈ Q, Kc T s := by
        intro s hs; obtain ⟨l, hl, e, _⟩ := (hVm s).2 (hQV s hs); rw [← e]; exact (L2.mem l hl).1
      -- each triangle has a row of its own
      have hex : ∀ s, ∃ jj, s ∈ Q → jj < 7 ∧ ∀ i, i < 7 → s.testBit i = true → T i jj = true := by
        intro s
        by_cases hs : s ∈ Q
        · rcases (hback s hs).2 with h0 | ⟨jj, h1, h2⟩
          · exfalso
            have := (hVlt s (hQV s hs)).2
            rw [h0] at this; revert this; decide
          · exact ⟨jj, fun _ => ⟨h1, h2⟩⟩
        · exact ⟨0, fun h => absurd h hs⟩
      have hf : ∀ s, s ∈ Q → Classical.choose (hex s) < 7 ∧ ∀ i, i < 7 → s.testBit i = true → T i (Classical.choose (hex s)) = true :=
        fun s hs => Classical.choose_spec (hex s) hs
      have hinj : ∀ s ∈ Q, ∀ t ∈ Q, Classical.choose (hex s) = Classical.choose (hex t) → s = t := by
        intro s hs t ht e
        apply Classical.byContradiction; intro hne
        have h1 := List.all_eq_true.1 (List.all_eq_true.1 (List.all_eq_true.1 pl_two Q hQPL) s hs) t ht
        simp only [hne, decide_false, Bool.false_or, List.any_eq_true, Bool.and_eq_true, decide_eq_true_eq, Bool.not_eq_true'] at h1
        obtain ⟨sp, hsp, hq1, hq2⟩ := h1
        obtain ⟨q1, q2, _⟩ := PT_prop hkm hsp
        have hK : Kc T sp.1 := by
          refine ⟨by omega, .inr ⟨Classical.choose (hex s), (hf s hs).1, ?_⟩⟩
          intro i hi hb
          rw [← hq1, Nat.testBit_and, Bool.and_eq_true, Nat.testBit_or, Bool.or_eq_true] at hb
          rcases hb.2 with h | h
          · exact (hf s hs).2 i hi h
          · rw [e]; exact (hf t ht).2 i hi h
        have := hall _ hK q1
        simp [this] at hq2
      have hlen := nodup_len (D := Q.map (fun s => Classical.choose (hex s))) (L := List.range 7) (nodup_map_inj hten.2 hinj) (by
        intro d hd
        obtain ⟨s, hs, rfl⟩ := List.mem_map.1 hd
        exact List.mem_range.2 (hf s hs).1)
      rw [List.length_map, hten.1, List.length_range] at hlen
      omega
  · -- one column only
    have hfull : ∀ s < 64, pc 7 s = 6 → s = 63 := by
      have h : ((List.range 64).all fun s => decide (pc 7 s ≠ 6) || decide (s = 63)) = true := by decide +kernel
      intro s hs hp
      have := List.all_eq_true.1 h s (List.mem_range.2 hs)
      simpa [hp] using this
    have he := hfull _ (hC64 _ hκj).1 (hC64 _ hκj).2
    have h1 := hu1 j hj hjw
    rw [he] at h1
    have h2 := hub j hj hjw 62 (by decide)
    rw [bd_ov, ls_single (u := 0) List.nodup_range (by decide)] at h2
    · have : ov (spread w C (Y j)) 62 0 = sg 0 62 * spread w C (Y j) 63 := by
        unfold ov; rw [if_neg (by decide)]
      rw [this, h1, Int.mul_one] at h2
      rcases sg_cases 0 62 with h | h <;> rw [h] at h2 <;> revert h2 <;> decide
    · intro x hx hne
      have hx7 := List.mem_range.1 hx
      unfold ov
      by_cases h6' : x = 6
      · subst h6'
        rw [if_neg (by decide)]
        have : spread w C (Y j) (62 + 2 ^ 6) = 0 := by
          apply Classical.byContradiction; intro h
          have := (hus (Y j) _ h).1; omega
        rw [this, Int.mul_zero]
      · have : (62 : Nat).testBit x = true := by
          have : x = 1 ∨ x = 2 ∨ x = 3 ∨ x = 4 ∨ x = 5 := by omega
          rcases this with rfl | rfl | rfl | rfl | rfl <;> decide
        simp [this]

end
end K63


namespace K63

/-- the first row with a unit, and the first unit in it -/
structure FU (h w a : Nat) (M : Nat → Nat → Int) (p q : Nat) : Prop where
  ap : a ≤ p
  ph : p < h
  aq : a ≤ q
  qw : q < w
  unit : M p q = 1 ∨ M p q = -1
  row : ∀ i, a ≤ i → i < p → ∀ j, a ≤ j → j < w → M i j ≠ 1 ∧ M i j ≠ -1
  col : ∀ j, a ≤ j → j < q → M p j ≠ 1 ∧ M p j ≠ -1

/-- what one round of settle leaves -/
def nx (a p q : Nat) (M : Nat → Nat → Int) (i j : Nat) : Int :=
  if i < a ∨ j < a then M (sw a p i) (sw a q j)
  else if i = a then (if j = a then 1 else 0)
  else if j = a then 0
  else M (sw a p i) (sw a q j) - M (sw a p i) q * M p q * M p (sw a q j)

inductive Runs (h w : Nat) : Nat → (Nat → Nat → Int) → Nat → Prop
  | stop {a M} (h0 : ∀ i, a ≤ i → i < h → ∀ j, a ≤ j → j < w → M i j = 0) : Runs h w a M a
  | step {a M p q r} (f : FU h w a M p q) (n : Runs h w (a + 1) (nx a p q M) r) : Runs h w a M r

theorem Runs.le {h w a r : Nat} {M : Nat → Nat → Int} (R : Runs h w a M r) : a ≤ r := by
  induction R with
  | stop _ => exact Nat.le_refl _
  | step _ _ ih => omega

theorem least_nat {P : Nat → Prop} (h : ∃ n, P n) : ∃ n, P n ∧ ∀ m, m < n → ¬ P m := by
  obtain ⟨n, hn⟩ := h
  have : ∀ m, (∃ n, n ≤ m ∧ P n) → ∃ n, P n ∧ ∀ m, m < n → ¬ P m := by
    intro m
    induction m with
    | zero => intro ⟨n, h0, hp⟩; exact ⟨n, hp, fun m hm => by omega⟩
    | succ m ih =>
      intro ⟨n, hn, hp⟩
      by_cases h : ∃ n, n ≤ m ∧ P n
      · exact ih h
      · refine ⟨n, hp, ?_⟩
        intro q hq hpq
        exact h ⟨q, by omega, hpq⟩
  exact this n ⟨n, Nat.le_refl n, hn⟩

section
variable {T : Nat → Nat → Bool} {k h w : Nat} {R C : Nat → Nat} {A : Nat → Nat → Int}

theorem count20 {a : Nat} {π κ : Nat → Nat} {M : Nat → Nat → Int} (L1 : Lev T k h R) (S : St h w R A a π κ M) : a ≤ 20 := by
  have I := S.inv
  have hnd : ((List.range a).map (fun t => R (π t))).Nodup := by
    apply nodup_map_inj List.nodup_range
    intro x hx y hy e
    have hx := List.mem_range.1 hx
    have hy := List.mem_range.1 hy
    have := I.ah
    exact I.πinj x (by omega) y (by omega) (L1.inj _ (I.πlt x (by omega)) _ (I.πlt y (by omega)) e)
  have hl := nodup_len hnd (L := (List.range 64).filter (fun s => decide (pc 7 s = k))) (by
    intro d hd
    obtain ⟨t, ht, rfl⟩ := List.mem_map.1 hd
    have ht := List.mem_range.1 ht
    have := I.ah
    exact List.mem_filter.2 ⟨List.mem_range.2 (S.low t ht), by simpa using (L1.mem _ (I.πlt t (by omega))).2⟩)
  rw [List.length_map, List.length_range] at hl
  have h20 : ∀ k, ((List.range 64).filter (fun s => decide (pc 7 s = k))).length ≤ 20 := by
    intro k
    by_cases hk : k < 8
    · have h : ((List.range 8).all fun k => decide (((List.range 64).filter (fun s => decide (pc 7 s = k))).length ≤ 20)) = true := by decide +kernel
      have := List.all_eq_true.1 h k (List.mem_range.2 hk)
      simpa using this
    · have hz : ((List.range 64).all fun s => decide (pc 7 s < 8)) = true := by decide +kernel
      have : (List.range 64).filter (fun s => decide (pc 7 s = k)) = [] := by
        rw [List.filter_eq_nil_iff]
        intro s hs
        have := List.all_eq_true.1 hz s hs
        simp at this ⊢; omega
      rw [this]; simp
  exact Nat.le_trans hl (h20 k)

theorem runs (hk : k ≤ 5) (L1 : Lev T k h R) (L2 : Lev T (k + 1) w C) (hA : ∀ i, i < h → ∀ j, j < w → A i j = inc 7 (R i) (C j))
    (hE : ∀ a π κ M, Inv A h w a π κ M → (∀ i, a ≤ i → i < h → ∀ j, a ≤ j → j < w → M i j % 2 = 0) →
      ∀ i, a ≤ i → i < h → ∀ j, a ≤ j → j < w → M i j = 0) :
    ∃ r, r ≤ 20 ∧ Runs h w 0 A r ∧ Dn T k h w r := by
  have X := Cx_of L1 L2 hA
  have go : ∀ n a π κ M, n + a = h + 1 → St h w R A a π κ M → ∃ r, r ≤ 20 ∧ Runs h w a M r ∧ Dn T k h w r := by
    intro n
    induction n with
    | zero => intro a π κ M hn S; have := S.inv.ah; omega
    | succ n ih =>
      intro a π κ M hn S
      by_cases hz : ∀ i, a ≤ i → i < h → ∀ j, a ≤ j → j < w → M i j = 0
      · exact ⟨a, count20 L1 S, Runs.stop hz, ⟨R, C, A, π, κ, M, L1, L2, hA, S.inv, hz⟩⟩
      · have hodd : ∃ i j, a ≤ i ∧ i < h ∧ a ≤ j ∧ j < w ∧ M i j % 2 ≠ 0 := by
          apply Classical.byContradiction; intro hh
          apply hz
          apply hE a π κ M S.inv
          intro i hi hih j hj hjw
          apply Classical.byContradiction; intro ho
          exact hh ⟨i, j, hi, hih, hj, hjw, ho⟩
        obtain ⟨i, j, hi, hih, hj, hjw, ho⟩ := hodd
        obtain ⟨p0, hp0, hp0h, hu0⟩ := unit_ex X hk S hi hih hj hjw ho
        obtain ⟨p, ⟨hap, hph, hpu⟩, hpm⟩ := least_nat (P := fun p => a ≤ p ∧ p < h ∧ ∃ j, a ≤ j ∧ j < w ∧ (M p j = 1 ∨ M p j = -1))
          ⟨p0, hp0, hp0h, j, hj, hjw, hu0⟩
        obtain ⟨q, ⟨haq, hqw, hqu⟩, hqm⟩ := least_nat hpu
        have hf : ∀ i, a ≤ i → i < p → ∀ j, a ≤ j → j < w → M i j ≠ 1 ∧ M i j ≠ -1 := by
          intro i hi hip j hj hjw
          constructor
          · intro e; exact hpm i hip ⟨hi, by omega, j, hj, hjw, .inl e⟩
          · intro e; exact hpm i hip ⟨hi, by omega, j, hj, hjw, .inr e⟩
        have F : FU h w a M p q := ⟨hap, hph, haq, hqw, hqu, hf, fun j hj hjq =>
          ⟨fun e => hqm j hjq ⟨hj, by omega, .inl e⟩, fun e => hqm j hjq ⟨hj, by omega, .inr e⟩⟩⟩
        have S' := St.step X hk S hap hph haq hqw rfl hqu hf (M' := nx a p q M)
          (by intro i _ j _ hij; unfold nx; rw [if_pos hij])
          (by unfold nx; simp)
          (by intro j hj _; unfold nx; rw [if_neg (by omega), if_pos rfl, if_neg (by omega)])
          (by intro i hi _; unfold nx; rw [if_neg (by omega), if_neg (by omega), if_pos rfl])
          (by intro i hi _ j hj _; unfold nx; rw [if_neg (by omega), if_neg (by omega), if_neg (by omega)])
        obtain ⟨r, hr, hR, hD⟩ := ih (a + 1) _ _ _ (by omega) S'
        exact ⟨r, hr, Runs.step F hR, hD⟩
  exact go (h + 1) 0 id id A rfl (St.start X)

end

/-- the faces of each size, in their order -/
def Levs (T : Nat → Nat → Bool) (F : Nat → List Nat) : Prop := ∀ k, k ≤ 6 → Lev T k (F k).length (fun i => (F k).getD i 0)

def mat (F : Nat → List Nat) (k : Nat) : Nat → Nat → Int := fun i j => inc 7 ((F k).getD i 0) ((F (k + 1)).getD j 0)

/-- both complexes: all runs go by units, and the holes agree -/
theorem both {T : Nat → Nat → Bool} (h6 : ∀ i, T i 6 = false) {F G : Nat → List Nat} (hF : Levs T F) (hG : Levs (fl T) G) :
    ∃ r r' : Nat → Nat, (∀ k, k ≤ 5 → r k ≤ 20 ∧ Runs (F k).length (F (k + 1)).length 0 (mat F k) (r k)) ∧
      (∀ k, k ≤ 5 → r' k ≤ 20 ∧ Runs (G k).length (G (k + 1)).length 0 (mat G k) (r' k)) ∧
      (F 0).length + r' 0 = (G 0).length + r 0 ∧
      ∀ k, k < 5 → (F (k + 1)).length + r' k + r' (k + 1) = (G (k + 1)).length + r k + r (k + 1) := by
  have hL : ∀ k, k ≤ 5 → ∃ r, r ≤ 20 ∧ Runs (G k).length (G (k + 1)).length 0 (mat G k) r ∧ Dn (fl T) k (G k).length (G (k + 1)).length r := by
    intro k hk
    exact runs hk (hG k (by omega)) (hG (k + 1) (by omega)) (fun i _ j _ => rfl) (fun a π κ M I hev =>
      even_zero_six (T := fl T) (fun j => h6 j) hk (hG k (by omega)) (hG (k + 1) (by omega)) (fun i _ j _ => rfl) I hev)
  have hK : ∀ k, k ≤ 5 → ∃ r, r ≤ 20 ∧ Runs (F k).length (F (k + 1)).length 0 (mat F k) r ∧ Dn T k (F k).length (F (k + 1)).length r := by
    intro k hk
    obtain ⟨_, _, _, D⟩ := hL k hk
    exact runs hk (hF k (by omega)) (hF (k + 1) (by omega)) (fun i _ j _ => rfl) (fun a π κ M I hev =>
      even_zero (hF k (by omega)) (hF (k + 1) (by omega)) (fun i _ j _ => rfl) I D.tf.back hev)
  have hLr : ∀ k, ∃ r, k ≤ 5 → r ≤ 20 ∧ Runs (G k).length (G (k + 1)).length 0 (mat G k) r ∧ Dn (fl T) k (G k).length (G (k + 1)).length r := by
    intro k
    by_cases hk : k ≤ 5
    · obtain ⟨r, h⟩ := hL k hk; exact ⟨r, fun _ => h⟩
    · exact ⟨0, fun h => absurd h hk⟩
  have hKr : ∀ k, ∃ r, k ≤ 5 → r ≤ 20 ∧ Runs (F k).length (F (k + 1)).length 0 (mat F k) r ∧ Dn T k (F k).length (F (k + 1)).length r := by
    intro k
    by_cases hk : k ≤ 5
    · obtain ⟨r, h⟩ := hK k hk; exact ⟨r, fun _ => h⟩
    · exact ⟨0, fun h => absurd h hk⟩
  refine ⟨fun k => Classical.choose (hKr k), fun k => Classical.choose (hLr k), ?_, ?_, ?_, ?_⟩
  · intro k hk; have := Classical.choose_spec (hKr k) hk; exact ⟨this.1, this.2.1⟩
  · intro k hk; have := Classical.choose_spec (hLr k) hk; exact ⟨this.1, this.2.1⟩
  · have a := (Classical.choose_spec (hKr 0) (by decide)).2.2
    have b := (Classical.choose_spec (hLr 0) (by decide)).2.2
    have := heq_s a b (cyc0 _) (tr0 _) (cyc0 _) (tr0 _)
    omega
  · intro k hk
    have a := (Classical.choose_spec (hKr k) (by omega)).2.2
    have b := (Classical.choose_spec (hLr k) (by omega)).2.2
    have c := (Classical.choose_spec (hKr (k + 1)) (by omega)).2.2
    have d := (Classical.choose_spec (hLr (k + 1)) (by omega)).2.2
    exact heq_s c d a.cyc a.tr b.cyc b.tr

end K63


namespace K63

/-- all faces of seven points, by size, then as tuples in ascending order -/
def ordA : List Nat := [1, 2, 4, 8, 16, 32, 64, 3, 5, 9, 17, 33, 65, 6, 10, 18, 34, 66, 12, 20, 36, 68, 24, 40, 72, 48, 80, 96, 7, 11, 19, 35, 67, 13, 21, 37, 69, 25, 41, 73, 49, 81, 97, 14, 22, 38, 70, 26, 42, 74, 50, 82, 98, 28, 44, 76, 52, 84, 100, 56, 88, 104, 112, 15, 23, 39, 71, 27, 43, 75, 51, 83, 99, 29, 45, 77, 53, 85, 101, 57, 89, 105, 113, 30, 46, 78, 54, 86, 102, 58, 90, 106, 114, 60, 92, 108, 116, 120, 31, 47, 79, 55, 87, 103, 59, 91, 107, 115, 61, 93, 109, 117, 121, 62, 94, 110, 118, 122, 124, 63, 95, 111, 119, 123, 125, 126, 127]

def rv : Nat → Nat → Nat
  | 0, _ => 0
  | k + 1, m => rv k m + (if m.testBit k then 2 ^ (7 - k) else 0)
def key (m : Nat) : Nat := pc 7 m * 256 + (255 - rv 7 m)

theorem ordA_key : (ordA.map key).Pairwise (· < ·) := by decide +kernel
theorem ordA_all : ∀ m, m ∈ ordA ↔ 0 < m ∧ m < 128 := by
  have h1 : (ordA.all fun m => decide (0 < m) && decide (m < 128)) = true := by decide +kernel
  have h2 : ((List.range 128).all fun m => decide (m = 0) || ordA.contains m) = true := by decide +kernel
  intro m
  constructor
  · intro h
    have := List.all_eq_true.1 h1 m h
    simpa using this
  · intro ⟨h0, h⟩
    have := List.all_eq_true.1 h2 m (List.mem_range.2 h)
    have hm : m ≠ 0 := by omega
    simpa [hm] using this

theorem key_face : ∀ r < 64, ∀ x < 6, r.testBit x = false → key (r + 2 ^ x) < key (r + 64) := by
  have h : ((List.range 64).all fun r => (List.range 6).all fun x => r.testBit x || decide (key (r + 2 ^ x) < key (r + 64))) = true := by decide +kernel
  intro r hr x hx hb
  have := List.all_eq_true.1 (List.all_eq_true.1 h r (List.mem_range.2 hr)) x (List.mem_range.2 hx)
  simpa [hb] using this

/-- is s a face of the rows -/
def KB (T : Nat → Nat → Bool) (s : Nat) : Bool := (List.range 7).any fun j => (List.range 7).all fun i => !s.testBit i || T i j

theorem KB_iff {T : Nat → Nat → Bool} {s : Nat} (h0 : 0 < s) (h : s < 128) : KB T s = true ↔ Kc T s := by
  unfold KB Kc
  rw [List.any_eq_true]
  constructor
  · rintro ⟨j, hj, hall⟩
    refine ⟨h, .inr ⟨j, List.mem_range.1 hj, ?_⟩⟩
    intro i hi hb
    have := List.all_eq_true.1 hall i (List.mem_range.2 hi)
    simpa [hb] using this
  · rintro ⟨_, h2 | ⟨j, hj, hall⟩⟩
    · omega
    · refine ⟨j, List.mem_range.2 hj, ?_⟩
      rw [List.all_eq_true]
      intro i hi
      by_cases hb : s.testBit i = true
      · simp [hb, hall i (List.mem_range.1 hi) hb]
      · simp [hb]

/-- the faces in their order; of size 0 the empty one -/
def Fa (T : Nat → Nat → Bool) : List Nat := ordA.filter (KB T)
def Fc (T : Nat → Nat → Bool) : Nat → List Nat
  | 0 => [0]
  | k + 1 => (Fa T).filter (fun s => pc 7 s == k + 1)

theorem Fc_mem {T : Nat → Nat → Bool} {k s : Nat} : s ∈ Fc T k ↔ Kc T s ∧ pc 7 s = k := by
  cases k with
  | zero =>
    simp only [Fc, List.mem_singleton]
    constructor
    · rintro rfl; exact ⟨Kc0 T, by decide⟩
    · rintro ⟨h, hp⟩; exact zero_pc s h.1 hp
  | succ k =>
    simp only [Fc, Fa, List.mem_filter, ordA_all, beq_iff_eq]
    constructor
    · rintro ⟨⟨⟨h0, h⟩, hk⟩, hp⟩; exact ⟨(KB_iff h0 h).1 hk, hp⟩
    · rintro ⟨h, hp⟩
      have h0 : 0 < s := by
        apply Nat.pos_of_ne_zero; intro e; subst e; revert hp; unfold pc; simp [pc]
      exact ⟨⟨⟨h0, h.1⟩, (KB_iff h0 h.1).2 h⟩, hp⟩

theorem Fc_key {T : Nat → Nat → Bool} (k : Nat) : (Fc T k).Pairwise (fun a b => key a < key b) := by
  cases k with
  | zero => exact List.pairwise_singleton _ _
  | succ k =>
    have := List.pairwise_map.1 ordA_key
    exact (this.filter _).filter _

theorem Fc_levs (T : Nat → Nat → Bool) : Levs T (Fc T) := by
  intro k _
  have hg : ∀ i, i < (Fc T k).length → (Fc T k).getD i 0 ∈ Fc T k := by
    intro i hi; rw [List.getD_eq_getElem?_getD, List.getElem?_eq_getElem hi]; exact List.getElem_mem hi
  have hlt : ∀ i j, i < j → j < (Fc T k).length → key ((Fc T k).getD i 0) < key ((Fc T k).getD j 0) := by
    intro i j hij hj
    rw [List.getD_eq_getElem?_getD, List.getElem?_eq_getElem (by omega), List.getD_eq_getElem?_getD, List.getElem?_eq_getElem hj]
    exact (List.pairwise_iff_getElem.1 (Fc_key k)) i j (by omega) hj hij
  constructor
  · intro i hi; exact Fc_mem.1 (hg i hi)
  · intro i hi j hj e
    rcases Nat.lt_trichotomy i j with h | h | h
    · have := hlt i j h hj; rw [e] at this; omega
    · exact h
    · have := hlt j i h hi; rw [e] at this; omega
  · intro s hs hp
    obtain ⟨i, hi, e⟩ := List.getElem_of_mem (Fc_mem.2 ⟨hs, hp⟩)
    exact ⟨i, hi, by rw [List.getD_eq_getElem?_getD, List.getElem?_eq_getElem hi]; exact e⟩
  · intro i hi i' hi' r hr x hx hb e e'
    have := key_face r hr x hx hb
    rcases Nat.lt_trichotomy i i' with h | h | h
    · exact h
    · exfalso; subst h; rw [e] at e'; have := lt64 r hr x hx hb; omega
    · exfalso; have h2 := hlt i' i h hi; rw [e, e'] at h2; omega

/-- the whole of it for a table with seven rows and six columns at most -/
theorem table {T : Nat → Nat → Bool} (h6 : ∀ i, T i 6 = false) :
    ∃ r r' : Nat → Nat, (∀ k, k ≤ 5 → r k ≤ 20 ∧ Runs (Fc T k).length (Fc T (k + 1)).length 0 (mat (Fc T) k) (r k)) ∧
      (∀ k, k ≤ 5 → r' k ≤ 20 ∧ Runs (Fc (fl T) k).length (Fc (fl T) (k + 1)).length 0 (mat (Fc (fl T)) k) (r' k)) ∧
      (Fc T 0).length + r' 0 = (Fc (fl T) 0).length + r 0 ∧
      ∀ k, k < 5 → (Fc T (k + 1)).length + r' k + r' (k + 1) = (Fc (fl T) (k + 1)).length + r k + r (k + 1) :=
  both h6 (Fc_levs T) (Fc_levs (fl T))

end K63



namespace K63

/-- all faces of eight points -/
def ordB : List Nat := [1, 2, 4, 8, 16, 32, 64, 128, 3, 5, 9, 17, 33, 65, 129, 6, 10, 18, 34, 66, 130, 12, 20, 36, 68, 132, 24, 40, 72, 136, 48, 80, 144, 96, 160, 192, 7, 11, 19, 35, 67, 131, 13, 21, 37, 69, 133, 25, 41, 73, 137, 49, 81, 145, 97, 161, 193, 14, 22, 38, 70, 134, 26, 42, 74, 138, 50, 82, 146, 98, 162, 194, 28, 44, 76, 140, 52, 84, 148, 100, 164, 196, 56, 88, 152, 104, 168, 200, 112, 176, 208, 224, 15, 23, 39, 71, 135, 27, 43, 75, 139, 51, 83, 147, 99, 163, 195, 29, 45, 77, 141, 53, 85, 149, 101, 165, 197, 57, 89, 153, 105, 169, 201, 113, 177, 209, 225, 30, 46, 78, 142, 54, 86, 150, 102, 166, 198, 58, 90, 154, 106, 170, 202, 114, 178, 210, 226, 60, 92, 156, 108, 172, 204, 116, 180, 212, 228, 120, 184, 216, 232, 240, 31, 47, 79, 143, 55, 87, 151, 103, 167, 199, 59, 91, 155, 107, 171, 203, 115, 179, 211, 227, 61, 93, 157, 109, 173, 205, 117, 181, 213, 229, 121, 185, 217, 233, 241, 62, 94, 158, 110, 174, 206, 118, 182, 214, 230, 122, 186, 218, 234, 242, 124, 188, 220, 236, 244, 248, 63, 95, 159, 111, 175, 207, 119, 183, 215, 231, 123, 187, 219, 235, 243, 125, 189, 221, 237, 245, 249, 126, 190, 222, 238, 246, 250, 252, 127, 191, 223, 239, 247, 251, 253, 254, 255]

theorem ordB_low : ordB.filter (fun m => decide (m < 128)) = ordA := by decide +kernel

/-- the faces of the rows of a table with eight rows and columns at most -/
def KBB (T : Nat → Nat → Bool) (s : Nat) : Bool := (List.range 8).any fun j => (List.range 8).all fun i => !s.testBit i || T i j
def FB (T : Nat → Nat → Bool) : List Nat := ordB.filter (KBB T)
def FBk (T : Nat → Nat → Bool) : Nat → List Nat
  | 0 => [0]
  | k + 1 => (FB T).filter (fun s => pc 8 s == k + 1)
def matB (F : Nat → List Nat) (k : Nat) : Nat → Nat → Int := fun i j => inc 8 ((F k).getD i 0) ((F (k + 1)).getD j 0)

/-- what the walk needs of a table -/
def Good (T : Nat → Nat → Bool) : Prop := ∃ r r' : Nat → Nat,
  (∀ k, k ≤ 5 → r k ≤ 24 ∧ Runs (FBk T k).length (FBk T (k + 1)).length 0 (matB (FBk T) k) (r k)) ∧
  (∀ k, k ≤ 5 → r' k ≤ 24 ∧ Runs (FBk (fl T) k).length (FBk (fl T) (k + 1)).length 0 (matB (FBk (fl T)) k) (r' k)) ∧
  (FBk T 0).length + r' 0 = (FBk (fl T) 0).length + r 0 ∧
  ∀ k, k < 5 → (FBk T (k + 1)).length + r' k + r' (k + 1) = (FBk (fl T) (k + 1)).length + r k + r (k + 1)

theorem hi_bit : ∀ m < 256, 128 ≤ m → m.testBit 7 = true := by
  have h : ((List.range 256).all fun m => decide (m < 128) || m.testBit 7) = true := by decide +kernel
  intro m hm h2
  have := List.all_eq_true.1 h m (List.mem_range.2 hm)
  have h3 : ¬ m < 128 := by omega
  simpa [h3] using this
theorem lo_bit : ∀ m < 128, m.testBit 7 = false := by
  have h : ((List.range 128).all fun m => !m.testBit 7) = true := by decide +kernel
  intro m hm
  have := List.all_eq_true.1 h m (List.mem_range.2 hm)
  simpa using this
theorem ordB_lt : ∀ m ∈ ordB, 0 < m ∧ m < 256 := by
  have h : (ordB.all fun m => decide (0 < m) && decide (m < 256)) = true := by decide +kernel
  intro m hm
  have := List.all_eq_true.1 h m hm
  simpa using this
theorem pc87 : ∀ m < 128, pc 8 m = pc 7 m := by
  intro m hm; show pc 7 m + (if m.testBit 7 then 1 else 0) = _; rw [lo_bit m hm]; rfl
theorem range8 : List.range 8 = List.range 7 ++ [7] := by decide
theorem inc87 {t s : Nat} (hs : s < 128) : inc 8 t s = inc 7 t s := by
  unfold inc
  rw [range8, ls_append]
  simp only [ls_cons, ls_nil]
  have : ¬ t + 2 ^ 7 = s := by omega
  simp [this]

theorem KBB_KB {T : Nat → Nat → Bool} (h7 : ∀ j, T 7 j = false) (h7' : ∀ i, T i 7 = false) {m : Nat} (hm : m < 256) (h0 : 0 < m) :
    KBB T m = (decide (m < 128) && KB T m) := by
  by_cases h : m < 128
  · simp only [h, decide_true, Bool.true_and]
    unfold KBB KB
    have e : ∀ j, ((List.range 8).all fun i => !m.testBit i || T i j) = ((List.range 7).all fun i => !m.testBit i || T i j) := by
      intro j; rw [range8, List.all_append]; simp [lo_bit m h]
    rw [range8, List.any_append]
    simp only [← range8, e]
    have : ((List.range 7).all fun i => !m.testBit i || T i 7) = false := by
      rw [Bool.eq_false_iff]; intro hh
      obtain ⟨i, hi, hb⟩ := bit_of_pos m h (by omega)
      have := List.all_eq_true.1 hh i (List.mem_range.2 hi)
      simp [hb, h7'] at this
    simp [this]
  · have hb := hi_bit m hm (by omega)
    simp only [h, decide_false, Bool.false_and]
    unfold KBB
    rw [Bool.eq_false_iff]; intro hh
    obtain ⟨j, hj, hall⟩ := List.any_eq_true.1 hh
    have := List.all_eq_true.1 hall 7 (List.mem_range.2 (by decide))
    simp [hb, h7] at this

theorem FB_Fa {T : Nat → Nat → Bool} (h7 : ∀ j, T 7 j = false) (h7' : ∀ i, T i 7 = false) : FB T = Fa T := by
  unfold FB Fa
  rw [← ordB_low, List.filter_filter]
  apply List.filter_congr
  intro m hm
  have := ordB_lt m hm
  rw [KBB_KB h7 h7' this.2 this.1, Bool.and_comm]

theorem FBk_Fc {T : Nat → Nat → Bool} (h7 : ∀ j, T 7 j = false) (h7' : ∀ i, T i 7 = false) (k : Nat) : FBk T k = Fc T k := by
  cases k with
  | zero => rfl
  | succ k =>
    show (FB T).filter _ = (Fa T).filter _
    rw [FB_Fa h7 h7']
    apply List.filter_congr
    intro m hm
    have := (ordA_all m).1 (List.mem_filter.1 hm).1
    rw [pc87 m this.2]

theorem Runs.congr {h w a r : Nat} {M : Nat → Nat → Int} (R : Runs h w a M r) : ∀ {M' : Nat → Nat → Int}, (∀ i, i < h → ∀ j, j < w → M i j = M' i j) → Runs h w a M' r := by
  induction R with
  | stop h0 => intro M' e; exact Runs.stop (fun i hi hih j hj hjw => by rw [← e i hih j hjw]; exact h0 i hi hih j hj hjw)
  | @step a0 M0 p0 q0 r0 F _ ih =>
    intro M' e
    have e' : ∀ i, i < h → ∀ j, j < w → M' i j = _ := fun i hi j hj => (e i hi j hj).symm
    have hap := F.ap; have hph := F.ph; have haq := F.aq; have hqw := F.qw
    refine Runs.step ⟨F.ap, F.ph, F.aq, F.qw, ?_, ?_, ?_⟩ (ih ?_)
    · rw [e' _ F.ph _ F.qw]; exact F.unit
    · intro i hi hip j hj hjw; rw [e' i (by omega) j hjw]; exact F.row i hi hip j hj hjw
    · intro j hj hjq; rw [e' _ F.ph j (by omega)]; exact F.col j hj hjq
    · intro i hi j hj
      have s1 := sw_lt (a := a0) (b := p0) (by omega : a0 < h) F.ph hi
      have s2 := sw_lt (a := a0) (b := q0) (by omega : a0 < w) F.qw hj
      unfold nx
      rw [e _ s1 _ s2, e _ s1 _ F.qw, e _ F.ph _ F.qw, e _ F.ph _ s2]

theorem Good_of {T : Nat → Nat → Bool} (h7 : ∀ j, T 7 j = false) (h7' : ∀ i, T i 7 = false) (h6 : ∀ i, T i 6 = false) : Good T := by
  obtain ⟨r, r', a, b, c, d⟩ := table h6
  have f1 := FBk_Fc h7 h7'
  have f2 := FBk_Fc (T := fl T) h7' h7
  have hm : ∀ (T : Nat → Nat → Bool) (F : Nat → List Nat), (∀ k, F k = Fc T k) → ∀ k i, i < (Fc T k).length → ∀ j, j < (Fc T (k + 1)).length → mat (Fc T) k i j = matB F k i j := by
    intro T F hF k i hi j hj
    unfold mat matB
    rw [hF, hF, inc87]
    rw [List.getD_eq_getElem?_getD, List.getElem?_eq_getElem hj]
    exact (Fc_mem.1 (List.getElem_mem hj)).1.1
  refine ⟨r, r', ?_, ?_, ?_, ?_⟩
  · intro k hk
    rw [f1, f1]
    exact ⟨by have := (a k hk).1; omega, (a k hk).2.congr (hm T _ f1 k)⟩
  · intro k hk
    rw [f2, f2]
    exact ⟨by have := (b k hk).1; omega, (b k hk).2.congr (hm (fl T) _ f2 k)⟩
  · rw [f1, f2]; exact c
  · intro k hk; rw [f1, f2]; exact d k hk

/-! the one table with eight rows -/
def ent (rows : List (List Int)) (i j : Nat) : Int := (rows.getD i []).getD j 0
def tab (h w : Nat) (M : Nat → Nat → Int) : List (List Int) := (List.range h).map (fun i => (List.range w).map (fun j => M i j))

theorem ent_tab {h w : Nat} (M : Nat → Nat → Int) {i j : Nat} (hi : i < h) (hj : j < w) : ent (tab h w M) i j = M i j := by
  unfold ent tab
  simp [List.getD, hi, hj]

def isU (x : Int) : Bool := decide (x = 1) || decide (x = -1)
def fstU (h w a : Nat) (rows : List (List Int)) : Option (Nat × Nat) :=
  match (List.range h).find? (fun p => decide (a ≤ p) && (List.range w).any (fun q => decide (a ≤ q) && isU (ent rows p q))) with
  | none => none
  | some p => match (List.range w).find? (fun q => decide (a ≤ q) && isU (ent rows p q)) with
    | none => none
    | some q => some (p, q)

def sim (h w : Nat) : Nat → Nat → List (List Int) → Option Nat
  | 0, _, _ => none
  | n + 1, a, rows => match fstU h w a rows with
    | some (p, q) => sim h w n (a + 1) (tab h w (nx a p q (ent rows)))
    | none => if (List.range h).all (fun i => (List.range w).all (fun j => decide (i < a) || decide (j < a) || decide (ent rows i j = 0))) then some a else none

theorem find_first {n : Nat} {P : Nat → Bool} {p : Nat} (h : (List.range n).find? P = some p) : p < n ∧ P p = true ∧ ∀ i, i < p → P i = false := by
  have h1 := List.find?_some h
  have h2 := List.mem_of_find?_eq_some h
  refine ⟨List.mem_range.1 h2, h1, ?_⟩
  intro i hi
  rw [List.find?_eq_some_iff_append] at h
  obtain ⟨_, as, bs, e, hall⟩ := h
  have hl : as.length = p := by
    have hlt : as.length < (List.range n).length := by rw [e]; simp
    have := congrArg (fun l => l[as.length]?) e
    simp only [List.getElem?_append_right (Nat.le_refl _), Nat.sub_self, List.getElem?_cons_zero] at this
    rw [List.getElem?_range (by simpa using hlt)] at this
    exact Option.some.inj this
  have hm : i ∈ as := by
    have hlt : i < (List.range n).length := by rw [e]; simp; omega
    have h3 := congrArg (fun l => l[i]?) e
    simp only [List.getElem?_append_left (show i < as.length by omega)] at h3
    rw [List.getElem?_range (by simpa using hlt)] at h3
    exact List.mem_of_getElem? h3.symm
  have := hall i hm
  simpa using this

theorem sim_runs {h w : Nat} : ∀ n a rows r, sim h w n a rows = some r → Runs h w a (ent rows) r := by
  intro n
  induction n with
  | zero => intro a rows r h; cases h
  | succ n ih =>
    intro a rows r hs
    unfold sim at hs
    cases hf : fstU h w a rows with
    | none =>
      rw [hf] at hs
      simp only at hs
      split at hs
      · rename_i hall
        cases hs
        apply Runs.stop
        intro i hi hih j hj hjw
        have := List.all_eq_true.1 (List.all_eq_true.1 hall i (List.mem_range.2 hih)) j (List.mem_range.2 hjw)
        have h1 : ¬ i < a := by omega
        have h2 : ¬ j < a := by omega
        simpa [h1, h2] using this
      · cases hs
    | some pq =>
      obtain ⟨p, q⟩ := pq
      rw [hf] at hs
      simp only at hs
      unfold fstU at hf
      cases hp : (List.range h).find? (fun p => decide (a ≤ p) && (List.range w).any (fun q => decide (a ≤ q) && isU (ent rows p q))) with
      | none => rw [hp] at hf; cases hf
      | some p' =>
        rw [hp] at hf
        simp only at hf
        cases hq : (List.range w).find? (fun q => decide (a ≤ q) && isU (ent rows p' q)) with
        | none => rw [hq] at hf; cases hf
        | some q' =>
          rw [hq] at hf
          simp only [Option.some.injEq, Prod.mk.injEq] at hf
          obtain ⟨rfl, rfl⟩ := hf
          obtain ⟨p1, p2, p3⟩ := find_first hp
          obtain ⟨q1, q2, q3⟩ := find_first hq
          simp only [Bool.and_eq_true, decide_eq_true_eq] at p2 q2
          have F : FU h w a (ent rows) p' q' := by
            refine ⟨p2.1, p1, q2.1, q1, ?_, ?_, ?_⟩
            · have := q2.2; unfold isU at this; simpa using this
            · intro i hi hip j hj hjw
              have := p3 i hip
              simp only [hi, decide_true, Bool.true_and] at this
              have h2 : isU (ent rows i j) = false := by
                cases hu : isU (ent rows i j)
                · rfl
                · have : (List.range w).any (fun q => decide (a ≤ q) && isU (ent rows i q)) = true :=
                    List.any_eq_true.2 ⟨j, List.mem_range.2 hjw, by simp [hj, hu]⟩
                  simp_all
              unfold isU at h2; simpa using h2
            · intro j hj hjq
              have := q3 j hjq
              simp only [hj, decide_true, Bool.true_and] at this
              unfold isU at this; simpa using this
          exact Runs.step F ((ih _ _ _ hs).congr (fun i hi j hj => ent_tab _ hi hj))

def T8 (i j : Nat) : Bool := (([[1, 1, 1, 0, 0, 0], [1, 1, 0, 1, 0, 0], [1, 0, 1, 0, 1, 0], [1, 0, 0, 1, 0, 1], [1, 0, 0, 0, 1, 1], [0, 1, 1, 0, 0, 1], [0, 1, 0, 1, 1, 0], [0, 1, 0, 0, 1, 1]] : List (List Nat)).getD i []).getD j 0 == 1

def simB (T : Nat → Nat → Bool) (k : Nat) : Option Nat :=
  sim (FBk T k).length (FBk T (k + 1)).length 40 0 (tab (FBk T k).length (FBk T (k + 1)).length (matB (FBk T) k))

theorem simB_runs {T : Nat → Nat → Bool} {k r : Nat} (h : simB T k = some r) : Runs (FBk T k).length (FBk T (k + 1)).length 0 (matB (FBk T) k) r :=
  (sim_runs _ _ _ _ h).congr (fun i hi j hj => ent_tab _ hi hj)

theorem s0 : simB T8 0 = some 1 := by decide +kernel
theorem s1 : simB T8 1 = some 7 := by decide +kernel
theorem s2 : simB T8 2 = some 20 := by decide +kernel
theorem s3 : simB T8 3 = some 10 := by decide +kernel
theorem s4 : simB T8 4 = some 2 := by decide +kernel
theorem s5 : simB T8 5 = some 0 := by decide +kernel
theorem t0 : simB (fl T8) 0 = some 1 := by decide +kernel
theorem t1 : simB (fl T8) 1 = some 5 := by decide +kernel
theorem t2 : simB (fl T8) 2 = some 8 := by decide +kernel
theorem t3 : simB (fl T8) 3 = some 0 := by decide +kernel
theorem t4 : simB (fl T8) 4 = some 0 := by decide +kernel
theorem t5 : simB (fl T8) 5 = some 0 := by decide +kernel

def r8 (k : Nat) : Nat := [1, 7, 20, 10, 2, 0].getD k 0
def r8' (k : Nat) : Nat := [1, 5, 8, 0, 0, 0].getD k 0
theorem len8 : ((List.range 6).map fun k => (FBk T8 k).length) = [1, 8, 28, 30, 12, 2] := by decide +kernel
theorem len8' : ((List.range 6).map fun k => (FBk (fl T8) k).length) = [1, 6, 14, 8, 0, 0] := by decide +kernel

theorem Good8 : Good T8 := by
  have l : ∀ k, k < 6 → (FBk T8 k).length = [1, 8, 28, 30, 12, 2].getD k 0 := by
    intro k hk; rw [← len8, List.getD_eq_getElem?_getD, List.getElem?_map, List.getElem?_range hk]; rfl
  have l' : ∀ k, k < 6 → (FBk (fl T8) k).length = [1, 6, 14, 8, 0, 0].getD k 0 := by
    intro k hk; rw [← len8', List.getD_eq_getElem?_getD, List.getElem?_map, List.getElem?_range hk]; rfl
  refine ⟨r8, r8', ?_, ?_, ?_, ?_⟩
  · intro k hk
    match k, hk with
    | 0, _ => exact ⟨by decide, simB_runs s0⟩
    | 1, _ => exact ⟨by decide, simB_runs s1⟩
    | 2, _ => exact ⟨by decide, simB_runs s2⟩
    | 3, _ => exact ⟨by decide, simB_runs s3⟩
    | 4, _ => exact ⟨by decide, simB_runs s4⟩
    | 5, _ => exact ⟨by decide, simB_runs s5⟩
  · intro k hk
    match k, hk with
    | 0, _ => exact ⟨by decide, simB_runs t0⟩
    | 1, _ => exact ⟨by decide, simB_runs t1⟩
    | 2, _ => exact ⟨by decide, simB_runs t2⟩
    | 3, _ => exact ⟨by decide, simB_runs t3⟩
    | 4, _ => exact ⟨by decide, simB_runs t4⟩
    | 5, _ => exact ⟨by decide, simB_runs t5⟩
  · rw [l 0 (by decide), l' 0 (by decide)]; decide
  · intro k hk
    rw [l (k + 1) (by omega), l' (k + 1) (by omega)]
    match k, hk with
    | 0, _ => decide
    | 1, _ => decide
    | 2, _ => decide
    | 3, _ => decide
    | 4, _ => decide

end K63



namespace K63W
open PySem L2

def top (i : Nat) : Stmt := PySem.Challenge.pw_shapeholes_k63_whole_rows_and_columns_of.main.body.getD i (.Pass ⟨0, 0, 0, 0⟩)
abbrev sIsInteger : Stmt := top 1
abbrev sIsIn : Stmt := top 2
abbrev sIsList : Stmt := top 3

/-- names of the top that are still the built-in ones -/
structure Bl (mg : Str → Option Value) : Prop where
  isinstance : mg "isinstance" = none
  int : mg "int" = none
  bool : mg "bool" = none
  tuple : mg "tuple" = none
  list : mg "list" = none
  str : mg "str" = none
  len : mg "len" = none
  all : mg "all" = none
  any : mg "any" = none
  zip : mg "zip" = none
  range : mg "range" = none
  enumerate : mg "enumerate" = none
  sorted : mg "sorted" = none
  min : mg "min" = none
  abs : mg "abs" = none

section
variable {P : Program} {w : World} {K : PySem.W.Frag} {mg : Str → Option Value} {base : Heap}

theorem sc1 : FnScope ["value"] ["value"] (defScope sIsInteger) := ⟨rfl, rfl, rfl, by decide +kernel, rfl, by decide +kernel, by decide +kernel⟩
def spIsInteger : Sp := fun vs H Q _ => ∃ n : Int, vs = [.int n] ∧ Q (.bl true) H
theorem ok_isInteger {f : Addr} {fd : FuncData} (F : Fun K "is_integer" "is_integer" sIsInteger f fd) (B : Bl mg) : FnOk P w K mg base CX0 1 f fd ["value"] spIsInteger := by
  refine F.ok sc1 (fun vs H Q E h => ?_) (fun cdv A outer s H vs Q E hr h => ?_)
  · obtain ⟨n, rfl, _⟩ := h
    rfl
  · obtain ⟨n, rfl, k⟩ := h
    refine ⟨_, pss_one (ps_ret (pe_and (pe_callB call_isi (by rfl) B.isinstance (by decide +kernel) (pa_cons (pv 0) (pa_cons (pe_bltn (v := .ty "int") (by rfl) B.int (by decide +kernel) rfl) pa_nil)))
      (pe_one (pe_not (pe_callB call_isi (by rfl) B.isinstance (by decide +kernel) (pa_cons (pv 0) (pa_cons (pe_bltn (v := .ty "bool") (by rfl) B.bool (by decide +kernel) rfl) pa_nil))))))), ?_⟩
    refine ⟨_, rfl, _, _, _, _, true, rfl, .ty "int", .base (.int n), kit_ty (by decide +kernel), true, rfl, ?_⟩
    refine ⟨_, rfl, _, _, _, _, false, rfl, .ty "bool", .base (.int n), kit_ty (by decide +kernel), false, rfl, ?_⟩
    exact k

theorem sc2 : FnScope ["value", "least", "most"] ["value", "least", "most"] (defScope sIsIn) := ⟨rfl, rfl, rfl, by decide +kernel, rfl, by decide +kernel, by decide +kernel⟩
/-- an int in its range -/
def spIsIn : Sp := fun vs H Q _ => ∃ n l m : Int, vs = [.int n, .int l, .int m] ∧ l ≤ n ∧ n ≤ m ∧ Q (.bl true) H
theorem ok_isIn {f f1 : Addr} {fd fd1 : FuncData} (F : Fun K "is_in" "is_in" sIsIn f fd) (B : Bl mg) (F1 : Fun K "is_integer" "is_integer" sIsInteger f1 fd1) (b1 : Binds K fd1 ["value"] []) (g1 : mg "is_integer" = some (.ref f1)) (k1 : PySem.W.keepIn K (.ref f1) = true) :
    FnOk P w K mg base CX0 2 f fd ["value", "least", "most"] spIsIn := by
  have G1 : FnOk P w K mg base CX0 1 f1 fd1 ["value"] spIsInteger := ok_isInteger F1 B
  refine F.ok sc2 (fun vs H Q E h => ?_) (fun cdv A outer s H vs Q E hr h => ?_)
  · obtain ⟨n, l, m, rfl, _⟩ := h
    rfl
  · obtain ⟨n, l, m, rfl, h1, h2, k⟩ := h
    refine ⟨_, pss_one (ps_ret (pe_and (pe_call G1 hr rfl g1 k1 b1 .nil pass0 (pa_cons (pv 0) pa_nil))
      (pe_one (pe_chain op_le op_le (pv 1) (pv 0) (pv 2))))), ?_⟩
    refine ⟨_, rfl, n, rfl, true, rfl, ?_⟩
    refine ⟨_, rfl, _, rfl, _, _, rfl, rfl, true, ?_, ?_⟩
    · simp [h1]
    · refine ⟨_, rfl, _, _, rfl, rfl, ?_⟩
      show Q (V.bl (decide (n ≤ m))) _
      rw [decide_eq_true h2]; exact k

theorem sc3 : FnScope ["value", "least", "most"] ["value", "least", "most"] (defScope sIsList) := ⟨rfl, rfl, rfl, by decide +kernel, rfl, by decide +kernel, by decide +kernel⟩
/-- a tuple of a length in a range -/
def spIsList (K : PySem.W.Frag) : Sp := fun vs H Q _ => ∃ (t : Addr) (xs : List V) (l m : Int), vs = [.ref t, .int l, .int m] ∧ H t = some (.tup xs) ∧ l ≤ xs.length ∧ (xs.length : Int) ≤ m ∧ Q (.bl true) H
theorem ok_isList {f : Addr} {fd : FuncData} (F : Fun K "is_list" "is_list" sIsList f fd) (B : Bl mg) :
    FnOk P w K mg base CX0 1 f fd ["value", "least", "most"] (spIsList K) := by
  refine F.ok sc3 (fun vs H Q E h => ?_) (fun cdv A outer s H vs Q E hr h => ?_)
  · obtain ⟨t, xs, l, m, rfl, _⟩ := h
    rfl
  · obtain ⟨t, xs, l, m, rfl, hT, h1, h2, k⟩ := h
    refine ⟨_, pss_one (ps_ret (pe_and (pe_callB call_isi (by rfl) B.isinstance (by decide +kernel) (pa_cons (pv 0) (pa_cons (pe_bltn (v := .ty "tuple") (by rfl) B.tuple (by decide +kernel) rfl) pa_nil)))
      (pe_one (pe_chain op_le op_le (pv 1) (pe_callB call_len_seq (by rfl) B.len PySem.boot_len (pa_cons (pv 0) pa_nil)) (pv 2))))), ?_⟩
    refine ⟨_, rfl, _, _, _, _, true, rfl, .ty "tuple", .base (.tup hT), kit_ty (by decide +kernel), true, rfl, ?_⟩
    refine ⟨_, rfl, _, rfl, t, xs, rfl, .inr (SqT.of hT), _, _, rfl, rfl, true, ?_, ?_⟩
    · simp [h1]
    · refine ⟨_, rfl, _, _, rfl, rfl, ?_⟩
      show Q (V.bl (decide ((xs.length : Int) ≤ m))) _
      rw [decide_eq_true h2]; exact k
end
end K63W


namespace K63W
open PySem L2 RZ

abbrev sIsAsc : Stmt := top 15
abbrev sIsSimplex : Stmt := top 16

theorem same_upd {H : Hp} {p : Addr} {o : HO} (h : H p = none) : Same H (upd H p o) := fun b x e => by
  rw [upd_ne (ne_of_none e h)]
  exact e
theorem same_put {H0 H : Hp} {p : Addr} {o : HO} (h0 : H0 p = none) (h : Same H0 H) : Same H0 (upd H p o) := fun b x e => by
  rw [upd_ne (ne_of_none e h0)]
  exact h _ _ e

theorem walk_zipT {K : PySem.W.Frag} {a b : Addr} {xs ys : List V} {n : Nat} (hn : n = min xs.length ys.length) : Walk (ItzT K a b) n (fun H => SqT K H a xs ∧ SqT K H b ys) (YPair (fun i => xs[i]?) (fun i => ys[i]?)) := by
  subst hn
  refine ⟨fun i _ hi q => ?_, fun _ q => ⟨xs, ys, q.1, q.2, by omega⟩, fun i H v H' _ q y => ?_⟩
  · have h1 : i < xs.length := by omega
    have h2 : i < ys.length := by omega
    exact ⟨xs, ys, xs[i], ys[i], q.1, q.2, by simp [h1], by simp [h2]⟩
  · obtain ⟨T, x, z, h1, h2, h3, h4, h5⟩ := y
    exact ⟨T, x, z, h1, h2, h3, h4 xs q.1, h5 ys q.2⟩

/-- a comprehension in work: what stood keeps, the list at D holds what is made so far -/
structure Cmp (H0 : Hp) (D : Addr) (acc : Nat → List V) (i : Nat) (H : Hp) : Prop where
  same : Same H0 H
  lst : H D = some (.lst (acc i))
theorem Cmp.start {H0 : Hp} {D : Addr} {acc : Nat → List V} (hD : H0 D = none) (h0 : acc 0 = []) : Cmp H0 D acc 0 (upd H0 D (.lst [])) :=
  ⟨same_upd hD, by rw [upd_same, h0]⟩
theorem Cmp.put {H0 H H4 : Hp} {D : Addr} {acc : Nat → List V} {i : Nat} {y : V} (c : Cmp H0 D acc i H) (hD : H0 D = none) (s : Same H H4) (e : acc (i + 1) = acc i ++ [y]) (sz : (acc i).length < 1000) :
    ∃ a, H4 D = some (.lst a) ∧ a.length < sizeLine ∧ Cmp H0 D acc (i + 1) (upd H4 D (.lst (a ++ [y]))) :=
  ⟨acc i, s _ _ c.lst, Nat.lt_of_lt_of_le sz (by decide), same_put hD (c.same.trans s), by rw [upd_same, e]⟩
theorem Cmp.skip {H0 H H4 : Hp} {D : Addr} {acc : Nat → List V} {i : Nat} (c : Cmp H0 D acc i H) (s : Same H H4) (e : acc (i + 1) = acc i) : Cmp H0 D acc (i + 1) H4 :=
  ⟨c.same.trans s, by rw [e]; exact s _ _ c.lst⟩
theorem Same.rfl' {H : Hp} : Same H H := fun _ _ e => e
theorem map_at {α : Type} {f : α → V} {l : List α} {i : Nat} {x : V} (h : (l.map f)[i]? = some x) : ∃ a, l[i]? = some a ∧ x = f a := by
  rw [List.getElem?_map] at h
  cases e : l[i]? with
  | none => rw [e] at h; cases h
  | some a => rw [e] at h; exact ⟨a, rfl, (Option.some.inj h).symm⟩
theorem mem_at {α : Type} {l : List α} {i : Nat} {a : α} (h : l[i]? = some a) : a ∈ l := List.mem_of_getElem? h
theorem rep_succ (i : Nat) : (List.replicate (i + 1) true).map V.bl = (List.replicate i true).map V.bl ++ [V.bl true] := by
  rw [List.replicate_succ', List.map_append]; rfl
theorem rep_all (n : Nat) : (List.replicate n true).all id = true := by
  rw [List.all_eq_true]; intro x hx; rw [(List.mem_replicate.1 hx).2]; rfl

theorem cut1 (xs : List V) : cutV xs (some 1) none = xs.drop 1 := by
  unfold cutV
  rw [show HT.sIx xs.length 0 (some 1) = min 1 xs.length from HT.sIx_nat xs.length 0 1, HT.sIx_none]
  cases xs with
  | nil => rfl
  | cons x r =>
    rw [show min 1 (x :: r).length = 1 by
      rw [List.length_cons]
      omega]
    show (List.take ((x :: r).length - 1) r) = r
    rw [List.length_cons, Nat.add_sub_cancel]
    exact List.take_length

section
variable {P : Program} {w : World} {K : PySem.W.Frag} {mg : Str → Option Value} {base : Heap}
theorem sc15 : FnScope ["value", "least", "most", "vertex", "one", "other"] ["value", "least", "most"] (defScope sIsAsc) := ⟨rfl, rfl, rfl, by decide +kernel, rfl, by decide +kernel, by decide +kernel⟩
/-- an ascending tuple of points -/
def spIsAsc : Sp := fun vs H Q _ => ∃ (t : Addr) (ns : List Int) (l m : Int), vs = [.ref t, .int l, .int m] ∧ H t = some (.tup (ns.map V.int)) ∧ l ≤ ns.length ∧ (ns.length : Int) ≤ m ∧ 1 ≤ ns.length ∧ ns.length ≤ 8 ∧
  (∀ n ∈ ns, 0 ≤ n ∧ n ≤ 30) ∧ ns.Pairwise (· < ·) ∧ ∀ H', Same H H' → Q (.bl true) H'

theorem ok_isAsc {f f1 f2 : Addr} {fd fd1 fd2 : FuncData} {t30 : Tok} (F : Fun K "is_ascending" "is_ascending" sIsAsc f fd) (B : Bl mg)
    (G1 : FnOk P w K mg base CX0 1 f1 fd1 ["value", "least", "most"] (spIsList K)) (b1 : Binds K fd1 ["value", "least", "most"] []) (g1 : mg "is_list" = some (.ref f1)) (k1 : PySem.W.keepIn K (.ref f1) = true)
    (G2 : FnOk P w K mg base CX0 2 f2 fd2 ["value", "least", "most"] spIsIn) (b2 : Binds K fd2 ["value", "least", "most"] []) (g2 : mg "is_in" = some (.ref f2)) (k2 : PySem.W.keepIn K (.ref f2) = true)
    (mV : mg "MOST_VERTEX" = some (.int 30 t30)) :
    FnOk P w K mg base CX0 3 f fd ["value", "least", "most"] spIsAsc := by
  refine F.ok sc15 (fun vs H Q E h => ?_) (fun cdv A outer s H vs Q E hr h => ?_)
  · obtain ⟨t, ns, l, m, rfl, _⟩ := h
    rfl
  · obtain ⟨t, ns, l, m, rfl, hT, h1, h2, hn1, h8, hb, hasc, k⟩ := h
    refine ⟨_, pss_cons (ps_if (PW.pt (pw_or (pt_not (pt_val (pe_call G1 (hr.mono (by decide)) rfl g1 k1 b1 .nil pass0 (pa_cons (pv 0) (pa_cons (pv 1) (pa_cons (pv 2) pa_nil))))))
        (pw_or1 (pt_not (pt_val (pe_callB (cr_all rfl) (by rfl) B.all (by decide +kernel) (pa_cons
          (pe_lc (own := [("vertex", 3)]) (g := gName 3) (by rfl) sc15.nd (pi_tup (pv 0)) (blkOk_by (own := [("vertex", 3)]) (N := ["value", "least", "most", "vertex", "one", "other"]) (sc := defScope sIsAsc) (by decide +kernel))
            (fun _ _ _ _ _ => pg_name (i := 3) sc15.nd rfl (Or.inl rfl)) (fun _ _ _ _ _ => pts_nil)
            (fun _ _ _ _ _ => pe_call G2 hr rfl g2 k2 b2 .nil pass0 (pa_cons (pv 3) (pa_cons pe_int (pa_cons (pe_glob (v := .int 30) rfl mV ⟨_, rfl⟩) pa_nil))))) pa_nil)))))))
        (pss_one (ps_ret pe_bl)) pss_nil)
      (pss_one (ps_ret (pe_callB (cr_all rfl) (by rfl) B.all (by decide +kernel) (pa_cons
          (pe_lc (own := [("one", 4), ("other", 5)]) (g := gTup K 2 (gCons (gName 4) (gCons (gName 5) gNil))) (by rfl) sc15.nd (pi_zipA (by rfl) B.zip (pa_cons (pv 0) (pa_cons (pe_slice sl_tup (pv 0) (po_some pe_int) po_none) pa_nil))) (blkOk_by (own := [("one", 4), ("other", 5)]) (N := ["value", "least", "most", "vertex", "one", "other"]) (sc := defScope sIsAsc) (by decide +kernel))
            (fun _ _ _ _ _ => pg_tup rfl (pgs_cons (pg_name (i := 4) sc15.nd rfl (Or.inl rfl)) (pgs_cons (pg_name (i := 5) sc15.nd rfl (Or.inl rfl)) pgs_nil))) (fun _ _ _ _ _ => pts_nil)
            (fun _ _ _ _ _ => pe_cmpR op_lt (pv 4) (pv 5) (nomark _))) pa_nil)))), ?_⟩
    refine ⟨_, rfl, _, rfl, _, rfl, t, _, l, m, rfl, hT, (by rw [List.length_map]; exact h1), (by rw [List.length_map]; exact h2), true, rfl, ?_⟩
    refine iteF ?_
    refine ⟨_, rfl, t, rfl, ⟨_, SqT.of hT⟩, fun D hD => ?_⟩
    refine lc_it (walk_tup (K := K) (a := t) (xs := ns.map V.int)) (Cmp H D fun i => (List.replicate i true).map V.bl) (Cmp.start hD rfl) (fun i H' _ p => SqT.of (p.same _ _ hT)) ?_ ?_
    · intro i x H' H'' hi c ⟨e, hx⟩
      subst e
      obtain ⟨n, hn, rfl⟩ := map_at hx
      rw [List.length_map] at hi
      have hnb := hb n (mem_at hn)
      refine ⟨rfl, ?_⟩
      unfold tYes
      refine iteT ?_
      refine ⟨_, rfl, n, 0, 30, rfl, hnb.1, hnb.2, ?_⟩
      exact c.put hD Same.rfl' (rep_succ i) (by simp; omega)
    · intro H' c
      rw [List.length_map] at c
      refine ⟨D, _, rfl, SqL.of c.lst, ?_⟩
      rw [rep_all]
      refine ⟨_, rfl, iteF ?_⟩
      -- zip(value, value[1:])
      have hT' := c.same _ _ hT
      refine ⟨_, rfl, _, rfl, 1, rfl, t, _, rfl, SqT.of hT', ?_, fun p hp => ?_⟩
      · rintro ⟨q, _⟩
        rw [show HT.sIx (ns.map V.int).length 0 (some 1) = min 1 (ns.map V.int).length from HT.sIx_nat _ 0 1, List.length_map] at q
        omega
      · have s2 : Same H' (upd H' p (.tup (cutV (ns.map V.int) (some 1) none))) := same_upd hp
        have hT2 := s2 _ _ hT'
        refine ⟨t, p, ns.map V.int, (ns.drop 1).map V.int, rfl, .inr ⟨SqT.of hT2, SqT.of (by rw [upd_same, cut1, List.map_drop]), fun D2 hD2 => ?_⟩⟩
        refine lc_it (walk_zipT (K := K) (a := t) (b := p) (xs := ns.map V.int) (ys := (ns.drop 1).map V.int) (n := ns.length - 1) (by simp)) (Cmp (upd H' p (.tup (cutV (ns.map V.int) (some 1) none))) D2 fun i => (List.replicate i true).map V.bl) (Cmp.start hD2 rfl)
          (fun i H'' _ q => ⟨SqT.of (q.same _ _ hT2), SqT.of (q.same _ _ (by rw [upd_same, cut1, List.map_drop]))⟩) ?_ ?_
        · intro i x H1 H2 hi c2 ⟨T, x1, x2, e, hT0, e2, e3, e4⟩
          subst e e2
          obtain ⟨a, ha, rfl⟩ := map_at e3
          obtain ⟨b, hb2, rfl⟩ := map_at e4
          refine ⟨T, [.int a, .int b], rfl, SqT.of upd_same, rfl, _, _, rfl, _, _, rfl, rfl, rfl, ?_⟩
          unfold tYes
          refine iteT ?_
          refine ⟨_, rfl, _, rfl, a, b, rfl, rfl, ?_⟩
          have hab : a < b := by
            rw [List.getElem?_drop] at hb2
            have h1 := (List.getElem?_eq_some_iff.mp ha)
            have h2 := (List.getElem?_eq_some_iff.mp hb2)
            have := (List.pairwise_iff_getElem.1 hasc) i (1 + i) h1.1 h2.1 (by omega)
            rw [h1.2, h2.2] at this; exact this
          exact c2.put hD2 (same_upd hT0) ((rep_succ i).trans (by show _ = _ ++ [V.bl (decide (a < b))]; rw [decide_eq_true hab])) (by simp; omega)
        · intro H3 c3
          refine ⟨D2, _, rfl, SqL.of c3.lst, ?_⟩
          rw [rep_all]
          exact k _ (c.same.trans (s2.trans c3.same))

theorem sc16 : FnScope ["value"] ["value"] (defScope sIsSimplex) := ⟨rfl, rfl, rfl, by decide +kernel, rfl, by decide +kernel, by decide +kernel⟩
def spIsSimplex : Sp := fun vs H Q _ => ∃ (t : Addr) (ns : List Int), vs = [.ref t] ∧ H t = some (.tup (ns.map V.int)) ∧ 1 ≤ ns.length ∧ ns.length ≤ 8 ∧
  (∀ n ∈ ns, 0 ≤ n ∧ n ≤ 30) ∧ ns.Pairwise (· < ·) ∧ ∀ H', Same H H' → Q (.bl true) H'
theorem ok_isSimplex {f f1 : Addr} {fd fd1 : FuncData} {t8 : Tok} (F : Fun K "is_simplex" "is_simplex" sIsSimplex f fd)
    (G1 : FnOk P w K mg base CX0 3 f1 fd1 ["value", "least", "most"] spIsAsc) (b1 : Binds K fd1 ["value", "least", "most"] []) (g1 : mg "is_ascending" = some (.ref f1)) (k1 : PySem.W.keepIn K (.ref f1) = true)
    (mL : mg "MOST_LENGTH" = some (.int 8 t8)) :
    FnOk P w K mg base CX0 4 f fd ["value"] spIsSimplex := by
  refine F.ok sc16 (fun vs H Q E h => ?_) (fun cdv A outer s H vs Q E hr h => ?_)
  · obtain ⟨t, ns, rfl, _⟩ := h
    rfl
  · obtain ⟨t, ns, rfl, hT, h1, h8, hb, hasc, k⟩ := h
    refine ⟨_, pss_one (ps_ret (pe_call G1 hr rfl g1 k1 b1 .nil pass0 (pa_cons (pv 0) (pa_cons pe_int (pa_cons (pe_glob (v := .int 8) rfl mL ⟨_, rfl⟩) pa_nil))))), ?_⟩
    exact ⟨_, rfl, t, ns, 1, 8, rfl, hT, by omega, by omega, h1, h8, hb, hasc, k⟩
end
end K63W


namespace K63W
open PySem L2 RZ StX

abbrev sPartsOf : Stmt := top 17
abbrev sGenerated : Stmt := top 18

/-- addresses with what tuples of ints stand there -/
abbrev TL := List (Addr × List Int)
def TLat (H : Hp) (L : TL) : Prop := ∀ p ∈ L, H p.1 = some (.tup (p.2.map V.int))
def refs (L : TL) : List V := L.map (fun p => V.ref p.1)
theorem TLat.same {H H' : Hp} {L : TL} (h : TLat H L) (s : Same H H') : TLat H' L := fun p hp => s _ _ (h p hp)
theorem TLat.app {H : Hp} {L M : TL} (h : TLat H L) (h2 : TLat H M) : TLat H (L ++ M) := fun p hp => by
  rcases List.mem_append.1 hp with q | q
  · exact h p q
  · exact h2 p q

theorem TLat.put {H : Hp} {L : TL} {D : Addr} {xs : List V} {o : HO} (h : TLat H L) (hD : H D = some (.lst xs)) : TLat (upd H D o) L := fun p hp => by
  have h1 := h p hp
  rw [upd_ne (ne_of h1 hD (by intro z; cases z))]; exact h1
theorem TLat.fresh {H : Hp} {L : TL} {q : Addr} {ns : List Int} (h : TLat H L) (hq : H q = none) : TLat (upd H q (.tup (ns.map V.int))) (L ++ [(q, ns)]) := fun p hp => by
  rcases List.mem_append.1 hp with z | z
  · exact same_upd hq _ _ (h p z)
  · rw [List.mem_singleton.1 z, upd_same]
theorem refs_app (L M : TL) : refs (L ++ M) = refs L ++ refs M := List.map_append
theorem refs_len (L : TL) : (refs L).length = L.length := List.length_map _
theorem refs_drop (L : TL) (n : Nat) : refs (L.drop n) = (refs L).drop n := List.map_drop
/-- all parts of a simplex, the empty one first -/
def partsM (ns : List Int) : List (List Int) := ns.foldl (fun f v => f ++ f.map (· ++ [v])) [[]]
theorem partsM_snoc (ns : List Int) (v : Int) : partsM (ns ++ [v]) = partsM ns ++ (partsM ns).map (· ++ [v]) := by
  unfold partsM; rw [List.foldl_append]; rfl
theorem partsM_len (ns : List Int) : (partsM ns).length = 2 ^ ns.length := by
  have : ∀ (ns : List Int) (f : List (List Int)), (ns.foldl (fun f v => f ++ f.map (· ++ [v])) f).length = f.length * 2 ^ ns.length := by
    intro ns
    induction ns with
    | nil => intro f; simp
    | cons v ns ih =>
      intro f
      rw [List.foldl_cons, ih]
      simp only [List.length_append, List.length_map, List.length_cons, Nat.pow_succ]
      rw [← Nat.two_mul, Nat.mul_comm 2, Nat.mul_assoc, Nat.mul_comm 2]
  have := this ns [[]]
  simpa [partsM] using this

theorem partsM_le (ns : List Int) : ∀ l ∈ partsM ns, l.length ≤ ns.length := by
  have : ∀ (ns : List Int) (f : List (List Int)) (m : Nat), (∀ l ∈ f, l.length ≤ m) → ∀ l ∈ ns.foldl (fun f v => f ++ f.map (· ++ [v])) f, l.length ≤ m + ns.length := by
    intro ns
    induction ns with
    | nil => intro f m hf l hl; have := hf l hl; simpa using this
    | cons v ns ih =>
      intro f m hf l hl
      have := ih (f ++ f.map (· ++ [v])) (m + 1) (by
        intro l hl
        rcases List.mem_append.1 hl with h | h
        · have := hf l h; omega
        · obtain ⟨l', h', rfl⟩ := List.mem_map.1 h
          have := hf l' h'
          simp; omega) l hl
      simp only [List.length_cons]; omega
  intro l hl
  have := this ns [[]] 0 (by intro l hl; rw [List.mem_singleton.1 hl]; simp) l hl
  simpa using this

section
variable {P : Program} {w : World} {K : PySem.W.Frag} {mg : Str → Option Value} {base : Heap}
theorem sc17 : FnScope ["simplex", "found", "vertex", "part"] ["simplex"] (defScope sPartsOf) := ⟨rfl, rfl, rfl, by decide +kernel, rfl, by decide +kernel, by decide +kernel⟩
/-- a new list of new tuples: all parts but the empty one -/
def spPartsOf : Sp := fun vs H Q _ => ∃ (t : Addr) (ns : List Int), vs = [.ref t] ∧ H t = some (.tup (ns.map V.int)) ∧ ns.length ≤ 8 ∧
  ∀ H' p (L : TL), Same H H' → H p = none → H' p = some (.lst (refs L)) → TLat H' L → L.map (·.2) = (partsM ns).drop 1 → Q (.ref p) H'

theorem ok_partsOf {f : Addr} {fd : FuncData} (F : Fun K "parts_of" "parts_of" sPartsOf f fd) :
    FnOk P w K mg base CX0 1 f fd ["simplex"] spPartsOf := by
  refine F.ok sc17 (fun vs H Q E h => ?_) (fun cdv A outer s H vs Q E hr h => ?_)
  · obtain ⟨t, ns, rfl, _⟩ := h
    rfl
  · obtain ⟨t, ns, rfl, hT, h8, k⟩ := h
    refine ⟨_, pss_cons (ps_set (i := 1) sc17.nd rfl (Or.inl rfl) (pe_lst (pa_cons (pe_tup pa_nil) pa_nil)))
      (pss_cons (ps_for PassesOwn.never rfl (pi_tup (pv 0)) (pg_name (i := 2) sc17.nd rfl (Or.inr rfl))
        (pss_one (ps_expr (pe_bm PySem.F.plainAttrs_list PySem.F.slot_list_extend PySem.F.type_list_extend mt_extend (pv 1) (pa_cons
          (pe_lc (own := [("part", 3)]) (g := gName 3) (te := tTup (tStar K (tVar 3) (tCons (tVar 2) tNil))) (by rfl) sc17.nd (pi_list (pv 1)) (blkOk_by (own := [("part", 3)]) (N := ["simplex", "found", "vertex", "part"]) (sc := defScope sPartsOf) (by decide +kernel))
            (fun _ _ _ _ _ => pg_name (i := 3) sc17.nd rfl (Or.inl rfl)) (fun _ _ _ _ _ => pts_nil)
            (fun _ _ _ _ _ => pe_tup (pa_star (pv 3) (pa_cons (pv 2) pa_nil)))) pa_nil)))))
      (pss_one (ps_ret (pe_slice sl_list (pv 1) (po_some pe_int) po_none)))), ?_⟩
    refine ⟨Nat.zero_le _, fun e he => ⟨by show 1 ≤ sizeLine; decide, fun o ho => ?_⟩⟩
    have neo : e ≠ o := fun z => by rw [← z, upd_same] at ho; cases ho
    have ho0 : H o = none := by rw [upd_ne neo.symm] at ho; exact ho
    have s1 : Same H (upd (upd H e (.tup [])) o (.lst [.ref e])) := same_put ho0 (same_upd he)
    refine ⟨_, rfl, t, rfl, ⟨_, SqT.of (s1 _ _ hT)⟩, for_tup (K := K) (a := t) (xs := ns.map V.int)
      (fun i σ H' => ∃ (L : TL) (v : Option V) (u : Option V), σ = [some (.ref t), some (.ref o), v, u] ∧ Same H H' ∧ H' o = some (.lst (refs L)) ∧ TLat H' L ∧ L.map (·.2) = partsM (ns.take i))
      ⟨[(e, [])], none, none, rfl, s1, by rw [upd_same]; rfl, ?_, rfl⟩ (fun i σ H' _ ⟨_, _, _, _, q, _⟩ => SqT.of (q _ _ hT)) ?_ ?_⟩
    · intro p hp
      rw [List.mem_singleton.1 hp, upd_ne neo, upd_same]; rfl
    · rintro i x σ H' hi ⟨L, v, u, rfl, sm, hL, tl, eL⟩
      obtain ⟨n, hn, rfl⟩ := map_at hi
      have hin : i < ns.length := (List.getElem?_eq_some_iff.mp hn).1
      have hlen : L.length ≤ 256 := by
        have := congrArg List.length eL
        rw [List.length_map, partsM_len] at this
        rw [this]
        exact Nat.le_trans (Nat.pow_le_pow_right (by decide) (by rw [List.length_take]; omega : (ns.take i).length ≤ 8)) (by decide)
      refine ⟨_, rfl, .inl ⟨rfl, _, SqL.of hL⟩, _, rfl, o, rfl, ⟨_, SqL.of hL⟩, fun D hD => ?_⟩
      -- the new parts
      refine lc_it (walk_list (K := K) (a := o) (xs := refs L))
        (fun j H2 => Same H' H2 ∧ ∃ M : TL, H2 D = some (.lst (refs M)) ∧ TLat H2 M ∧ M.map (·.2) = (L.take j).map (fun p => p.2 ++ [n]))
        ⟨same_upd hD, [], (by rw [upd_same]; rfl), (fun p hp => nomatch hp), rfl⟩ (fun j H2 _ q => SqL.of (q.1 _ _ hL)) ?_ ?_
      · rintro j x H2 H3 hj ⟨s2, M, hM, tM, eM⟩ ⟨e3, hx⟩
        subst e3
        obtain ⟨p, hp, rfl⟩ := map_at hx
        refine ⟨rfl, ?_⟩
        unfold tYes
        refine iteT ?_
        have hpt := s2 _ _ (tl p (mem_at hp))
        have hp8 : p.2.length ≤ 8 := by
          have h1 : p.2 ∈ partsM (ns.take i) := by rw [← eL]; exact List.mem_map.2 ⟨p, mem_at hp, rfl⟩
          have h2 := partsM_le _ _ h1
          rw [List.length_take] at h2; omega
        refine ⟨_, rfl, p.1, _, rfl, .inl (SqT.of hpt), _, rfl, ?_, fun q hq => ?_⟩
        · show (p.2.map V.int ++ [V.int n]).length ≤ sizeLine
          rw [List.length_append, List.length_map]
          exact Nat.le_trans (show p.2.length + 1 ≤ 9 by omega) (by decide)
        · have e5 : p.2.map V.int ++ [V.int n] = (p.2 ++ [n]).map V.int := by rw [List.map_append]; rfl
          show ∃ acc, upd H3 q (.tup (p.2.map V.int ++ [V.int n])) D = some (.lst acc) ∧ _
          rw [e5]
          have s3 : Same H3 (upd H3 q (.tup ((p.2 ++ [n]).map V.int))) := same_upd hq
          have hM' := s3 _ _ hM
          refine ⟨refs M, hM', ?_, same_put hD (s2.trans s3), M ++ [(q, p.2 ++ [n])], ?_, (TLat.fresh tM hq).put hM', ?_⟩
          · have := congrArg List.length eM
            rw [List.length_map, List.length_map, List.length_take] at this
            rw [refs_len]
            exact Nat.lt_of_le_of_lt (show M.length ≤ 256 by omega) (by decide)
          · rw [upd_same, refs_app]; rfl
          · rw [List.map_append, eM, List.take_add_one, hp, List.map_append]; rfl
      · rintro H2 ⟨s2, M, hM, tM, eM⟩
        have hMl : M.length = L.length := by
          have := congrArg List.length eM
          rw [List.length_map, List.length_map, List.length_take, refs_len] at this
          omega
        have hLo := s2 _ _ hL
        refine ⟨o, D, refs L, refs M, rfl, rfl, hLo, hM, ?_, ?_⟩
        · rw [refs_len, refs_len]
          exact Nat.le_trans (show L.length + M.length ≤ 512 by omega) (by decide)
        · refine ⟨L ++ M, _, _, rfl, same_put ho0 (sm.trans s2), by rw [upd_same, refs_app], (tl.same s2).app tM |>.put hLo, ?_⟩
          rw [List.map_append, eM, refs_len, List.take_length, List.take_add_one, hn]
          show _ = partsM (ns.take i ++ [n])
          rw [partsM_snoc, ← eL, List.map_map]; rfl
    · rintro σ H' ⟨L, v, u, rfl, sm, hL, tl, eL⟩
      refine ⟨_, rfl, 1, rfl, o, _, rfl, SqL.of hL, fun p hp => ?_⟩
      have s3 : Same H' (upd H' p (.lst (cutV (refs L) (some 1) none))) := same_upd hp
      refine k _ p (L.drop 1) (sm.trans s3) (sm.free hp) (by rw [upd_same, cut1, refs_drop]) ?_ ?_
      · intro q hq; exact s3 _ _ (tl q (List.mem_of_mem_drop hq))
      · rw [List.map_drop, eL, List.length_map, List.take_length]
end
end K63W


namespace K63W
open PySem L2 RZ StX

theorem TLat.putD {H : Hp} {L : TL} {D : Addr} {kvs : List (List Key × V)} {o : HO} (h : TLat H L) (hD : H D = some (.dT kvs)) : TLat (upd H D o) L := fun p hp => by
  have h1 := h p hp
  rw [upd_ne (ne_of h1 hD (by intro z; cases z))]; exact h1

/-- a dict as a set of tuples of ints -/
def kI (l : List Int) : List Key := l.map Sum.inl
def setD (L : List (List Int)) : List (List Key × V) := L.map (fun l => (kI l, V.bl true))
theorem kI_inj {a b : List Int} (h : kI a = kI b) : a = b := by
  have : ∀ a b : List Int, kI a = kI b → a = b := by
    intro a
    induction a with
    | nil => intro b h; cases b with
      | nil => rfl
      | cons x b => cases h
    | cons x a ih =>
      intro b h
      cases b with
      | nil => cases h
      | cons y b =>
        have h1 : Sum.inl x = (Sum.inl y : Key) := (List.cons.inj h).1
        have h2 := ih b (List.cons.inj h).2
        rw [h2, Sum.inl.inj h1]
  exact this a b h
theorem kI_kV (l : List Int) : (kI l).map kV = l.map V.int := by
  unfold kI; rw [List.map_map]; rfl
theorem setD_val (L : List (List Int)) (l : List Int) : valV (setD L) (kI l) = if l ∈ L then some (V.bl true) else none := by
  induction L with
  | nil => rfl
  | cons a L ih =>
    by_cases h : a = l
    · subst h
      rw [show setD (a :: L) = (kI a, V.bl true) :: setD L from rfl, valV_pos rfl]; simp
    · rw [show setD (a :: L) = (kI a, V.bl true) :: setD L from rfl, valV_neg (fun e => h (kI_inj e)), ih]
      by_cases h2 : l ∈ L
      · simp [h2]
      · simp [h2, Ne.symm h]
def addM (f : List (List Int)) (p : List Int) : List (List Int) := if p ∈ f then f else f ++ [p]
theorem setD_put (L : List (List Int)) (l : List Int) : putK (setD L) (kI l) (V.bl true) = setD (addM L l) := by
  unfold putK addM
  rw [valV_any, setD_val]
  by_cases h : l ∈ L
  · rw [if_pos h, if_pos h]
    show (if true = true then _ else _) = _
    rw [if_pos rfl]
    unfold setD; rw [List.map_map]
    apply List.map_congr_left; intro a _
    show (if kI a = kI l then (kI a, V.bl true) else (kI a, V.bl true)) = (kI a, V.bl true)
    split <;> rfl
  · rw [if_neg h, if_neg h]
    show (if false = true then _ else _) = _
    rw [if_neg (by decide)]
    unfold setD; rw [List.map_append]; rfl
def addsM (f ps : List (List Int)) : List (List Int) := ps.foldl addM f
def genM (Ls : List (List Int)) : List (List Int) := Ls.foldl (fun f s => if s ∈ f then f else addsM f ((partsM s).drop 1)) []
theorem addM_len (f : List (List Int)) (p : List Int) : f.length ≤ (addM f p).length := by
  unfold addM; split <;> simp
theorem addsM_len (ps : List (List Int)) : ∀ f : List (List Int), f.length ≤ (addsM f ps).length := by
  induction ps with
  | nil => intro f; exact Nat.le_refl _
  | cons p ps ih => intro f; exact Nat.le_trans (addM_len f p) (ih _)
theorem addsM_snoc (f ps : List (List Int)) (p : List Int) : addsM f (ps ++ [p]) = addM (addsM f ps) p := by
  unfold addsM; rw [List.foldl_append]; rfl
theorem genM_snoc (Ls : List (List Int)) (s : List Int) : genM (Ls ++ [s]) = if s ∈ genM Ls then genM Ls else addsM (genM Ls) ((partsM s).drop 1) := by
  unfold genM; rw [List.foldl_append]; rfl
theorem genM_take (Ls : List (List Int)) (i : Nat) : (genM (Ls.take i)).length ≤ (genM Ls).length := by
  have : ∀ (A B : List (List Int)), (genM A).length ≤ (genM (A ++ B)).length := by
    intro A B
    induction B generalizing A with
    | nil => simp
    | cons x B ih =>
      have h := ih (A ++ [x])
      rw [List.append_assoc] at h
      refine Nat.le_trans ?_ h
      rw [genM_snoc]
      split
      · exact Nat.le_refl _
      · exact addsM_len _ _
  have h := this (Ls.take i) (Ls.drop i)
  rwa [List.take_append_drop] at h

section
variable {P : Program} {w : World} {K : PySem.W.Frag} {mg : Str → Option Value} {base : Heap}

theorem sc18L : FnScope ["simplices", "found", "simplex", "part"] ["simplices"] (defScope sGenerated) := ⟨rfl, rfl, rfl, by decide +kernel, rfl, by decide +kernel, by decide +kernel⟩
/-- a new dict of all faces; simplices is a list -/
def spGeneratedL : Sp := fun vs H Q _ => ∃ (a : Addr) (L : TL), vs = [.ref a] ∧ H a = some (.lst (refs L)) ∧ TLat H L ∧ (∀ p ∈ L, p.2.length ≤ 8) ∧ (genM (L.map (·.2))).length ≤ 400 ∧
  ∀ H' d, Same H H' → H d = none → H' d = some (.dT (setD (genM (L.map (·.2))))) → Q (.ref d) H'

theorem ok_generatedL {f fp : Addr} {fd fdp : FuncData} {t4 : Tok} (F : Fun K "generated" "generated" sGenerated f fd) (B : Bl mg)
    (GP : FnOk P w K mg base CX0 1 fp fdp ["simplex"] spPartsOf) (bp : Binds K fdp ["simplex"] []) (gp : mg "parts_of" = some (.ref fp)) (kp : PySem.W.keepIn K (.ref fp) = true)
    (mF : mg "MOST_FACES" = some (.int 400 t4)) :
    FnOk P w K mg base CX0 2 f fd ["simplices"] spGeneratedL := by
  refine F.ok sc18L (fun vs H Q E h => ?_) (fun cdv A outer s H vs Q E hr h => ?_)
  · obtain ⟨t, L, rfl, _⟩ := h
    rfl
  · obtain ⟨a, L, rfl, hA, tl, h8, h400, k⟩ := h
    have hu := hu_of hr
    refine ⟨_, pss_cons (ps_set (i := 1) sc18L.nd rfl (Or.inl rfl) pe_dnewT)
      (pss_cons (ps_for PassesOwn.never rfl (pi_list (pv 0)) (pg_name (i := 2) sc18L.nd rfl (Or.inl rfl))
        (pss_one (ps_if (pt_cmp (pc_dnotin hu (pv 2) (pv 1)))
          (pss_cons (ps_for PassesOwn.never rfl (pi_list (pe_call GP hr rfl gp kp bp .nil pass0 (pa_cons (pv 2) pa_nil))) (pg_name (i := 3) sc18L.nd rfl (Or.inl rfl))
              (pss_one (ps_dput hu (pv 1) (pv 3) pe_bl rfl)))
            (pss_one (ps_if (pt_cmpR op_gt (pe_callB call_len_dT (by rfl) B.len PySem.boot_len (pa_cons (pv 1) pa_nil)) (pe_glob (v := .int 400) rfl mF ⟨_, rfl⟩) (nomark _))
              (pss_one ps_never) pss_nil)))
          pss_nil)))
      (pss_one (ps_ret (pv 1)))), ?_⟩
    refine fun d hd => ?_
    have s1 : Same H (upd H d (.dT [])) := same_upd hd
    refine ⟨_, rfl, a, rfl, ⟨_, SqL.of (s1 _ _ hA)⟩, for_list (K := K) (a := a) (xs := refs L)
      (fun i σ H' => ∃ (v u : Option V), σ = [some (.ref a), some (.ref d), v, u] ∧ Same H H' ∧ H' d = some (.dT (setD (genM ((L.take i).map (·.2))))))
      ⟨none, none, rfl, s1, by rw [upd_same]; rfl⟩ (fun i σ H' _ ⟨_, _, _, q, _⟩ => SqL.of (q _ _ hA)) ?_ ?_⟩
    · rintro i x σ H' hi ⟨v, u, rfl, sm, hD⟩
      obtain ⟨p, hp, rfl⟩ := map_at hi
      have hpt := sm _ _ (tl p (mem_at hp))
      have hg : DGet H' d (.ref p.1) (valV (setD (genM ((L.take i).map (·.2)))) (kI p.2)) := DGet.t hD (by rw [kI_kV]; exact hpt)
      have hnext : genM ((L.take (i + 1)).map (·.2)) = if p.2 ∈ genM ((L.take i).map (·.2)) then genM ((L.take i).map (·.2)) else addsM (genM ((L.take i).map (·.2))) ((partsM p.2).drop 1) := by
        rw [List.take_add_one, hp, List.map_append]; exact genM_snoc _ _
      have hle : (genM ((L.take (i + 1)).map (·.2))).length ≤ 400 := by
        rw [List.map_take]; exact Nat.le_trans (genM_take _ _) h400
      rw [setD_val] at hg
      by_cases hin : p.2 ∈ genM ((L.take i).map (·.2))
      · rw [if_pos hin] at hg
        refine ⟨_, rfl, _, rfl, d, _, rfl, hg, _, rfl, iteF ?_⟩
        exact ⟨_, _, rfl, sm, by rw [hnext, if_pos hin]; exact hD⟩
      · rw [if_neg hin] at hg
        refine ⟨_, rfl, _, rfl, d, _, rfl, hg, _, rfl, iteT ?_⟩
        rw [if_neg hin] at hnext
        refine ⟨_, rfl, p.1, p.2, rfl, hpt, h8 p (mem_at hp), fun H2 l M s2 hl0 hl tM eM => ?_⟩
        have hD2 := s2 _ _ hD
        refine ⟨l, rfl, ⟨_, SqL.of hl⟩, for_list (K := K) (a := l) (xs := refs M)
          (fun j σ H3 => ∃ (u : Option V), σ = [some (.ref a), some (.ref d), some (.ref p.1), u] ∧ Same H H3 ∧ H3 l = some (.lst (refs M)) ∧ TLat H3 M ∧
            H3 d = some (.dT (setD (addsM (genM ((L.take i).map (·.2))) ((M.take j).map (·.2))))))
          ⟨_, rfl, sm.trans s2, hl, tM, hD2⟩ (fun j σ H3 _ ⟨_, _, _, q, _⟩ => SqL.of q) ?_ ?_⟩
        · rintro j y σ H3 hj ⟨u, rfl, s3, hl3, tM3, hD3⟩
          obtain ⟨q, hq, rfl⟩ := map_at hj
          have hlen : (addsM (genM ((L.take i).map (·.2))) ((M.take j).map (·.2))).length ≤ 400 := by
            refine Nat.le_trans ?_ hle
            rw [hnext, ← eM]
            conv => rhs; rw [← List.take_append_drop j M, List.map_append]
            unfold addsM; rw [List.foldl_append]; exact addsM_len _ _
          refine ⟨_, rfl, _, rfl, d, _, rfl, DPut.t hD3 (by rw [kI_kV]; exact tM3 q (mem_at hq)) ?_, ?_⟩
          · unfold setD; rw [List.length_map]; exact Nat.lt_of_le_of_lt hlen (by decide)
          · have nld : l ≠ d := ne_of hl3 hD3 (by intro z; cases z)
            refine ⟨_, rfl, same_put hd s3, by rw [upd_ne nld]; exact hl3, tM3.putD hD3, ?_⟩
            rw [upd_same, setD_put, List.take_add_one, hq, List.map_append]
            exact congrArg (fun z => some (HO.dT (setD z))) (addsM_snoc _ _ _).symm
        · rintro σ H3 ⟨u, rfl, s3, hl3, tM3, hD3⟩
          rw [show (M.take (refs M).length) = M by rw [refs_len]; exact List.take_length, eM, ← hnext] at hD3
          have hng : decide ((400 : Int) < ((setD (genM ((L.take (i + 1)).map (·.2)))).length : Nat)) = false := by
            unfold setD; rw [List.length_map]; exact decide_eq_false (by omega)
          refine ⟨_, rfl, d, _, rfl, hD3, _, _, rfl, rfl, false, ?_, iteF ?_⟩
          · exact congrArg V.bl hng
          · exact ⟨_, _, rfl, s3, hD3⟩
    · rintro σ H' ⟨v, u, rfl, sm, hD⟩
      rw [refs_len, List.take_length] at hD
      exact ⟨_, rfl, k _ d sm hd hD⟩

theorem sc18T : FnScope ["simplices", "found", "simplex", "part"] ["simplices"] (defScope sGenerated) := ⟨rfl, rfl, rfl, by decide +kernel, rfl, by decide +kernel, by decide +kernel⟩
/-- a new dict of all faces; simplices is a tuple -/
def spGeneratedT : Sp := fun vs H Q _ => ∃ (a : Addr) (L : TL), vs = [.ref a] ∧ H a = some (.tup (refs L)) ∧ TLat H L ∧ (∀ p ∈ L, p.2.length ≤ 8) ∧ (genM (L.map (·.2))).length ≤ 400 ∧
  ∀ H' d, Same H H' → H d = none → H' d = some (.dT (setD (genM (L.map (·.2))))) → Q (.ref d) H'

theorem ok_generatedT {f fp : Addr} {fd fdp : FuncData} {t4 : Tok} (F : Fun K "generated" "generated" sGenerated f fd) (B : Bl mg)
    (GP : FnOk P w K mg base CX0 1 fp fdp ["simplex"] spPartsOf) (bp : Binds K fdp ["simplex"] []) (gp : mg "parts_of" = some (.ref fp)) (kp : PySem.W.keepIn K (.ref fp) = true)
    (mF : mg "MOST_FACES" = some (.int 400 t4)) :
    FnOk P w K mg base CX0 2 f fd ["simplices"] spGeneratedT := by
  refine F.ok sc18T (fun vs H Q E h => ?_) (fun cdv A outer s H vs Q E hr h => ?_)
  · obtain ⟨t, L, rfl, _⟩ := h
    rfl
  · obtain ⟨a, L, rfl, hA, tl, h8, h400, k⟩ := h
    have hu := hu_of hr
    refine ⟨_, pss_cons (ps_set (i := 1) sc18T.nd rfl (Or.inl rfl) pe_dnewT)
      (pss_cons (ps_for PassesOwn.never rfl (pi_tup (pv 0)) (pg_name (i := 2) sc18T.nd rfl (Or.inl rfl))
        (pss_one (ps_if (pt_cmp (pc_dnotin hu (pv 2) (pv 1)))
          (pss_cons (ps_for PassesOwn.never rfl (pi_list (pe_call GP hr rfl gp kp bp .nil pass0 (pa_cons (pv 2) pa_nil))) (pg_name (i := 3) sc18T.nd rfl (Or.inl rfl))
              (pss_one (ps_dput hu (pv 1) (pv 3) pe_bl rfl)))
            (pss_one (ps_if (pt_cmpR op_gt (pe_callB call_len_dT (by rfl) B.len PySem.boot_len (pa_cons (pv 1) pa_nil)) (pe_glob (v := .int 400) rfl mF ⟨_, rfl⟩) (nomark _))
              (pss_one ps_never) pss_nil)))
          pss_nil)))
      (pss_one (ps_ret (pv 1)))), ?_⟩
    refine fun d hd => ?_
    have s1 : Same H (upd H d (.dT [])) := same_upd hd
    refine ⟨_, rfl, a, rfl, ⟨_, SqT.of (s1 _ _ hA)⟩, for_tup (K := K) (a := a) (xs := refs L)
      (fun i σ H' => ∃ (v u : Option V), σ = [some (.ref a), some (.ref d), v, u] ∧ Same H H' ∧ H' d = some (.dT (setD (genM ((L.take i).map (·.2))))))
      ⟨none, none, rfl, s1, by rw [upd_same]; rfl⟩ (fun i σ H' _ ⟨_, _, _, q, _⟩ => SqT.of (q _ _ hA)) ?_ ?_⟩
    · rintro i x σ H' hi ⟨v, u, rfl, sm, hD⟩
      obtain ⟨p, hp, rfl⟩ := map_at hi
      have hpt := sm _ _ (tl p (mem_at hp))
      have hg : DGet H' d (.ref p.1) (valV (setD (genM ((L.take i).map (·.2)))) (kI p.2)) := DGet.t hD (by rw [kI_kV]; exact hpt)
      have hnext : genM ((L.take (i + 1)).map (·.2)) = if p.2 ∈ genM ((L.take i).map (·.2)) then genM ((L.take i).map (·.2)) else addsM (genM ((L.take i).map (·.2))) ((partsM p.2).drop 1) := by
        rw [List.take_add_one, hp, List.map_append]; exact genM_snoc _ _
      have hle : (genM ((L.take (i + 1)).map (·.2))).length ≤ 400 := by
        rw [List.map_take]; exact Nat.le_trans (genM_take _ _) h400
      rw [setD_val] at hg
      by_cases hin : p.2 ∈ genM ((L.take i).map (·.2))
      · rw [if_pos hin] at hg
        refine ⟨_, rfl, _, rfl, d, _, rfl, hg, _, rfl, iteF ?_⟩
        exact ⟨_, _, rfl, sm, by rw [hnext, if_pos hin]; exact hD⟩
      · rw [if_neg hin] at hg
        refine ⟨_, rfl, _, rfl, d, _, rfl, hg, _, rfl, iteT ?_⟩
        rw [if_neg hin] at hnext
        refine ⟨_, rfl, p.1, p.2, rfl, hpt, h8 p (mem_at hp), fun H2 l M s2 hl0 hl tM eM => ?_⟩
        have hD2 := s2 _ _ hD
        refine ⟨l, rfl, ⟨_, SqL.of hl⟩, for_list (K := K) (a := l) (xs := refs M)
          (fun j σ H3 => ∃ (u : Option V), σ = [some (.ref a), some (.ref d), some (.ref p.1), u] ∧ Same H H3 ∧ H3 l = some (.lst (refs M)) ∧ TLat H3 M ∧
            H3 d = some (.dT (setD (addsM (genM ((L.take i).map (·.2))) ((M.take j).map (·.2))))))
          ⟨_, rfl, sm.trans s2, hl, tM, hD2⟩ (fun j σ H3 _ ⟨_, _, _, q, _⟩ => SqL.of q) ?_ ?_⟩
        · rintro j y σ H3 hj ⟨u, rfl, s3, hl3, tM3, hD3⟩
          obtain ⟨q, hq, rfl⟩ := map_at hj
          have hlen : (addsM (genM ((L.take i).map (·.2))) ((M.take j).map (·.2))).length ≤ 400 := by
            refine Nat.le_trans ?_ hle
            rw [hnext, ← eM]
            conv => rhs; rw [← List.take_append_drop j M, List.map_append]
            unfold addsM; rw [List.foldl_append]; exact addsM_len _ _
          refine ⟨_, rfl, _, rfl, d, _, rfl, DPut.t hD3 (by rw [kI_kV]; exact tM3 q (mem_at hq)) ?_, ?_⟩
          · unfold setD; rw [List.length_map]; exact Nat.lt_of_le_of_lt hlen (by decide)
          · have nld : l ≠ d := ne_of hl3 hD3 (by intro z; cases z)
            refine ⟨_, rfl, same_put hd s3, by rw [upd_ne nld]; exact hl3, tM3.putD hD3, ?_⟩
            rw [upd_same, setD_put, List.take_add_one, hq, List.map_append]
            exact congrArg (fun z => some (HO.dT (setD z))) (addsM_snoc _ _ _).symm
        · rintro σ H3 ⟨u, rfl, s3, hl3, tM3, hD3⟩
          rw [show (M.take (refs M).length) = M by rw [refs_len]; exact List.take_length, eM, ← hnext] at hD3
          have hng : decide ((400 : Int) < ((setD (genM ((L.take (i + 1)).map (·.2)))).length : Nat)) = false := by
            unfold setD; rw [List.length_map]; exact decide_eq_false (by omega)
          refine ⟨_, rfl, d, _, rfl, hD3, _, _, rfl, rfl, false, ?_, iteF ?_⟩
          · exact congrArg V.bl hng
          · exact ⟨_, _, rfl, s3, hD3⟩
    · rintro σ H' ⟨v, u, rfl, sm, hD⟩
      rw [refs_len, List.take_length] at hD
      exact ⟨_, rfl, k _ d sm hd hD⟩
end
end K63W


namespace L2
open PySem PySem.Spec PyProof.Rows PySem.W
/-- sorted(xs), xs a list of objects that read as alike data, of any length -/
def rSortD (K : PySem.W.Frag) : List V → Hp → VK → Prop := fun vs H Q => ∃ (β : Type) (bs : List β) (adr : β → Addr) (enc : β → PyData) (a : Addr), vs = [V.ref a] ∧ SqL K H a (bs.map fun b => V.ref (adr b)) ∧
  (∀ b ∈ bs, Dp K H (.ref (adr b)) (enc b)) ∧ AllAlike (bs.map enc) ∧ Sortable (bs.map enc) ∧ (∀ b ∈ bs, (enc b).depth ≤ 8) ∧
  ∀ p, H p = none → Q (.ref p) (upd H p (.lst ((bs.mergeSort (dataLe false enc)).map fun b => V.ref (adr b))))
theorem valsRefsD {β : Type} {adr : β → Addr} : ∀ {bs : List β} {us : List Value}, Vals (bs.map fun b => V.ref (adr b)) us → us = bs.map fun b => Value.ref (adr b)
  | [], _, h => by cases h; rfl
  | b :: bs, _, h => by
    cases h with
    | cons r t =>
      have e : _ = Value.ref (adr b) := r
      rw [e, valsRefsD t]; rfl
theorem refsValsD {β : Type} {adr : β → Addr} : ∀ bs : List β, Vals (bs.map fun b => V.ref (adr b)) (bs.map fun b => Value.ref (adr b))
  | [] => .nil
  | b :: bs => .cons rfl (refsValsD bs)
theorem each_refs {β : Type} {R : Value → β → Prop} {f : β → Value} : ∀ {bs : List β}, (∀ b ∈ bs, R (f b) b) → EachIs R (bs.map f) bs
  | [], _ => .nil
  | b :: bs, h => .cons (h b (by simp)) (each_refs fun c hc => h c (by simp [hc]))
theorem each_back {β : Type} {adr : β → Addr} : ∀ {bs : List β} {us : List Value}, EachIs (fun v b => v = Value.ref (adr b)) us bs → us = bs.map fun b => Value.ref (adr b)
  | [], _, h => by cases h; rfl
  | b :: bs, _, h => by
    cases h with
    | cons r t => rw [r, each_back t]; rfl
section
variable {X : Cx}
theorem cr_sortedD (hu : X.A.units + 64 < cLine) : CallR X (.builtin "sorted") (rSortD X.K) := by
  intro pins s σ H vs us Q I r h
  obtain ⟨β, bs, adr, enc, a, rfl, hs, hd, hal, hk, h8, q⟩ := h
  obtain ⟨its, rv, hl, hz⟩ := I.list hs
  obtain ⟨u, rfl, ru⟩ := vals1 r
  obtain rfl : u = Value.ref a := ru
  have ei := valsRefsD rv
  subst ei
  have hl' : s.heap.IsList a (List.toArray (bs.map fun b => Value.ref (adr b))) := hl.isList
  have hlen : bs.length ≤ sizeLine := by
    have := hz
    simpa using this
  refine sorted_data (R := fun v b => v = Value.ref (adr b)) (enc := enc) hl' (each_refs fun b _ => rfl) (each_refs fun b hb => Dp.reads I (enc b) _ _ (hd b hb) rfl) hal hk hlen (fun b hb => ?_) fun out ho he => ?_
  · have := h8 b hb; omega
  · have eo := each_back he
    refine ⟨.ref (s.heap.objs.size + 1), upd H (s.heap.objs.size + 1) (.lst ((bs.mergeSort (dataLe false enc)).map fun b => V.ref (adr b))), ?_, rfl, q _ ?_⟩
    · obtain ⟨n, hn⟩ := sortedAll_at s.heap (bs.map fun b => Value.ref (adr b)) (List.toArray out)
      refine I.laid (t' := s.toks) (fun b o e => sortedAll_old e) (Nat.le_succ _) ⟨?_, out, n, ?_, hn⟩
      · rw [List.length_map, List.length_mergeSort]; exact hlen
      · rw [eo]; exact refsValsD _
    · exact I.hok.fresh (Nat.le_succ _)
end
end L2


namespace L2
open PySem PySem.Spec PyProof.Rows PySem.W
/-- the read half of xs[i] op= e, xs a tracked list -/
def rGetL (K : PySem.W.Frag) : V → V → Hp → VK → Prop := fun o i H Q => ∃ (p : Addr) (xs : List V) (k : Nat) (x : V), o = .ref p ∧ i = .int k ∧ SqL K H p xs ∧ xs[k]? = some x ∧ Q x H
theorem dpAll_map {K : PySem.W.Frag} {H : Hp} {β : Type} {adr : β → Addr} {enc : β → PyData} : ∀ {bs : List β}, (∀ b ∈ bs, Dp K H (.ref (adr b)) (enc b)) → DpAll K H (bs.map fun b => V.ref (adr b)) (bs.map enc)
  | [], _ => .nil
  | b :: bs, h => .cons (h b (by simp)) (dpAll_map fun c hc => h c (by simp [hc]))
/-- min(xs), xs a list of objects that read as alike data, not empty -/
def rMinD (K : PySem.W.Frag) : List V → Hp → VK → Prop := fun vs H Q => ∃ (β : Type) (b0 : β) (bs : List β) (adr : β → Addr) (enc : β → PyData) (a : Addr), vs = [V.ref a] ∧ SqL K H a ((b0 :: bs).map fun b => V.ref (adr b)) ∧
  (∀ b ∈ b0 :: bs, Dp K H (.ref (adr b)) (enc b)) ∧ AlikeAll ((b0 :: bs).map enc) ∧ PyData.depthAll ((b0 :: bs).map enc) ≤ 8 ∧ ∀ b ∈ b0 :: bs, enc b = minD (enc b0) (bs.map enc) → Q (.ref (adr b)) H
/-- any(xs), xs a list of ints -/
def rAnyI (K : PySem.W.Frag) : List V → Hp → VK → Prop := fun vs H Q => ∃ (a : Addr) (ns : List Int), vs = [V.ref a] ∧ SqL K H a (ns.map V.int) ∧ Q (.bl (ns.any fun n => n != 0)) H
section
variable {X : Cx}
theorem get_list : PGet X (rGetL X.K) := by
  intro pins s σ H o i ov iv Q I ro ri h
  obtain ⟨p, xs, k, x, rfl, rfl, hs, hx, q⟩ := h
  cases ro
  obtain ⟨t, rfl⟩ := ri
  obtain ⟨its, r, pl, hz⟩ := I.list hs
  obtain ⟨w, ew, rw'⟩ := r.get hx
  have hk : k < xs.length := (List.getElem?_eq_some_iff.mp hx).1
  have hn := line63
  exact wpAny_getItem_list pl.isList (by omega) (by omega) (by simpa using ew) ⟨x, H, I, rw', q⟩
theorem cr_minD (hc : X.calm = true) (hu : X.A.units + 64 < cLine) : CallR X (.builtin "min") (rMinD X.K) := by
  intro pins s σ H vs us Q I r h
  obtain ⟨β, b0, bs, adr, enc, a, rfl, hs, hd, hal, h8, q⟩ := h
  obtain ⟨its, rv, hl, hz⟩ := I.list hs
  obtain ⟨u, rfl, ru⟩ := vals1 r
  obtain rfl : u = Value.ref a := ru
  have ei := valsRefsD rv
  subst ei
  obtain ⟨as, ra⟩ := Dp.readsAll I _ _ _ (dpAll_map hd) rv
  refine min_list_data (I.ok.hd hc) hl.isList ra hal (by show X.A.units + 1 + PyData.depthAll ((b0 :: bs).map enc) < cLine; omega) fun i v h' tk cs hi rd hk => ?_
  have hi' : ((b0 :: bs).map fun b => Value.ref (adr b))[i]? = some v := by simpa using hi
  rw [List.getElem?_map] at hi'
  obtain ⟨b, hb, rfl⟩ := Option.map_eq_some_iff.mp hi'
  have hm : b ∈ b0 :: bs := List.mem_of_getElem? hb
  obtain ⟨ds, r1⟩ := Dp.reads I (enc b) _ _ (hd b hm) rfl
  have e := (PySem.Reads.unique (PyProof.Rows.Reads.keeps hk r1) _ _ rd).1
  exact ⟨.ref (adr b), H, I.kept hk, rfl, q b hm e⟩
theorem truth_intsD {prog : Program} {w : World} {A : Around} {ns : List Int} {its : List Value} (e : IntsAre its ns) :
    TruthOf prog w A (fun i v => its.toArray[i]? = some v) (fun i => (ns.map fun n => n != 0).getD i false) := fun i v s Q E hv hq => by
  have hv' : its[i]? = some v := by simpa using hv
  have hi : i < ns.length := by
    rw [← e.length]; exact (List.getElem?_eq_some_iff.mp hv').1
  obtain ⟨t, ht⟩ := e.get i ns[i] (List.getElem?_eq_getElem hi)
  rw [hv'] at ht
  cases ht
  have hq' : Q ((ns.map fun n => n != 0).getD i false) s := hq
  have hg : (ns.map fun n => n != 0).getD i false = (ns[i] != 0) := by
    rw [List.getD_eq_getElem?_getD, List.getElem?_map, List.getElem?_eq_getElem hi]; rfl
  rw [hg] at hq'
  exact PyProof.Rows.truthy_int hq'
theorem cr_anyI (hc : X.calm = true) : CallR X (.builtin "any") (rAnyI X.K) := by
  intro pins s σ H vs us Q I r h
  obtain ⟨a, ns, rfl, hs, q⟩ := h
  obtain ⟨its, rv, hl, _⟩ := I.list hs
  rw [Vals.ref1 r]
  have hb := rv.ints
  refine call_any_walk (iter_any hl.isList fun s₂ e2 st hne => ?_)
  subst e2
  refine ⟨_, _, _, _, _, _, _, rfl, Walks.list (A := X.A.in1) (I.ok.hd hc) _ a hne its.toArray, st, truth_intsD hb, fun h' tk hk => ?_⟩
  refine ⟨.bl _, H, I.kept fun b o eo => hk b o (fun hmem => ?_) (Heap.get?_push_of_some _ eo), ?_, q⟩
  · rcases List.mem_cons.mp hmem with e1 | hmem
    · exact absurd (e1 ▸ Heap.lt_size eo) (Nat.lt_irrefl _)
    · cases hmem
  · show Value.bool _ = Value.bool _
    have e3 := any_range (ns.map fun n => n != 0)
    rw [List.length_map, List.any_map] at e3
    rw [List.size_toArray, hb.length]
    exact congrArg Value.bool e3
/-- * of two factors within the model's bit line -/
def CMulB (i j : Int) : Prop := i.natAbs.log2 + j.natAbs.log2 + 2 ≤ 134217728
theorem CMulB.ok {i j : Int} (h : CMulB i j) : IntMulOk i j := by
  have b : ∀ x : Int, Builtin.Int.intBits x ≤ x.natAbs.log2 + 1 := fun x => by
    unfold Builtin.Int.intBits
    split <;> omega
  have h1 := b i
  have h2 := b j
  have h3 : i.natAbs.log2 + j.natAbs.log2 + 2 ≤ 134217728 := h
  have e : bitsLine = 134217728 := by decide
  unfold IntMulOk
  intro z
  rw [Bool.and_eq_true] at z
  have z2 := z.2
  unfold Builtin.Int.intTooBig at z2
  have z3 := of_decide_eq_true z2
  rw [e] at z3
  omega
theorem op_mulB : OpR X (binaryOp .Mult) (rI CMulB fun i j => .int (i * j)) := opI fun _ _ _ _ _ _ _ hc q => mul_int q hc.ok
end
theorem big_mul {i j : Int} {a b : Nat} (ha : i.natAbs < 2 ^ a) (hb : j.natAbs < 2 ^ b) (h0 : 0 < a) (h1 : 0 < b) (h : a + b ≤ 134217728) : CMulB i j := by
  have x := PySem.Flt.log2_lt_of h0 ha
  have y := PySem.Flt.log2_lt_of h1 hb
  unfold CMulB
  omega
end L2


namespace K63W
open PySem L2 RZ StX PySem.W

abbrev sInOrder : Stmt := top 19

def rLenQ (K : PySem.W.Frag) : List V → Hp → VK → Prop := fun xs H Q => ∃ p ys, xs = [.ref p] ∧ (SqL K H p ys ∨ SqT K H p ys) ∧ Q (.int ys.length) H
/-- a tuple of ints as data -/
def dT (ns : List Int) : PyData := .tuple (ns.map PyData.int)
/-- its length, then itself -/
def dO (ns : List Int) : PyData := .tuple [.int ns.length, dT ns]
/-- the order by length, then as tuples -/
noncomputable def leO (a b : Addr × List Int) : Bool := dataLe false (fun p : Addr × List Int => dO p.2) a b

theorem alikeI : ∀ a b : List Int, alikeAll (a.map PyData.int) (b.map PyData.int) = true := by
  intro a
  induction a with
  | nil => intro b; cases b <;> simp [alikeAll]
  | cons x a ih =>
    intro b
    cases b with
    | nil => simp [alikeAll]
    | cons y b => simp [alikeAll, alike, ih b]
theorem alikeT (a b : List Int) : alike (dT a) (dT b) = true := by
  unfold dT; simp only [alike]; exact alikeI a b
theorem alikeO (a b : List Int) : alike (dO a) (dO b) = true := by
  unfold dO; simp only [alike, alikeAll, alikeT, Bool.and_self]
theorem dpInts {K : PySem.W.Frag} {H : Hp} : ∀ ns : List Int, DpAll K H (ns.map V.int) (ns.map PyData.int)
  | [] => .nil
  | n :: ns => .cons (.int n) (dpInts ns)
theorem dpT {K : PySem.W.Frag} {H : Hp} {a : Addr} {ns : List Int} (h : H a = some (.tup (ns.map V.int))) : Dp K H (.ref a) (dT ns) := .tup (SqT.of h) (dpInts ns)
theorem depthI : ∀ ns : List Int, PyData.depthAll (ns.map PyData.int) = 0
  | [] => by simp [PyData.depthAll]
  | n :: ns => by simp [PyData.depthAll, PyData.depth, depthI ns]
theorem depthT (ns : List Int) : (dT ns).depth = 1 := by
  unfold dT; simp [PyData.depth, depthI]
theorem depthO (ns : List Int) : (dO ns).depth = 2 := by
  unfold dO; simp [PyData.depth, PyData.depthAll, depthT]

section
variable {P : Program} {w : World} {K : PySem.W.Frag} {mg : Str → Option Value} {base : Heap}
theorem sc19 : FnScope ["simplices", "simplex", "pair"] ["simplices"] (defScope sInOrder) := ⟨rfl, rfl, rfl, by decide +kernel, rfl, by decide +kernel, by decide +kernel⟩
/-- a new list of the same tuples, by length, then ascending -/
def spInOrderL : Sp := fun vs H Q _ => ∃ (a : Addr) (L : TL), vs = [.ref a] ∧ H a = some (.lst (refs L)) ∧ TLat H L ∧ L.length ≤ 400 ∧
  ∀ H' p, Same H H' → H p = none → H' p = some (.lst (refs (L.mergeSort leO))) → Q (.ref p) H'

theorem ok_inOrderL {f : Addr} {fd : FuncData} (F : Fun K "in_order" "in_order" sInOrder f fd) (B : Bl mg) :
    FnOk P w K mg base CX0 1 f fd ["simplices"] spInOrderL := by
  refine F.ok sc19 (fun vs H Q E h => ?_) (fun cdv A outer s H vs Q E hr h => ?_)
  · obtain ⟨t, L, rfl, _⟩ := h
    rfl
  · obtain ⟨a, L, rfl, hA, tl, h400, k⟩ := h
    refine ⟨_, pss_one (ps_ret (pe_lc (own := [("pair", 2)]) (g := gName 2) (te := tOp (rIxT K) (tVar 2) (tC (.int 1))) (by rfl) sc19.nd
        (pi_list (pe_callB (cr_sortedD hr.units) (by rfl) B.sorted (by decide +kernel) (pa_cons
          (pe_lc (own := [("simplex", 1)]) (g := gName 1) (te := tTup (tCons (tCB (rLenQ K) (tCons (tVar 1) tNil)) (tCons (tVar 1) tNil))) (by rfl) sc19.nd (pi_list (pv 0)) (blkOk_by (own := [("simplex", 1)]) (N := ["simplices", "simplex", "pair"]) (sc := defScope sInOrder) (by decide +kernel))
            (fun _ _ _ _ _ => pg_name (i := 1) sc19.nd rfl (Or.inl rfl)) (fun _ _ _ _ _ => pts_nil)
            (fun _ _ _ _ _ => pe_tup (pa_cons (pe_callB call_len_seq (by rfl) B.len PySem.boot_len (pa_cons (pv 1) pa_nil)) (pa_cons (pv 1) pa_nil)))) pa_nil)))
        (blkOk_by (own := [("pair", 2)]) (N := ["simplices", "simplex", "pair"]) (sc := defScope sInOrder) (by decide +kernel))
        (fun _ _ _ _ _ => pg_name (i := 2) sc19.nd rfl (Or.inl rfl)) (fun _ _ _ _ _ => pts_nil)
        (fun _ _ _ _ _ => pe_ix ix_tup (pv 2) pe_int (fun _ _ => rfl)))), ?_⟩
    refine ⟨_, rfl, a, rfl, ⟨_, SqL.of hA⟩, fun D hD => ?_⟩
    refine lc_it (walk_list (K := K) (a := a) (xs := refs L))
      (fun j H2 => Same H H2 ∧ ∃ M : List (Addr × (Addr × List Int)), H2 D = some (.lst (M.map fun b => V.ref b.1)) ∧ M.map (·.2) = L.take j ∧
        ∀ b ∈ M, H2 b.1 = some (.tup [.int b.2.2.length, .ref b.2.1]))
      ⟨same_upd hD, [], (by rw [upd_same]; rfl), rfl, (fun b hb => nomatch hb)⟩ (fun j H2 _ q => SqL.of (q.1 _ _ hA)) ?_ ?_
    · rintro j x H2 H3 hj ⟨s2, M, hM, eM, tM⟩ ⟨e3, hx⟩
      subst e3
      obtain ⟨p, hp, rfl⟩ := map_at hx
      have hpt := s2 _ _ (tl p (mem_at hp))
      refine ⟨rfl, ?_⟩
      unfold tYes
      refine iteT ?_
      refine ⟨_, rfl, p.1, _, rfl, .inr (SqT.of hpt), _, rfl, (by show 2 ≤ sizeLine; decide), fun q hq => ?_⟩
      rw [List.length_map]
      have s3 : Same H3 (upd H3 q (.tup [.int p.2.length, .ref p.1])) := same_upd hq
      have hM' := s3 _ _ hM
      have hMl : M.length ≤ 400 := by
        have := congrArg List.length eM
        rw [List.length_map, List.length_take] at this; omega
      refine ⟨_, hM', (by rw [List.length_map]; exact Nat.lt_of_le_of_lt hMl (by decide)), same_put hD (s2.trans s3), M ++ [(q, p)], ?_, ?_, ?_⟩
      · rw [upd_same, List.map_append]; rfl
      · rw [List.map_append, eM, List.take_add_one, hp]; rfl
      · intro b hb
        rcases List.mem_append.1 hb with h | h
        · have h1 := s3 _ _ (tM b h)
          rw [upd_ne (ne_of h1 hM' (by intro z; cases z))]; exact h1
        · rw [List.mem_singleton.1 h]
          have h1 : upd H3 q (.tup [.int p.2.length, .ref p.1]) q = some (.tup [.int p.2.length, .ref p.1]) := upd_same
          rw [upd_ne (ne_of h1 hM' (by intro z; cases z))]; exact h1
    · rintro H2 ⟨s2, M, hM, eM, tM⟩
      rw [refs_len, List.take_length] at eM
      have hMl : M.length = L.length := by rw [← eM, List.length_map]
      have tl2 : ∀ b ∈ M, H2 b.2.1 = some (.tup (b.2.2.map V.int)) := fun b hb => s2 _ _ (tl b.2 (by rw [← eM]; exact List.mem_map.2 ⟨b, hb, rfl⟩))
      refine ⟨_, M, (fun b => b.1), (fun b => dO b.2.2), D, rfl, SqL.of hM, ?_, AllAlike.of (fun a b => alikeO _ _), Sortable.tuples (fun b => ⟨_, _, rfl⟩), (fun b _ => by rw [depthO]; decide), fun p hp => ?_⟩
      · intro b hb
        exact .tup (SqT.of (tM b hb)) (.cons (.int _) (.cons (dpT (tl2 b hb)) .nil))
      · have s3 : Same H2 (upd H2 p (.lst ((M.mergeSort (dataLe false fun b => dO b.2.2)).map fun b => V.ref b.1))) := same_upd hp
        have eS : (M.mergeSort (dataLe false fun b => dO b.2.2)).map (·.2) = L.mergeSort leO := by
          rw [← eM]; exact sort_maps (r := dataLe false fun b : Addr × (Addr × List Int) => dO b.2.2) (s := leO) (fun b : Addr × (Addr × List Int) => b.2) (fun _ _ _ _ => rfl)
        refine ⟨p, rfl, ⟨_, SqL.of upd_same⟩, fun D2 hD2 => ?_⟩
        refine lc_it (walk_list (K := K) (a := p) (xs := (M.mergeSort (dataLe false fun b => dO b.2.2)).map fun b => V.ref b.1))
          (Cmp (upd H2 p (.lst ((M.mergeSort (dataLe false fun b => dO b.2.2)).map fun b => V.ref b.1))) D2 fun j => refs ((L.mergeSort leO).take j))
          (Cmp.start hD2 rfl) (fun j H3 _ q => SqL.of (q.same _ _ upd_same)) ?_ ?_
        · rintro j x H3 H4 hj c ⟨e4, hx⟩
          subst e4
          obtain ⟨b, hb, rfl⟩ := map_at hx
          have hbM : b ∈ M := (List.mem_mergeSort).1 (mem_at hb)
          have hbt := c.same _ _ (s3 _ _ (tM b hbM))
          refine ⟨rfl, ?_⟩
          unfold tYes
          refine iteT ?_
          refine ⟨_, rfl, b.1, _, 1, _, rfl, rfl, SqT.of hbt, rfl, ?_⟩
          refine c.put hD2 Same.rfl' ?_ ?_
          · have hb2 : (L.mergeSort leO)[j]? = some b.2 := by rw [← eS, List.getElem?_map, hb]; rfl
            show refs ((L.mergeSort leO).take (j + 1)) = _
            rw [List.take_add_one, hb2, refs_app]; rfl
          · rw [refs_len, List.length_take, List.length_mergeSort]; omega
        · intro H3 c
          have e5 : (L.mergeSort leO).take ((M.mergeSort (dataLe false fun b => dO b.2.2)).map fun b => V.ref b.1).length = L.mergeSort leO := by
            rw [List.length_map, List.length_mergeSort, hMl]
            exact List.take_of_length_le (by rw [List.length_mergeSort]; exact Nat.le_refl _)
          have h5 := c.lst
          rw [e5] at h5
          refine k H3 D2 (s2.trans (s3.trans c.same)) (s2.free (s3.free hD2)) h5
end
end K63W


namespace K63W
open PySem L2 RZ StX PySem.W

theorem setD_at {Ls : List (List Int)} {i : Nat} {k : List Key} {v : V} (h : (setD Ls)[i]? = some (k, v)) : ∃ l, Ls[i]? = some l ∧ k = kI l := by
  unfold setD at h
  rw [List.getElem?_map] at h
  cases e : Ls[i]? with
  | none => rw [e] at h; cases h
  | some l => rw [e] at h; exact ⟨l, rfl, (congrArg Prod.fst (Option.some.inj h)).symm⟩
theorem setD_len (Ls : List (List Int)) : (setD Ls).length = Ls.length := List.length_map _

section
variable {P : Program} {w : World} {K : PySem.W.Frag} {mg : Str → Option Value} {base : Heap}
theorem sc19D : FnScope ["simplices", "simplex", "pair"] ["simplices"] (defScope sInOrder) := ⟨rfl, rfl, rfl, by decide +kernel, rfl, by decide +kernel, by decide +kernel⟩
/-- a new list of the dict's keys, by length, then ascending -/
def spInOrderD : Sp := fun vs H Q _ => ∃ (d : Addr) (Ls : List (List Int)), vs = [.ref d] ∧ H d = some (.dT (setD Ls)) ∧ Ls.length ≤ 400 ∧
  ∀ H' p (L : TL), Same H H' → H p = none → TLat H' L → L.map (·.2) = Ls → H' p = some (.lst (refs (L.mergeSort leO))) → Q (.ref p) H'

theorem ok_inOrderD {f : Addr} {fd : FuncData} (F : Fun K "in_order" "in_order" sInOrder f fd) (B : Bl mg) :
    FnOk P w K mg base CX0 1 f fd ["simplices"] spInOrderD := by
  refine F.ok sc19D (fun vs H Q E h => ?_) (fun cdv A outer s H vs Q E hr h => ?_)
  · obtain ⟨t, L, rfl, _⟩ := h
    rfl
  · obtain ⟨d, Ls, rfl, hA, h400, k⟩ := h
    refine ⟨_, pss_one (ps_ret (pe_lc (own := [("pair", 2)]) (g := gName 2) (te := tOp (rIxT K) (tVar 2) (tC (.int 1))) (by rfl) sc19D.nd
        (pi_list (pe_callB (cr_sortedD hr.units) (by rfl) B.sorted (by decide +kernel) (pa_cons
          (pe_lock (pe_lc (own := [("simplex", 1)]) (g := gName 1) (te := tTup (tCons (tCB (rLenQ K) (tCons (tVar 1) tNil)) (tCons (tVar 1) tNil))) (by rfl) sc19D.nd (pi_keys (pv 0)) (blkOk_by (own := [("simplex", 1)]) (N := ["simplices", "simplex", "pair"]) (sc := defScope sInOrder) (by decide +kernel))
            (fun _ _ _ _ _ => pg_name (i := 1) sc19D.nd rfl (Or.inl rfl)) (fun _ _ _ _ _ => pts_nil)
            (fun _ _ _ _ _ => pe_tup (pa_cons (pe_callB call_len_seq (by rfl) B.len PySem.boot_len (pa_cons (pv 1) pa_nil)) (pa_cons (pv 1) pa_nil))))) pa_nil)))
        (blkOk_by (own := [("pair", 2)]) (N := ["simplices", "simplex", "pair"]) (sc := defScope sInOrder) (by decide +kernel))
        (fun _ _ _ _ _ => pg_name (i := 2) sc19D.nd rfl (Or.inl rfl)) (fun _ _ _ _ _ => pts_nil)
        (fun _ _ _ _ _ => pe_ix ix_tup (pv 2) pe_int (fun _ _ => rfl)))), ?_⟩
    refine ⟨d, _, hA, True.intro, fun od => ?_⟩
    have lk : upd H d (.frz od (.dT (setD Ls))) d = some (.frz od (.dT (setD Ls))) := upd_same
    refine ⟨_, rfl, d, od, rfl, .inr ⟨_, lk, fun D hD => ?_⟩⟩
    have hdD : d ≠ D := ne_of_none lk hD
    have hD0 : H D = none := by rw [upd_ne hdD.symm] at hD; exact hD
    refine lc_it (walk_keysT (d := d) (o := od) (kvs := setD Ls))
      (fun j H2 => Same (upd H d (.frz od (.dT (setD Ls)))) H2 ∧ ∃ M : List (Addr × (Addr × List Int)), H2 D = some (.lst (M.map fun b => V.ref b.1)) ∧ M.map (·.2.2) = Ls.take j ∧
        (∀ b ∈ M, H2 b.1 = some (.tup [.int b.2.2.length, .ref b.2.1])) ∧ ∀ b ∈ M, H2 b.2.1 = some (.tup (b.2.2.map V.int)))
      ⟨same_upd hD, [], (by rw [upd_same]; rfl), rfl, (fun b hb => nomatch hb), (fun b hb => nomatch hb)⟩ (fun j H2 _ q => q.1 _ _ lk) ?_ ?_
    · rintro j x H2 H3 hj ⟨s2, M, hM, eM, tM, uM⟩ ⟨e3, kk, vv, q0, hx, rfl, hq0⟩
      subst e3
      obtain ⟨l, hl, rfl⟩ := setD_at hx
      rw [kI_kV] at hq0
      refine ⟨rfl, ?_⟩
      unfold tYes
      refine iteT ?_
      refine ⟨_, rfl, q0, _, rfl, .inr (SqT.of hq0), _, rfl, (by show 2 ≤ sizeLine; decide), fun q hq => ?_⟩
      rw [List.length_map]
      have s3 : Same H3 (upd H3 q (.tup [.int l.length, .ref q0])) := same_upd hq
      have hM' := s3 _ _ hM
      have hMl : M.length ≤ 400 := by
        have := congrArg List.length eM
        rw [List.length_map, List.length_take] at this; omega
      refine ⟨_, hM', (by rw [List.length_map]; exact Nat.lt_of_le_of_lt hMl (by decide)), same_put hD (s2.trans s3), M ++ [(q, (q0, l))], ?_, ?_, ?_, ?_⟩
      · rw [upd_same, List.map_append]; rfl
      · rw [List.map_append, eM, List.take_add_one, hl]; rfl
      · intro b hb
        rcases List.mem_append.1 hb with h | h
        · have h1 := s3 _ _ (tM b h)
          rw [upd_ne (ne_of h1 hM' (by intro z; cases z))]; exact h1
        · rw [List.mem_singleton.1 h]
          have h1 : upd H3 q (.tup [.int l.length, .ref q0]) q = some (.tup [.int l.length, .ref q0]) := upd_same
          rw [upd_ne (ne_of h1 hM' (by intro z; cases z))]; exact h1
      · intro b hb
        have h1 : upd H3 q (.tup [.int l.length, .ref q0]) b.2.1 = some (.tup (b.2.2.map V.int)) := by
          rcases List.mem_append.1 hb with h | h
          · exact s3 _ _ (uM b h)
          · rw [List.mem_singleton.1 h]; exact s3 _ _ hq0
        rw [upd_ne (ne_of h1 hM' (by intro z; cases z))]; exact h1
    · rintro H1 ⟨s1, M, hM1, eM, tM1, uM1⟩
      rw [setD_len, List.take_length] at eM
      refine ⟨s1 _ _ lk, ?_⟩
      -- the lock is off
      have hnd : ∀ {b : Addr} {o : HO}, H1 b = some o → (o ≠ .frz od (.dT (setD Ls))) → b ≠ d := by
        intro b o hb hne e
        rw [e, s1 _ _ lk] at hb
        exact hne (Option.some.inj hb).symm
      have s2 : Same H (upd H1 d (.dT (setD Ls))) := by
        intro b o e
        by_cases hb : b = d
        · rw [hb] at e ⊢; rw [upd_same, ← e, hA]
        · rw [upd_ne hb]; exact s1 _ _ (by rw [upd_ne hb]; exact e)
      generalize hH2 : upd H1 d (.dT (setD Ls)) = H2 at s2
      have hM : H2 D = some (.lst (M.map fun b => V.ref b.1)) := by rw [← hH2, upd_ne hdD.symm]; exact hM1
      have tM : ∀ b ∈ M, H2 b.1 = some (.tup [.int b.2.2.length, .ref b.2.1]) := fun b hb => by
        rw [← hH2, upd_ne (hnd (tM1 b hb) (by intro z; cases z))]; exact tM1 b hb
      have tl2 : ∀ b ∈ M, H2 b.2.1 = some (.tup (b.2.2.map V.int)) := fun b hb => by
        rw [← hH2, upd_ne (hnd (uM1 b hb) (by intro z; cases z))]; exact uM1 b hb
      obtain ⟨L, eL⟩ : ∃ L : TL, L = M.map (·.2) := ⟨_, rfl⟩
      have hMl : M.length = L.length := by rw [eL, List.length_map]
      have hLl : L.length ≤ 400 := by rw [← hMl, ← List.length_map (f := fun b : Addr × (Addr × List Int) => b.2.2), eM]; exact h400
      have tL : TLat H2 L := fun p hp => by
        rw [eL] at hp
        obtain ⟨b, hb, rfl⟩ := List.mem_map.1 hp
        exact tl2 b hb
      refine ⟨_, M, (fun b => b.1), (fun b => dO b.2.2), D, rfl, SqL.of hM, ?_, AllAlike.of (fun a b => alikeO _ _), Sortable.tuples (fun b => ⟨_, _, rfl⟩), (fun b _ => by rw [depthO]; decide), fun p hp => ?_⟩
      · intro b hb
        exact .tup (SqT.of (tM b hb)) (.cons (.int _) (.cons (dpT (tl2 b hb)) .nil))
      · have s3 : Same H2 (upd H2 p (.lst ((M.mergeSort (dataLe false fun b => dO b.2.2)).map fun b => V.ref b.1))) := same_upd hp
        have eS : (M.mergeSort (dataLe false fun b => dO b.2.2)).map (·.2) = L.mergeSort leO := by
          rw [eL]; exact sort_maps (r := dataLe false fun b : Addr × (Addr × List Int) => dO b.2.2) (s := leO) (fun b : Addr × (Addr × List Int) => b.2) (fun _ _ _ _ => rfl)
        refine ⟨p, rfl, ⟨_, SqL.of upd_same⟩, fun D2 hD2 => ?_⟩
        refine lc_it (walk_list (K := K) (a := p) (xs := (M.mergeSort (dataLe false fun b => dO b.2.2)).map fun b => V.ref b.1))
          (Cmp (upd H2 p (.lst ((M.mergeSort (dataLe false fun b => dO b.2.2)).map fun b => V.ref b.1))) D2 fun j => refs ((L.mergeSort leO).take j))
          (Cmp.start hD2 rfl) (fun j H3 _ q => SqL.of (q.same _ _ upd_same)) ?_ ?_
        · rintro j x H3 H4 hj c ⟨e4, hx⟩
          subst e4
          obtain ⟨b, hb, rfl⟩ := map_at hx
          have hbM : b ∈ M := (List.mem_mergeSort).1 (mem_at hb)
          have hbt := c.same _ _ (s3 _ _ (tM b hbM))
          refine ⟨rfl, ?_⟩
          unfold tYes
          refine iteT ?_
          refine ⟨_, rfl, b.1, _, 1, _, rfl, rfl, SqT.of hbt, rfl, ?_⟩
          refine c.put hD2 Same.rfl' ?_ ?_
          · have hb2 : (L.mergeSort leO)[j]? = some b.2 := by rw [← eS, List.getElem?_map, hb]; rfl
            show refs ((L.mergeSort leO).take (j + 1)) = _
            rw [List.take_add_one, hb2, refs_app]; rfl
          · rw [refs_len, List.length_take, List.length_mergeSort]; omega
        · intro H3 c
          have e5 : (L.mergeSort leO).take ((M.mergeSort (dataLe false fun b => dO b.2.2)).map fun b => V.ref b.1).length = L.mergeSort leO := by
            rw [List.length_map, List.length_mergeSort, hMl]
            exact List.take_of_length_le (by rw [List.length_mergeSort]; exact Nat.le_refl _)
          have h5 := c.lst
          rw [e5] at h5
          refine k H3 D2 L (s2.trans (s3.trans c.same)) (s2.free (s3.free hD2)) (tL.same (s3.trans c.same)) (by rw [eL, List.map_map]; exact eM) h5
end
end K63W


namespace K63W
open PySem L2 RZ StX PySem.W

abbrev sMaximal : Stmt := top 20

theorem sl_any {K : PySem.W.Frag} {H : Hp} {a : Addr} {xs : List V} {lo hi : Option Int} {Q : V → Hp → Prop} (h : H a = some (.tup xs))
    (fin : ∀ H' p, Same H H' → H' p = some (.tup (cutV xs lo hi)) → Q (.ref p) H') : rSlA K (.ref a) lo hi H Q := by
  refine ⟨a, xs, rfl, SqT.of h, fun ⟨e1, e2⟩ => ?_, fun _ p hp => ?_⟩
  · refine fin H a Same.rfl' ?_
    have : cutV xs lo hi = xs := by
      unfold cutV; rw [e1, e2]; simp
    rw [this]; exact h
  · exact fin _ p (same_upd hp) upd_same
theorem tNo {σ : St} {H : Hp} {Q : Option Int → Hp → Prop} (h : Q none H) : tNoPart σ H Q := h
theorem cat_any {K : PySem.W.Frag} {H : Hp} {a b : Addr} {xs ys : List V} {Q : V → Hp → Prop} (h1 : H a = some (.tup xs)) (h2 : H b = some (.tup ys)) (hl : xs.length + ys.length ≤ 1000)
    (fin : ∀ H' p, Same H H' → H' p = some (.tup (xs ++ ys)) → Q (.ref p) H') : rCatA K (.ref a) (.ref b) H Q := by
  refine ⟨a, b, xs, ys, rfl, rfl, SqT.of h1, SqT.of h2, Nat.le_trans hl (by decide), ?_⟩
  refine ⟨fun e => fin H b Same.rfl' (by rw [e]; exact h2), fun _ e => fin H a Same.rfl' (by rw [e, List.append_nil]; exact h1), fun _ _ p hp => fin _ p (same_upd hp) upd_same⟩
theorem cut_to (xs : List V) (i : Nat) : cutV xs none (some (i : Int)) = xs.take i := by
  unfold cutV
  rw [HT.sIx_none, HT.sIx_nat, List.drop_zero, Nat.sub_zero]
  by_cases h : i ≤ xs.length
  · rw [Nat.min_eq_left h]
  · rw [Nat.min_eq_right (by omega), List.take_length, List.take_of_length_le (by omega)]
theorem cut_from (xs : List V) (i : Nat) : cutV xs (some (i : Int)) none = xs.drop i := by
  unfold cutV
  rw [HT.sIx_none, HT.sIx_nat]
  by_cases h : i ≤ xs.length
  · rw [Nat.min_eq_left h]
    exact List.take_of_length_le (by rw [List.length_drop]; exact Nat.le_refl _)
  · rw [Nat.min_eq_right (by omega), List.drop_length, List.drop_of_length_le (by omega)]; simp

/-- a simplex without one of its points, each in turn -/
def delM (s : List Int) : List (List Int) := (List.range s.length).map (fun i => s.take i ++ s.drop (i + 1))
def innerM (Ls : List (List Int)) : List (List Int) := Ls.foldl (fun f s => addsM f (delM s)) []
theorem innerM_snoc (Ls : List (List Int)) (s : List Int) : innerM (Ls ++ [s]) = addsM (innerM Ls) (delM s) := by
  unfold innerM; rw [List.foldl_append]; rfl
theorem delM_len (s : List Int) : (delM s).length = s.length := by unfold delM; simp
theorem addsM_le (ps : List (List Int)) : ∀ f : List (List Int), (addsM f ps).length ≤ f.length + ps.length := by
  induction ps with
  | nil => intro f; simp [addsM]
  | cons p ps ih =>
    intro f
    have h1 := ih (addM f p)
    have h2 : (addM f p).length ≤ f.length + 1 := by unfold addM; split <;> simp
    have h3 : addsM f (p :: ps) = addsM (addM f p) ps := rfl
    rw [h3, List.length_cons]; omega
theorem innerM_le (Ls : List (List Int)) (h8 : ∀ l ∈ Ls, l.length ≤ 8) : (innerM Ls).length ≤ Ls.length * 8 := by
  have : ∀ (A B : List (List Int)), (∀ l ∈ B, l.length ≤ 8) → (B.foldl (fun f s => addsM f (delM s)) A).length ≤ A.length + B.length * 8 := by
    intro A B
    induction B generalizing A with
    | nil => intro _; simp
    | cons s B ih =>
      intro hB
      have h1 := ih (addsM A (delM s)) (fun l hl => hB l (by simp [hl]))
      have h2 := addsM_le (delM s) A
      rw [delM_len] at h2
      have h3 := hB s (by simp)
      rw [List.foldl_cons, List.length_cons]
      omega
  have h := this [] Ls h8
  simpa [innerM] using h
noncomputable def leT (a b : Addr × List Int) : Bool := dataLe false (fun p : Addr × List Int => dT p.2) a b

section
variable {P : Program} {w : World} {K : PySem.W.Frag} {mg : Str → Option Value} {base : Heap}
theorem sc20 : FnScope ["faces", "simplex", "at", "inner"] ["faces"] (defScope sMaximal) := ⟨rfl, rfl, rfl, by decide +kernel, rfl, by decide +kernel, by decide +kernel⟩
/-- a new tuple of the simplices of the dict that are no face of another one, ascending -/
def spMaximal : Sp := fun vs H Q _ => ∃ (d : Addr) (Ls : List (List Int)), vs = [.ref d] ∧ H d = some (.dT (setD Ls)) ∧ Ls.length ≤ 400 ∧ (∀ l ∈ Ls, 1 ≤ l.length ∧ l.length ≤ 8) ∧
  ∀ H' p (L : TL), Same H H' → H p = none → TLat H' L → L.map (·.2) = Ls.filter (fun l => !decide (l ∈ innerM Ls)) → H' p = some (.tup (refs (L.mergeSort leT))) → Q (.ref p) H'

theorem ok_maximal {f : Addr} {fd : FuncData} (F : Fun K "maximal" "maximal" sMaximal f fd) (B : Bl mg) :
    FnOk P w K mg base CX0 1 f fd ["faces"] spMaximal := by
  refine F.ok sc20 (fun vs H Q E h => ?_) (fun cdv A outer s H vs Q E hr h => ?_)
  · obtain ⟨t, L, rfl, _⟩ := h
    rfl
  · obtain ⟨d, Ls, rfl, hA, h400, h8, k⟩ := h
    have hu := hu_of hr
    refine ⟨_, pss_cons (ps_set (i := 3) sc20.nd rfl (Or.inr rfl) pe_dnewT)
      (pss_cons (ps_lock (ps_for PassesOwn.never rfl (pi_keys (pv 0)) (pg_name (i := 1) sc20.nd rfl (Or.inl rfl))
        (pss_one (ps_for PassesOwn.never rfl (pi_range1 rfl B.range (pa_cons (pe_callB call_len_seq (by rfl) B.len PySem.boot_len (pa_cons (pv 1) pa_nil)) pa_nil)) (pg_name (i := 2) sc20.nd rfl (Or.inl rfl))
          (pss_one (ps_dput hu (pv 3) (pe_op op_catA (pe_slice sl_tupA (pv 1) po_none (po_some (pv 2))) (pe_slice sl_tupA (pv 1) (po_some (pe_op op_add (pv 2) pe_int)) po_none)) pe_bl rfl))))))
      (pss_one (ps_ret (pe_callTy call_tuple_of (by rfl) B.tuple (by decide +kernel) (pa_cons (pe_callB (cr_sortedD hr.units) (by rfl) B.sorted (by decide +kernel) (pa_cons
        (pe_lock (pe_lc (own := [("simplex", 1)]) (g := gName 1) (tt := tB (tDNotIn (tVar 1) (tVar 3))) (te := tVar 1) (by rfl) sc20.nd (pi_keys (pv 0)) (blkOk_by (own := [("simplex", 1)]) (N := ["faces", "simplex", "at", "inner"]) (sc := defScope sMaximal) (by decide +kernel))
          (fun _ _ _ _ _ => pg_name (i := 1) sc20.nd rfl (Or.inl rfl)) (fun _ _ _ _ _ => pts_one (pt_cmp (pc_dnotin hu (pv 1) (pv 3)))) (fun _ _ _ _ _ => pv 1))) pa_nil)) pa_nil))))), ?_⟩
    refine fun e he => ?_
    have hde : d ≠ e := ne_of_none hA he
    have s1 : Same H (upd H e (.dT [])) := same_upd he
    refine ⟨d, _, s1 _ _ hA, True.intro, fun od => ?_⟩
    have lk : upd (upd H e (.dT [])) d (.frz od (.dT (setD Ls))) d = some (.frz od (.dT (setD Ls))) := upd_same
    refine ⟨_, rfl, d, od, rfl, .inr ⟨_, lk, ?_⟩⟩
    have he0 : upd H d (.frz od (.dT (setD Ls))) e = none := by rw [upd_ne hde.symm]; exact he
    have sb : Same (upd H d (.frz od (.dT (setD Ls)))) (upd (upd H e (.dT [])) d (.frz od (.dT (setD Ls)))) := by
      intro b o hb
      by_cases h : b = d
      · rw [h] at hb ⊢; rw [upd_same] at hb ⊢; exact hb
      · rw [upd_ne h] at hb ⊢; exact s1 _ _ hb
    refine for_it (walk_keysT (d := d) (o := od) (kvs := setD Ls))
      (fun i σ H2 => ∃ (v1 v2 : Option V), σ = [some (.ref d), v1, v2, some (.ref e)] ∧ Same (upd H d (.frz od (.dT (setD Ls)))) H2 ∧ H2 e = some (.dT (setD (innerM (Ls.take i)))))
      ⟨none, none, rfl, sb, by rw [upd_ne hde.symm, upd_same]; rfl⟩ (fun i σ H2 _ ⟨_, _, _, q, _⟩ => q _ _ upd_same) ?_ ?_
    · rintro i x σ H2 H3 hi ⟨v1, v2, rfl, sm, hE⟩ ⟨e3, kk, vv, q0, hx, rfl, hq0⟩
      subst e3
      obtain ⟨l, hl, rfl⟩ := setD_at hx
      rw [kI_kV] at hq0
      have hl8 := h8 l (mem_at hl)
      rw [show (innerM (Ls.take (i + 1))) = addsM (innerM (Ls.take i)) (delM l) by rw [List.take_add_one, hl]; exact innerM_snoc _ _]
      have hLi : (innerM (Ls.take i)).length ≤ 3200 := by
        have h1 := innerM_le (Ls.take i) (fun a ha => (h8 a (List.mem_of_mem_take ha)).2)
        rw [List.length_take] at h1; omega
      refine ⟨_, rfl, q0, _, rfl, .inr (SqT.of hq0), _, rfl, ?_, ?_, ?_⟩
      · rw [List.length_map]; omega
      · rw [List.length_map]; omega
      · rw [List.length_map, Int.toNat_natCast]
        refine for_range (lo := 0) (n := l.length)
          (fun j σ H4 => ∃ (v2 : Option V), σ = [some (.ref d), some (.ref q0), v2, some (.ref e)] ∧ Same (upd H d (.frz od (.dT (setD Ls)))) H4 ∧ H4 q0 = some (.tup (l.map V.int)) ∧
            H4 e = some (.dT (setD (addsM (innerM (Ls.take i)) ((delM l).take j)))))
          ⟨_, rfl, sm, hq0, hE⟩ ?_ ?_
        · rintro j σ H4 hj ⟨u2, rfl, s4, q4, e4⟩
          have hjl : (delM l)[j]? = some (l.take j ++ l.drop (j + 1)) := by
            unfold delM; rw [List.getElem?_map, List.getElem?_range hj]; rfl
          rw [Int.zero_add]
          refine ⟨_, rfl, _, rfl, _, rfl, (j : Int), rfl, sl_any q4 (fun H5 p5 s5 h5 => ?_)⟩
          rw [cut_to, ← List.map_take] at h5
          have q5 := s5 _ _ q4
          refine ⟨_, rfl, _, rfl, (j : Int), 1, rfl, rfl, ?_⟩
          refine ⟨((j + 1 : Nat) : Int), rfl, tNo (sl_any q5 (fun H6 p6 s6 h6 => ?_))⟩
          rw [cut_from, ← List.map_drop] at h6
          have h56 := s6 _ _ h5
          refine cat_any h56 h6 (by rw [List.length_map, List.length_map, List.length_take, List.length_drop]; omega) (fun H7 p7 s7 h7 => ?_)
          rw [← List.map_append] at h7
          have e7 := s7 _ _ (s6 _ _ (s5 _ _ e4))
          refine ⟨e, _, rfl, DPut.t e7 (by rw [kI_kV]; exact h7) ?_, ?_⟩
          · rw [setD_len]
            have h2 := addsM_le ((delM l).take j) (innerM (Ls.take i))
            rw [List.length_take, delM_len] at h2
            exact Nat.lt_of_le_of_lt (show _ ≤ 3300 by omega) (by decide)
          · refine ⟨_, rfl, same_put he0 (s4.trans (s5.trans (s6.trans s7))), ?_, ?_⟩
            · have h8' := s7 _ _ (s6 _ _ q5)
              rw [upd_ne (ne_of h8' e7 (by intro z; cases z))]; exact h8'
            · rw [upd_same, setD_put, List.take_add_one, hjl]
              exact congrArg (fun z => some (HO.dT (setD z))) (addsM_snoc _ _ _).symm
        · rintro σ H4 ⟨u2, rfl, s4, q4, e4⟩
          rw [show (delM l).take l.length = delM l by rw [← delM_len l]; exact List.take_length] at e4
          exact ⟨_, _, rfl, s4, e4⟩
    · rintro σ H2 ⟨v1, v2, rfl, sm, hE⟩
      refine ⟨sm _ _ upd_same, ?_⟩
      rw [setD_len, List.take_length] at hE
      have s3 : Same H (upd H2 d (.dT (setD Ls))) := by
        intro b o hb
        by_cases h : b = d
        · rw [h] at hb ⊢; rw [upd_same, ← hb, hA]
        · rw [upd_ne h]; exact sm _ _ (by rw [upd_ne h]; exact hb)
      have hE3 : upd H2 d (.dT (setD Ls)) e = some (.dT (setD (innerM Ls))) := by rw [upd_ne hde.symm]; exact hE
      have hd3 : upd H2 d (.dT (setD Ls)) d = some (.dT (setD Ls)) := upd_same
      generalize upd H2 d (.dT (setD Ls)) = H3 at s3 hE3 hd3
      refine ⟨d, _, hd3, True.intro, fun od2 => ?_⟩
      have lk2 : upd H3 d (.frz od2 (.dT (setD Ls))) d = some (.frz od2 (.dT (setD Ls))) := upd_same
      refine ⟨_, rfl, d, od2, rfl, .inr ⟨_, lk2, fun D hD => ?_⟩⟩
      have hdD : d ≠ D := ne_of_none lk2 hD
      have hD3 : H3 D = none := by rw [upd_ne hdD.symm] at hD; exact hD
      have hE4 : upd H3 d (.frz od2 (.dT (setD Ls))) e = some (.dT (setD (innerM Ls))) := by rw [upd_ne hde.symm]; exact hE3
      refine lc_it (walk_keysT (d := d) (o := od2) (kvs := setD Ls))
        (fun j H4 => Same (upd H3 d (.frz od2 (.dT (setD Ls)))) H4 ∧ ∃ L : TL, H4 D = some (.lst (refs L)) ∧ L.map (·.2) = (Ls.take j).filter (fun l => !decide (l ∈ innerM Ls)) ∧ TLat H4 L)
        ⟨same_upd hD, [], (by rw [upd_same]; rfl), rfl, (fun b hb => nomatch hb)⟩ (fun j H4 _ q => q.1 _ _ lk2) ?_ ?_
      · rintro j x H4 H5 hj ⟨s4, L, hL, eL, tL⟩ ⟨e5, kk, vv, q0, hx, rfl, hq0⟩
        subst e5
        obtain ⟨l, hl, rfl⟩ := setD_at hx
        have hg : DGet H5 e (.ref q0) (valV (setD (innerM Ls)) (kI l)) := DGet.t (s4 _ _ hE4) hq0
        rw [setD_val] at hg
        rw [kI_kV] at hq0
        have hLl : L.length ≤ 400 := by
          have h1 := congrArg List.length eL
          have h2 := List.length_filter_le (fun l => !decide (l ∈ innerM Ls)) (Ls.take j)
          rw [List.length_map] at h1
          rw [List.length_take] at h2; omega
        have eT : ∀ b : Bool, b = !decide (l ∈ innerM Ls) → (Ls.take (j + 1)).filter (fun l => !decide (l ∈ innerM Ls)) = (Ls.take j).filter (fun l => !decide (l ∈ innerM Ls)) ++ (if b = true then [l] else []) := by
          intro b hb
          rw [List.take_add_one, hl, List.filter_append, hb]
          by_cases h : l ∈ innerM Ls <;> simp [h]
        refine ⟨rfl, ?_⟩
        by_cases hin : l ∈ innerM Ls
        · rw [if_pos hin] at hg
          refine ⟨_, rfl, _, rfl, e, _, rfl, hg, _, rfl, iteF ?_⟩
          refine ⟨s4, L, hL, ?_, tL⟩
          rw [eT false (by simp [hin]), eL]; simp
        · rw [if_neg hin] at hg
          refine ⟨_, rfl, _, rfl, e, _, rfl, hg, _, rfl, iteT ?_⟩
          refine ⟨_, rfl, _, hL, (by rw [refs_len]; exact Nat.lt_of_le_of_lt hLl (by decide)), same_put hD s4, L ++ [(q0, l)], ?_, ?_, ?_⟩
          · rw [upd_same, refs_app]; rfl
          · rw [eT true (by simp [hin]), List.map_append, eL]; rfl
          · exact (tL.app (fun p hp => by rw [List.mem_singleton.1 hp]; exact hq0)).put hL
      · rintro H4 ⟨s4, L, hL, eL, tL⟩
        rw [setD_len, List.take_length] at eL
        refine ⟨s4 _ _ lk2, ?_⟩
        have hnd : ∀ {b : Addr} {o : HO}, H4 b = some o → (o ≠ .frz od2 (.dT (setD Ls))) → b ≠ d := by
          intro b o hb hne hbd
          rw [hbd, s4 _ _ lk2] at hb
          exact hne (Option.some.inj hb).symm
        have s5 : Same H3 (upd H4 d (.dT (setD Ls))) := by
          intro b o hb
          by_cases h : b = d
          · rw [h] at hb ⊢; rw [upd_same, ← hb, hd3]
          · rw [upd_ne h]; exact s4 _ _ (by rw [upd_ne h]; exact hb)
        have hL5 : upd H4 d (.dT (setD Ls)) D = some (.lst (refs L)) := by rw [upd_ne hdD.symm]; exact hL
        have tL5 : TLat (upd H4 d (.dT (setD Ls))) L := fun p hp => by
          rw [upd_ne (hnd (tL p hp) (by intro z; cases z))]; exact tL p hp
        generalize upd H4 d (.dT (setD Ls)) = H5 at s5 hL5 tL5
        refine ⟨_, L, (fun b => b.1), (fun b => dT b.2), D, rfl, SqL.of hL5, fun b hb => dpT (tL5 b hb), AllAlike.of (fun a b => alikeT _ _), ?_, (fun b _ => by rw [depthT]; decide), fun p hp => ?_⟩
        · refine .inl fun dd hdd => ?_
          obtain ⟨b, hb, rfl⟩ := List.mem_map.1 hdd
          have hbL : b.2 ∈ Ls := by
            have : b.2 ∈ L.map (·.2) := List.mem_map.2 ⟨b, hb, rfl⟩
            rw [eL] at this; exact (List.mem_filter.1 this).1
          have h1 := (h8 b.2 hbL).1
          cases hb2 : b.2 with
          | nil => rw [hb2] at h1; exact absurd h1 (by decide)
          | cons n ns => exact ⟨_, _, rfl⟩
        · refine ⟨p, _, rfl, .inl ⟨SqL.of upd_same, fun t ht => ?_⟩⟩
          have s6 := same_upd (o := .lst ((L.mergeSort (dataLe false fun b => dT b.2)).map fun b => V.ref b.1)) hp
          have s7 := same_upd (o := .tup ((L.mergeSort (dataLe false fun b => dT b.2)).map fun b => V.ref b.1)) ht
          exact k _ t L (s3.trans (s5.trans (s6.trans s7))) (s3.free (s5.free (s6.free ht))) (tL5.same (s6.trans s7)) eL upd_same
end
end K63W


namespace L2
open PySem PySem.Spec PyProof.Rows
/-! ### enumerate(tuple) -/
def IteT (K : PySem.W.Frag) (a : Addr) : It :=
  ⟨fun i H => ∃ (xs : List V) (x : V), SqT K H a xs ∧ xs[i]? = some x, fun i H v H' => ∃ T x, v = .ref T ∧ H T = none ∧ H' = upd H T (.tup [.int (i : Nat), x]) ∧ ∀ xs, SqT K H a xs → xs[i]? = some x, fun i H => ∃ xs : List V, SqT K H a xs ∧ i = xs.length⟩
theorem turn_enumT {P : Program} {w : World} {K : PySem.W.Frag} {elts : List Expr} {kk : Nat} {tpos : Pos} (a e it : Addr) (hae : a ≠ e) (hai : a ≠ it) :
    Turn P w K (.Tuple elts kk tpos) (IteT K a) [e, it] e (fun i h => (∃ old, IsEnum h e it ((i : Nat) : Int) old) ∧ h.IsTupleIter it a i ∧ e ≠ it) where
  mem := by simp
  obj := fun i h st b hb => by
    obtain ⟨⟨old, he⟩, ⟨o, ho, hc, hd⟩, _⟩ := st
    have e' : b = e ∨ b = it := by simpa using hb
    rcases e' with z | z
    · rw [z]; exact ⟨_, he, fun v q => nomatch q⟩
    · rw [z]; exact ⟨o, ho, fun v q => by rw [hd] at q; cases q⟩
  keep := fun i h h' st k => let ⟨⟨old, he⟩, hi, hne⟩ := st; ⟨⟨old, k e (by simp) _ he⟩, hi.at fun o q => k it (by simp) o q, hne⟩
  item := by
    intro X hP hw hK hc i pins s σ H E I hf st hg
    subst hP hw hK
    obtain ⟨⟨old, he⟩, hit, hne⟩ := st
    obtain ⟨xs, x, hq, hx⟩ := hg
    obtain ⟨its, rv, p, hz⟩ := I.tuple hq
    obtain ⟨u, hu, ru⟩ := rv.get hx
    have hel : e < s.heap.objs.size := Heap.lt_size he
    have hil : it < s.heap.objs.size := by obtain ⟨_, q, _⟩ := hit; exact Heap.lt_size q
    have hu' : its.toArray[i]? = some u := by simpa using hu
    have hi : i < its.toArray.size := (Array.getElem?_eq_some_iff.mp hu').1
    refine wpAny_pyNext_enum_itemC (Draws.tuple (prog := X.prog) (w := X.w) (A := X.A.in1) (I.ok.hd hc) it a hai its.toArray) he ⟨hit, p⟩ hi hne (by
      intro hm
      rcases List.mem_cons.mp hm with z | z
      · exact hne z
      · exact hae (List.mem_singleton.mp z).symm) fun u' h' tk hP ho hit' hT hsz hk => ?_
    have eu : u' = u := by
      have z : its.toArray[i]? = some u' := hP
      rw [hu'] at z; exact (Option.some.inj z).symm
    subst eu
    refine ⟨_, rfl, wpAny_letOwnedTupleGo_enum (s := { s with heap := h', toks := tk + 1 }) ho fun h'' he' sb => ?_⟩
    have hT2 : h''.get? s.heap.objs.size = some { cls := .type "tuple", data := .seq #[.int i tk, u'] } := (sb.2 _ (Nat.ne_of_gt hel)).trans hT
    have new : ObjOk X.prog X.w (upd H s.heap.objs.size (.tup [.int (i : Nat), x])) h'' s.heap.objs.size (.tup [.int (i : Nat), x]) :=
      ⟨by show 2 ≤ sizeLine; decide, [.int i tk, u'], .cons ⟨_, rfl⟩ (.cons ru .nil), ⟨_, hT2, rfl, _, rfl⟩⟩
    have I1 : Inv X pins σ (upd H s.heap.objs.size (.tup [.int (i : Nat), x])) { s with heap := h'', toks := tk + 1 } :=
      I.turnedNew (ch := [e, it]) (fun b ob hb q => (sb.2 b (fun z => hb (by simp [z]))).trans (hk b ob (fun z => hb (by simp [z])) (fun z => hb (by simp [z])) q)) hf (Nat.le_refl _) new
    refine ⟨.ref s.heap.objs.size, _, I1, rfl, ⟨_, x, rfl, I.hok.fresh (Nat.le_refl _), rfl, fun ys hy => by rw [I.tuple_inj hy hq]; exact hx⟩, ⟨⟨u', ?_⟩, hit'.1.at fun o q => (sb.2 it (Ne.symm hne)).trans q, hne⟩, fun b hb => ?_⟩
    · have e1 : ((i + 1 : Nat) : Int) = (i : Int) + 1 := by omega
      rw [e1]; exact he'
    · have hb' : b < s.heap.objs.size := by
        have e' : b = e ∨ b = it := by simpa using hb
        rcases e' with z | z
        · rw [z]; exact hel
        · rw [z]; exact hil
      rw [upd_ne (Nat.ne_of_lt hb')]
      exact (hf b hb).1
  done := by
    intro X hP hw hK hc i pins s σ H E I hf st hg
    subst hP hw hK
    obtain ⟨⟨old, he⟩, hit, hne⟩ := st
    obtain ⟨xs, hq, hx⟩ := hg
    obtain ⟨its, rv, p, hz⟩ := I.tuple hq
    obtain ⟨f0, f1, f2, f3, f4, f5⟩ := hf it (by simp)
    have hl := rv.length
    have hsz : i = its.toArray.size := by
      rw [List.size_toArray, hx]; exact hl
    rw [hsz] at hit
    exact wpAny_pyNext_enum_endD (Draws.tuple (prog := X.prog) (w := X.w) (A := X.A.in1) (I.ok.hd hc) it a hai its.toArray) he ⟨hit, p⟩ fun h' eb => ⟨rfl, I.turned (t' := s.toks) (fun b o hb q => eb b o hb q) f0 f1 f3 f4 f5⟩
  self := fun A i s Q E st h => let ⟨⟨_, he⟩, _⟩ := st; wpAny_pyIter_enum he h

set_option maxHeartbeats 1000000 in
theorem meets_enumT {v : Value} {o : Obj} {H : Heap → Prop} (B : Begins v o H) :
    Meets (Builtin.«enumerate.__new__» ⟨[.type "enumerate", v], []⟩) (fun _ R s => H s.heap ∧
      R (.ok (.ret (.ref (s.heap.push o).objs.size))) { s with heap := (s.heap.push o).push { cls := .type "enumerate", data := .fields #[.none, .bool false, .ref s.heap.objs.size, rawInt 0, .none, .none] } }) :=
  .of_wp fun prog w A R s h => by
    obtain ⟨hp, g, d, tk, os⟩ := s; obtain ⟨h1, h⟩ := h
    have hsub := sub_enumerate
    have q1 : ∀ {A' : Around} {E : Value → Shared → Prop} {Q : Value → Shared → Prop}, Q (.ref hp.objs.size) ⟨hp.push o, g, d, tk, os⟩ → wpAny (model prog w) A' (pyIter v) Q E ⟨hp, g, d, tk, os⟩ :=
      fun q => B.iter prog w _ _ ⟨hp, g, d, tk, os⟩ _ h1 q
    wp_walk using q1
    refine wpAny_stack_any fun st => wpAny_pure ?_
    split
    · rename_i c _ _ _ _ _
      cases (c == Value.type "enumerate")
      · wp_walk using q1
        exact ⟨_, rfl, h⟩
      · wp_walk using q1
        exact ⟨_, rfl, h⟩
    · wp_walk using q1
      exact ⟨_, rfl, h⟩
section
variable {prog : Program} {w : World} {A : Around} {E : Value → Shared → Prop} {s : Shared}
theorem call_enumT {t : Addr} {items : Array Value} {Q : Value → Shared → Prop} (h1 : s.heap.IsTuple t items)
    (h : ∀ h', IsEnum h' (s.heap.objs.size + 1) s.heap.objs.size 0 .none → h'.IsTupleIter s.heap.objs.size t 0 → h'.objs.size = s.heap.objs.size + 2 →
      (∀ b o, s.heap.get? b = some o → h'.get? b = some o) → Q (.ref (s.heap.objs.size + 1)) { s with heap := h' }) :
    wpAny (model prog w) A (call (.type "enumerate") [.ref t]) Q E s := by
  refine callType_new F.called_enumerate (by decide) (F.typeCall_enumerate_1 _) (F.newCall_enumerate_1 _) (fun obj => F.args_object_init_2 obj _) F.entry_enumerate_new
    (meets_enumT (begins_tuple t items)) ⟨h1, ?_⟩
  have hz : (s.heap.push { cls := .type "tuple_iterator", data := .fields #[.ref t, .int 0 0] }).objs.size = s.heap.objs.size + 1 := Heap.size_push ..
  show _ ∧ _
  rw [hz]
  have he : IsEnum ((s.heap.push { cls := .type "tuple_iterator", data := .fields #[.ref t, .int 0 0] }).push { cls := .type "enumerate", data := .fields #[.none, .bool false, .ref s.heap.objs.size, rawInt 0, .none, .none] }) (s.heap.objs.size + 1) s.heap.objs.size 0 .none := by
    have := Heap.get?_push_size (s.heap.push { cls := .type "tuple_iterator", data := .fields #[.ref t, .int 0 0] }) (o := { cls := .type "enumerate", data := .fields #[.none, .bool false, .ref s.heap.objs.size, rawInt 0, .none, .none] }) rfl
    rw [hz] at this; exact this
  refine ⟨⟨_, he, rfl⟩, h _ he ⟨_, Heap.get?_push_of_some _ (Heap.get?_push_size _ rfl), rfl, rfl⟩ (by rw [Heap.size_push, hz]) fun b o x => Heap.get?_push_of_some _ (Heap.get?_push_of_some _ x)⟩
end
def iEnumT (K : PySem.W.Frag) (ta : TA) : TI := fun σ H R => ta σ H fun vs H1 => ∃ a xs, vs = [.ref a] ∧ SqT K H1 a xs ∧ R (IteT K a) H1
theorem pi_enumT {X : Cx} {e : Expr} {ta : TA} {p pos tpos : Pos} {elts : List Expr} {kk : Nat} (hg : Gl X "enumerate") (hm : X.mg "enumerate" = none) (ha : PA X [e] ta) (hs : starEach [e] X.env = [(false, eval e X.env)] := by rfl) :
    PI X (.Tuple elts kk tpos) (.Call (.Name "enumerate" p) [e] [] pos) (iEnumT X.K ta) := by
  refine ⟨fun pins s σ H R I h => ?_⟩
  refine Call_ (ld_blt I hg hm boot_enumerate (PyProof.Rows.callWith_type1 (thn (ha.run pos pins s σ H _ I h) fun us s1 ⟨vs, H1, I1, r1, q1⟩ => ?_) hs rfl))
  obtain ⟨a, xs, ex, hq, q⟩ := q1
  subst ex
  cases r1 with
  | cons r rr =>
    cases rr
    cases r
    obtain ⟨its, rv, p', hz⟩ := I1.tuple hq
    have hal : a < s1.heap.objs.size := by
      obtain ⟨o, ho, _⟩ := id p'
      exact Heap.lt_size ho
    refine call_enumT (items := its.toArray) p' fun h' he hit hsz hk => wpAny_pyIter_enum he ?_
    have I2 : Inv X pins σ H1 { s1 with heap := h' } := I1.kept (t' := s1.toks) hk
    refine ⟨s1.heap.objs.size + 1, [s1.heap.objs.size + 1, s1.heap.objs.size], _, _, H1, rfl, I2, turn_enumT a (s1.heap.objs.size + 1) s1.heap.objs.size (Nat.ne_of_lt (Nat.lt_succ_of_lt hal)) (Nat.ne_of_lt hal), ⟨⟨.none, he⟩, hit, Nat.succ_ne_self _⟩, fun b hb => ?_, q⟩
    have e' : b = s1.heap.objs.size + 1 ∨ b = s1.heap.objs.size := by simpa using hb
    have hle : s1.heap.objs.size ≤ b := by
      rcases e' with z | z
      · rw [z]; exact Nat.le_add_right _ _
      · rw [z]; exact Nat.le_refl _
    exact I1.fpOk hle (I1.hok.fresh hle)
theorem walk_enumT {K : PySem.W.Frag} {a : Addr} {xs : List V} : Walk (IteT K a) xs.length (fun H => SqT K H a xs) (YPair (fun i => some (.int (i : Nat))) (fun i => xs[i]?)) := by
  refine ⟨fun i _ hi q => ⟨xs, xs[i], q, by simp [hi]⟩, fun _ q => ⟨xs, q, rfl⟩, fun i H v H' _ q y => ?_⟩
  obtain ⟨T, x, h1, h2, h3, h4⟩ := y
  exact ⟨T, .int (i : Nat), x, h1, h2, h3, rfl, h4 xs q⟩
end L2


namespace L2
open PySem PySem.Spec PyProof.Rows
/-! ### for k, v in d.items(), tuple keys -/
section
variable {X : Cx} {pins : List (Addr × Obj)} {σ : St} {H : Hp} {s : Shared} {d : Addr} {o : Obj}
theorem Inv.frzTV {kvs : List (List Key × V)} (I : Inv X pins σ H s) (h : H d = some (.frz o (.dT kvs))) :
    (d == sysModules) = false ∧ ∃ (es : Array DictEntry) (ep : Nat), DT.Raw s.heap d es ep ∧ o.data = .dict es ep ∧ kvs.length ≤ sizeLine ∧ es.size = kvs.length ∧
      ∀ (i : Nat) (k : List Key) (v : V), kvs[i]? = some (k, v) → ∃ (en : DictEntry) (q : Addr), es[i]? = some en ∧ en.key = .ref q ∧ H q = some (.tup (k.map kV)) ∧ RelV v en.val := by
  obtain ⟨hd, z, hs, xs, pr, o', es, ep, ho, hx, hdt, he, _⟩ := I.hok d _ h
  rw [hd] at ho
  cases ho
  refine ⟨hs, es, ep, ⟨o, hd, hx, hdt⟩, hdt, z, ?_, fun i k v e => ?_⟩
  · have l1 : es.size = xs.length := size_of_entries he
    have l2 : kvs.length = xs.length := Paired.length pr
    omega
  · obtain ⟨b, hb, e1, e2, e3⟩ := paired_get pr e
    have q := entry_at he i
    rw [hb] at q
    exact ⟨_, b.2.1, q, rfl, e2, e3⟩
end
def ItiT (d : Addr) (o : Obj) (kvs : List (List Key × V)) : It :=
  ⟨fun i H => H d = some (.frz o (.dT kvs)) ∧ i < kvs.length, fun i H x H' => ∃ T k v q, kvs[i]? = some (k, v) ∧ x = .ref T ∧ H T = none ∧ H q = some (.tup (k.map kV)) ∧ H' = upd H T (.tup [.ref q, v]), fun i H => H d = some (.frz o (.dT kvs)) ∧ kvs.length ≤ i⟩
theorem turn_itemsT {P : Program} {w : World} {K : PySem.W.Frag} {d : Addr} {o : Obj} {es : Array DictEntry} {ep : Nat} {kvs : List (List Key × V)} {elts : List Expr} {kk : Nat} {tpos : Pos} (it : Addr) (hod : o.data = .dict es ep) :
    Turn P w K (.Tuple elts kk tpos) (ItiT d o kvs) [it] it (fun i h => ∃ ok ov, IsItemIter h it d i kvs.length ep ok ov) where
  mem := by simp
  obj := fun i h st b hb => by
    have e : b = it := by simpa using hb
    subst e
    obtain ⟨ok, ov, e⟩ := st
    exact ⟨_, e, fun v z => nomatch z⟩
  keep := fun i h h' st k => let ⟨ok, ov, e⟩ := st; ⟨ok, ov, k it (by simp) _ e⟩
  item := by
    intro X hP hw hK hc i pins s σ H E I hf st hg
    subst hP hw hK
    obtain ⟨hd, hi⟩ := hg
    obtain ⟨hs, es', ep', raw, hdt, hz, hsz, ent⟩ := I.frzTV hd
    obtain ⟨rfl, rfl⟩ := dict_ep hod hdt
    obtain ⟨⟨k, v⟩, hkv⟩ : ∃ p, kvs[i]? = some p := ⟨kvs[i], List.getElem?_eq_getElem hi⟩
    obtain ⟨en, q, hen, hkey, hq, rv⟩ := ent i k v hkv
    obtain ⟨ok, ov, he⟩ := st
    rw [← hsz] at he
    have hlt : it < s.heap.objs.size := Heap.lt_size he
    have hie : i < es'.size := by rw [hsz]; exact hi
    have hen' : es'[i] = en := by
      rw [Array.getElem?_eq_getElem hie] at hen; exact Option.some.inj hen
    refine DT.nextI he raw hie fun h' ho hT hz hk => ?_
    rw [hen', hkey] at hT ho
    refine ⟨_, rfl, wpAny_letOwnedTupleGo_items (s := { s with heap := h' }) ho fun h'' he' sb => ?_⟩
    have hT2 : h''.get? s.heap.objs.size = some { cls := .type "tuple", data := .seq #[.ref q, en.val] } := (sb.2 _ (Nat.ne_of_gt hlt)).trans hT
    have new : ObjOk X.prog X.w (upd H s.heap.objs.size (.tup [.ref q, v])) h'' s.heap.objs.size (.tup [.ref q, v]) :=
      ⟨by show 2 ≤ sizeLine; decide, [.ref q, en.val], .cons rfl (.cons rv .nil), ⟨_, hT2, rfl, _, rfl⟩⟩
    have I1 : Inv X pins σ (upd H s.heap.objs.size (.tup [.ref q, v])) { s with heap := h'' } :=
      I.turnedNew (t' := s.toks) (ch := [it]) (fun b ob hb e => (sb.2 b (by simpa using hb)).trans (hk b ob (by simpa using hb) e)) hf (Nat.le_refl _) new
    refine ⟨.ref s.heap.objs.size, _, I1, rfl, ⟨_, k, v, q, hkv, rfl, I.hok.fresh (Nat.le_refl _), hq, rfl⟩, ⟨.ref q, en.val, ?_⟩, fun b hb => ?_⟩
    · rw [← hsz]; exact he'
    · have e : b = it := by simpa using hb
      rw [e, upd_ne (Nat.ne_of_lt hlt)]
      exact (hf it (by simp)).1
  done := by
    intro X hP hw hK hc i pins s σ H E I hf st hg
    subst hP hw hK
    obtain ⟨hd, hi⟩ := hg
    obtain ⟨f0, f1, f2, f3, f4, f5⟩ := hf it (by simp)
    obtain ⟨hs, es', ep', raw, hdt, hz, hsz, ent⟩ := I.frzTV hd
    obtain ⟨rfl, rfl⟩ := dict_ep hod hdt
    obtain ⟨ok, ov, he⟩ := st
    rw [← hsz] at he
    exact DT.endI (I.ok.hd hc) he raw (by rw [hsz]; exact hi) fun h' eb => ⟨rfl, I.turned (t' := s.toks) (fun b ob hb e => eb b ob hb e) f0 f1 f3 f4 f5⟩
  self := fun A i s Q E st h => let ⟨_, _, e⟩ := st; PySem.W.kcp_self e h
def iItemsT (td : TE) : TI := fun σ H R => td σ H fun x H1 => ∃ d o kvs, x = .ref d ∧ H1 d = some (.frz o (.dT kvs)) ∧ R (ItiT d o kvs) H1
section
variable {X : Cx} {e : Expr} {td : TE} {apos cpos : Pos}
theorem pi_itemsT {elts : List Expr} {kk : Nat} {tpos : Pos} (he : PE X e td) (hbase : attributeBase e "items" X.env (eval e X.env) = eval e X.env := by rfl) (hline : (apos.endLine == cpos.line) = true := by rfl) :
    PI X (.Tuple elts kk tpos) (.Call (.Attribute e "items" apos) [] [] cpos) (iItemsT td) := by
  refine ⟨fun pins s σ H R I h => ?_⟩
  refine wpAny_Call_method (T := "dict") (id := "dict.items") hbase rfl hline F.plainAttrs_dict F.slot_dict_items F.type_dict_items (thn (he.run pins s σ H _ I h) fun u s1 ⟨x, H1, I1, rx, d, o, kvs, ex, hd, q⟩ => ?_)
  subst ex
  obtain rfl : u = Value.ref d := rx
  obtain ⟨hs, es, ep, raw, hdt, hz, hsz, ent⟩ := I1.frzTV hd
  have hnd : ∀ b, Value.ref d = .ref b → ∃ ob, s1.heap.get? b = some ob ∧ ob.dict = none := fun b eb => by
    cases eb
    obtain ⟨ob, hob, hx, _⟩ := id raw
    exact ⟨ob, hob, hx.2.1⟩
  refine ⟨raw.typeIs, hnd, ?_⟩
  have I2 : Inv X pins σ H1 { s1 with heap := s1.heap.push { cls := .type "dict_items", data := .fields #[.ref d] } } := I1.kept (t' := s1.toks) fun b ob q => Heap.get?_push_of_some _ q
  have fin : wpAny (model X.prog X.w) X.A (pyIter (.ref s1.heap.objs.size)) (PIE X pins σ (.Tuple elts kk tpos) R) X.xe { s1 with heap := s1.heap.push { cls := .type "dict_items", data := .fields #[.ref d] } } := by
    refine DT.iterI (d := d) ⟨_, Heap.get?_push_size _ rfl, rfl, rfl⟩ (raw.push _) (pi_one (tk := s1.toks) I2 _ (turn_itemsT _ hdt) ⟨.none, .none, ?_⟩ q)
    rw [← hsz]
    exact Heap.get?_push_size _ rfl
  show wpAny _ _ (callWith cpos (.builtin "dict.items") [.ref d] [] []) _ X.xe s1
  exact method_meetsIn F.slot_dict_items F.entry_dict_items rfl (PySem.evalArgs_none ⟨rfl, raw.typeIs, F.args_dict_items_1 _, _, DT.meetsItems (es := es) (ep := ep) hs, ⟨raw, fin⟩⟩)
end
theorem walk_itemsT {d : Addr} {o : Obj} {kvs : List (List Key × V)} : Walk (ItiT d o kvs) kvs.length (fun H => H d = some (.frz o (.dT kvs))) (fun i H x H' => ∃ T k v q, kvs[i]? = some (k, v) ∧ x = .ref T ∧ H T = none ∧ H q = some (.tup (k.map kV)) ∧ H' = upd H T (.tup [.ref q, v])) :=
  ⟨fun _ _ hi q => ⟨q, hi⟩, fun _ q => ⟨q, Nat.le_refl _⟩, fun _ _ _ _ _ _ y => y⟩
end L2


namespace L2
open PySem PySem.Spec PyProof.Rows
/-! ### dict comprehensions with keys of any kind, one clause and two -/
abbrev noE : Value → Shared → Prop := fun _ _ => False
/-- one key stored by dictSet -/
theorem d_set {X : Cx} {pins : List (Addr × Obj)} {σ : St} {H H' : Hp} {s : Shared} {E : Value → Shared → Prop} {A : Around} {D : Addr} {y v : V} {u r : Value} {Q : Unit → Shared → Prop} (hu : A.units < cLine) (I : Inv X pins σ H s) (g : DPut H D y v H')
    (ry : RelV y u) (rv : RelV v r) (h : ∀ s', Inv X pins σ H' s' → Q () s') : wpAny (model X.prog X.w) A (dictSet D u r) Q E s := by
  rcases g with ⟨kvs, k, e, rfl, l, rfl⟩ | ⟨kvs, k, b, e, rfl, eb, l, rfl⟩
  · obtain ⟨z, hd, vs, rel, dd⟩ := dk_of I.hok e
    have hm : (putK kvs k v).length ≤ sizeLine := Nat.le_trans (length_putK kvs k v) (by omega)
    refine wpAny_dictSet_pairs (hsz := (by rw [← rel.length]; exact z)) (kV_is ry) dd fun h2 d2 sb => h _ (d_write I (by rw [e]; exact True.intro) sb ?_ (dk_new hm hd (rel.put k rv) d2))
    exact let ⟨q, _, _, hq, _⟩ := d2; ⟨q, hq⟩
  · cases (show u = Value.ref b from ry)
    obtain ⟨z, hd, xs, rel, dd⟩ := dt_of I.hok e
    have hm : (putK kvs k v).length ≤ sizeLine := Nat.le_trans (length_putK kvs k v) (by omega)
    refine wpAny_dictSet_heap (hsz := (by rw [← Paired.length rel]; exact z)) (knd := tupleKind (mixKind X.prog X.w)) hu (key_of I.hok eb) dd fun h2 d2 sb => h _ ?_
    obtain ⟨q, es, ep, hq, c2, c3, c4, _, c5⟩ := d2
    refine d_write I (by rw [e]; exact True.intro) sb ⟨q, hq⟩ ⟨hm, hd, _, (rel.put k eb rv).keeps fun c ys ec => ?_, q, es, ep, hq, c2, c3, c4, c5⟩
    rw [upd_ne (ne_of ec e nofun)]; exact ec

/-- what a turn does behind its tests: from there on Φ is reached -/
abbrev BBt := Around → Addr → Env → (Shared → Prop) → Shared → Prop
def LoopD (prog : Program) (w : World) (c tg : Expr) (ifs : List Expr) (BB : BBt) : Prop :=
  ∀ (A : Around) (R : Result → Shared → Prop) (it : Value) (D : Addr) (env : Env) (I : Nat → Shared → Prop),
    (∀ n s, I n s → wpAny (model prog w) A (pyNext it) (fun r s1 => match r with
      | none => R (.ok .next) s1
      | some v => wpAny (model prog w) A (letOwnedTupleGo tg it v) (fun _ s2 => wpAny (model prog w) A (assign tg env v) (fun _ s3 =>
          wpAny (model prog w) A (forIn ifs true fun c r => if r = true then do let ok ← isTrue c env (eval c env); pure (ForInStep.yield ok) else pure (ForInStep.yield r)) (fun ok s4 =>
            if ok = true then BB A D env (fun s' => ∃ m, m < n ∧ I m s') s4 else ∃ m, m < n ∧ I m s4) noE s3) noE s2) noE s1) noE s) →
    ∀ (n : Nat) (s : Shared), I n s → codeAny (model prog w) A (.compLoop c 0 it (.ref D) env) R s
def bb1 (prog : Program) (w : World) (kx vx : Expr) : BBt := fun A D env Φ s => wpAny (model prog w) A (eval kx env) (fun kv s1 => wpAny (model prog w) A (eval vx env) (fun vv s2 => wpAny (model prog w) A (dictSet D kv vv) (fun _ s3 => Φ s3) noE s2) noE s1) noE s
theorem noE_any {M : Model} {A : Around} {α : Type} {t : Sem α} {Q : α → Shared → Prop} {E : Value → Shared → Prop} {s : Shared} (h : wpAny M A t Q noE s) : wpAny M A t Q E s := wpAny_mono h (fun _ _ q => q) (fun _ _ q => q.elim)
theorem thnE {α : Type} {t : Sem α} {Q Q' : α → Shared → Prop} {M : Model} {A : Around} {E : Value → Shared → Prop} {s : Shared} (h : wpAny M A t Q noE s) (hQ : ∀ a s, Q a s → Q' a s) : wpAny M A t Q' E s := wpAny_mono h hQ (fun _ _ q => q.elim)
theorem loop1 {prog : Program} {w : World} {kx vx tg iter : Expr} {ifs : List Expr} {scope : Scope} {pos : Pos} : LoopD prog w (.DictComp kx vx [⟨tg, iter, ifs, 0⟩] scope pos) tg ifs (bb1 prog w kx vx) := by
  intro A R it D env I turn n s h
  refine compLoop_anyD I (fun n s hI => ?_) n h
  refine thnE (turn n s hI) fun r s1 h1 => ?_
  cases r with
  | none => exact h1
  | some v =>
    refine thnE h1 fun _ s2 h2 => thnE h2 fun _ s3 h3 => thnE h3 fun ok s4 h4 => ?_
    cases ok with
    | false => exact h4
    | true =>
      simp only [if_true] at h4 ⊢
      exact thnE h4 fun _ s5 h5 => thnE h5 fun _ s6 h6 => noE_any h6
def bb2 (prog : Program) (w : World) (c i1 : Expr) : BBt := fun A D env Φ s => wpAny (model prog w) A (eval i1 env) (fun x s1 => wpAny (model prog w) A (pyIter x) (fun it1 s2 =>
  codeAny (model prog w) A (.compStart c 1 it1 (.ref D) env) (fun r s' => match r with
    | .ok _ => Φ s'
    | .error _ => False) s2) noE s1) noE s
section
variable {kx vx t0 i0 t1 i1 : Expr} {ifs0 ifs1 : List Expr} {scope : Scope} {pos : Pos}
theorem turn2_out (it : Value) (D : Addr) (env : Env) :
    compTurn (.DictComp kx vx [⟨t0, i0, ifs0, 0⟩, ⟨t1, i1, ifs1, 0⟩] scope pos) 0 it (.ref D) env = (do
      standAt i0.pos
      match ← pyNext it with
      | none => pure (.done .next)
      | some v =>
        letOwnedTupleGo t0 it v
        assign t0 env v
        let mut ok := true
        for c in ifs0 do
          if ok then ok ← isTrue c env (eval c env)
        if ok then
          let x ← eval i1 env
          standAt i1.pos
          let x ← foldedSetIterable i1 env x
          let _ ← runOwn (.compStart (.DictComp kx vx [⟨t0, i0, ifs0, 0⟩, ⟨t1, i1, ifs1, 0⟩] scope pos) 1 (← holding [x] (pyIter x)) (.ref D) env) env
        again (.compLoop (.DictComp kx vx [⟨t0, i0, ifs0, 0⟩, ⟨t1, i1, ifs1, 0⟩] scope pos) 0 it (.ref D) env)) := by rfl
theorem turn2_in (it : Value) (D : Addr) (env : Env) :
    compTurn (.DictComp kx vx [⟨t0, i0, ifs0, 0⟩, ⟨t1, i1, ifs1, 0⟩] scope pos) 1 it (.ref D) env = (do
      standAt i1.pos
      match ← pyNext it with
      | none => pure (.done .next)
      | some v =>
        letOwnedTupleGo t1 it v
        assign t1 env v
        let mut ok := true
        for c in ifs1 do
          if ok then ok ← isTrue c env (eval c env)
        if ok then
          (do
            let kv ← eval kx env
            let vv ← holding [kv] (eval vx env)
            standAt { kx.pos with endLine := vx.pos.endLine, endCol := vx.pos.endCol }
            holding [kv, vv] (dictSet D kv vv))
        again (.compLoop (.DictComp kx vx [⟨t0, i0, ifs0, 0⟩, ⟨t1, i1, ifs1, 0⟩] scope pos) 1 it (.ref D) env)) := by rfl
theorem loop2 {prog : Program} {w : World} (hs : ∀ env x, foldedSetIterable i1 env x = pure x) :
    LoopD prog w (.DictComp kx vx [⟨t0, i0, ifs0, 0⟩, ⟨t1, i1, ifs1, 0⟩] scope pos) t0 ifs0 (bb2 prog w (.DictComp kx vx [⟨t0, i0, ifs0, 0⟩, ⟨t1, i1, ifs1, 0⟩] scope pos) i1) := by
  intro A R it D env I turn n s h
  refine codeAny_loop rfl I (fun n s hI => ?_) n h
  show wpAny _ A ((compTurn (.DictComp kx vx [⟨t0, i0, ifs0, 0⟩, ⟨t1, i1, ifs1, 0⟩] scope pos) 0 it (.ref D) env).onRaise (fun x => do noteFrame x env; theTreesLotGoes x)) _ _ s
  refine wpAny_noted ?_
  rw [turn2_out]
  refine wpAny_bind (wpAny_standAt (wpAny_bind (thnE (turn n s hI) fun r s1 h1 => ?_)))
  cases r with
  | none => exact wpAny_pure h1
  | some v =>
    refine wpAny_bind (thnE h1 fun _ s2 h2 => wpAny_bind (thnE h2 fun _ s3 h3 => wpAny_bind (thnE h3 fun ok s4 h4 => ?_)))
    cases ok with
    | false => exact wpAny_pure ⟨rfl, h4⟩
    | true =>
      simp only [if_true] at h4
      refine wpAny_bind (thnE h4 fun x s5 h5 => wpAny_bind (wpAny_standAt (wpAny_bind (wpAny_of_eq (hs env x) (wpAny_bind (wpAny_holding (thnE h5 fun it1 s6 h6 => ?_)))))))
      refine wpAny_bind (wpAny_runOwn ?_)
      rw [Around.mark_none]
      refine codeAny_mono h6 fun r s' hr => ?_
      cases r with
      | ok f => first | exact wpAny_pure ⟨rfl, hr⟩ | exact wpAny_bind (wpAny_pure (wpAny_pure ⟨rfl, hr⟩))
      | error e => exact hr.elim
theorem loop2in {prog : Program} {w : World} {A : Around} {R : Result → Shared → Prop} {it : Value} {D : Addr} {env : Env} (I : Nat → Shared → Prop)
    (turn : ∀ n s, I n s → wpAny (model prog w) A (pyNext it) (fun r s1 => match r with
      | none => R (.ok .next) s1
      | some v => wpAny (model prog w) A (letOwnedTupleGo t1 it v) (fun _ s2 => wpAny (model prog w) A (assign t1 env v) (fun _ s3 =>
          wpAny (model prog w) A (forIn ifs1 true fun c r => if r = true then do let ok ← isTrue c env (eval c env); pure (ForInStep.yield ok) else pure (ForInStep.yield r)) (fun ok s4 =>
            if ok = true then bb1 prog w kx vx A D env (fun s' => ∃ m, m < n ∧ I m s') s4 else ∃ m, m < n ∧ I m s4) noE s3) noE s2) noE s1) noE s)
    (n : Nat) (s : Shared) (h : I n s) : codeAny (model prog w) A (.compLoop (.DictComp kx vx [⟨t0, i0, ifs0, 0⟩, ⟨t1, i1, ifs1, 0⟩] scope pos) 1 it (.ref D) env) R s := by
  refine codeAny_loop rfl I (fun n s hI => ?_) n h
  show wpAny _ A ((compTurn (.DictComp kx vx [⟨t0, i0, ifs0, 0⟩, ⟨t1, i1, ifs1, 0⟩] scope pos) 1 it (.ref D) env).onRaise (fun x => do noteFrame x env; theTreesLotGoes x)) _ _ s
  refine wpAny_noted ?_
  rw [turn2_in]
  refine wpAny_bind (wpAny_standAt (wpAny_bind (thnE (turn n s hI) fun r s1 h1 => ?_)))
  cases r with
  | none => exact wpAny_pure h1
  | some v =>
    refine wpAny_bind (thnE h1 fun _ s2 h2 => wpAny_bind (thnE h2 fun _ s3 h3 => wpAny_bind (thnE h3 fun ok s4 h4 => ?_)))
    cases ok with
    | false => exact wpAny_pure ⟨rfl, h4⟩
    | true =>
      simp only [if_true] at h4
      exact wpAny_bind (wpAny_bind (thnE h4 fun kv s5 h5 => wpAny_bind (wpAny_holding (thnE h5 fun vv s6 h6 => wpAny_bind (wpAny_standAt (wpAny_holding (thnE h6 fun _ s7 h7 => wpAny_pure ⟨rfl, h7⟩)))))))
theorem start2in {prog : Program} {w : World} {A : Around} {R : Result → Shared → Prop} {it : Value} {D : Addr} {env : Env} {s : Shared}
    (h0 : codeAny (model prog w) A (.compLoop (.DictComp kx vx [⟨t0, i0, ifs0, 0⟩, ⟨t1, i1, ifs1, 0⟩] scope pos) 1 it (.ref D) env) R s)
    (h : wpAny (model prog w) A (pyIter it) (fun it' s' => codeAny (model prog w) A (.compLoop (.DictComp kx vx [⟨t0, i0, ifs0, 0⟩, ⟨t1, i1, ifs1, 0⟩] scope pos) 1 it' (.ref D) env) R s') (notedBy (model prog w) A env fun x s' => R (.error x) s') s) :
    codeAny (model prog w) A (.compStart (.DictComp kx vx [⟨t0, i0, ifs0, 0⟩, ⟨t1, i1, ifs1, 0⟩] scope pos) 1 it (.ref D) env) R s := by
  refine codeAny_of_tree ?_
  show wpAny _ _ ((compStart (.DictComp kx vx [⟨t0, i0, ifs0, 0⟩, ⟨t1, i1, ifs1, 0⟩] scope pos) 1 it (.ref D) env).onRaise (fun x => do noteFrame x env; standAt theWindowsPlace)) _ _ s
  refine wpAny_notedAt ?_
  unfold compStart
  show wpAny _ _ (ask >>= _) _ _ s
  refine wpAny_bind (wpAny_askSetting (wpAny_ite ?_))
  split
  · first | exact wpAny_bind (wpAny_pure (wpAny_pure (And.intro rfl h0))) | exact wpAny_pure (And.intro rfl h0)
  · first
      | exact wpAny_bind (wpAny_rule (wpAny_bind (wpAny_standAt (wpAny_bind (wpAny_mono h (fun it' s' h' => wpAny_pure (And.intro rfl h')) fun _ _ x => x)))))
      | (refine wpAny_bind (wpAny_rule ?_); show wpAny _ _ (standAt i1.pos >>= _) _ _ s; exact wpAny_bind (wpAny_standAt (wpAny_bind (wpAny_mono h (fun it' s' h' => wpAny_pure (And.intro rfl h')) fun _ _ x => x))))
end
end L2


namespace L2
open PySem PySem.Spec PyProof.Rows
abbrev TBd := Addr → St → Hp → (Hp → Prop) → Prop
/-- {.. for tg in iter if ..}: o0 the empty dict (of either kind), tb what a turn does behind its tests -/
def tDg (wi : TI) (g : TG) (tt : TT) (o0 : HO) (tb : TBd) (vs : List Nat) : TE := fun σ H Q => wi σ H fun J H1 => ∀ D, H1 D = none → ∃ W : Nat → Nat → Hp → Prop, (∃ m, W 0 m (upd H1 D o0)) ∧ ∀ i m H, W i m H →
  (J.stop i H ∧ Q (.ref D) H) ∨ (J.go i H ∧ ∃ Nx : Hp → Prop, (∀ H', Nx H' → ∃ m', m' < m ∧ W (i + 1) m' H') ∧
    ∀ x H', J.yld i H x H' → g x (wipe σ vs) H' fun σ2 H2 => wipe σ2 vs = wipe σ vs ∧ tt σ2 H2 fun b H3 => if b = true then tb D σ2 H3 Nx else Nx H3)
theorem dg_it {J : It} {n : Nat} {G : Hp → Prop} {Y : Nat → Hp → V → Hp → Prop} (w : Walk J n G Y) {g : TG} {tt : TT} {o0 : HO} {tb : TBd} {vs : List Nat} {σ : St} {H1 : Hp} {D : Addr} {Qd : Hp → Prop} (Pv : Nat → Hp → Prop) (h0 : Pv 0 (upd H1 D o0)) (hG : ∀ i H, i ≤ n → Pv i H → G H)
    (hs : ∀ i x H H', i < n → Pv i H → Y i H x H' → g x (wipe σ vs) H' fun σ2 H2 => wipe σ2 vs = wipe σ vs ∧ tt σ2 H2 fun b H3 => if b = true then tb D σ2 H3 (Pv (i + 1)) else Pv (i + 1) H3) (hd : ∀ H, Pv n H → Qd H) :
    ∃ W : Nat → Nat → Hp → Prop, (∃ m, W 0 m (upd H1 D o0)) ∧ ∀ i m H, W i m H →
      (J.stop i H ∧ Qd H) ∨ (J.go i H ∧ ∃ Nx : Hp → Prop, (∀ H', Nx H' → ∃ m', m' < m ∧ W (i + 1) m' H') ∧ ∀ x H', J.yld i H x H' → g x (wipe σ vs) H' fun σ2 H2 => wipe σ2 vs = wipe σ vs ∧ tt σ2 H2 fun b H3 => if b = true then tb D σ2 H3 Nx else Nx H3) := by
  refine ⟨fun i m H => m = n - i ∧ i ≤ n ∧ Pv i H, ⟨n, by simp, Nat.zero_le _, h0⟩, ?_⟩
  rintro i m H ⟨rfl, hi, p⟩
  have q := hG i H hi p
  rcases Nat.lt_or_ge i n with hlt | hge
  · exact .inr ⟨w.goes i H hlt q, Pv (i + 1), fun H' p' => ⟨n - (i + 1), by omega, rfl, hlt, p'⟩, fun x H' y => hs i x H H' hlt p (w.yields i H x H' hlt q y)⟩
  · obtain rfl : i = n := by omega
    exact .inl ⟨w.stops H q, hd H p⟩
section
variable {X : Cx}
theorem dg_core {pins : List (Addr × Obj)} {s : Shared} {σ : St} {H : Hp} {Q : VK} {kx vx tg iter : Expr} {ifs : List Expr} {rest : List Comprehension} {scope : Scope} {own : List (Str × Nat)} {vs1 : List Nat} {pos pos' : Pos} {wi : TI} {g : TG} {tt : TT} {o0 : HO} {tb : TBd} {BB : BBt} {use : Option (Value → Sem Unit)} {Qf : Value → Shared → Prop}
    (L : LoopD X.prog X.w (.DictComp kx vx (⟨tg, iter, ifs, 0⟩ :: rest) scope pos) tg ifs BB) (ho : o0 = .dK [] ∨ o0 = .dT []) (hc : X.calm = true) (hN : X.N.Nodup) (I : Inv X pins σ H s) (hi : PI X tg iter wi) (ok : BlkOk X.N X.env.scope scope own) (hv : ∀ i ∈ vs1, i ∈ own.map (·.2))
    (hg : ∀ (s : Shared) (H : Hp) (C : Addr) (cl : List (Str × Addr)) (fp : List Addr), PG (X.blk s H scope (compEnvC scope cl C X.env) fp) tg g) (ht : ∀ (s : Shared) (H : Hp) (C : Addr) (cl : List (Str × Addr)) (fp : List Addr), PTs (X.blk s H scope (compEnvC scope cl C X.env) fp) ifs tt)
    (hb : ∀ (s : Shared) (H : Hp) (C : Addr) (cl : List (Str × Addr)) (fp : List Addr) (pins' : List (Addr × Obj)) (σ8 : St) (H9 : Hp) (s9 : Shared) (D : Addr) (Nx : Hp → Prop) (Φ : Shared → Prop), Inv (X.blk s H scope (compEnvC scope cl C X.env) fp) pins' σ8 H9 s9 → tb D σ8 H9 Nx →
      (∀ (σ9 : St) (s' : Shared) (H' : Hp), (σ9 = σ8 ∨ σ9 = wipe σ8 vs1) → Inv (X.blk s H scope (compEnvC scope cl C X.env) fp) pins' σ9 H' s' → Nx H' → Φ s') → BB X.A D (compEnvC scope cl C X.env) Φ s9)
    (hs : ∀ x, foldedSetIterable iter X.env x = pure x) (h : tDg wi g tt o0 tb (own.map (·.2)) σ H Q)
    (hRR : ∀ D C s' m H', Inv X pins σ H' s' → Q (.ref D) H' → s'.heap.Ns C m → FpOk X pins H' C → compPost (model X.prog X.w) X.A X.xe use Qf (.ref D) C (.ok .next) s') :
    wpAny (model X.prog X.w) X.A (comprehension (.DictComp kx vx (⟨tg, iter, ifs, 0⟩ :: rest) scope pos) scope X.env pos' newDict false (eval iter X.env) use) Qf X.xe s := by
  have hfree : ∀ y ∈ scope.names, y.2 = .free → ∃ c, X.env.cells.lookup y.1 = some c := fun y hy e => (ok.free y hy e).elim (fun k => I.ok.has _ (.inl k)) (fun k => I.ok.has _ (.inr k))
  refine wpAny_comprehension_free (use := use) rfl hs (closure_ok hfree) ok.kind (fun y hy e => by rw [ok.uniq y hy, e]) (thn (hi.run pins s σ H _ I h) fun xv s1 hx => thn hx fun itv s2 h2 => ?_)
  obtain ⟨it, fp, tn, J, H2, rfl, I2, T, st2, f2, q⟩ := h2
  refine wpAny_newObj_type (newEnv_comp ?_)
  obtain ⟨D, hD⟩ : ∃ D, s2.heap.objs.size = D := ⟨_, rfl⟩
  have hDn : H2 D = none := I2.hok.fresh (Nat.le_of_eq hD)
  obtain ⟨W, ⟨m0, w0⟩, turn⟩ := q D hDn
  rw [hD]
  generalize hs3 : ({ s2 with heap := s2.heap.push { cls := .type "dict", data := .dict #[] } } : Shared) = s3
  have I3 : Inv X pins σ (upd H2 D o0) s3 := by
    rw [← hs3]
    refine I2.laid (t' := s2.toks) (fun b o e => Heap.get?_push_of_some _ e) (Nat.le_of_eq hD) ?_
    rw [← hD]
    rcases ho with rfl | rfl
    · exact dk_empty s2.heap I2.big
    · exact dt_empty s2.heap I2.big
  have h3 : s3.heap = s2.heap.push { cls := .type "dict", data := .dict #[] } := by rw [← hs3]
  have f3 : ∀ b ∈ fp, FpOk X pins (upd H2 D o0) b ∧ b < s3.heap.objs.size := fun b hbm => by
    obtain ⟨ob, eob, _⟩ := T.obj _ _ st2 b hbm
    have hlt := Heap.lt_size eob
    refine ⟨⟨(upd_ne (by rw [← hD]; exact Nat.ne_of_lt hlt)).trans (f2 b hbm).1, (f2 b hbm).2⟩, by rw [h3, Heap.size_push]; exact Nat.lt_succ_of_lt hlt⟩
  have st3 : tn 0 s3.heap := T.keep _ _ _ st2 fun b _ ob e => by rw [h3]; exact Heap.get?_push_of_some _ e
  have I4 := block_start I3 ok hN f3
  show codeAny _ _ (.compStart (.DictComp kx vx (⟨tg, iter, ifs, 0⟩ :: rest) scope pos) 0 (.ref it) (.ref D) (compEnvC scope (cellsFrom (s3.heap.objs.size + 1) scope.names (cloFrom X.env.cells scope.names [])) s3.heap.objs.size X.env)) (compPost (model X.prog X.w) X.A X.xe use Qf (.ref D) s3.heap.objs.size) { s3 with heap := pushCells (s3.heap.push { cls := .type "dict", data := .dict #[] }) scope.names }
  have pg := hg s3 (upd H2 D o0) s3.heap.objs.size (cellsFrom (s3.heap.objs.size + 1) scope.names (cloFrom X.env.cells scope.names [])) fp
  have pt := ht s3 (upd H2 D o0) s3.heap.objs.size (cellsFrom (s3.heap.objs.size + 1) scope.names (cloFrom X.env.cells scope.names [])) fp
  have pb := hb s3 (upd H2 D o0) s3.heap.objs.size (cellsFrom (s3.heap.objs.size + 1) scope.names (cloFrom X.env.cells scope.names [])) fp
  have nfp : ∀ b ∈ fp, (upd H2 D o0) b = none := fun b hbm => (f3 b hbm).1.1
  have cL : (compEnvC scope (cellsFrom (s3.heap.objs.size + 1) scope.names (cloFrom X.env.cells scope.names [])) s3.heap.objs.size X.env).locals = s3.heap.objs.size := rfl
  generalize compEnvC scope (cellsFrom (s3.heap.objs.size + 1) scope.names (cloFrom X.env.cells scope.names [])) s3.heap.objs.size X.env = ce at I4 pg pt pb cL ⊢
  generalize upd H2 D o0 = H3 at I3 I4 pg pt pb w0 nfp f3
  generalize hs4 : ({ s3 with heap := pushCells (s3.heap.push { cls := .type "dict", data := .dict #[] }) scope.names } : Shared) = s4 at I4 ⊢
  have st4 : tn 0 s4.heap := T.keep _ _ _ st3 fun b _ ob e => by rw [← hs4]; exact pushCells_keeps _ _ _ _ (Heap.get?_push_of_some _ e)
  have stat : ∀ {σ' : St} {H' : Hp} {s' : Shared}, Inv (X.blk s3 H3 scope ce fp) [] σ' H' s' → (∀ b ∈ fp, H' b = none) → ∀ b ∈ fp, FpOk (X.blk s3 H3 scope ce fp) [] H' b := fun {σ' H' s'} I' hn b hbm =>
    ⟨hn b hbm, (I'.ok.exf b hbm).1, I'.ok.exfs b hbm, .inl hbm, fun x c e => (I'.ok.exf b hbm).2 x c e, fun p hp => absurd (show p ∈ ([] : List (Addr × Obj)) ++ [] from hp) (by simp)⟩
  have loop : codeAny (model X.prog X.w) X.A (.compLoop (.DictComp kx vx (⟨tg, iter, ifs, 0⟩ :: rest) scope pos) 0 (.ref it) (.ref D) ce) (compPost (model X.prog X.w) X.A X.xe use Qf (.ref D) s3.heap.objs.size) s4 := by
    refine L X.A _ _ D ce (fun n s' => ∃ i H', Inv (X.blk s3 H3 scope ce fp) [] (wipe σ (own.map (·.2))) H' s' ∧ tn i s'.heap ∧ (∀ b ∈ fp, H' b = none) ∧ W i n H') ?_ m0 s4 ⟨0, H3, I4, st4, nfp, w0⟩
    rintro n s5 ⟨i, H5, I5, st5, n5, w5⟩
    rcases turn i n H5 w5 with ⟨stop, qq⟩ | ⟨go, Nx, hNx, step⟩
    · refine thnF (T.done (X.blk s3 H3 scope ce fp) rfl rfl rfl hc i [] s5 _ H5 (fun _ _ => False) I5 (stat I5 n5) st5 stop) fun r s6 ⟨hr, I6⟩ => ?_
      subst hr
      obtain ⟨m, hn, _⟩ := I6.loc
      have nC : H5 ce.locals = none := I6.free
      rw [cL] at nC
      exact hRR D s3.heap.objs.size s6 m H5 (I3.call' (ch := fp) I6.os I6.base I6.hok I6.bare fun b hbm => ⟨(f3 b hbm).1.2.2.2.1, (f3 b hbm).1.2.1, (f3 b hbm).1.2.2.2.2.1, (f3 b hbm).1.2.2.2.2.2⟩) qq (by rw [← cL]; exact hn) (I3.fpOk (Nat.le_refl _) nC)
    · refine thnF (T.item (X.blk s3 H3 scope ce fp) rfl rfl rfl hc i [] s5 _ H5 (fun _ _ => False) I5 (stat I5 n5) st5 go) fun r s6 ⟨u, hr, h6⟩ => ?_
      subst hr
      refine thnF h6 fun _ s7 ⟨x, H7, I7, r7, y7, st7, n7⟩ => ?_
      refine thnF (pg.run _ s7 _ H7 x u _ (I7.pinned (stat I7 n7) (T.obj _ _ st7)) r7 (step x H7 y7)) fun _ s8 ⟨σ8, H8, I8, hw8, q8⟩ => thnF (pt.run _ s8 σ8 H8 _ I8 q8) fun b s9 ⟨H9, I9, q9⟩ => ?_
      have fin : ∀ (σ9 : St) (s' : Shared) (H' : Hp), (σ9 = σ8 ∨ σ9 = wipe σ8 vs1) → Inv (X.blk s3 H3 scope ce fp) ([] ++ pinsAt fp s7.heap) σ9 H' s' → Nx H' → ∃ m, m < n ∧ ∃ i H', Inv (X.blk s3 H3 scope ce fp) [] (wipe σ (own.map (·.2))) H' s' ∧ tn i s'.heap ∧ (∀ b ∈ fp, H' b = none) ∧ W i m H' := fun σ9 s' H' e9 I' nx => by
        obtain ⟨m', hm, w'⟩ := hNx H' nx
        have pin' : ∀ b ∈ fp, ∀ ob, s7.heap.get? b = some ob → s'.heap.get? b = some ob ∧ H' b = none := fun b hbm ob e =>
          let z := I'.pin (b, ob) (List.mem_append_right _ (List.mem_append_right _ (mem_pinsAt hbm e)))
          ⟨z.1, z.2.1⟩
        refine ⟨m', hm, i + 1, H', (I'.unpinned (pins := [])).weak ?_ (fun j v e => ?_), T.keep _ _ _ st7 fun b hbm ob e => (pin' b hbm ob e).1, fun b hbm => ?_, w'⟩
        · rw [← hw8, wipe_length]
          rcases e9 with rfl | rfl
          · rfl
          · rw [wipe_length]
        · rw [← hw8] at e
          obtain ⟨e1, e2⟩ := wipe_some e
          rcases e9 with rfl | rfl
          · exact e1
          · rw [wipe_out fun z => e2 (hv j z)]; exact e1
        · obtain ⟨ob, e, _⟩ := T.obj _ _ st7 b hbm
          exact (pin' b hbm ob e).2
      cases b with
      | false =>
        simp only [Bool.false_eq_true, if_false] at q9 ⊢
        exact fin _ _ _ (.inl rfl) I9 q9
      | true =>
        simp only [if_true] at q9 ⊢
        exact pb _ σ8 H9 s9 D Nx _ I9 q9 fin
  exact codeAny_compStart_dict loop (T.self X.A 0 _ _ _ st4 loop)
/-- as a value, given what the loop and a turn's body are -/
theorem pe_dg {kx vx tg iter : Expr} {ifs : List Expr} {rest : List Comprehension} {scope : Scope} {own : List (Str × Nat)} {vs1 : List Nat} {pos : Pos} {wi : TI} {g : TG} {tt : TT} {o0 : HO} {tb : TBd} {BB : BBt}
    (L : LoopD X.prog X.w (.DictComp kx vx (⟨tg, iter, ifs, 0⟩ :: rest) scope pos) tg ifs BB) (ho : o0 = .dK [] ∨ o0 = .dT []) (hc : X.calm = true) (hN : X.N.Nodup) (hi : PI X tg iter wi) (ok : BlkOk X.N X.env.scope scope own) (hv : ∀ i ∈ vs1, i ∈ own.map (·.2))
    (hg : ∀ (s : Shared) (H : Hp) (C : Addr) (cl : List (Str × Addr)) (fp : List Addr), PG (X.blk s H scope (compEnvC scope cl C X.env) fp) tg g) (ht : ∀ (s : Shared) (H : Hp) (C : Addr) (cl : List (Str × Addr)) (fp : List Addr), PTs (X.blk s H scope (compEnvC scope cl C X.env) fp) ifs tt)
    (hb : ∀ (s : Shared) (H : Hp) (C : Addr) (cl : List (Str × Addr)) (fp : List Addr) (pins' : List (Addr × Obj)) (σ8 : St) (H9 : Hp) (s9 : Shared) (D : Addr) (Nx : Hp → Prop) (Φ : Shared → Prop), Inv (X.blk s H scope (compEnvC scope cl C X.env) fp) pins' σ8 H9 s9 → tb D σ8 H9 Nx →
      (∀ (σ9 : St) (s' : Shared) (H' : Hp), (σ9 = σ8 ∨ σ9 = wipe σ8 vs1) → Inv (X.blk s H scope (compEnvC scope cl C X.env) fp) pins' σ9 H' s' → Nx H' → Φ s') → BB X.A D (compEnvC scope cl C X.env) Φ s9)
    (hs : ∀ x, foldedSetIterable iter X.env x = pure x := by intro _; rfl) : PE X (.DictComp kx vx (⟨tg, iter, ifs, 0⟩ :: rest) scope pos) (tDg wi g tt o0 tb (own.map (·.2))) := by
  refine ⟨fun pins s σ H Q I h => ?_⟩
  rw [arm_eval_DictComp]
  refine dg_core L ho hc hN I hi ok hv hg ht hb hs h fun D C s' m H' I' q hn f => ⟨m, hn, fun h'' sb => ?_⟩
  obtain ⟨f0, f1, f2, f3, f4, f5⟩ := f
  exact ⟨.ref D, H', I'.turned (t' := s'.toks) (fun b ob hbm e => (sb.2 b hbm).trans e) f0 f1 f3 f4 f5, rfl, q⟩
/-- name = {..}, the name a local on the same line -/
theorem ps_setDg {i : Nat} {y : Str} {py : Pos} {kx vx tg iter : Expr} {ifs : List Expr} {rest : List Comprehension} {scope : Scope} {own : List (Str × Nat)} {vs1 : List Nat} {pos spos : Pos} {wi : TI} {g : TG} {tt : TT} {o0 : HO} {tb : TBd} {BB : BBt}
    (hy : X.N[i]? = some y) (hyl : X.env.scope.names.lookup y = some .local) (hsw : swapsWith (.DictComp kx vx (⟨tg, iter, ifs, 0⟩ :: rest) scope pos) (some (.Name y py)) spos.line X.env = pure true)
    (L : LoopD X.prog X.w (.DictComp kx vx (⟨tg, iter, ifs, 0⟩ :: rest) scope pos) tg ifs BB) (ho : o0 = .dK [] ∨ o0 = .dT []) (hc : X.calm = true) (hN : X.N.Nodup) (hi : PI X tg iter wi) (ok : BlkOk X.N X.env.scope scope own) (hv : ∀ i ∈ vs1, i ∈ own.map (·.2))
    (hg : ∀ (s : Shared) (H : Hp) (C : Addr) (cl : List (Str × Addr)) (fp : List Addr), PG (X.blk s H scope (compEnvC scope cl C X.env) fp) tg g) (ht : ∀ (s : Shared) (H : Hp) (C : Addr) (cl : List (Str × Addr)) (fp : List Addr), PTs (X.blk s H scope (compEnvC scope cl C X.env) fp) ifs tt)
    (hb : ∀ (s : Shared) (H : Hp) (C : Addr) (cl : List (Str × Addr)) (fp : List Addr) (pins' : List (Addr × Obj)) (σ8 : St) (H9 : Hp) (s9 : Shared) (D : Addr) (Nx : Hp → Prop) (Φ : Shared → Prop), Inv (X.blk s H scope (compEnvC scope cl C X.env) fp) pins' σ8 H9 s9 → tb D σ8 H9 Nx →
      (∀ (σ9 : St) (s' : Shared) (H' : Hp), (σ9 = σ8 ∨ σ9 = wipe σ8 vs1) → Inv (X.blk s H scope (compEnvC scope cl C X.env) fp) pins' σ9 H' s' → Nx H' → Φ s') → BB X.A D (compEnvC scope cl C X.env) Φ s9)
    (hs : ∀ x, foldedSetIterable iter X.env x = pure x) : PS X (.Assign [.Name y py] (.DictComp kx vx (⟨tg, iter, ifs, 0⟩ :: rest) scope pos) spos) (tAsg (tDg wi g tt o0 tb (own.map (·.2))) (gName i)) := by
  refine ⟨fun pins s σ H D I h => ?_⟩
  rw [exec_Assign_Name_used _ _ _ _ hsw]
  refine wpAny_bind (wpAny_standAt (wpAny_bind ?_))
  show wpAny _ X.A (do let _ ← comprehension (.DictComp kx vx (⟨tg, iter, ifs, 0⟩ :: rest) scope pos) scope X.env (firstIterPos (⟨tg, iter, ifs, 0⟩ :: rest) pos) newDict false (eval iter X.env) (some (assign (.Name y py) X.env))) _ _ s
  have h : tDg wi g tt o0 tb (own.map (·.2)) σ H (fun x H1 => gName i x σ H1 D.nx) := h
  refine wpAny_bind (thn (dg_core (Qf := fun _ s' => SP X pins D .next s') L ho hc hN I hi ok hv hg ht hb hs h fun L C s' m H' I' q hn f => ?_) fun _ s' hq => wpAny_pure (wpAny_pure hq))
  show wpAny _ _ (assign (.Name y py) X.env (.ref L)) _ _ _
  refine wpAny_assign_Name (store_ok2 (v := V.ref L) I' hN hy (.inl hyl) rfl (fun s2 I2 ⟨a, sb, ha⟩ => ?_) (.inr hyl))
  obtain ⟨f0, f1, f2, f3, f4, f5⟩ := f
  have haC : C ≠ a := by
    rcases ha with z | z
    · rw [z]; exact f1
    · exact fun e => f4 y a z e.symm
  refine ⟨m, hn.sameBut sb haC, fun h3 sb3 => ?_⟩
  exact ⟨_, H', I2.turned (t' := s2.toks) (fun b o hb e => (sb3.2 b hb).trans e) f0 f1 f3 f4 f5, q⟩
/-- swapsWith of a dict comprehension -/
theorem swd_true {kx vx : Expr} {gs : List Comprehension} {scope : Scope} {pos py : Pos} {y : Str} {l : Nat} {env : Env} (hk : env.scope.kind = .function) (hy : env.scope.names.lookup y = some .local) (hl : (py.line == pos.line) = true)
    (ha : (scope.names.any fun (n, k) => n == y && (k == .local || k == .cell)) = false) : swapsWith (.DictComp kx vx gs scope pos) (some (.Name y py)) l env = pure true := by
  have ky : env.kindOf y = some .local := hy
  have hb : env.blockKind = .function := by unfold Env.blockKind; rw [hk]; rfl
  unfold swapsWith
  simp only [hb, ky, ha, Expr.pos, hl]
  rfl
/-- one clause: the key's and the value's readings, then the store -/
def bPut (tk tv : TE) : TBd := fun D σ H Nx => tk σ H fun y H4 => tv σ H4 fun z H5 => ∃ H6, DPut H5 D y z H6 ∧ Nx H6
theorem pe_dg1 {kx vx tg iter : Expr} {ifs : List Expr} {scope : Scope} {own : List (Str × Nat)} {pos : Pos} {wi : TI} {g : TG} {tt : TT} {o0 : HO} {tk tv : TE} (hu : X.A.units < cLine) (ho : o0 = .dK [] ∨ o0 = .dT []) (hc : X.calm = true) (hN : X.N.Nodup) (hi : PI X tg iter wi) (ok : BlkOk X.N X.env.scope scope own)
    (hg : ∀ (s : Shared) (H : Hp) (C : Addr) (cl : List (Str × Addr)) (fp : List Addr), PG (X.blk s H scope (compEnvC scope cl C X.env) fp) tg g) (ht : ∀ (s : Shared) (H : Hp) (C : Addr) (cl : List (Str × Addr)) (fp : List Addr), PTs (X.blk s H scope (compEnvC scope cl C X.env) fp) ifs tt)
    (hk : ∀ (s : Shared) (H : Hp) (C : Addr) (cl : List (Str × Addr)) (fp : List Addr), PE (X.blk s H scope (compEnvC scope cl C X.env) fp) kx tk) (he : ∀ (s : Shared) (H : Hp) (C : Addr) (cl : List (Str × Addr)) (fp : List Addr), PE (X.blk s H scope (compEnvC scope cl C X.env) fp) vx tv)
    (hs : ∀ x, foldedSetIterable iter X.env x = pure x := by intro _; rfl) : PE X (.DictComp kx vx [⟨tg, iter, ifs, 0⟩] scope pos) (tDg wi g tt o0 (bPut tk tv) (own.map (·.2))) := by
  refine pe_dg (vs1 := []) loop1 ho hc hN hi ok (fun i hi => nomatch hi) hg ht (fun s H C cl fp pins' σ8 H9 s9 D Nx Φ I9 q9 fin => ?_) hs
  refine thnF ((hk s H C cl fp).run _ s9 σ8 H9 _ I9 q9) fun kv s1 ⟨y, H1, I1, r1, q1⟩ => thnF ((he s H C cl fp).run _ s1 σ8 H1 _ I1 q1) fun vv s2 ⟨z, H2, I2, r2, H6, pt, nx⟩ => ?_
  exact d_set (X := X.blk s H scope (compEnvC scope cl C X.env) fp) hu I2 pt r1 r2 fun s3 I3 => fin _ _ _ (.inl rfl) I3 nx
theorem ps_setDg1 {i : Nat} {y : Str} {py spos : Pos} {kx vx tg iter : Expr} {ifs : List Expr} {scope : Scope} {own : List (Str × Nat)} {pos : Pos} {wi : TI} {g : TG} {tt : TT} {o0 : HO} {tk tv : TE} (hy : X.N[i]? = some y) (hyl : X.env.scope.names.lookup y = some .local) (hsw : swapsWith (.DictComp kx vx [⟨tg, iter, ifs, 0⟩] scope pos) (some (.Name y py)) spos.line X.env = pure true) (hu : X.A.units < cLine) (ho : o0 = .dK [] ∨ o0 = .dT []) (hc : X.calm = true) (hN : X.N.Nodup) (hi : PI X tg iter wi) (ok : BlkOk X.N X.env.scope scope own)
    (hg : ∀ (s : Shared) (H : Hp) (C : Addr) (cl : List (Str × Addr)) (fp : List Addr), PG (X.blk s H scope (compEnvC scope cl C X.env) fp) tg g) (ht : ∀ (s : Shared) (H : Hp) (C : Addr) (cl : List (Str × Addr)) (fp : List Addr), PTs (X.blk s H scope (compEnvC scope cl C X.env) fp) ifs tt)
    (hk : ∀ (s : Shared) (H : Hp) (C : Addr) (cl : List (Str × Addr)) (fp : List Addr), PE (X.blk s H scope (compEnvC scope cl C X.env) fp) kx tk) (he : ∀ (s : Shared) (H : Hp) (C : Addr) (cl : List (Str × Addr)) (fp : List Addr), PE (X.blk s H scope (compEnvC scope cl C X.env) fp) vx tv)
    (hs : ∀ x, foldedSetIterable iter X.env x = pure x := by intro _; rfl) : PS X (.Assign [.Name y py] (.DictComp kx vx [⟨tg, iter, ifs, 0⟩] scope pos) spos) (tAsg (tDg wi g tt o0 (bPut tk tv) (own.map (·.2))) (gName i)) := by
  refine ps_setDg (vs1 := []) hy hyl hsw loop1 ho hc hN hi ok (fun i hi => nomatch hi) hg ht (fun s H C cl fp pins' σ8 H9 s9 D Nx Φ I9 q9 fin => ?_) hs
  refine thnF ((hk s H C cl fp).run _ s9 σ8 H9 _ I9 q9) fun kv s1 ⟨y, H1, I1, r1, q1⟩ => thnF ((he s H C cl fp).run _ s1 σ8 H1 _ I1 q1) fun vv s2 ⟨z, H2, I2, r2, H6, pt, nx⟩ => ?_
  exact d_set (X := X.blk s H scope (compEnvC scope cl C X.env) fp) hu I2 pt r1 r2 fun s3 I3 => fin _ _ _ (.inl rfl) I3 nx
/-- two clauses: the second source's own loop, from whose end Nx is reached -/
def bTwo (wi1 : TI) (g1 : TG) (tt1 : TT) (tb1 : TBd) (vs1 : List Nat) : TBd := fun D σ2 H3 Nx => wi1 σ2 H3 fun J1 H4 => ∃ W1 : Nat → Nat → Hp → Prop, (∃ m, W1 0 m H4) ∧ ∀ j k H, W1 j k H →
  (J1.stop j H ∧ Nx H) ∨ (J1.go j H ∧ ∃ Nx1 : Hp → Prop, (∀ H', Nx1 H' → ∃ k', k' < k ∧ W1 (j + 1) k' H') ∧
    ∀ x H', J1.yld j H x H' → g1 x (wipe σ2 vs1) H' fun σ3 H5 => wipe σ3 vs1 = wipe σ2 vs1 ∧ tt1 σ3 H5 fun b H6 => if b = true then tb1 D σ3 H6 Nx1 else Nx1 H6)
theorem two_it {J : It} {n : Nat} {G : Hp → Prop} {Y : Nat → Hp → V → Hp → Prop} (w : Walk J n G Y) {g1 : TG} {tt1 : TT} {tb1 : TBd} {vs1 : List Nat} {σ2 : St} {H4 : Hp} {D : Addr} {Nx : Hp → Prop} (Pv : Nat → Hp → Prop) (h0 : Pv 0 H4) (hG : ∀ i H, i ≤ n → Pv i H → G H)
    (hs : ∀ i x H H', i < n → Pv i H → Y i H x H' → g1 x (wipe σ2 vs1) H' fun σ3 H5 => wipe σ3 vs1 = wipe σ2 vs1 ∧ tt1 σ3 H5 fun b H6 => if b = true then tb1 D σ3 H6 (Pv (i + 1)) else Pv (i + 1) H6) (hd : ∀ H, Pv n H → Nx H) :
    ∃ W1 : Nat → Nat → Hp → Prop, (∃ m, W1 0 m H4) ∧ ∀ j k H, W1 j k H →
      (J.stop j H ∧ Nx H) ∨ (J.go j H ∧ ∃ Nx1 : Hp → Prop, (∀ H', Nx1 H' → ∃ k', k' < k ∧ W1 (j + 1) k' H') ∧ ∀ x H', J.yld j H x H' → g1 x (wipe σ2 vs1) H' fun σ3 H5 => wipe σ3 vs1 = wipe σ2 vs1 ∧ tt1 σ3 H5 fun b H6 => if b = true then tb1 D σ3 H6 Nx1 else Nx1 H6) := by
  refine ⟨fun i m H => m = n - i ∧ i ≤ n ∧ Pv i H, ⟨n, by simp, Nat.zero_le _, h0⟩, ?_⟩
  rintro i m H ⟨rfl, hi, p⟩
  have q := hG i H hi p
  rcases Nat.lt_or_ge i n with hlt | hge
  · exact .inr ⟨w.goes i H hlt q, Pv (i + 1), fun H' p' => ⟨n - (i + 1), by omega, rfl, hlt, p'⟩, fun x H' y => hs i x H H' hlt p (w.yields i H x H' hlt q y)⟩
  · obtain rfl : i = n := by omega
    exact .inl ⟨w.stops H q, hd H p⟩
theorem pe_dg2 {kx vx tg iter tg1 iter1 : Expr} {ifs ifs1 : List Expr} {scope : Scope} {own : List (Str × Nat)} {vs1 : List Nat} {pos : Pos} {wi wi1 : TI} {g g1 : TG} {tt tt1 : TT} {o0 : HO} {tk tv : TE} (hu : X.A.units < cLine) (ho : o0 = .dK [] ∨ o0 = .dT []) (hc : X.calm = true) (hN : X.N.Nodup) (hi : PI X tg iter wi) (ok : BlkOk X.N X.env.scope scope own) (hv : ∀ i ∈ vs1, i ∈ own.map (·.2))
    (hg : ∀ (s : Shared) (H : Hp) (C : Addr) (cl : List (Str × Addr)) (fp : List Addr), PG (X.blk s H scope (compEnvC scope cl C X.env) fp) tg g) (ht : ∀ (s : Shared) (H : Hp) (C : Addr) (cl : List (Str × Addr)) (fp : List Addr), PTs (X.blk s H scope (compEnvC scope cl C X.env) fp) ifs tt)
    (hi1 : ∀ (s : Shared) (H : Hp) (C : Addr) (cl : List (Str × Addr)) (fp : List Addr), PI (X.blk s H scope (compEnvC scope cl C X.env) fp) tg1 iter1 wi1)
    (hg1 : ∀ (s : Shared) (H : Hp) (C : Addr) (cl : List (Str × Addr)) (fp : List Addr), PG (X.blk s H scope (compEnvC scope cl C X.env) fp) tg1 g1) (ht1 : ∀ (s : Shared) (H : Hp) (C : Addr) (cl : List (Str × Addr)) (fp : List Addr), PTs (X.blk s H scope (compEnvC scope cl C X.env) fp) ifs1 tt1)
    (hk : ∀ (s : Shared) (H : Hp) (C : Addr) (cl : List (Str × Addr)) (fp : List Addr), PE (X.blk s H scope (compEnvC scope cl C X.env) fp) kx tk) (he : ∀ (s : Shared) (H : Hp) (C : Addr) (cl : List (Str × Addr)) (fp : List Addr), PE (X.blk s H scope (compEnvC scope cl C X.env) fp) vx tv)
    (hs : ∀ x, foldedSetIterable iter X.env x = pure x := by intro _; rfl) (hs1 : ∀ env x, foldedSetIterable iter1 env x = pure x := by intro _ _; rfl) :
    PE X (.DictComp kx vx [⟨tg, iter, ifs, 0⟩, ⟨tg1, iter1, ifs1, 0⟩] scope pos) (tDg wi g tt o0 (bTwo wi1 g1 tt1 (bPut tk tv) vs1) (own.map (·.2))) := by
  refine pe_dg (vs1 := vs1) (loop2 hs1) ho hc hN hi ok hv hg ht (fun s H C cl fp pins' σ8 H9 s9 D Nx Φ I9 q9 fin => ?_) hs
  have pk := hk s H C cl fp
  have pv := he s H C cl fp
  have pi1 := hi1 s H C cl fp
  have pg1 := hg1 s H C cl fp
  have pt1 := ht1 s H C cl fp
  generalize compEnvC scope cl C X.env = ce at I9 fin pk pv pi1 pg1 pt1 ⊢
  refine thnF (pi1.run _ s9 σ8 H9 _ I9 q9) fun xv s10 hx => thnF hx fun itv s11 h11 => ?_
  obtain ⟨it1, fp1, tn1, J1, H11, rfl, I11, T1, st11, f11, W1, ⟨m1, w1⟩, turn1⟩ := h11
  have stat1 : ∀ {H' : Hp}, (∀ b ∈ fp1, H' b = none) → ∀ b ∈ fp1, FpOk (X.blk s H scope ce fp) pins' H' b := fun hn b hbm => ⟨hn b hbm, (f11 b hbm).2⟩
  have lp : codeAny (model X.prog X.w) X.A (.compLoop (.DictComp kx vx [⟨tg, iter, ifs, 0⟩, ⟨tg1, iter1, ifs1, 0⟩] scope pos) 1 (.ref it1) (.ref D) ce)
      (fun r s' => match r with
        | .ok _ => Φ s'
        | .error _ => False) s11 := by
    refine loop2in (fun k s' => ∃ j H', Inv (X.blk s H scope ce fp) pins' (wipe σ8 vs1) H' s' ∧ tn1 j s'.heap ∧ (∀ b ∈ fp1, H' b = none) ∧ W1 j k H') ?_ m1 s11 ⟨0, H11, I11.weak (wipe_length _ _) (fun j v e => (wipe_some e).1), st11, fun b hbm => (f11 b hbm).1, w1⟩
    rintro k s12 ⟨j, H12, I12, st12, n12, w12⟩
    rcases turn1 j k H12 w12 with ⟨stop1, nx1⟩ | ⟨go1, Nx1, hNx1, step1⟩
    · refine thnF (T1.done (X.blk s H scope ce fp) rfl rfl rfl hc j _ s12 (wipe σ8 vs1) H12 (fun _ _ => False) I12 (stat1 n12) st12 stop1) fun r s13 ⟨hr, I13⟩ => ?_
      subst hr
      exact fin _ _ _ (.inr rfl) I13 nx1
    · refine thnF (T1.item (X.blk s H scope ce fp) rfl rfl rfl hc j _ s12 (wipe σ8 vs1) H12 (fun _ _ => False) I12 (stat1 n12) st12 go1) fun r s13 ⟨u1, hr, h13⟩ => ?_
      subst hr
      refine thnF h13 fun _ s14 ⟨x1, H14, I14, r14, y14, st14, n14⟩ => ?_
      refine thnF (pg1.run _ s14 (wipe σ8 vs1) H14 x1 u1 _ (I14.pinned (stat1 n14) (T1.obj _ _ st14)) r14 (step1 x1 H14 y14)) fun _ s15 ⟨σ15, H15, I15, hw15, q15⟩ => thnF (pt1.run _ s15 σ15 H15 _ I15 q15) fun b1 s16 ⟨H16, I16, q16⟩ => ?_
      have fin1 : ∀ {s' : Shared} {H' : Hp}, Inv (X.blk s H scope ce fp) (pins' ++ pinsAt fp1 s14.heap) σ15 H' s' → Nx1 H' → ∃ m, m < k ∧ ∃ j H', Inv (X.blk s H scope ce fp) pins' (wipe σ8 vs1) H' s' ∧ tn1 j s'.heap ∧ (∀ b ∈ fp1, H' b = none) ∧ W1 j m H' := fun {s' H'} I' nx => by
        obtain ⟨m', hm, w'⟩ := hNx1 H' nx
        have pin' : ∀ b ∈ fp1, ∀ ob, s14.heap.get? b = some ob → s'.heap.get? b = some ob ∧ H' b = none := fun b hbm ob e =>
          let z := I'.pin (b, ob) (List.mem_append_right _ (List.mem_append_right _ (mem_pinsAt hbm e)))
          ⟨z.1, z.2.1⟩
        refine ⟨m', hm, j + 1, H', I'.unpinned.weak (by rw [← hw15, wipe_length]) (fun j v e => by rw [← hw15] at e; exact (wipe_some e).1), T1.keep _ _ _ st14 fun b hbm ob e => (pin' b hbm ob e).1, fun b hbm => ?_, w'⟩
        obtain ⟨ob, e, _⟩ := T1.obj _ _ st14 b hbm
        exact (pin' b hbm ob e).2
      cases b1 with
      | false =>
        simp only [Bool.false_eq_true, if_false] at q16 ⊢
        exact fin1 I16 q16
      | true =>
        simp only [if_true] at q16 ⊢
        refine thnF (pk.run _ s16 σ15 H16 _ I16 q16) fun kv s17 ⟨y, H17, I17, r17, q17⟩ => thnF (pv.run _ s17 σ15 H17 _ I17 q17) fun vv s18 ⟨z, H18, I18, r18, H6, pt, nx⟩ => ?_
        exact d_set (X := X.blk s H scope ce fp) hu I18 pt r17 r18 fun s19 I19 => fin1 I19 nx
  exact start2in lp (T1.self X.A 0 _ _ _ st11 lp)
theorem ps_setDg2 {i : Nat} {y : Str} {py spos : Pos} {kx vx tg iter tg1 iter1 : Expr} {ifs ifs1 : List Expr} {scope : Scope} {own : List (Str × Nat)} {vs1 : List Nat} {pos : Pos} {wi wi1 : TI} {g g1 : TG} {tt tt1 : TT} {o0 : HO} {tk tv : TE} (hy : X.N[i]? = some y) (hyl : X.env.scope.names.lookup y = some .local) (hsw : swapsWith (.DictComp kx vx [⟨tg, iter, ifs, 0⟩, ⟨tg1, iter1, ifs1, 0⟩] scope pos) (some (.Name y py)) spos.line X.env = pure true) (hu : X.A.units < cLine) (ho : o0 = .dK [] ∨ o0 = .dT []) (hc : X.calm = true) (hN : X.N.Nodup) (hi : PI X tg iter wi) (ok : BlkOk X.N X.env.scope scope own) (hv : ∀ i ∈ vs1, i ∈ own.map (·.2))
    (hg : ∀ (s : Shared) (H : Hp) (C : Addr) (cl : List (Str × Addr)) (fp : List Addr), PG (X.blk s H scope (compEnvC scope cl C X.env) fp) tg g) (ht : ∀ (s : Shared) (H : Hp) (C : Addr) (cl : List (Str × Addr)) (fp : List Addr), PTs (X.blk s H scope (compEnvC scope cl C X.env) fp) ifs tt)
    (hi1 : ∀ (s : Shared) (H : Hp) (C : Addr) (cl : List (Str × Addr)) (fp : List Addr), PI (X.blk s H scope (compEnvC scope cl C X.env) fp) tg1 iter1 wi1)
    (hg1 : ∀ (s : Shared) (H : Hp) (C : Addr) (cl : List (Str × Addr)) (fp : List Addr), PG (X.blk s H scope (compEnvC scope cl C X.env) fp) tg1 g1) (ht1 : ∀ (s : Shared) (H : Hp) (C : Addr) (cl : List (Str × Addr)) (fp : List Addr), PTs (X.blk s H scope (compEnvC scope cl C X.env) fp) ifs1 tt1)
    (hk : ∀ (s : Shared) (H : Hp) (C : Addr) (cl : List (Str × Addr)) (fp : List Addr), PE (X.blk s H scope (compEnvC scope cl C X.env) fp) kx tk) (he : ∀ (s : Shared) (H : Hp) (C : Addr) (cl : List (Str × Addr)) (fp : List Addr), PE (X.blk s H scope (compEnvC scope cl C X.env) fp) vx tv)
    (hs : ∀ x, foldedSetIterable iter X.env x = pure x := by intro _; rfl) (hs1 : ∀ env x, foldedSetIterable iter1 env x = pure x := by intro _ _; rfl) :
    PS X (.Assign [.Name y py] (.DictComp kx vx [⟨tg, iter, ifs, 0⟩, ⟨tg1, iter1, ifs1, 0⟩] scope pos) spos) (tAsg (tDg wi g tt o0 (bTwo wi1 g1 tt1 (bPut tk tv) vs1) (own.map (·.2))) (gName i)) := by
  refine ps_setDg (vs1 := vs1) hy hyl hsw (loop2 hs1) ho hc hN hi ok hv hg ht (fun s H C cl fp pins' σ8 H9 s9 D Nx Φ I9 q9 fin => ?_) hs
  have pk := hk s H C cl fp
  have pv := he s H C cl fp
  have pi1 := hi1 s H C cl fp
  have pg1 := hg1 s H C cl fp
  have pt1 := ht1 s H C cl fp
  generalize compEnvC scope cl C X.env = ce at I9 fin pk pv pi1 pg1 pt1 ⊢
  refine thnF (pi1.run _ s9 σ8 H9 _ I9 q9) fun xv s10 hx => thnF hx fun itv s11 h11 => ?_
  obtain ⟨it1, fp1, tn1, J1, H11, rfl, I11, T1, st11, f11, W1, ⟨m1, w1⟩, turn1⟩ := h11
  have stat1 : ∀ {H' : Hp}, (∀ b ∈ fp1, H' b = none) → ∀ b ∈ fp1, FpOk (X.blk s H scope ce fp) pins' H' b := fun hn b hbm => ⟨hn b hbm, (f11 b hbm).2⟩
  have lp : codeAny (model X.prog X.w) X.A (.compLoop (.DictComp kx vx [⟨tg, iter, ifs, 0⟩, ⟨tg1, iter1, ifs1, 0⟩] scope pos) 1 (.ref it1) (.ref D) ce)
      (fun r s' => match r with
        | .ok _ => Φ s'
        | .error _ => False) s11 := by
    refine loop2in (fun k s' => ∃ j H', Inv (X.blk s H scope ce fp) pins' (wipe σ8 vs1) H' s' ∧ tn1 j s'.heap ∧ (∀ b ∈ fp1, H' b = none) ∧ W1 j k H') ?_ m1 s11 ⟨0, H11, I11.weak (wipe_length _ _) (fun j v e => (wipe_some e).1), st11, fun b hbm => (f11 b hbm).1, w1⟩
    rintro k s12 ⟨j, H12, I12, st12, n12, w12⟩
    rcases turn1 j k H12 w12 with ⟨stop1, nx1⟩ | ⟨go1, Nx1, hNx1, step1⟩
    · refine thnF (T1.done (X.blk s H scope ce fp) rfl rfl rfl hc j _ s12 (wipe σ8 vs1) H12 (fun _ _ => False) I12 (stat1 n12) st12 stop1) fun r s13 ⟨hr, I13⟩ => ?_
      subst hr
      exact fin _ _ _ (.inr rfl) I13 nx1
    · refine thnF (T1.item (X.blk s H scope ce fp) rfl rfl rfl hc j _ s12 (wipe σ8 vs1) H12 (fun _ _ => False) I12 (stat1 n12) st12 go1) fun r s13 ⟨u1, hr, h13⟩ => ?_
      subst hr
      refine thnF h13 fun _ s14 ⟨x1, H14, I14, r14, y14, st14, n14⟩ => ?_
      refine thnF (pg1.run _ s14 (wipe σ8 vs1) H14 x1 u1 _ (I14.pinned (stat1 n14) (T1.obj _ _ st14)) r14 (step1 x1 H14 y14)) fun _ s15 ⟨σ15, H15, I15, hw15, q15⟩ => thnF (pt1.run _ s15 σ15 H15 _ I15 q15) fun b1 s16 ⟨H16, I16, q16⟩ => ?_
      have fin1 : ∀ {s' : Shared} {H' : Hp}, Inv (X.blk s H scope ce fp) (pins' ++ pinsAt fp1 s14.heap) σ15 H' s' → Nx1 H' → ∃ m, m < k ∧ ∃ j H', Inv (X.blk s H scope ce fp) pins' (wipe σ8 vs1) H' s' ∧ tn1 j s'.heap ∧ (∀ b ∈ fp1, H' b = none) ∧ W1 j m H' := fun {s' H'} I' nx => by
        obtain ⟨m', hm, w'⟩ := hNx1 H' nx
        have pin' : ∀ b ∈ fp1, ∀ ob, s14.heap.get? b = some ob → s'.heap.get? b = some ob ∧ H' b = none := fun b hbm ob e =>
          let z := I'.pin (b, ob) (List.mem_append_right _ (List.mem_append_right _ (mem_pinsAt hbm e)))
          ⟨z.1, z.2.1⟩
        refine ⟨m', hm, j + 1, H', I'.unpinned.weak (by rw [← hw15, wipe_length]) (fun j v e => by rw [← hw15] at e; exact (wipe_some e).1), T1.keep _ _ _ st14 fun b hbm ob e => (pin' b hbm ob e).1, fun b hbm => ?_, w'⟩
        obtain ⟨ob, e, _⟩ := T1.obj _ _ st14 b hbm
        exact (pin' b hbm ob e).2
      cases b1 with
      | false =>
        simp only [Bool.false_eq_true, if_false] at q16 ⊢
        exact fin1 I16 q16
      | true =>
        simp only [if_true] at q16 ⊢
        refine thnF (pk.run _ s16 σ15 H16 _ I16 q16) fun kv s17 ⟨y, H17, I17, r17, q17⟩ => thnF (pv.run _ s17 σ15 H17 _ I17 q17) fun vv s18 ⟨z, H18, I18, r18, H6, pt, nx⟩ => ?_
        exact d_set (X := X.blk s H scope ce fp) hu I18 pt r17 r18 fun s19 I19 => fin1 I19 nx
  exact start2in lp (T1.self X.A 0 _ _ _ st11 lp)
end
end L2


namespace K63W
open PySem L2 RZ StX PySem.W

abbrev sCInit : Stmt := inClass (top 21) 0
abbrev sNeedComplex : Stmt := top 22
abbrev sMade : Stmt := top 23
abbrev sSimplicesOf : Stmt := top 24

/-- a def of the module that is called by its name -/
structure Lk (K : PySem.W.Frag) (mg : Str → Option Value) (n : Str) (f : Addr) (fd : FuncData) (ps : List Str) : Prop where
  b : Binds K fd ps []
  g : mg n = some (.ref f)
  k : PySem.W.keepIn K (.ref f) = true

theorem nft : ¬ (("faces" : Str) = "tops") := by decide +kernel
theorem ntf : ¬ (("tops" : Str) = "faces") := by decide +kernel
def cf (d t : Addr) : List (Str × V) := putF "tops" (.ref t) (putF "faces" (.ref d) [])
theorem cf_faces (d t : Addr) : (cf d t).lookup ("faces" : Str) = some (.ref d) := by
  unfold cf
  rw [lookup_putF, if_neg nft, lookup_putF, if_pos rfl]
/-- a complex with these faces stands at p -/
def CxAt (C : Addr) (H : Hp) (p : Addr) (Ls : List (List Int)) : Prop := ∃ dx d t : Addr, H p = some (.ins C dx (cf d t)) ∧ H d = some (.dT (setD Ls))
theorem CxAt.same {C : Addr} {H H' : Hp} {p : Addr} {Ls : List (List Int)} (h : CxAt C H p Ls) (s : Same H H') : CxAt C H' p Ls :=
  let ⟨dx, d, t, h1, h2⟩ := h
  ⟨dx, d, t, s _ _ h1, s _ _ h2⟩
structure CTxt (K : PySem.W.Frag) (mg : Str → Option Value) (C : Addr) : Prop where
  ins : C8.InsC K C
  nF : NoAttr K C "faces"
  nT : NoAttr K C "tops"
  mgC : mg "Complex" = some (.ref C)

section
variable {P : Program} {w : World} {K : PySem.W.Frag} {mg : Str → Option Value} {base : Heap}
theorem scCI : FnScope ["self", "simplices", "index", "simplex"] ["self", "simplices"] (defScope sCInit) := ⟨rfl, rfl, rfl, by decide +kernel, rfl, by decide +kernel, by decide +kernel⟩
def Simp (l : List Int) : Prop := 1 ≤ l.length ∧ l.length ≤ 8 ∧ (∀ n ∈ l, 0 ≤ n ∧ n ≤ 30) ∧ l.Pairwise (· < ·)
def spCInit (C : Addr) : Sp := fun vs H Q _ => ∃ (H0 : Hp) (p dx t : Addr) (L : TL), vs = [.ref p, .ref t] ∧ Same H0 H ∧ H0 p = none ∧ H p = some (.ins C dx []) ∧ H t = some (.tup (refs L)) ∧ TLat H L ∧ L.length ≤ 400 ∧ (∀ q ∈ L, Simp q.2) ∧
  (genM (L.map (·.2))).length ≤ 400 ∧ (∀ l ∈ genM (L.map (·.2)), 1 ≤ l.length ∧ l.length ≤ 8) ∧ ∀ H', Same H0 H' → CxAt C H' p (genM (L.map (·.2))) → Q .non H'
theorem ok_cInit {f C f1 f2 f3 f4 : Addr} {fd fd1 fd2 fd3 fd4 : FuncData} {t4 : Tok} (F : Fun K "__init__" "Complex.__init__" sCInit f fd) (B : Bl mg) (T : CTxt K mg C)
    (G1 : FnOk P w K mg base CX0 1 f1 fd1 ["value", "least", "most"] (spIsList K)) (k1 : Lk K mg "is_list" f1 fd1 ["value", "least", "most"])
    (G2 : FnOk P w K mg base CX0 4 f2 fd2 ["value"] spIsSimplex) (k2 : Lk K mg "is_simplex" f2 fd2 ["value"])
    (G3 : FnOk P w K mg base CX0 2 f3 fd3 ["simplices"] spGeneratedT) (k3 : Lk K mg "generated" f3 fd3 ["simplices"])
    (G4 : FnOk P w K mg base CX0 1 f4 fd4 ["faces"] spMaximal) (k4 : Lk K mg "maximal" f4 fd4 ["faces"]) (mF : mg "MOST_FACES" = some (.int 400 t4)) :
    FnOk P w K mg base CX0 5 f fd ["self", "simplices"] (spCInit C) := by
  refine F.ok scCI (fun vs H Q E h => ?_) (fun cdv A outer s H vs Q E hr h => ?_)
  · obtain ⟨_, _, _, _, _, rfl, _⟩ := h
    rfl
  · obtain ⟨H0, p, dx, t, L, rfl, s0, p0, hp, hT, tl, h400, hS, hg, h18, k⟩ := h
    refine ⟨_, pss_cons (ps_if (pt_not (pt_val (pe_call G1 (hr.mono (by decide)) rfl k1.g k1.k k1.b .nil pass0 (pa_cons (pv 1) (pa_cons pe_int (pa_cons (pe_glob (v := .int 400) rfl mF ⟨_, rfl⟩) pa_nil)))))) (pss_one ps_never) pss_nil)
      (pss_cons (ps_for PassesOwn.never rfl (pi_enumT (by rfl) B.enumerate (pa_cons (pv 1) pa_nil)) (pg_tup rfl (pgs_cons (pg_name (i := 2) scCI.nd rfl (Or.inl rfl)) (pgs_cons (pg_name (i := 3) scCI.nd rfl (Or.inl rfl)) pgs_nil)))
        (pss_one (ps_if (pt_not (pt_val (pe_call G2 hr rfl k2.g k2.k k2.b .nil pass0 (pa_cons (pv 3) pa_nil)))) (pss_one ps_never) pss_nil)))
      (pss_cons (ps_fld (pv 0) (pe_call G3 (hr.mono (by decide)) rfl k3.g k3.k k3.b .nil pass0 (pa_cons (pv 1) pa_nil)) rfl)
      (pss_one (ps_fld (pv 0) (pe_call G4 (hr.mono (by decide)) rfl k4.g k4.k k4.b .nil pass0 (pa_cons (pe_fld (pv 0) rfl) pa_nil)) rfl)))), ?_⟩
    have hlen : (refs L).length = L.length := refs_len L
    refine ⟨_, rfl, t, _, 0, 400, rfl, hT, by omega, by rw [hlen]; omega, true, rfl, iteF ?_⟩
    refine ⟨_, rfl, t, _, rfl, SqT.of hT, ?_⟩
    refine for_it (walk_enumT (K := K) (a := t) (xs := refs L)) (fun i σ H' => ∃ (v1 v2 : Option V), σ = [some (.ref p), some (.ref t), v1, v2] ∧ Same H H') ⟨none, none, rfl, Same.rfl'⟩ (fun i σ H' _ ⟨_, _, _, q⟩ => SqT.of (q _ _ hT)) ?_ ?_
    · rintro i x σ H1 H2 hi ⟨v1, v2, rfl, sm⟩ ⟨T0, x1, x2, rfl, hT0, rfl, e3, e4⟩
      cases e3
      obtain ⟨q, hq, rfl⟩ := map_at e4
      have hSq := hS q (mem_at hq)
      have s2 := same_upd (o := .tup [.int (i : Nat), V.ref q.1]) hT0
      refine ⟨T0, _, rfl, SqT.of upd_same, rfl, _, _, rfl, _, _, rfl, rfl, ?_⟩
      refine ⟨_, rfl, q.1, q.2, rfl, s2 _ _ (sm _ _ (tl q (mem_at hq))), hSq.1, hSq.2.1, hSq.2.2.1, hSq.2.2.2, fun H3 s3 => ?_⟩
      refine ⟨true, rfl, iteF ?_⟩
      exact ⟨_, _, rfl, sm.trans (s2.trans s3)⟩
    · rintro σ H1 ⟨v1, v2, rfl, sm⟩
      refine ⟨_, rfl, t, L, rfl, sm _ _ hT, tl.same sm, (fun q hq => (hS q hq).2.1), hg, fun H2 d s2 hd hD => ?_⟩
      have hp2 := s2 _ _ (sm _ _ hp)
      have hpd : p ≠ d := ne_of_none (sm _ _ hp) hd
      refine ⟨_, rfl, p, C, dx, _, rfl, hp2, T.ins.cl, T.nF, (by show 0 < 1000; decide), ?_⟩
      have hD3 : upd H2 p (.ins C dx (putF "faces" (.ref d) [])) d = some (.dT (setD (genM (L.map (·.2))))) := by rw [upd_ne hpd.symm]; exact hD
      refine ⟨_, rfl, p, C, dx, _, _, rfl, upd_same, T.ins.cl, T.nF, (by rw [lookup_putF, if_pos rfl]), ?_⟩
      refine ⟨d, _, rfl, hD3, hg, h18, fun H4 q M s4 hq _ _ hM => ?_⟩
      refine ⟨_, rfl, p, C, dx, _, rfl, s4 _ _ upd_same, T.ins.cl, T.nT, (by show 1 < 1000; decide), ?_⟩
      have hD4 := s4 _ _ hD3
      refine k _ ?_ ⟨dx, d, q, upd_same, by rw [upd_ne hpd.symm]; exact hD4⟩
      intro b o e
      have nbp : b ≠ p := fun z => by rw [z, p0] at e; cases e
      rw [upd_ne nbp]
      refine s4 _ _ ?_
      rw [upd_ne nbp]
      exact s2 _ _ (sm _ _ (s0 _ _ e))

theorem sc22 : FnScope ["value"] ["value"] (defScope sNeedComplex) := ⟨rfl, rfl, rfl, by decide +kernel, rfl, by decide +kernel, by decide +kernel⟩
def spNeedComplex (C : Addr) : Sp := fun vs H Q _ => ∃ (p : Addr) (Ls : List (List Int)), vs = [.ref p] ∧ CxAt C H p Ls ∧ Q .non H
theorem ok_needComplex {f C : Addr} {fd : FuncData} (F : Fun K "need_complex" "need_complex" sNeedComplex f fd) (B : Bl mg) (T : CTxt K mg C) : FnOk P w K mg base CX0 1 f fd ["value"] (spNeedComplex C) := by
  refine F.ok sc22 (fun vs H Q E h => ?_) (fun cdv A outer s H vs Q E hr h => ?_)
  · obtain ⟨_, _, rfl, _⟩ := h
    rfl
  · obtain ⟨p, Ls, rfl, ⟨dx, d, t, h1, h2⟩, k⟩ := h
    refine ⟨_, pss_one (ps_if (pt_not (pt_val (pe_callB (C8.call_isC T.ins) (by rfl) B.isinstance (by decide +kernel) (pa_cons (pv 0) (pa_cons (pe_glob (v := .ref C) rfl T.mgC rfl) pa_nil))))) (pss_one ps_never) pss_nil), ?_⟩
    exact ⟨_, rfl, p, dx, _, rfl, h1, true, rfl, iteF k⟩

theorem sc24 : FnScope ["shape"] ["shape"] (defScope sSimplicesOf) := ⟨rfl, rfl, rfl, by decide +kernel, rfl, by decide +kernel, by decide +kernel⟩
def spSimplicesOf (C : Addr) : Sp := fun vs H Q _ => ∃ (p : Addr) (Ls : List (List Int)), vs = [.ref p] ∧ CxAt C H p Ls ∧ Ls.length ≤ 400 ∧
  ∀ H' q (L : TL), Same H H' → H q = none → TLat H' L → L.map (·.2) = Ls → H' q = some (.lst (refs (L.mergeSort leO))) → Q (.ref q) H'
theorem ok_simplicesOf {f C f1 f2 : Addr} {fd fd1 fd2 : FuncData} (F : Fun K "simplices_of" "simplices_of" sSimplicesOf f fd) (T : CTxt K mg C)
    (G1 : FnOk P w K mg base CX0 1 f1 fd1 ["value"] (spNeedComplex C)) (k1 : Lk K mg "need_complex" f1 fd1 ["value"])
    (G2 : FnOk P w K mg base CX0 1 f2 fd2 ["simplices"] spInOrderD) (k2 : Lk K mg "in_order" f2 fd2 ["simplices"]) : FnOk P w K mg base CX0 2 f fd ["shape"] (spSimplicesOf C) := by
  refine F.ok sc24 (fun vs H Q E h => ?_) (fun cdv A outer s H vs Q E hr h => ?_)
  · obtain ⟨_, _, rfl, _⟩ := h
    rfl
  · obtain ⟨p, Ls, rfl, ⟨dx, d, t, h1, h2⟩, h400, k⟩ := h
    refine ⟨_, pss_cons (ps_expr (pe_call G1 hr rfl k1.g k1.k k1.b .nil pass0 (pa_cons (pv 0) pa_nil))) (pss_one (ps_ret (pe_call G2 hr rfl k2.g k2.k k2.b .nil pass0 (pa_cons (pe_fld (pv 0) rfl) pa_nil)))), ?_⟩
    refine ⟨_, rfl, p, Ls, rfl, ⟨dx, d, t, h1, h2⟩, ?_⟩
    exact ⟨_, rfl, p, C, dx, _, _, rfl, h1, T.ins.cl, T.nF, cf_faces d t, d, Ls, rfl, h2, h400, k⟩
end
end K63W


namespace K63W
open PySem L2 RZ StX PySem.W

abbrev sSimplicesAt : Stmt := top 28
abbrev sNeedDegree : Stmt := top 30
abbrev sCountAt : Stmt := top 35

noncomputable def leS (a b : List Int) : Bool := dataLe false dT a b
noncomputable def leD (a b : List Int) : Bool := dataLe false dO a b
theorem sort_S (L : TL) : (L.mergeSort leT).map (·.2) = (L.map (·.2)).mergeSort leS := sort_maps (r := leT) (s := leS) (fun b : Addr × List Int => b.2) (fun _ _ _ _ => rfl)
theorem sort_D (L : TL) : (L.mergeSort leO).map (·.2) = (L.map (·.2)).mergeSort leD := sort_maps (r := leO) (s := leD) (fun b : Addr × List Int => b.2) (fun _ _ _ _ => rfl)
/-- the facets of a closed list of faces -/
noncomputable def topsM (Fs : List (List Int)) : List (List Int) := (Fs.filter (fun l => !decide (l ∈ innerM Fs))).mergeSort leS
/-- the faces of the complex that made builds -/
noncomputable def madeM (Ls : List (List Int)) : List (List Int) := genM (topsM (genM Ls))
/-- the faces of a degree in their order -/
noncomputable def atM (Ls : List (List Int)) (d : Int) : List (List Int) := if d = -1 then [[]] else (Ls.filter (fun l => decide ((l.length : Int) = d + 1))).mergeSort leD
theorem TLat.sorted {H : Hp} {L : TL} {r : (Addr × List Int) → (Addr × List Int) → Bool} (h : TLat H L) : TLat H (L.mergeSort r) := fun p hp => h p ((List.mem_mergeSort).1 hp)

section
variable {P : Program} {w : World} {K : PySem.W.Frag} {mg : Str → Option Value} {base : Heap}
theorem sc23 : FnScope ["simplices"] ["simplices"] (defScope sMade) := ⟨rfl, rfl, rfl, by decide +kernel, rfl, by decide +kernel, by decide +kernel⟩
structure MadeOk (Ls : List (List Int)) : Prop where
  le8 : ∀ l ∈ Ls, l.length ≤ 8
  g400 : (genM Ls).length ≤ 400
  simp : ∀ l ∈ genM Ls, Simp l
  m400 : (madeM Ls).length ≤ 400
  m18 : ∀ l ∈ madeM Ls, 1 ≤ l.length ∧ l.length ≤ 8
def spMade (C : Addr) : Sp := fun vs H Q _ => ∃ (a : Addr) (L : TL), vs = [.ref a] ∧ H a = some (.lst (refs L)) ∧ TLat H L ∧ MadeOk (L.map (·.2)) ∧ ∀ H' p, Same H H' → H p = none → CxAt C H' p (madeM (L.map (·.2))) → Q (.ref p) H'
theorem ok_made {f C f1 f2 f3 : Addr} {fd fd1 fd2 fd3 : FuncData} (F : Fun K "made" "made" sMade f fd) (T : CTxt K mg C) (M : Mk K C f3)
    (G1 : FnOk P w K mg base CX0 2 f1 fd1 ["simplices"] spGeneratedL) (k1 : Lk K mg "generated" f1 fd1 ["simplices"])
    (G2 : FnOk P w K mg base CX0 1 f2 fd2 ["faces"] spMaximal) (k2 : Lk K mg "maximal" f2 fd2 ["faces"])
    (G3 : FnOk P w K mg base CX0 5 f3 fd3 ["self", "simplices"] (spCInit C)) (b3 : Binds K fd3 ["self", "simplices"] []) : FnOk P w K mg base CX0 7 f fd ["simplices"] (spMade C) := by
  refine F.ok sc23 (fun vs H Q E h => ?_) (fun cdv A outer s H vs Q E hr h => ?_)
  · obtain ⟨_, _, rfl, _⟩ := h
    rfl
  · obtain ⟨a, L, rfl, hA, tl, ok, k⟩ := h
    refine ⟨_, pss_one (ps_ret (pe_make M G3 hr rfl T.mgC b3 .nil pass0 (pa_cons (pe_call G2 (hr.mono (by decide)) rfl k2.g k2.k k2.b .nil pass0 (pa_cons (pe_call G1 (hr.mono (by decide)) rfl k1.g k1.k k1.b .nil pass0 (pa_cons (pv 0) pa_nil)) pa_nil)) pa_nil))), ?_⟩
    refine ⟨_, rfl, a, L, rfl, hA, tl, (fun p hp => ok.le8 _ (List.mem_map.2 ⟨p, hp, rfl⟩)), ok.g400, fun H1 d s1 hd hD => ?_⟩
    refine ⟨d, _, rfl, hD, ok.g400, (fun l hl => ⟨(ok.simp l hl).1, (ok.simp l hl).2.1⟩), fun H2 t M2 s2 ht tM eM hT => ?_⟩
    intro x dx hx hdx hne
    have eS : (M2.mergeSort leT).map (·.2) = topsM (genM (L.map (·.2))) := by rw [sort_S, eM]; rfl
    have s3 : Same H2 (upd (upd H2 dx (.own x)) x (.ins C dx [])) := fun b o e => by
      rw [upd_ne (ne_of_none e hx), upd_ne (ne_of_none e hdx)]; exact e
    refine ⟨H2, x, dx, t, M2.mergeSort leT, rfl, s3, hx, upd_same, s3 _ _ hT, (tM.same s3).sorted, ?_, ?_, ?_, ?_, fun H4 s4 hC => ⟨rfl, ?_⟩⟩
    · rw [List.length_mergeSort, ← List.length_map (f := fun p : Addr × List Int => p.2), eM]
      exact Nat.le_trans (List.length_filter_le _ _) ok.g400
    · intro q hq
      have hq2 : q.2 ∈ M2.map (·.2) := List.mem_map.2 ⟨q, (List.mem_mergeSort).1 hq, rfl⟩
      rw [eM] at hq2
      exact ok.simp _ (List.mem_filter.1 hq2).1
    · rw [eS]; exact ok.m400
    · rw [eS]; exact ok.m18
    · rw [eS] at hC
      exact k H4 x (s1.trans (s2.trans s4)) (s1.free (s2.free hx)) hC

theorem sc28 : FnScope ["shape", "degree", "simplex"] ["shape", "degree"] (defScope sSimplicesAt) := ⟨rfl, rfl, rfl, by decide +kernel, rfl, by decide +kernel, by decide +kernel⟩
def spSimplicesAt (C : Addr) : Sp := fun vs H Q _ => ∃ (p : Addr) (Ls : List (List Int)) (n : Int), vs = [.ref p, .int n] ∧ CxAt C H p Ls ∧ Ls.length ≤ 400 ∧
  ∀ H' q (L : TL), Same H H' → H q = none → TLat H' L → L.map (·.2) = atM Ls n → H' q = some (.lst (refs L)) → Q (.ref q) H'
theorem ok_simplicesAt {f C f1 : Addr} {fd fd1 : FuncData} (F : Fun K "simplices_at" "simplices_at" sSimplicesAt f fd) (B : Bl mg) (T : CTxt K mg C)
    (G1 : FnOk P w K mg base CX0 1 f1 fd1 ["simplices"] spInOrderL) (k1 : Lk K mg "in_order" f1 fd1 ["simplices"]) : FnOk P w K mg base CX0 2 f fd ["shape", "degree"] (spSimplicesAt C) := by
  refine F.ok sc28 (fun vs H Q E h => ?_) (fun cdv A outer s H vs Q E hr h => ?_)
  · obtain ⟨_, _, _, rfl, _⟩ := h
    rfl
  · obtain ⟨p, Ls, n, rfl, hC, h400, k⟩ := h
    refine ⟨_, pss_cons (ps_if (pt_cmpR op_eq (pv 1) (pe_un un_neg pe_int) (nomark _)) (pss_one (ps_ret (pe_lst (pa_cons (pe_tup pa_nil) pa_nil)))) pss_nil)
      (pss_one (ps_ret (pe_call G1 hr rfl k1.g k1.k k1.b .nil pass0 (pa_cons
        (pe_lock (pe_lc (own := [("simplex", 2)]) (g := gName 2) (te := tVar 2) (tt := tTest (tOp rEq (tCB (rLenQ K) (tCons (tVar 2) tNil)) (tOp (rI0 fun i j => .int (i + j)) (tVar 1) (tC (.int 1))))) (by rfl) sc28.nd (pi_keys (pe_fld (pv 0) rfl)) (blkOk_by (own := [("simplex", 2)]) (N := ["shape", "degree", "simplex"]) (sc := defScope sSimplicesAt) (by decide +kernel))
          (fun _ _ _ _ _ => pg_name (i := 2) sc28.nd rfl (Or.inl rfl)) (fun _ _ _ _ _ => pts_one (pt_cmpR op_eq (pe_callB call_len_seq (by rfl) B.len PySem.boot_len (pa_cons (pv 2) pa_nil)) (pe_op op_add (pv 1) pe_int) (nomark _))) (fun _ _ _ _ _ => pv 2))) pa_nil)))), ?_⟩
    refine ⟨_, rfl, 1, rfl, rfl, _, rfl, ?_⟩
    by_cases hn : n = -1
    · subst hn
      refine iteT ⟨by show 0 ≤ sizeLine; decide, fun e he => ⟨by show 1 ≤ sizeLine; decide, fun o ho => ?_⟩⟩
      have neo : e ≠ o := fun z => by rw [← z, upd_same] at ho; cases ho
      have ho0 : H o = none := by rw [upd_ne neo.symm] at ho; exact ho
      refine k _ o [(e, [])] (same_put ho0 (same_upd he)) ho0 (fun q hq => ?_) (by unfold atM; rw [if_pos rfl]; rfl) upd_same
      rw [List.mem_singleton.1 hq, upd_ne neo, upd_same]; rfl
    · have hd : decide (V.int n = V.int (-1)) = false := decide_eq_false (fun z => hn (by cases z; rfl))
      rw [show (decide (V.int n = V.int (-1))) = false from hd]
      refine iteF ?_
      obtain ⟨dx, d, t, h1, h2⟩ := hC
      refine ⟨d, _, h2, True.intro, fun od => ?_⟩
      have hpd : p ≠ d := ne_of h1 h2 (by intro z; cases z)
      have lk : upd H d (.frz od (.dT (setD Ls))) d = some (.frz od (.dT (setD Ls))) := upd_same
      refine ⟨_, rfl, p, C, dx, _, _, rfl, (by rw [upd_ne hpd]; exact h1), T.ins.cl, T.nF, cf_faces d t, ?_⟩
      refine ⟨d, od, rfl, .inr ⟨_, lk, fun D hD => ?_⟩⟩
      have hdD : d ≠ D := ne_of_none lk hD
      refine lc_it (walk_keysT (d := d) (o := od) (kvs := setD Ls))
        (fun j H2 => Same (upd H d (.frz od (.dT (setD Ls)))) H2 ∧ ∃ M : TL, H2 D = some (.lst (refs M)) ∧ TLat H2 M ∧ M.map (·.2) = (Ls.take j).filter (fun l => decide ((l.length : Int) = n + 1)))
        ⟨same_upd hD, [], (by rw [upd_same]; rfl), (fun b hb => nomatch hb), rfl⟩ (fun j H2 _ q => q.1 _ _ lk) ?_ ?_
      · rintro j x H2 H3 hj ⟨s2, M, hM, tM, eM⟩ ⟨e3, kk, vv, q0, hx, rfl, hq0⟩
        subst e3
        obtain ⟨l, hl, rfl⟩ := setD_at hx
        rw [kI_kV] at hq0
        refine ⟨rfl, _, rfl, q0, _, rfl, .inr (SqT.of hq0), _, rfl, _, _, rfl, rfl, rfl, _, rfl, ?_⟩
        rw [List.length_map]
        have eT : (Ls.take (j + 1)).filter (fun l => decide ((l.length : Int) = n + 1)) = (Ls.take j).filter (fun l => decide ((l.length : Int) = n + 1)) ++ (if decide ((l.length : Int) = n + 1) = true then [l] else []) := by
          rw [List.take_add_one, hl, List.filter_append]
          by_cases h : (l.length : Int) = n + 1 <;> simp [h]
        have hMl : M.length ≤ 400 := by
          have e1 := congrArg List.length eM
          have e2 := List.length_filter_le (fun l : List Int => decide ((l.length : Int) = n + 1)) (Ls.take j)
          rw [List.length_map] at e1
          rw [List.length_take] at e2; omega
        by_cases hc : (l.length : Int) = n + 1
        · rw [show decide (V.int (l.length : Int) = V.int (n + 1)) = true from decide_eq_true (by rw [hc])]
          refine iteT ⟨_, rfl, _, hM, (by rw [refs_len]; exact Nat.lt_of_le_of_lt hMl (by decide)), same_put hD s2, M ++ [(q0, l)], ?_, ?_, ?_⟩
          · rw [upd_same, refs_app]; rfl
          · exact (tM.app (fun p hp => by rw [List.mem_singleton.1 hp]; exact hq0)).put hM
          · rw [eT, if_pos (decide_eq_true hc), List.map_append, eM]; rfl
        · rw [show decide (V.int (l.length : Int) = V.int (n + 1)) = false from decide_eq_false (fun z => hc (by injection z))]
          refine iteF ⟨s2, M, hM, tM, ?_⟩
          rw [eT, if_neg (by simp [hc]), eM, List.append_nil]
      · rintro H2 ⟨s2, M, hM, tM, eM⟩
        rw [setD_len, List.take_length] at eM
        refine ⟨s2 _ _ lk, ?_⟩
        have hnd : ∀ {b : Addr} {o : HO}, H2 b = some o → (o ≠ .frz od (.dT (setD Ls))) → b ≠ d := by
          intro b o hb hne e
          rw [e, s2 _ _ lk] at hb
          exact hne (Option.some.inj hb).symm
        have s3 : Same H (upd H2 d (.dT (setD Ls))) := by
          intro b o e
          by_cases hb : b = d
          · rw [hb] at e ⊢; rw [upd_same, ← e, h2]
          · rw [upd_ne hb]; exact s2 _ _ (by rw [upd_ne hb]; exact e)
        have hM3 : upd H2 d (.dT (setD Ls)) D = some (.lst (refs M)) := by rw [upd_ne hdD.symm]; exact hM
        have tM3 : TLat (upd H2 d (.dT (setD Ls))) M := fun p hp => by
          rw [upd_ne (hnd (tM p hp) (by intro z; cases z))]; exact tM p hp
        have hMl : M.length ≤ 400 := by
          have e1 := congrArg List.length eM
          have e2 := List.length_filter_le (fun l : List Int => decide ((l.length : Int) = n + 1)) Ls
          rw [List.length_map] at e1; omega
        refine ⟨D, M, rfl, hM3, tM3, hMl, fun H4 q s4 hq hQ4 => ?_⟩
        refine k H4 q (M.mergeSort leO) (s3.trans s4) (s3.free hq) (tM3.same s4).sorted ?_ hQ4
        rw [sort_D, eM]
        unfold atM
        rw [if_neg hn]

theorem sc30 : FnScope ["degree", "least"] ["degree", "least"] (defScope sNeedDegree) := ⟨rfl, rfl, rfl, by decide +kernel, rfl, by decide +kernel, by decide +kernel⟩
def spNeedDegree : Sp := fun vs H Q _ => ∃ n l : Int, vs = [.int n, .int l] ∧ l ≤ n ∧ n ≤ 7 ∧ Q .non H
theorem ok_needDegree {f f1 : Addr} {fd fd1 : FuncData} (F : Fun K "need_degree" "need_degree" sNeedDegree f fd)
    (G1 : FnOk P w K mg base CX0 2 f1 fd1 ["value", "least", "most"] spIsIn) (k1 : Lk K mg "is_in" f1 fd1 ["value", "least", "most"]) : FnOk P w K mg base CX0 3 f fd ["degree", "least"] spNeedDegree := by
  refine F.ok sc30 (fun vs H Q E h => ?_) (fun cdv A outer s H vs Q E hr h => ?_)
  · obtain ⟨_, _, rfl, _⟩ := h
    rfl
  · obtain ⟨n, l, rfl, h1, h2, k⟩ := h
    refine ⟨_, pss_one (ps_if (pt_not (pt_val (pe_call G1 hr rfl k1.g k1.k k1.b .nil pass0 (pa_cons (pv 0) (pa_cons (pv 1) (pa_cons pe_int pa_nil)))))) (pss_one ps_never) pss_nil), ?_⟩
    exact ⟨_, rfl, _, rfl, n, l, 7, rfl, h1, h2, true, rfl, iteF k⟩

theorem sc35 : FnScope ["shape", "degree"] ["shape", "degree"] (defScope sCountAt) := ⟨rfl, rfl, rfl, by decide +kernel, rfl, by decide +kernel, by decide +kernel⟩
def spCountAt (C : Addr) : Sp := fun vs H Q _ => ∃ (p : Addr) (Ls : List (List Int)) (n : Int), vs = [.ref p, .int n] ∧ CxAt C H p Ls ∧ Ls.length ≤ 400 ∧ ∀ H', Same H H' → Q (.int (atM Ls n).length) H'
theorem ok_countAt {f C f1 : Addr} {fd fd1 : FuncData} (F : Fun K "count_at" "count_at" sCountAt f fd) (B : Bl mg)
    (G1 : FnOk P w K mg base CX0 2 f1 fd1 ["shape", "degree"] (spSimplicesAt C)) (k1 : Lk K mg "simplices_at" f1 fd1 ["shape", "degree"]) : FnOk P w K mg base CX0 3 f fd ["shape", "degree"] (spCountAt C) := by
  refine F.ok sc35 (fun vs H Q E h => ?_) (fun cdv A outer s H vs Q E hr h => ?_)
  · obtain ⟨_, _, _, rfl, _⟩ := h
    rfl
  · obtain ⟨p, Ls, n, rfl, hC, h400, k⟩ := h
    refine ⟨_, pss_one (ps_ret (pe_callB call_len_seq (by rfl) B.len PySem.boot_len (pa_cons (pe_call G1 hr rfl k1.g k1.k k1.b .nil pass0 (pa_cons (pv 0) (pa_cons (pv 1) pa_nil))) pa_nil))), ?_⟩
    refine ⟨_, rfl, _, rfl, p, Ls, n, rfl, hC, h400, fun H1 q L s1 hq tL eL hQ => ?_⟩
    refine ⟨q, _, rfl, .inl (SqL.of hQ), ?_⟩
    rw [refs_len, ← List.length_map (f := fun p : Addr × List Int => p.2), eL]
    exact k H1 s1
end
end K63W


namespace K63W
open PySem L2 RZ StX PySem.W
open K63 (sw sw_sw sw_lt)

/-! ### comprehensions of two clauses: the outer walk, the inner walk -/
theorem lc2_it {J : It} {n : Nat} {G : Hp → Prop} {Y : Nat → Hp → V → Hp → Prop} (w : Walk J n G Y) {g : TG} {tt : TT} {wi1 : TI} {g1 : TG} {tt1 : TT} {te : TE} {vs vs1 : List Nat} {σ : L2.St} {H1 : Hp} {D : Addr} {Qd : Hp → Prop} (Pv : Nat → Hp → Prop) (h0 : Pv 0 (upd H1 D (.lst []))) (hG : ∀ i H, i ≤ n → Pv i H → G H)
    (hs : ∀ i x H H', i < n → Pv i H → Y i H x H' → g x (wipe σ vs) H' fun σ2 H2 => wipe σ2 vs = wipe σ vs ∧ tt σ2 H2 fun b H3 =>
      if b = true then wi1 σ2 H3 fun J1 H4 => ∃ W1 : Nat → Nat → Hp → Prop, (∃ m, W1 0 m H4) ∧ ∀ j k H, W1 j k H →
        (J1.stop j H ∧ Pv (i + 1) H) ∨ (J1.go j H ∧ ∃ Nx1 : Hp → Prop, (∀ H', Nx1 H' → ∃ k', k' < k ∧ W1 (j + 1) k' H') ∧ ∀ x H', J1.yld j H x H' → g1 x (wipe σ2 vs1) H' fun σ3 H5 => wipe σ3 vs1 = wipe σ2 vs1 ∧ tt1 σ3 H5 fun b H6 =>
          if b = true then te σ3 H6 fun y H7 => ∃ acc, H7 D = some (.lst acc) ∧ acc.length < sizeLine ∧ Nx1 (upd H7 D (.lst (acc ++ [y]))) else Nx1 H6)
      else Pv (i + 1) H3) (hd : ∀ H, Pv n H → Qd H) :
    ∃ W : Nat → Nat → Hp → Prop, (∃ m, W 0 m (upd H1 D (.lst []))) ∧ ∀ i m H, W i m H →
      (J.stop i H ∧ Qd H) ∨ (J.go i H ∧ ∃ Nx : Hp → Prop, (∀ H', Nx H' → ∃ m', m' < m ∧ W (i + 1) m' H') ∧ ∀ x H', J.yld i H x H' → g x (wipe σ vs) H' fun σ2 H2 => wipe σ2 vs = wipe σ vs ∧ tt σ2 H2 fun b H3 =>
        if b = true then wi1 σ2 H3 fun J1 H4 => ∃ W1 : Nat → Nat → Hp → Prop, (∃ m, W1 0 m H4) ∧ ∀ j k H, W1 j k H →
          (J1.stop j H ∧ Nx H) ∨ (J1.go j H ∧ ∃ Nx1 : Hp → Prop, (∀ H', Nx1 H' → ∃ k', k' < k ∧ W1 (j + 1) k' H') ∧ ∀ x H', J1.yld j H x H' → g1 x (wipe σ2 vs1) H' fun σ3 H5 => wipe σ3 vs1 = wipe σ2 vs1 ∧ tt1 σ3 H5 fun b H6 =>
            if b = true then te σ3 H6 fun y H7 => ∃ acc, H7 D = some (.lst acc) ∧ acc.length < sizeLine ∧ Nx1 (upd H7 D (.lst (acc ++ [y]))) else Nx1 H6)
        else Nx H3) := by
  refine ⟨fun i m H => m = n - i ∧ i ≤ n ∧ Pv i H, ⟨n, by simp, Nat.zero_le _, h0⟩, ?_⟩
  rintro i m H ⟨rfl, hi, p⟩
  have q := hG i H hi p
  rcases Nat.lt_or_ge i n with hlt | hge
  · exact .inr ⟨w.goes i H hlt q, Pv (i + 1), fun H' p' => ⟨n - (i + 1), by omega, rfl, hlt, p'⟩, fun x H' y => hs i x H H' hlt p (w.yields i H x H' hlt q y)⟩
  · obtain rfl : i = n := by omega
    exact .inl ⟨w.stops H q, hd H p⟩
theorem lc2_in {J1 : It} {n : Nat} {G : Hp → Prop} {Y : Nat → Hp → V → Hp → Prop} (w : Walk J1 n G Y) {g1 : TG} {tt1 : TT} {te : TE} {vs1 : List Nat} {σ2 : L2.St} {H4 : Hp} {D : Addr} {Nx : Hp → Prop} (Pv : Nat → Hp → Prop) (h0 : Pv 0 H4) (hG : ∀ i H, i ≤ n → Pv i H → G H)
    (hs : ∀ i x H H', i < n → Pv i H → Y i H x H' → g1 x (wipe σ2 vs1) H' fun σ3 H5 => wipe σ3 vs1 = wipe σ2 vs1 ∧ tt1 σ3 H5 fun b H6 =>
      if b = true then te σ3 H6 fun y H7 => ∃ acc, H7 D = some (.lst acc) ∧ acc.length < sizeLine ∧ Pv (i + 1) (upd H7 D (.lst (acc ++ [y]))) else Pv (i + 1) H6) (hd : ∀ H, Pv n H → Nx H) :
    ∃ W1 : Nat → Nat → Hp → Prop, (∃ m, W1 0 m H4) ∧ ∀ j k H, W1 j k H →
      (J1.stop j H ∧ Nx H) ∨ (J1.go j H ∧ ∃ Nx1 : Hp → Prop, (∀ H', Nx1 H' → ∃ k', k' < k ∧ W1 (j + 1) k' H') ∧ ∀ x H', J1.yld j H x H' → g1 x (wipe σ2 vs1) H' fun σ3 H5 => wipe σ3 vs1 = wipe σ2 vs1 ∧ tt1 σ3 H5 fun b H6 =>
        if b = true then te σ3 H6 fun y H7 => ∃ acc, H7 D = some (.lst acc) ∧ acc.length < sizeLine ∧ Nx1 (upd H7 D (.lst (acc ++ [y]))) else Nx1 H6) := by
  refine ⟨fun i m H => m = n - i ∧ i ≤ n ∧ Pv i H, ⟨n, by simp, Nat.zero_le _, h0⟩, ?_⟩
  rintro i m H ⟨rfl, hi, p⟩
  have q := hG i H hi p
  rcases Nat.lt_or_ge i n with hlt | hge
  · exact .inr ⟨w.goes i H hlt q, Pv (i + 1), fun H' p' => ⟨n - (i + 1), by omega, rfl, hlt, p'⟩, fun x H' y => hs i x H H' hlt p (w.yields i H x H' hlt q y)⟩
  · obtain rfl : i = n := by omega
    exact .inl ⟨w.stops H q, hd H p⟩

/-! ### rows of ints and of references, by functions -/
def rV (n : Nat) (f : Nat → Int) : List V := (List.range n).map fun j => V.int (f j)
def aV (n : Nat) (f : Nat → Addr) : List V := (List.range n).map fun j => V.ref (f j)
theorem rV_len (n : Nat) (f : Nat → Int) : (rV n f).length = n := by unfold rV; simp
theorem aV_len (n : Nat) (f : Nat → Addr) : (aV n f).length = n := by unfold aV; simp
theorem rV_get {n j : Nat} (f : Nat → Int) (h : j < n) : (rV n f)[j]? = some (.int (f j)) := by
  unfold rV; rw [List.getElem?_map, List.getElem?_range h]; rfl
theorem aV_get {n j : Nat} (f : Nat → Addr) (h : j < n) : (aV n f)[j]? = some (.ref (f j)) := by
  unfold aV; rw [List.getElem?_map, List.getElem?_range h]; rfl
theorem map_range_set {α : Type} {n j : Nat} (f : Nat → α) (x : α) : ((List.range n).map f).set j x = (List.range n).map (fun c => if c = j then x else f c) := by
  apply List.ext_getElem?
  intro i
  rw [List.getElem?_set]
  by_cases hi : i < n
  · rw [List.getElem?_map, List.getElem?_range hi, List.getElem?_map, List.getElem?_range hi]
    by_cases hj : j = i
    · subst hj; simp [hi]
    · simp [hj, Ne.symm hj]
  · rw [List.getElem?_eq_none (by simp; omega), List.getElem?_eq_none (by simp; omega)]
    by_cases hj : j = i
    · subst hj; simp [hi]
    · simp [hj]
theorem rV_set {n j : Nat} (f : Nat → Int) (x : Int) : (rV n f).set j (.int x) = rV n (fun c => if c = j then x else f c) := by
  unfold rV; rw [map_range_set]
  apply List.map_congr_left; intro c _
  by_cases h : c = j <;> simp [h]
theorem aV_set {n j : Nat} (f : Nat → Addr) (x : Addr) : (aV n f).set j (.ref x) = aV n (fun c => if c = j then x else f c) := by
  unfold aV; rw [map_range_set]
  apply List.map_congr_left; intro c _
  by_cases h : c = j <;> simp [h]
theorem rV_congr {n : Nat} {f g : Nat → Int} (h : ∀ j, j < n → f j = g j) : rV n f = rV n g := by
  unfold rV; apply List.map_congr_left; intro j hj; rw [h j (List.mem_range.1 hj)]
theorem aV_congr {n : Nat} {f g : Nat → Addr} (h : ∀ j, j < n → f j = g j) : aV n f = aV n g := by
  unfold aV; apply List.map_congr_left; intro j hj; rw [h j (List.mem_range.1 hj)]
theorem rV_snoc (n : Nat) (f : Nat → Int) : rV (n + 1) f = rV n f ++ [.int (f n)] := by
  unfold rV; rw [List.range_succ, List.map_append]; rfl
theorem aV_snoc (n : Nat) (f : Nat → Addr) : aV (n + 1) f = aV n f ++ [.ref (f n)] := by
  unfold aV; rw [List.range_succ, List.map_append]; rfl

theorem ixN_ofNat {n j : Nat} (hj : j < n) : ixN n (j : Int) = some j := by
  unfold ixN
  rw [if_pos (by omega), if_pos (by omega)]
  simp
/-! ### a matrix in work -/
def dn (h w k : Nat) : Nat := if k = 2 then w else h
def dm (h w k : Nat) : Nat := if k = 1 then h else w
def sqf (R L T : Addr) (h w : Nat) : List (Str × V) := putF "right" (.ref T) (putF "left" (.ref L) (putF "wide" (.int w) (putF "high" (.int h) (putF "rows" (.ref R) []))))
theorem sqf_rows {R L T : Addr} {h w : Nat} : (sqf R L T h w).lookup ("rows" : Str) = some (.ref R) := by
  unfold sqf
  rw [lookup_putF, if_neg (by decide +kernel), lookup_putF, if_neg (by decide +kernel), lookup_putF, if_neg (by decide +kernel), lookup_putF, if_neg (by decide +kernel), lookup_putF, if_pos rfl]
theorem sqf_high {R L T : Addr} {h w : Nat} : (sqf R L T h w).lookup ("high" : Str) = some (.int h) := by
  unfold sqf
  rw [lookup_putF, if_neg (by decide +kernel), lookup_putF, if_neg (by decide +kernel), lookup_putF, if_neg (by decide +kernel), lookup_putF, if_pos rfl]
theorem sqf_wide {R L T : Addr} {h w : Nat} : (sqf R L T h w).lookup ("wide" : Str) = some (.int w) := by
  unfold sqf
  rw [lookup_putF, if_neg (by decide +kernel), lookup_putF, if_neg (by decide +kernel), lookup_putF, if_pos rfl]
theorem sqf_left {R L T : Addr} {h w : Nat} : (sqf R L T h w).lookup ("left" : Str) = some (.ref L) := by
  unfold sqf
  rw [lookup_putF, if_neg (by decide +kernel), lookup_putF, if_pos rfl]
theorem sqf_right {R L T : Addr} {h w : Nat} : (sqf R L T h w).lookup ("right" : Str) = some (.ref T) := by
  unfold sqf
  rw [lookup_putF, if_pos rfl]
theorem sqf_none {R L T : Addr} {h w : Nat} {m : Str} (h1 : ¬ m = "rows") (h2 : ¬ m = "high") (h3 : ¬ m = "wide") (h4 : ¬ m = "left") (h5 : ¬ m = "right") : (sqf R L T h w).lookup m = none := by
  unfold sqf
  rw [lookup_putF, if_neg h5, lookup_putF, if_neg h4, lookup_putF, if_neg h3, lookup_putF, if_neg h2, lookup_putF, if_neg h1]; rfl

structure Ws (C : Addr) (H0 H : Hp) (p : Addr) (h w : Nat) (F : Nat → Nat → Nat → Int) (hd : Nat → Addr) (ad : Nat → Nat → Addr) : Prop where
  same : Same H0 H
  p0 : H0 p = none
  obj : ∃ dx, H p = some (.ins C dx (sqf (hd 0) (hd 1) (hd 2) h w))
  top : ∀ k, k < 3 → H (hd k) = some (.lst (aV (dn h w k) (ad k)))
  row : ∀ k i, k < 3 → i < dn h w k → H (ad k i) = some (.lst (rV (dm h w k) (F k i)))
  top0 : ∀ k, k < 3 → H0 (hd k) = none
  row0 : ∀ k i, k < 3 → i < dn h w k → H0 (ad k i) = none
  hh : ∀ k l, k < 3 → l < 3 → hd k = hd l → k = l
  ha : ∀ k l i, k < 3 → l < 3 → i < dn h w l → hd k ≠ ad l i
  aa : ∀ k l i j, k < 3 → l < 3 → i < dn h w k → j < dn h w l → ad k i = ad l j → k = l ∧ i = j
  h2 : h ≤ 200
  w2 : w ≤ 200

section
variable {C p : Addr} {H0 H H' : Hp} {h w : Nat} {F F' : Nat → Nat → Nat → Int} {hd : Nat → Addr} {ad : Nat → Nat → Addr}
theorem Ws.mono (W : Ws C H0 H p h w F hd ad) (s : Same H H') : Ws C H0 H' p h w F hd ad :=
  ⟨W.same.trans s, W.p0, let ⟨dx, e⟩ := W.obj; ⟨dx, s _ _ e⟩, fun k hk => s _ _ (W.top k hk), fun k i hk hi => s _ _ (W.row k i hk hi), W.top0, W.row0, W.hh, W.ha, W.aa, W.h2, W.w2⟩
theorem Ws.congr (W : Ws C H0 H p h w F hd ad) (e : ∀ k i j, k < 3 → i < dn h w k → j < dm h w k → F k i j = F' k i j) : Ws C H0 H p h w F' hd ad :=
  ⟨W.same, W.p0, W.obj, W.top, fun k i hk hi => by rw [W.row k i hk hi, rV_congr (e k i · hk hi)], W.top0, W.row0, W.hh, W.ha, W.aa, W.h2, W.w2⟩
/-- a row replaced by the list at D -/
theorem Ws.setRow (W : Ws C H0 H p h w F hd ad) {k i : Nat} (hk : k < 3) (hi : i < dn h w k) {D : Addr} {f : Nat → Int} (hD : H D = some (.lst (rV (dm h w k) f))) (D0 : H0 D = none) (n1 : ∀ l, l < 3 → hd l ≠ D) (n2 : ∀ l j, l < 3 → j < dn h w l → ad l j ≠ D) :
    Ws C H0 (upd H (hd k) (.lst ((aV (dn h w k) (ad k)).set i (.ref D)))) p h w (fun l r => if l = k ∧ r = i then f else F l r) hd (fun l r => if l = k ∧ r = i then D else ad l r) := by
  obtain ⟨dx, hp⟩ := W.obj
  refine ⟨same_put (W.top0 k hk) W.same, W.p0, ⟨dx, ?_⟩, ?_, ?_, W.top0, ?_, W.hh, ?_, ?_, W.h2, W.w2⟩
  · rw [upd_ne (ne_of hp (W.top k hk) (by intro z; cases z))]; exact hp
  · intro l hl
    by_cases e : l = k
    · subst e
      rw [upd_same, aV_set]
      refine congrArg (fun z => some (HO.lst z)) (aV_congr fun j _ => ?_)
      simp
    · rw [upd_ne (fun z => e (W.hh _ _ hl hk z)), W.top l hl]
      refine congrArg (fun z => some (HO.lst z)) (aV_congr fun j _ => ?_)
      simp [e]
  · intro l r hl hr
    by_cases e : l = k ∧ r = i
    · obtain ⟨rfl, rfl⟩ := e
      simp only [and_self, if_true]
      rw [upd_ne (Ne.symm (n1 l hl))]; exact hD
    · simp only [if_neg e]
      rw [upd_ne (Ne.symm (W.ha k l r hk hl hr))]; exact W.row l r hl hr
  · intro l r hl hr
    by_cases e : l = k ∧ r = i
    · simp only [if_pos e]; exact D0
    · simp only [if_neg e]; exact W.row0 l r hl hr
  · intro l l' r hl hl' hr
    by_cases e : l' = k ∧ r = i
    · simp only [if_pos e]; exact n1 l hl
    · simp only [if_neg e]; exact W.ha l l' r hl hl' hr
  · intro l l' r r' hl hl' hr hr' z
    by_cases e : l = k ∧ r = i
    · by_cases e' : l' = k ∧ r' = i
      · exact ⟨e.1.trans e'.1.symm, e.2.trans e'.2.symm⟩
      · simp only [if_pos e, if_neg e'] at z
        exact absurd z.symm (n2 l' r' hl' hr')
    · by_cases e' : l' = k ∧ r' = i
      · simp only [if_neg e, if_pos e'] at z
        exact absurd z (n2 l r hl hr)
      · simp only [if_neg e, if_neg e'] at z
        exact W.aa l l' r r' hl hl' hr hr' z
/-- two rows of a table swapped -/
theorem Ws.swapRow (W : Ws C H0 H p h w F hd ad) {k i j : Nat} (hk : k < 3) (hi : i < dn h w k) (hj : j < dn h w k) :
    Ws C H0 (upd H (hd k) (.lst (((aV (dn h w k) (ad k)).set i (.ref (ad k j))).set j (.ref (ad k i))))) p h w (fun l r => if l = k then F l (sw i j r) else F l r) hd (fun l r => if l = k then ad l (sw i j r) else ad l r) := by
  obtain ⟨dx, hp⟩ := W.obj
  have lt : ∀ l r, l = k → r < dn h w l → sw i j r < dn h w l := fun l r e hr => by subst e; exact sw_lt hi hj hr
  have inj : ∀ r r', sw i j r = sw i j r' → r = r' := by
    intro r r' z
    have := congrArg (sw i j) z; rwa [sw_sw, sw_sw] at this
  refine ⟨same_put (W.top0 k hk) W.same, W.p0, ⟨dx, ?_⟩, ?_, ?_, W.top0, ?_, W.hh, ?_, ?_, W.h2, W.w2⟩
  · rw [upd_ne (ne_of hp (W.top k hk) (by intro z; cases z))]; exact hp
  · intro l hl
    by_cases e : l = k
    · subst e
      rw [upd_same, aV_set, aV_set]
      refine congrArg (fun z => some (HO.lst z)) (aV_congr fun r _ => ?_)
      simp only [if_true]
      unfold sw
      by_cases a : r = i
      · by_cases b : r = j
        · subst a; subst b; simp
        · simp [a]; intro z; rw [z]
      · simp [a]
        split <;> rfl
    · rw [upd_ne (fun z => e (W.hh _ _ hl hk z)), W.top l hl]
      refine congrArg (fun z => some (HO.lst z)) (aV_congr fun j _ => ?_)
      simp [e]
  · intro l r hl hr
    by_cases e : l = k
    · simp only [if_pos e]
      rw [upd_ne (Ne.symm (W.ha k l _ hk hl (lt l r e hr)))]; exact W.row l _ hl (lt l r e hr)
    · simp only [if_neg e]
      rw [upd_ne (Ne.symm (W.ha k l r hk hl hr))]; exact W.row l r hl hr
  · intro l r hl hr
    by_cases e : l = k
    · simp only [if_pos e]; exact W.row0 l _ hl (lt l r e hr)
    · simp only [if_neg e]; exact W.row0 l r hl hr
  · intro l l' r hl hl' hr
    by_cases e : l' = k
    · simp only [if_pos e]; exact W.ha l l' _ hl hl' (lt l' r e hr)
    · simp only [if_neg e]; exact W.ha l l' r hl hl' hr
  · intro l l' r r' hl hl' hr hr' z
    by_cases e : l = k
    · by_cases e' : l' = k
      · simp only [if_pos e, if_pos e'] at z
        have q := W.aa l l' _ _ hl hl' (lt l r e hr) (lt l' r' e' hr') z
        exact ⟨q.1, inj _ _ q.2⟩
      · simp only [if_pos e, if_neg e'] at z
        have q := W.aa l l' _ _ hl hl' (lt l r e hr) hr' z
        exact absurd (q.1.symm.trans e) e'
    · by_cases e' : l' = k
      · simp only [if_neg e, if_pos e'] at z
        have q := W.aa l l' _ _ hl hl' hr (lt l' r' e' hr') z
        exact absurd (q.1.trans e') e
      · simp only [if_neg e, if_neg e'] at z
        exact W.aa l l' r r' hl hl' hr hr' z
/-- an item of a row stored -/
theorem Ws.setItem (W : Ws C H0 H p h w F hd ad) {k i j : Nat} (hk : k < 3) (hi : i < dn h w k) (x : Int) :
    Ws C H0 (upd H (ad k i) (.lst ((rV (dm h w k) (F k i)).set j (.int x)))) p h w (fun l r c => if l = k ∧ r = i ∧ c = j then x else F l r c) hd ad := by
  obtain ⟨dx, hp⟩ := W.obj
  refine ⟨same_put (W.row0 k i hk hi) W.same, W.p0, ⟨dx, ?_⟩, ?_, ?_, W.top0, W.row0, W.hh, W.ha, W.aa, W.h2, W.w2⟩
  · rw [upd_ne (ne_of hp (W.row k i hk hi) (by intro z; cases z))]; exact hp
  · intro l hl
    rw [upd_ne (W.ha l k i hl hk hi)]; exact W.top l hl
  · intro l r hl hr
    by_cases e : ad l r = ad k i
    · obtain ⟨rfl, rfl⟩ := W.aa _ _ _ _ hl hk hr hi e
      rw [upd_same, rV_set]
      refine congrArg (fun z => some (HO.lst z)) (rV_congr fun c _ => ?_)
      simp
    · rw [upd_ne e, W.row l r hl hr]
      refine congrArg (fun z => some (HO.lst z)) (rV_congr fun c _ => ?_)
      rw [if_neg]
      rintro ⟨rfl, rfl, _⟩
      exact e rfl
end

/-- the same, the places hidden -/
def Wk (C : Addr) (H0 H : Hp) (p : Addr) (h w : Nat) (F : Nat → Nat → Nat → Int) : Prop := ∃ hd ad, Ws C H0 H p h w F hd ad
theorem Wk.mono {C p : Addr} {H0 H H' : Hp} {h w : Nat} {F : Nat → Nat → Nat → Int} (W : Wk C H0 H p h w F) (s : Same H H') : Wk C H0 H' p h w F :=
  let ⟨hd, ad, W⟩ := W
  ⟨hd, ad, W.mono s⟩
theorem Wk.congr {C p : Addr} {H0 H : Hp} {h w : Nat} {F F' : Nat → Nat → Nat → Int} (W : Wk C H0 H p h w F) (e : ∀ k i j, k < 3 → i < dn h w k → j < dm h w k → F k i j = F' k i j) : Wk C H0 H p h w F' :=
  let ⟨hd, ad, W⟩ := W
  ⟨hd, ad, W.congr e⟩

structure STxt (K : PySem.W.Frag) (mg : Str → Option Value) (C : Addr) : Prop where
  cl : Cls K C
  nR : NoAttr K C "rows"
  nH : NoAttr K C "high"
  nW : NoAttr K C "wide"
  nL : NoAttr K C "left"
  nT : NoAttr K C "right"
  mgC : mg "Square" = some (.ref C)

section
variable {K : PySem.W.Frag} {mg : Str → Option Value} {C p : Addr} {H0 H : Hp} {h w : Nat} {F : Nat → Nat → Nat → Int} {hd : Nat → Addr} {ad : Nat → Nat → Addr} {σ : L2.St} {Q : V → Hp → Prop} {i : Nat}
theorem Ws.gR {q : V → Prop} (W : Ws C H0 H p h w F hd ad) (T : STxt K mg C) (z : q (.ref (hd 0))) : ∃ a C' dx fs v, V.ref p = .ref a ∧ H a = some (.ins C' dx fs) ∧ Cls K C' ∧ NoAttr K C' "rows" ∧ fs.lookup ("rows" : Str) = some v ∧ q v :=
  let ⟨dx, hp⟩ := W.obj
  ⟨p, C, dx, _, _, rfl, hp, T.cl, T.nR, sqf_rows, z⟩
theorem Ws.gL {q : V → Prop} (W : Ws C H0 H p h w F hd ad) (T : STxt K mg C) (z : q (.ref (hd 1))) : ∃ a C' dx fs v, V.ref p = .ref a ∧ H a = some (.ins C' dx fs) ∧ Cls K C' ∧ NoAttr K C' "left" ∧ fs.lookup ("left" : Str) = some v ∧ q v :=
  let ⟨dx, hp⟩ := W.obj
  ⟨p, C, dx, _, _, rfl, hp, T.cl, T.nL, sqf_left, z⟩
theorem Ws.gT {q : V → Prop} (W : Ws C H0 H p h w F hd ad) (T : STxt K mg C) (z : q (.ref (hd 2))) : ∃ a C' dx fs v, V.ref p = .ref a ∧ H a = some (.ins C' dx fs) ∧ Cls K C' ∧ NoAttr K C' "right" ∧ fs.lookup ("right" : Str) = some v ∧ q v :=
  let ⟨dx, hp⟩ := W.obj
  ⟨p, C, dx, _, _, rfl, hp, T.cl, T.nT, sqf_right, z⟩
theorem Ws.gH {q : V → Prop} (W : Ws C H0 H p h w F hd ad) (T : STxt K mg C) (z : q (.int h)) : ∃ a C' dx fs v, V.ref p = .ref a ∧ H a = some (.ins C' dx fs) ∧ Cls K C' ∧ NoAttr K C' "high" ∧ fs.lookup ("high" : Str) = some v ∧ q v :=
  let ⟨dx, hp⟩ := W.obj
  ⟨p, C, dx, _, _, rfl, hp, T.cl, T.nH, sqf_high, z⟩
theorem Ws.gW {q : V → Prop} (W : Ws C H0 H p h w F hd ad) (T : STxt K mg C) (z : q (.int w)) : ∃ a C' dx fs v, V.ref p = .ref a ∧ H a = some (.ins C' dx fs) ∧ Cls K C' ∧ NoAttr K C' "wide" ∧ fs.lookup ("wide" : Str) = some v ∧ q v :=
  let ⟨dx, hp⟩ := W.obj
  ⟨p, C, dx, _, _, rfl, hp, T.cl, T.nW, sqf_wide, z⟩
/-- table[i], a row's place -/
theorem Ws.iRow (W : Ws C H0 H p h w F hd ad) {k r : Nat} (hk : k < 3) (hr : r < dn h w k) (q : Q (.ref (ad k r)) H) : rIxL K (.ref (hd k)) (.int (r : Nat)) H Q :=
  ⟨hd k, _, r, _, rfl, rfl, SqL.of (W.top k hk), atI_nat (aV_get _ hr), q⟩
/-- line[j] -/
theorem Ws.iItem (W : Ws C H0 H p h w F hd ad) {k r c : Nat} (hk : k < 3) (hr : r < dn h w k) (hc : c < dm h w k) (q : Q (.int (F k r c)) H) : rIxL K (.ref (ad k r)) (.int (c : Nat)) H Q :=
  ⟨ad k r, _, c, _, rfl, rfl, SqL.of (W.row k r hk hr), atI_nat (rV_get _ hc), q⟩
theorem Ws.sRow (W : Ws C H0 H p h w F hd ad) {k r : Nat} (hk : k < 3) (hr : r < dn h w k) {v : V} {R : Hp → Prop} (q : R (upd H (hd k) (.lst ((aV (dn h w k) (ad k)).set r v)))) : rSetL (.ref (hd k)) (.int (r : Nat)) v H R :=
  ⟨hd k, _, r, r, rfl, rfl, W.top k hk, ixN_ofNat (by rw [aV_len]; exact hr), q⟩
end
end K63W


namespace K63W
open PySem L2 RZ StX PySem.W
open K63 (sw sw_sw sw_lt)

abbrev sSq (i : Nat) : Stmt := inClass (top 32) i

section
variable {P : Program} {w : World} {K : PySem.W.Frag} {mg : Str → Option Value} {base : Heap}
theorem scSR : FnScope ["self", "one", "other"] ["self", "one", "other"] (defScope (sSq 1)) := ⟨rfl, rfl, rfl, by decide +kernel, rfl, by decide +kernel, by decide +kernel⟩
def spSwapRows (C : Addr) : Sp := fun vs H Q _ => ∃ (H0 : Hp) (p : Addr) (h w : Nat) (F : Nat → Nat → Nat → Int) (a b : Nat), vs = [.ref p, .int (a : Nat), .int (b : Nat)] ∧ Wk C H0 H p h w F ∧ a < h ∧ b < h ∧
  ∀ H', Wk C H0 H' p h w (fun k i j => if k < 2 then F k (sw a b i) j else F k i j) → Q .non H'
theorem ok_swapRows {f C : Addr} {fd : FuncData} (F : Fun K "swap_rows" "Square.swap_rows" (sSq 1) f fd) (T : STxt K mg C) :
    FnOk P w K mg base CX0 1 f fd ["self", "one", "other"] (spSwapRows C) := by
  refine F.ok scSR (fun vs H Q E h => ?_) (fun cdv A outer s H vs Q E hr h => ?_)
  · obtain ⟨_, _, _, _, _, _, _, rfl, _⟩ := h
    rfl
  · obtain ⟨H0, p, hh, ww, F, a, b, rfl, ⟨hd, ad, W⟩, ha, hb, k⟩ := h
    refine ⟨_, pss_cons (ps_asg (pe_tup (pa_cons (pe_ix ix_list (pe_fld (pv 0) rfl) (pv 2) (fun _ _ => rfl)) (pa_cons (pe_ix ix_list (pe_fld (pv 0) rfl) (pv 1) (fun _ _ => rfl)) pa_nil)))
        (pg_tup rfl (pgs_cons (pg_sub (pe_fld (pv 0) rfl) (pv 1) set_list) (pgs_cons (pg_sub (pe_fld (pv 0) rfl) (pv 2) set_list) pgs_nil))))
      (pss_one (ps_asg (pe_tup (pa_cons (pe_ix ix_list (pe_fld (pv 0) rfl) (pv 2) (fun _ _ => rfl)) (pa_cons (pe_ix ix_list (pe_fld (pv 0) rfl) (pv 1) (fun _ _ => rfl)) pa_nil)))
        (pg_tup rfl (pgs_cons (pg_sub (pe_fld (pv 0) rfl) (pv 1) set_list) (pgs_cons (pg_sub (pe_fld (pv 0) rfl) (pv 2) set_list) pgs_nil))))), ?_⟩
    have h0 : ∀ {x}, x < hh → x < dn hh ww 0 := fun e => e
    have h1 : ∀ {x}, x < hh → x < dn hh ww 1 := fun e => e
    refine ⟨_, rfl, W.gR T ⟨_, rfl, W.iRow (by decide) (h0 hb) ⟨_, rfl, W.gR T ⟨_, rfl, W.iRow (by decide) (h0 ha) ⟨by show 2 ≤ sizeLine; decide, fun t ht => ?_⟩⟩⟩⟩⟩
    have W1 := W.mono (same_upd (o := .tup [.ref (ad 0 b), .ref (ad 0 a)]) ht)
    refine ⟨t, _, rfl, SqT.of upd_same, rfl, _, _, rfl, ⟨_, rfl, W1.gR T ⟨_, rfl, W1.sRow (by decide) (h0 ha) ?_⟩⟩⟩
    obtain ⟨dx, hp⟩ := W1.obj
    refine ⟨_, _, rfl, ⟨_, rfl, p, C, dx, _, _, rfl, (by rw [upd_ne (ne_of hp (W1.top 0 (by decide)) (by intro z; cases z))]; exact hp), T.cl, T.nR, sqf_rows, _, rfl, hd 0, _, b, b, rfl, rfl, upd_same, ixN_ofNat (by rw [List.length_set, aV_len]; exact hb), rfl, ?_⟩⟩
    rw [upd_upd]
    have W2 := W1.swapRow (k := 0) (by decide) (h0 ha) (h0 hb)
    generalize (upd _ (hd 0) _) = H2 at W2
    generalize (fun l r => if l = 0 then ad l (sw a b r) else ad l r) = ad2 at W2
    refine ⟨_, rfl, W2.gL T ⟨_, rfl, W2.iRow (by decide) (h1 hb) ⟨_, rfl, W2.gL T ⟨_, rfl, W2.iRow (by decide) (h1 ha) ⟨by show 2 ≤ sizeLine; decide, fun t2 ht2 => ?_⟩⟩⟩⟩⟩
    have W3 := W2.mono (same_upd (o := .tup [.ref (ad2 1 b), .ref (ad2 1 a)]) ht2)
    refine ⟨t2, _, rfl, SqT.of upd_same, rfl, _, _, rfl, ⟨_, rfl, W3.gL T ⟨_, rfl, W3.sRow (by decide) (h1 ha) ?_⟩⟩⟩
    obtain ⟨dx, hp⟩ := W3.obj
    refine ⟨_, _, rfl, ⟨_, rfl, p, C, dx, _, _, rfl, (by rw [upd_ne (ne_of hp (W3.top 1 (by decide)) (by intro z; cases z))]; exact hp), T.cl, T.nL, sqf_left, _, rfl, hd 1, _, b, b, rfl, rfl, upd_same, ixN_ofNat (by rw [List.length_set, aV_len]; exact hb), rfl, ?_⟩⟩
    rw [upd_upd]
    have W4 := W3.swapRow (k := 1) (by decide) (h1 ha) (h1 hb)
    refine k _ ⟨_, _, W4.congr fun k i j hk _ _ => ?_⟩
    by_cases e1 : k = 1
    · subst e1; simp
    · by_cases e0 : k = 0
      · subst e0; simp
      · have : ¬ k < 2 := by omega
        simp [e1, e0, this]
end
end K63W


namespace K63W
open PySem L2 RZ StX PySem.W
open K63 (sw sw_sw sw_lt)

/-- the i-th line of rows and right -/
def tk (h i : Nat) : Nat := if i < h then 0 else 2
def tr (h i : Nat) : Nat := if i < h then i else i - h
theorem tk3 (h i : Nat) : tk h i < 3 := by unfold tk; split <;> decide
theorem tr_lt {h w i : Nat} (hi : i < h + w) : tr h i < dn h w (tk h i) := by
  unfold tr tk dn
  by_cases c : i < h
  · simp [c]
  · simp [c]; omega
theorem tk_dm {h w i : Nat} : dm h w (tk h i) = w := by
  unfold tk dm
  by_cases c : i < h <;> simp [c]
theorem lines_at {h w i : Nat} (ad : Nat → Nat → Addr) (hi : i < h + w) : (aV h (ad 0) ++ (aV w (ad 2) ++ []))[i]? = some (.ref (ad (tk h i) (tr h i))) := by
  unfold tk tr
  by_cases c : i < h
  · rw [List.getElem?_append_left (by rw [aV_len]; exact c), aV_get _ c]; simp [c]
  · rw [List.getElem?_append_right (by rw [aV_len]; omega), aV_len, List.append_nil, aV_get _ (by omega)]; simp [c]
theorem lines_len {h w : Nat} (ad : Nat → Nat → Addr) : (aV h (ad 0) ++ (aV w (ad 2) ++ [])).length = h + w := by simp [aV_len]
/-- is line r of table k among the first i -/
def dun (h i k r : Nat) : Prop := (k = 0 ∧ r < i) ∨ (k = 2 ∧ h + r < i)
instance (h i k r : Nat) : Decidable (dun h i k r) := by unfold dun; infer_instance
theorem dun_zero {h k r : Nat} : ¬ dun h 0 k r := by unfold dun; omega
theorem dun_self {h i : Nat} : ¬ dun h i (tk h i) (tr h i) := by
  unfold dun tk tr
  by_cases c : i < h
  · simp [c]
  · simp [c]; omega
theorem dun_succ {h w i k r : Nat} (hk : k < 3) (hr : r < dn h w k) : dun h (i + 1) k r ↔ dun h i k r ∨ (k = tk h i ∧ r = tr h i) := by
  unfold dun tk tr dn at *
  by_cases c : i < h
  · simp only [c, if_true]
    by_cases e : k = 2
    · subst e; simp at hr ⊢; omega
    · simp [e] at hr ⊢; omega
  · simp only [c, if_false]
    by_cases e : k = 2
    · subst e; simp at hr ⊢; omega
    · simp [e] at hr ⊢; omega
theorem dun_all {h w k r : Nat} (hk : k < 3) (hr : r < dn h w k) : dun h (h + w) k r ↔ k ≠ 1 := by
  unfold dun dn at *
  by_cases e : k = 2
  · subst e; simp at hr ⊢; exact hr
  · simp [e] at hr ⊢; omega

section
variable {P : Program} {w : World} {K : PySem.W.Frag} {mg : Str → Option Value} {base : Heap}
theorem scSC : FnScope ["self", "one", "other", "line"] ["self", "one", "other"] (defScope (sSq 2)) := ⟨rfl, rfl, rfl, by decide +kernel, rfl, by decide +kernel, by decide +kernel⟩
def spSwapCols (C : Addr) : Sp := fun vs H Q _ => ∃ (H0 : Hp) (p : Addr) (h w : Nat) (F : Nat → Nat → Nat → Int) (a b : Nat), vs = [.ref p, .int (a : Nat), .int (b : Nat)] ∧ Wk C H0 H p h w F ∧ a < w ∧ b < w ∧
  ∀ H', Wk C H0 H' p h w (fun k i j => if k = 1 then F k i j else F k i (sw a b j)) → Q .non H'
theorem ok_swapCols {f C : Addr} {fd : FuncData} (F : Fun K "swap_columns" "Square.swap_columns" (sSq 2) f fd) (T : STxt K mg C) :
    FnOk P w K mg base CX0 1 f fd ["self", "one", "other"] (spSwapCols C) := by
  refine F.ok scSC (fun vs H Q E h => ?_) (fun cdv A outer s H vs Q E hr h => ?_)
  · obtain ⟨_, _, _, _, _, _, _, rfl, _⟩ := h
    rfl
  · obtain ⟨H0, p, hh, ww, F, a, b, rfl, ⟨hd, ad, W⟩, ha, hb, k⟩ := h
    refine ⟨_, pss_one (ps_for PassesOwn.never rfl (pi_list (pe_lst (pa_star (pe_fld (pv 0) rfl) (pa_star (pe_fld (pv 0) rfl) pa_nil)))) (pg_name (i := 3) scSC.nd rfl (Or.inl rfl))
      (pss_one (ps_asg (pe_tup (pa_cons (pe_ix ix_list (pv 3) (pv 2) (fun _ _ => rfl)) (pa_cons (pe_ix ix_list (pv 3) (pv 1) (fun _ _ => rfl)) pa_nil)))
        (pg_tup rfl (pgs_cons (pg_sub (pv 3) (pv 1) set_list) (pgs_cons (pg_sub (pv 3) (pv 2) set_list) pgs_nil)))))), ?_⟩
    refine ⟨_, rfl, W.gR T ⟨hd 0, _, rfl, .inr (SqL.of (W.top 0 (by decide))), _, rfl, W.gT T ⟨hd 2, _, rfl, .inr (SqL.of (W.top 2 (by decide))), ?_, fun l hl => ?_⟩⟩⟩
    · have := W.h2; have := W.w2
      show (aV hh (ad 0) ++ (aV ww (ad 2) ++ [])).length ≤ sizeLine
      rw [lines_len]; exact Nat.le_trans (show hh + ww ≤ 400 by omega) (by decide)
    have W1 := W.mono (same_upd (o := .lst (aV hh (ad 0) ++ (aV ww (ad 2) ++ []))) hl)
    have nl : ∀ k i, k < 3 → i < dn hh ww k → l ≠ ad k i := fun k i hk hi => (ne_of_none (W.row k i hk hi) hl).symm
    have hlen := lines_len (h := hh) (w := ww) ad
    refine ⟨l, rfl, ⟨_, SqL.of upd_same⟩, for_list (K := K) (a := l) (xs := aV hh (ad 0) ++ (aV ww (ad 2) ++ []))
      (fun i σ H' => ∃ (v : Option V), σ = [some (.ref p), some (.int (a : Nat)), some (.int (b : Nat)), v] ∧ H' l = some (.lst (aV hh (ad 0) ++ (aV ww (ad 2) ++ []))) ∧
        Ws C H0 H' p hh ww (fun k r c => if dun hh i k r then F k r (sw a b c) else F k r c) hd ad)
      ⟨none, rfl, upd_same, W1.congr fun k i j _ _ _ => by rw [if_neg dun_zero]⟩ (fun i σ H' _ ⟨_, _, q, _⟩ => SqL.of q) ?_ ?_⟩
    · rintro i x σ H' hx ⟨v, rfl, hl', W2⟩
      have hi : i < hh + ww := by rw [← hlen]; exact (List.getElem?_eq_some_iff.mp hx).1
      rw [lines_at ad hi] at hx
      cases hx
      have k3 := tk3 hh i
      have r3 := tr_lt hi
      have hm : dm hh ww (tk hh i) = ww := tk_dm
      refine ⟨_, rfl, _, rfl, W2.iItem k3 r3 (by rw [hm]; exact hb) ⟨_, rfl, _, rfl, W2.iItem k3 r3 (by rw [hm]; exact ha) ⟨by show 2 ≤ sizeLine; decide, fun t ht => ?_⟩⟩⟩
      simp only [if_neg dun_self]
      refine ⟨t, _, rfl, SqT.of upd_same, rfl, ?_⟩
      have W3 := W2.mono (same_upd (o := .tup [.int (F (tk hh i) (tr hh i) b), .int (F (tk hh i) (tr hh i) a)]) ht)
      have hl3 := same_upd (o := .tup [.int (F (tk hh i) (tr hh i) b), .int (F (tk hh i) (tr hh i) a)]) ht _ _ hl'
      generalize upd H' t _ = H3 at W3 hl3
      refine ⟨_, _, rfl, _, rfl, _, rfl, ad (tk hh i) (tr hh i), _, a, a, rfl, rfl, W3.row _ _ k3 r3, ixN_ofNat (by rw [rV_len, hm]; exact ha), ?_⟩
      have W4 := W3.setItem (j := a) k3 r3 (F (tk hh i) (tr hh i) b)
      have hl4 : upd H3 (ad (tk hh i) (tr hh i)) (.lst ((rV (dm hh ww (tk hh i)) (fun c => if dun hh i (tk hh i) (tr hh i) then F (tk hh i) (tr hh i) (sw a b c) else F (tk hh i) (tr hh i) c)).set a (.int (F (tk hh i) (tr hh i) b)))) l = some (.lst (aV hh (ad 0) ++ (aV ww (ad 2) ++ []))) := by
        rw [upd_ne (nl _ _ k3 r3)]; exact hl3
      generalize upd H3 (ad (tk hh i) (tr hh i)) _ = H4 at W4 hl4
      refine ⟨_, _, rfl, _, rfl, _, rfl, ad (tk hh i) (tr hh i), _, b, b, rfl, rfl, W4.row _ _ k3 r3, ixN_ofNat (by rw [rV_len, hm]; exact hb), ?_⟩
      have W5 := W4.setItem (j := b) k3 r3 (F (tk hh i) (tr hh i) a)
      refine ⟨rfl, _, rfl, ?_, W5.congr fun k r c hk hr _ => ?_⟩
      · rw [upd_ne (nl _ _ k3 r3)]; exact hl4
      · have ds := dun_succ (i := i) hk hr
        by_cases e : k = tk hh i ∧ r = tr hh i
        · obtain ⟨rfl, rfl⟩ := e
          simp only [ds.2 (.inr ⟨rfl, rfl⟩), dun_self, if_true, if_false, true_and]
          unfold sw
          by_cases c1 : c = b
          · subst c1
            by_cases c2 : c = a
            · subst c2; simp
            · simp [c2]
          · by_cases c2 : c = a
            · subst c2; simp [c1]
            · simp [c1, c2]
        · have e' : ∀ x, ¬ (k = tk hh i ∧ r = tr hh i ∧ c = x) := fun x z => e ⟨z.1, z.2.1⟩
          rw [if_neg (e' b), if_neg (e' a)]
          by_cases d : dun hh i k r
          · rw [if_pos d, if_pos (ds.2 (.inl d))]
          · rw [if_neg d, if_neg (fun z => (ds.1 z).elim d e)]
    · rintro σ H' ⟨v, rfl, _, W2⟩
      rw [hlen] at W2
      refine k _ ⟨_, _, W2.congr fun k r c hk hr _ => ?_⟩
      have da := dun_all (h := hh) (w := ww) hk hr
      by_cases e : k = 1
      · rw [if_neg (fun z => da.1 z e), if_pos e]
      · rw [if_pos (da.2 e), if_neg e]

theorem scAC : FnScope ["self", "to", "many", "source", "line"] ["self", "to", "many", "source"] (defScope (sSq 4)) := ⟨rfl, rfl, rfl, by decide +kernel, rfl, by decide +kernel, by decide +kernel⟩
def spAddCol (C : Addr) : Sp := fun vs H Q _ => ∃ (H0 : Hp) (p : Addr) (h w : Nat) (F : Nat → Nat → Nat → Int) (a b : Nat) (m : Int), vs = [.ref p, .int (a : Nat), .int m, .int (b : Nat)] ∧ Wk C H0 H p h w F ∧ a < w ∧ b < w ∧
  (∀ k i, k < 3 → k ≠ 1 → i < dn h w k → CMulB m (F k i b)) ∧
  ∀ H', Wk C H0 H' p h w (fun k i j => if k ≠ 1 ∧ j = a then F k i a + m * F k i b else F k i j) → Q .non H'
theorem ok_addCol {f C : Addr} {fd : FuncData} (F : Fun K "add_column" "Square.add_column" (sSq 4) f fd) (T : STxt K mg C) :
    FnOk P w K mg base CX0 1 f fd ["self", "to", "many", "source"] (spAddCol C) := by
  refine F.ok scAC (fun vs H Q E h => ?_) (fun cdv A outer s H vs Q E hr h => ?_)
  · obtain ⟨_, _, _, _, _, _, _, _, rfl, _⟩ := h
    rfl
  · obtain ⟨H0, p, hh, ww, F, a, b, m, rfl, ⟨hd, ad, W⟩, ha, hb, hc, k⟩ := h
    refine ⟨_, pss_one (ps_for PassesOwn.never rfl (pi_list (pe_lst (pa_star (pe_fld (pv 0) rfl) (pa_star (pe_fld (pv 0) rfl) pa_nil)))) (pg_name (i := 4) scAC.nd rfl (Or.inl rfl))
      (pss_one (ps_augS (pv 4) (pv 1) get_list (pe_op op_mulB (pv 2) (pe_ix ix_list (pv 4) (pv 3) (fun _ _ => rfl))) ip_add set_list))), ?_⟩
    refine ⟨_, rfl, W.gR T ⟨hd 0, _, rfl, .inr (SqL.of (W.top 0 (by decide))), _, rfl, W.gT T ⟨hd 2, _, rfl, .inr (SqL.of (W.top 2 (by decide))), ?_, fun l hl => ?_⟩⟩⟩
    · have := W.h2; have := W.w2
      show (aV hh (ad 0) ++ (aV ww (ad 2) ++ [])).length ≤ sizeLine
      rw [lines_len]; exact Nat.le_trans (show hh + ww ≤ 400 by omega) (by decide)
    have W1 := W.mono (same_upd (o := .lst (aV hh (ad 0) ++ (aV ww (ad 2) ++ []))) hl)
    have nl : ∀ k i, k < 3 → i < dn hh ww k → l ≠ ad k i := fun k i hk hi => (ne_of_none (W.row k i hk hi) hl).symm
    have hlen := lines_len (h := hh) (w := ww) ad
    refine ⟨l, rfl, ⟨_, SqL.of upd_same⟩, for_list (K := K) (a := l) (xs := aV hh (ad 0) ++ (aV ww (ad 2) ++ []))
      (fun i σ H' => ∃ (v : Option V), σ = [some (.ref p), some (.int (a : Nat)), some (.int m), some (.int (b : Nat)), v] ∧ H' l = some (.lst (aV hh (ad 0) ++ (aV ww (ad 2) ++ []))) ∧
        Ws C H0 H' p hh ww (fun k r c => if dun hh i k r ∧ c = a then F k r a + m * F k r b else F k r c) hd ad)
      ⟨none, rfl, upd_same, W1.congr fun k i j _ _ _ => by rw [if_neg (fun z => dun_zero z.1)]⟩ (fun i σ H' _ ⟨_, _, q, _⟩ => SqL.of q) ?_ ?_⟩
    · rintro i x σ H' hx ⟨v, rfl, hl', W2⟩
      have hi : i < hh + ww := by rw [← hlen]; exact (List.getElem?_eq_some_iff.mp hx).1
      rw [lines_at ad hi] at hx
      cases hx
      have k3 := tk3 hh i
      have r3 := tr_lt hi
      have hm : dm hh ww (tk hh i) = ww := tk_dm
      have nd : ∀ c, ¬ (dun hh i (tk hh i) (tr hh i) ∧ c = a) := fun c z => dun_self z.1
      have g : (rV (dm hh ww (tk hh i)) (fun c => if dun hh i (tk hh i) (tr hh i) ∧ c = a then F (tk hh i) (tr hh i) a + m * F (tk hh i) (tr hh i) b else F (tk hh i) (tr hh i) c))[a]? = some (.int (F (tk hh i) (tr hh i) a)) := by
        rw [rV_get _ (by rw [hm]; exact ha), if_neg (nd _)]
      refine ⟨_, rfl, _, rfl, ad (tk hh i) (tr hh i), _, a, _, rfl, rfl, SqL.of (W2.row _ _ k3 r3), g, _, rfl, _, rfl, _, rfl, W2.iItem k3 r3 (by rw [hm]; exact hb) ⟨_, _, rfl, rfl, ?_, ?_⟩⟩
      · rw [if_neg (nd _)]
        exact hc _ _ k3 (by unfold tk; split <;> decide) r3
      rw [if_neg (nd _)]
      refine ⟨_, _, rfl, rfl, ad (tk hh i) (tr hh i), _, a, a, rfl, rfl, W2.row _ _ k3 r3, ixN_ofNat (by rw [rV_len, hm]; exact ha), ?_⟩
      have W5 := W2.setItem (j := a) k3 r3 (F (tk hh i) (tr hh i) a + m * F (tk hh i) (tr hh i) b)
      refine ⟨_, rfl, ?_, W5.congr fun k r c hk hr _ => ?_⟩
      · rw [upd_ne (nl _ _ k3 r3)]; exact hl'
      · have ds := dun_succ (i := i) hk hr
        by_cases e : k = tk hh i ∧ r = tr hh i
        · obtain ⟨rfl, rfl⟩ := e
          by_cases c1 : c = a
          · subst c1
            rw [if_pos ⟨rfl, rfl, rfl⟩, if_pos ⟨ds.2 (.inr ⟨rfl, rfl⟩), rfl⟩]
          · rw [if_neg (fun z => c1 z.2.2), if_neg (fun z => c1 z.2), if_neg (fun z => c1 z.2)]
        · rw [if_neg (fun z => e ⟨z.1, z.2.1⟩)]
          by_cases d : dun hh i k r ∧ c = a
          · rw [if_pos d, if_pos ⟨ds.2 (.inl d.1), d.2⟩]
          · rw [if_neg d, if_neg (fun z => (ds.1 z.1).elim (fun y => d ⟨y, z.2⟩) e)]
    · rintro σ H' ⟨v, rfl, _, W2⟩
      rw [hlen] at W2
      refine k _ ⟨_, _, W2.congr fun k r c hk hr _ => ?_⟩
      have da := dun_all (h := hh) (w := ww) hk hr
      by_cases e : k ≠ 1 ∧ c = a
      · rw [if_pos ⟨da.2 e.1, e.2⟩, if_pos e]
      · rw [if_neg (fun z => e ⟨da.1 z.1, z.2⟩), if_neg e]
end
end K63W


namespace K63W
open PySem L2 RZ StX PySem.W
open K63 (sw sw_sw sw_lt)

section
variable {P : Program} {w : World} {K : PySem.W.Frag} {mg : Str → Option Value} {base : Heap}
theorem scAR : FnScope ["self", "to", "many", "source", "table", "one", "other"] ["self", "to", "many", "source"] (defScope (sSq 3)) := ⟨rfl, rfl, rfl, by decide +kernel, rfl, by decide +kernel, by decide +kernel⟩
def spAddRow (C : Addr) : Sp := fun vs H Q _ => ∃ (H0 : Hp) (p : Addr) (h w : Nat) (F : Nat → Nat → Nat → Int) (a b : Nat) (m : Int), vs = [.ref p, .int (a : Nat), .int m, .int (b : Nat)] ∧ Wk C H0 H p h w F ∧ a < h ∧ b < h ∧ a ≠ b ∧
  (∀ k j, k < 2 → j < dm h w k → CMulB m (F k b j)) ∧
  ∀ H', Wk C H0 H' p h w (fun k i j => if k ≠ 2 ∧ i = a then F k a j + m * F k b j else F k i j) → Q .non H'
theorem ok_addRow {f C : Addr} {fd : FuncData} (F : Fun K "add_row" "Square.add_row" (sSq 3) f fd) (B : Bl mg) (T : STxt K mg C) :
    FnOk P w K mg base CX0 1 f fd ["self", "to", "many", "source"] (spAddRow C) := by
  refine F.ok scAR (fun vs H Q E h => ?_) (fun cdv A outer s H vs Q E hr h => ?_)
  · obtain ⟨_, _, _, _, _, _, _, _, rfl, _⟩ := h
    rfl
  · obtain ⟨H0, p, hh, ww, F, a, b, m, rfl, ⟨hd, ad, W⟩, ha, hb, hab, hc, k⟩ := h
    refine ⟨_, pss_one (ps_for PassesOwn.never rfl (pi_tup (pe_tup (pa_cons (pe_fld (pv 0) rfl) (pa_cons (pe_fld (pv 0) rfl) pa_nil)))) (pg_name (i := 4) scAR.nd rfl (Or.inl rfl))
      (pss_one (ps_asg (pe_lc (own := [("one", 5), ("other", 6)]) (g := gTup K 2 (gCons (gName 5) (gCons (gName 6) gNil))) (by rfl) scAR.nd (pi_zip (by rfl) B.zip (pa_cons (pe_ix ix_list (pv 4) (pv 1) (fun _ _ => rfl)) (pa_cons (pe_ix ix_list (pv 4) (pv 3) (fun _ _ => rfl)) pa_nil)))
            (blkOk_by (own := [("one", 5), ("other", 6)]) (N := ["self", "to", "many", "source", "table", "one", "other"]) (sc := defScope (sSq 3)) (by decide +kernel))
            (fun _ _ _ _ _ => pg_tup rfl (pgs_cons (pg_name (i := 5) scAR.nd rfl (Or.inl rfl)) (pgs_cons (pg_name (i := 6) scAR.nd rfl (Or.inl rfl)) pgs_nil))) (fun _ _ _ _ _ => pts_nil)
            (fun _ _ _ _ _ => pe_op op_add (pv 5) (pe_op op_mulB (pv 2) (pv 6))))
        (pg_sub (pv 4) (pv 1) set_list)))), ?_⟩
    refine ⟨_, rfl, W.gR T ⟨_, rfl, W.gL T ⟨by show 2 ≤ sizeLine; decide, fun t ht => ?_⟩⟩⟩
    have W1 := W.mono (same_upd (o := .tup [.ref (hd 0), .ref (hd 1)]) ht)
    have dnk : ∀ i, i < 2 → dn hh ww i = hh := fun i hi => by
      have : i ≠ 2 := by omega
      simp [dn, this]
    refine ⟨t, rfl, ⟨_, SqT.of upd_same⟩, for_tup (K := K) (a := t) (xs := [.ref (hd 0), .ref (hd 1)])
      (fun i σ H' => ∃ (v : Option V) (ad' : Nat → Nat → Addr), σ = [some (.ref p), some (.int (a : Nat)), some (.int m), some (.int (b : Nat)), v, none, none] ∧ H' t = some (.tup [.ref (hd 0), .ref (hd 1)]) ∧
        Ws C H0 H' p hh ww (fun k r c => if k < i ∧ r = a then F k a c + m * F k b c else F k r c) hd ad')
      ⟨none, ad, rfl, upd_same, W1.congr fun k i j _ _ _ => by rw [if_neg (fun z => absurd z.1 (Nat.not_lt_zero _))]⟩ (fun i σ H' _ ⟨_, _, _, q, _⟩ => SqT.of q) ?_ ?_⟩
    · rintro i x σ H' hx ⟨v, ad', rfl, ht', W2⟩
      have hi : i < 2 := (List.getElem?_eq_some_iff.mp hx).1
      have hxe : x = .ref (hd i) := by
        match i, hi with
        | 0, _ => exact (Option.some.inj hx).symm
        | 1, _ => exact (Option.some.inj hx).symm
      subst hxe
      have k3 : i < 3 := by omega
      have hda : a < dn hh ww i := by rw [dnk i hi]; exact ha
      have hdb : b < dn hh ww i := by rw [dnk i hi]; exact hb
      have hm2 : dm hh ww i ≤ 200 := by
        unfold dm; split
        · exact W.h2
        · exact W.w2
      have ra : H' (ad' i a) = some (.lst (rV (dm hh ww i) (F i a))) := by
        rw [W2.row i a k3 hda]
        exact congrArg (fun z => some (HO.lst z)) (rV_congr fun j _ => if_neg (fun z => Nat.lt_irrefl _ z.1))
      have rb : H' (ad' i b) = some (.lst (rV (dm hh ww i) (F i b))) := by
        rw [W2.row i b k3 hdb]
        exact congrArg (fun z => some (HO.lst z)) (rV_congr fun j _ => if_neg (fun z => Nat.lt_irrefl _ z.1))
      refine ⟨_, rfl, _, rfl, W2.iRow k3 hda ⟨_, rfl, _, rfl, W2.iRow k3 hdb ⟨ad' i a, ad' i b, _, _, rfl, SqL.of ra, SqL.of rb, fun D hD => ?_⟩⟩⟩
      refine lc_it (walk_zip (K := K) (a := ad' i a) (b := ad' i b) (n := dm hh ww i) (by rw [rV_len, rV_len, Nat.min_self])) (Cmp H' D fun j => rV j (fun c => F i a c + m * F i b c)) (Cmp.start hD rfl)
        (fun j H2 _ q => ⟨SqL.of (q.same _ _ ra), SqL.of (q.same _ _ rb)⟩) ?_ ?_
      · intro j x H2 H3 hj c ⟨T0, x1, x2, e, hT0, e2, e3, e4⟩
        subst e e2
        have e3' := (rV_get (F i a) hj).symm.trans e3
        have e4' := (rV_get (F i b) hj).symm.trans e4
        cases e3'; cases e4'
        refine ⟨T0, _, rfl, SqT.of upd_same, rfl, _, _, rfl, _, _, rfl, rfl, rfl, ?_⟩
        unfold tYes
        refine iteT ?_
        refine ⟨_, rfl, _, rfl, _, rfl, _, _, rfl, rfl, hc i j hi hj, _, _, rfl, rfl, ?_⟩
        exact c.put hD (same_upd hT0) (rV_snoc _ _) (by rw [rV_len]; omega)
      · intro H2 c
        have W3 := W2.mono c.same
        refine ⟨_, rfl, _, rfl, W3.sRow k3 hda ?_⟩
        have W4 := W3.setRow (f := fun c => F i a c + m * F i b c) k3 hda c.lst (W2.same.free hD) (fun l hl => ne_of_none (W2.top l hl) hD) (fun l j hl hj => ne_of_none (W2.row l j hl hj) hD)
        refine ⟨_, _, rfl, ?_, W4.congr fun l r c hl hr _ => ?_⟩
        · rw [upd_ne (ne_of (c.same _ _ ht') (W3.top i k3) (by intro z; cases z))]; exact c.same _ _ ht'
        · by_cases e : l = i ∧ r = a
          · rw [if_pos e, if_pos ⟨by omega, e.2⟩, e.1]
          · rw [if_neg e]
            by_cases e2 : l < i ∧ r = a
            · rw [if_pos e2, if_pos ⟨by omega, e2.2⟩]
            · rw [if_neg e2, if_neg (fun z => e2 ⟨by have : ¬ l = i := fun y => e ⟨y, z.2⟩; omega, z.2⟩)]
    · rintro σ H' ⟨v, ad', rfl, _, W2⟩
      refine k _ ⟨_, _, W2.congr fun l r c hl hr _ => ?_⟩
      show (if l < 2 ∧ r = a then _ else _) = _
      by_cases e : l ≠ 2 ∧ r = a
      · rw [if_pos e, if_pos ⟨by omega, e.2⟩]
      · rw [if_neg e, if_neg (fun z => e ⟨by omega, z.2⟩)]
end

/-! ### building -/
/-- n rows of a new table at D stand -/
structure Tb (H1 H : Hp) (D : Addr) (n m : Nat) (f : Nat → Nat → Int) (ad : Nat → Addr) : Prop where
  same : Same H1 H
  d0 : H1 D = none
  top : H D = some (.lst (aV n ad))
  row : ∀ r, r < n → H (ad r) = some (.lst (rV m (f r)))
  new : ∀ r, r < n → H1 (ad r) = none
  ne : ∀ r, r < n → D ≠ ad r
  inj : ∀ r s, r < n → s < n → ad r = ad s → r = s
theorem Tb.start {H1 : Hp} {D : Addr} {m : Nat} {f : Nat → Nat → Int} {ad : Nat → Addr} (hD : H1 D = none) : Tb H1 (upd H1 D (.lst [])) D 0 m f ad :=
  ⟨same_upd hD, hD, upd_same, fun _ h => absurd h (Nat.not_lt_zero _), fun _ h => absurd h (Nat.not_lt_zero _), fun _ h => absurd h (Nat.not_lt_zero _), fun _ _ h => absurd h (Nat.not_lt_zero _)⟩
theorem Tb.put {H1 H H4 : Hp} {D q : Addr} {n m : Nat} {f : Nat → Nat → Int} {ad : Nat → Addr} (t : Tb H1 H D n m f ad) (s : Same H H4) (hq : H q = none) (h4 : H4 q = some (.lst (rV m (f n)))) (hn : n < 1000) :
    ∃ acc, H4 D = some (.lst acc) ∧ acc.length < sizeLine ∧ ∃ ad', Tb H1 (upd H4 D (.lst (acc ++ [V.ref q]))) D (n + 1) m f ad' := by
  have nD : D ≠ q := ne_of_none t.top hq
  refine ⟨_, s _ _ t.top, by rw [aV_len]; exact Nat.lt_of_lt_of_le hn (by decide), fun r => if r = n then q else ad r, ?_⟩
  refine ⟨same_put t.d0 (t.same.trans s), t.d0, ?_, ?_, ?_, ?_, ?_⟩
  · rw [upd_same, aV_snoc, if_pos rfl]
    exact congrArg (fun z => some (HO.lst (z ++ [V.ref q]))) (aV_congr fun j hj => by rw [if_neg (by omega)])
  · intro r hr
    by_cases e : r = n
    · subst e
      rw [if_pos rfl, upd_ne nD.symm, h4]
    · rw [if_neg e, upd_ne (t.ne r (by omega)).symm]; exact s _ _ (t.row r (by omega))
  · intro r hr
    by_cases e : r = n
    · rw [if_pos e]; exact t.same.free hq
    · rw [if_neg e]; exact t.new r (by omega)
  · intro r hr
    by_cases e : r = n
    · rw [if_pos e]; exact nD
    · rw [if_neg e]; exact t.ne r (by omega)
  · intro r s' hr hs' z
    by_cases e : r = n
    · by_cases e' : s' = n
      · rw [e, e']
      · rw [if_pos e, if_neg e'] at z
        exact absurd z.symm (ne_of_none (t.row s' (by omega)) hq)
    · by_cases e' : s' = n
      · rw [if_neg e, if_pos e'] at z
        exact absurd z (ne_of_none (t.row r (by omega)) hq)
      · rw [if_neg e, if_neg e'] at z
        exact t.inj r s' (by omega) (by omega) z
theorem Tb.mono {H1 H H' : Hp} {D : Addr} {n m : Nat} {f : Nat → Nat → Int} {ad : Nat → Addr} (t : Tb H1 H D n m f ad) (s : Same H H') : Tb H1 H' D n m f ad :=
  ⟨t.same.trans s, t.d0, s _ _ t.top, fun r hr => s _ _ (t.row r hr), t.new, t.ne, t.inj⟩

/-- all but p as before -/
def Sx (p : Addr) (H H' : Hp) : Prop := ∀ b o, b ≠ p → H b = some o → H' b = some o
theorem Sx.upd {p : Addr} {H : Hp} {o : HO} : Sx p H (upd H p o) := fun b x n e => by rw [upd_ne n]; exact e
theorem Sx.of {p : Addr} {H H' : Hp} (s : Same H H') : Sx p H H' := fun b x _ e => s _ _ e
theorem Sx.trans {p : Addr} {H H' H'' : Hp} (a : Sx p H H') (b : Sx p H' H'') : Sx p H H'' := fun c o n e => b c o n (a c o n e)
theorem Sx.same {p : Addr} {H0 H H' : Hp} (h0 : H0 p = none) (a : Same H0 H) (b : Sx p H H') : Same H0 H' := fun c o e => b c o (ne_of_none e h0) (a c o e)

theorem Ws.build {C p dx : Addr} {H0 Ha Hb Hc Hd He Hf Hg : Hp} {h w : Nat} {F : Nat → Nat → Nat → Int} {D0 D1 D2 : Addr} {a0 a1 a2 : Nat → Addr}
    (p0 : H0 p = none) (s0 : Same H0 Ha) (t0 : Tb Ha Hb D0 h w (F 0) a0) (pb : ∃ fs, Hb p = some (.ins C dx fs)) (sb : Sx p Hb Hc) (t1 : Tb Hc Hd D1 h h (F 1) a1) (pd : ∃ fs, Hd p = some (.ins C dx fs)) (sd : Sx p Hd He)
    (t2 : Tb He Hf D2 w w (F 2) a2) (pf : ∃ fs, Hf p = some (.ins C dx fs)) (sf : Sx p Hf Hg) (hp : Hg p = some (.ins C dx (sqf D0 D1 D2 h w))) (h2 : h ≤ 200) (w2 : w ≤ 200) :
    Ws C H0 Hg p h w F (fun k => if k = 0 then D0 else if k = 1 then D1 else D2) (fun k => if k = 0 then a0 else if k = 1 then a1 else a2) := by
  obtain ⟨f1, pb⟩ := pb
  obtain ⟨f2, pd⟩ := pd
  obtain ⟨f3, pf⟩ := pf
  have up1 : ∀ x ls, Hb x = some (.lst ls) → Hc x = some (.lst ls) := fun x ls e => sb _ _ (ne_of e pb (by intro z; cases z)) e
  have up2 : ∀ x ls, Hd x = some (.lst ls) → He x = some (.lst ls) := fun x ls e => sd _ _ (ne_of e pd (by intro z; cases z)) e
  have up3 : ∀ x ls, Hf x = some (.lst ls) → Hg x = some (.lst ls) := fun x ls e => sf _ _ (ne_of e pf (by intro z; cases z)) e
  have u1 : ∀ x ls, Hb x = some (.lst ls) → He x = some (.lst ls) := fun x ls e => up2 _ _ (t1.same _ _ (up1 _ _ e))
  have sc : Same H0 Hc := (Sx.trans (Sx.of t0.same) sb).same p0 s0
  have se : Same H0 He := (Sx.trans (Sx.of t1.same) sd).same p0 sc
  have sg : Same H0 Hg := (Sx.trans (Sx.of t2.same) sf).same p0 se
  have cs : ∀ k, k < 3 → k = 0 ∨ k = 1 ∨ k = 2 := fun k hk => by omega
  have dn0 : dn h w 0 = h := rfl
  have dn1 : dn h w 1 = h := rfl
  have dn2 : dn h w 2 = w := rfl
  -- all heads and rows of an earlier table differ from those of a later one
  have n01 : ∀ x ls, Hb x = some (.lst ls) → x ≠ D1 := fun x ls e => ne_of_none (up1 _ _ e) t1.d0
  have n01' : ∀ x ls r, r < h → Hb x = some (.lst ls) → x ≠ a1 r := fun x ls r hr e => ne_of_none (up1 _ _ e) (t1.new r hr)
  have n02 : ∀ x ls, Hb x = some (.lst ls) → x ≠ D2 := fun x ls e => ne_of_none (u1 _ _ e) t2.d0
  have n02' : ∀ x ls r, r < w → Hb x = some (.lst ls) → x ≠ a2 r := fun x ls r hr e => ne_of_none (u1 _ _ e) (t2.new r hr)
  have n12 : ∀ x ls, Hd x = some (.lst ls) → x ≠ D2 := fun x ls e => ne_of_none (up2 _ _ e) t2.d0
  have n12' : ∀ x ls r, r < w → Hd x = some (.lst ls) → x ≠ a2 r := fun x ls r hr e => ne_of_none (up2 _ _ e) (t2.new r hr)
  refine ⟨sg, p0, ⟨dx, hp⟩, ?_, ?_, ?_, ?_, ?_, ?_, ?_, h2, w2⟩
  · intro k hk
    rcases cs k hk with rfl | rfl | rfl
    · exact up3 _ _ (t2.same _ _ (u1 _ _ t0.top))
    · exact up3 _ _ (t2.same _ _ (up2 _ _ t1.top))
    · exact up3 _ _ t2.top
  · intro k i hk hi
    rcases cs k hk with rfl | rfl | rfl
    · exact up3 _ _ (t2.same _ _ (u1 _ _ (t0.row i hi)))
    · exact up3 _ _ (t2.same _ _ (up2 _ _ (t1.row i hi)))
    · exact up3 _ _ (t2.row i hi)
  · intro k hk
    rcases cs k hk with rfl | rfl | rfl
    · exact s0.free t0.d0
    · exact sc.free t1.d0
    · exact se.free t2.d0
  · intro k i hk hi
    rcases cs k hk with rfl | rfl | rfl
    · exact s0.free (t0.new i hi)
    · exact sc.free (t1.new i hi)
    · exact se.free (t2.new i hi)
  · intro k l hk hl z
    rcases cs k hk with rfl | rfl | rfl <;> rcases cs l hl with rfl | rfl | rfl <;> first
      | rfl
      | exact absurd z (n01 _ _ t0.top)
      | exact absurd z (n02 _ _ t0.top)
      | exact absurd z (n12 _ _ t1.top)
      | exact absurd z.symm (n01 _ _ t0.top)
      | exact absurd z.symm (n02 _ _ t0.top)
      | exact absurd z.symm (n12 _ _ t1.top)
  · intro k l i hk hl hi
    rcases cs k hk with rfl | rfl | rfl <;> rcases cs l hl with rfl | rfl | rfl
    · exact t0.ne i hi
    · exact n01' _ _ i hi t0.top
    · exact n02' _ _ i hi t0.top
    · exact fun z => n01 _ _ (t0.row i hi) z.symm
    · exact t1.ne i hi
    · exact n12' _ _ i hi t1.top
    · exact fun z => n02 _ _ (t0.row i hi) z.symm
    · exact fun z => n12 _ _ (t1.row i hi) z.symm
    · exact t2.ne i hi
  · intro k l i j hk hl hi hj z
    rcases cs k hk with rfl | rfl | rfl <;> rcases cs l hl with rfl | rfl | rfl
    · exact ⟨rfl, t0.inj i j hi hj z⟩
    · exact absurd z (n01' _ _ j hj (t0.row i hi))
    · exact absurd z (n02' _ _ j hj (t0.row i hi))
    · exact absurd z.symm (n01' _ _ i hi (t0.row j hj))
    · exact ⟨rfl, t1.inj i j hi hj z⟩
    · exact absurd z (n12' _ _ j hj (t1.row i hi))
    · exact absurd z.symm (n02' _ _ i hi (t0.row j hj))
    · exact absurd z.symm (n12' _ _ i hi (t1.row j hj))
    · exact ⟨rfl, t2.inj i j hi hj z⟩
end K63W


namespace K63W
open PySem L2 RZ StX PySem.W
open K63 (sw sw_sw sw_lt)

def stVal (s : Stmt) : Expr := match s with
  | .Assign _ v _ => v
  | .Return (some v) _ => v
  | .Expr v _ => v
  | _ => .Constant .none 0 ⟨0, 0, 0, 0⟩
def lcScope (e : Expr) : Scope := match e with
  | .ListComp _ _ sc _ => sc
  | .DictComp _ _ _ sc _ => sc
  | .Call _ [.ListComp _ _ sc _] _ _ => sc
  | _ => { kind := .function, names := [], isGenerator := false, isCoroutine := false }
def bodyAt (s : Stmt) (i : Nat) : Stmt := (defBody s).getD i (.Pass ⟨0, 0, 0, 0⟩)

def dTT (Ls : List (List Int)) : PyData := .tuple (Ls.map dT)
theorem canLayT : ∀ ns : List Int, (dT ns).canLay0 = true := fun ns => by
  unfold dT; rw [PyData.canLay0]; exact ke_canLayAll0 ns
theorem canLayTs : ∀ Ls : List (List Int), PyData.canLayAll0 (Ls.map dT) = true
  | [] => rfl
  | l :: Ls => by rw [List.map_cons, PyData.canLayAll0, canLayT, canLayTs Ls]; rfl
theorem depthTs : ∀ Ls : List (List Int), PyData.depthAll (Ls.map dT) ≤ 1
  | [] => by simp [PyData.depthAll]
  | l :: Ls => by
    have := depthTs Ls
    rw [List.map_cons]; simp only [PyData.depthAll, depthT]; omega
theorem shapedTT (Ls : List (List Int)) : SeqAt.shaped (dTT Ls) = true := by
  have := depthTs Ls
  unfold SeqAt.shaped dTT
  rw [PyData.canLay0, canLayTs, Bool.true_and]
  apply decide_eq_true
  simp only [PyData.depth]; omega
theorem eqv_nilT {xs : List PyData} : PyData.eqv (.tuple xs) (.tuple []) = xs.isEmpty := by
  cases xs <;> simp [PyData.eqv, PyData.eqvAll]
theorem shaped_nilT : SeqAt.shaped (.tuple []) = true := shapedTT []
theorem dp_nilT {K : PySem.W.Frag} {H : Hp} {e : Addr} (h : H e = some (.tup [])) : Dp K H (.ref e) (.tuple []) := .tup (SqT.of h) .nil
/-- a tuple of n tuples of m ints -/
def mT (n m : Nat) (M : Nat → Nat → Int) : List (List Int) := (List.range n).map fun r => (List.range m).map (M r)
theorem rV_map {m : Nat} (f : Nat → Int) : rV m f = ((List.range m).map f).map V.int := by unfold rV; rw [List.map_map]; rfl
theorem dp_mT {K : PySem.W.Frag} {H : Hp} {t : Addr} {n m : Nat} {M : Nat → Nat → Int} {ad : Nat → Addr} (h : H t = some (.tup (aV n ad))) (hr : ∀ r, r < n → H (ad r) = some (.tup (rV m (M r)))) : Dp K H (.ref t) (dTT (mT n m M)) := by
  have e : (mT n m M).map dT = (List.range n).map fun r => dT ((List.range m).map (M r)) := by unfold mT; rw [List.map_map]; rfl
  unfold dTT
  rw [e]
  exact .tup (SqT.of h) (dpAll_map (bs := List.range n) (adr := ad) (enc := fun r => dT ((List.range m).map (M r))) fun b hb => dpT (by rw [hr b (List.mem_range.1 hb), rV_map]))

section
variable {P : Program} {w : World} {K : PySem.W.Frag} {mg : Str → Option Value} {base : Heap}
abbrev nmI : List Str := ["self", "rows", "row", "one", "other"]
theorem scSI : FnScope nmI ["self", "rows"] (defScope (sSq 0)) := ⟨rfl, rfl, rfl, by decide +kernel, rfl, by decide +kernel, by decide +kernel⟩
def unitF (M : Nat → Nat → Int) : Nat → Nat → Nat → Int := fun k i j => if k = 0 then M i j else if i = j then 1 else 0
def spSqInit (C : Addr) : Sp := fun vs H Q _ => ∃ (H0 : Hp) (p dx t : Addr) (h w : Nat) (M : Nat → Nat → Int) (ad : Nat → Addr), vs = [.ref p, .ref t] ∧ Same H0 H ∧ H0 p = none ∧ H p = some (.ins C dx []) ∧
  H t = some (.tup (aV h ad)) ∧ (∀ r, r < h → H (ad r) = some (.tup (rV w (M r)))) ∧ (h = 0 → w = 0) ∧ h ≤ 200 ∧ w ≤ 200 ∧ ∀ H', Wk C H0 H' p h w (unitF M) → Q .non H'
def rListOf (K : PySem.W.Frag) : List V → Hp → VK → Prop := fun xs H Q => ∃ p ys, xs = [.ref p] ∧ (SqL K H p ys ∨ SqT K H p ys) ∧ ∀ l, H l = none → Q (.ref l) (upd H l (.lst ys))
def rInt1 : List V → Hp → VK → Prop := fun xs H Q => (∃ i, xs = [.int i] ∧ Q (.int i) H) ∨ ∃ k, xs = [.bl k] ∧ Q (.int (if k then 1 else 0)) H
def tUnitRow (K : PySem.W.Frag) (f : Str) : TE := tLc (iRng1 (tCons (tFld K (tVar 0) f) tNil)) (gName 4) tYes (tCB rInt1 (tCons (tOp rEq (tVar 3) (tVar 4)) tNil)) [4]
def scOne : Scope := { kind := .function, names := [(Str.ofString ".0", .local), (Str.ofString "one", .cell), (Str.ofString "range", .globalImplicit), (Str.ofString "self", .cell)], isGenerator := false, isCoroutine := false }
theorem tint_unit {i j : Nat} : (V.int (if (decide (V.int (0 + (i : Nat)) = V.int (0 + (j : Nat)))) = true then 1 else 0)) = V.int (if i = j then 1 else 0) := by
  by_cases h : i = j
  · subst h; simp
  · have : ¬ (V.int (0 + (i : Nat)) = V.int (0 + (j : Nat))) := fun z => h (by have := V.int.inj z; omega)
    rw [decide_eq_false this, if_neg h]; rfl
theorem unit_row {f : Str} {n i : Nat} {H : Hp} {p C dx : Addr} {fs : List (Str × V)} {s1 s2 s4 : Option V} {Q : V → Hp → Prop} (hp : H p = some (.ins C dx fs)) (hc : Cls K C) (hn : NoAttr K C f) (hl : fs.lookup f = some (.int (n : Nat))) (h2 : n ≤ 200)
    (k : ∀ H' q, Same H H' → H q = none → H' q = some (.lst (rV n (fun c => if i = c then 1 else 0))) → Q (.ref q) H') : tUnitRow K f [some (.ref p), s1, s2, some (.int (0 + (i : Nat))), s4] H Q := by
  refine ⟨_, rfl, p, C, dx, _, _, rfl, hp, hc, hn, hl, n, rfl, by omega, by omega, fun D hD => ?_⟩
  rw [Int.toNat_natCast]
  refine lc_it (walk_range (lo := 0) (n := n)) (Cmp H D fun j => rV j (fun c => if i = c then 1 else 0)) (Cmp.start hD rfl) (fun _ _ _ _ => True.intro) ?_ ?_
  · rintro j x H2 H3 hj c ⟨rfl, rfl⟩
    refine ⟨rfl, ?_⟩
    unfold tYes
    refine iteT ?_
    refine ⟨_, rfl, _, rfl, rfl, .inr ⟨_, rfl, ?_⟩⟩
    rw [tint_unit]
    exact c.put hD Same.rfl' (rV_snoc _ _) (by rw [rV_len]; omega)
  · intro H2 c
    exact k H2 D c.same hD c.lst
theorem ok_sqInit {f C : Addr} {fd : FuncData} (F : Fun K "__init__" "Square.__init__" (sSq 0) f fd) (B : Bl mg) (T : STxt K mg C) :
    FnOk P w K mg base CX0 1 f fd ["self", "rows"] (spSqInit C) := by
  refine F.ok scSI (fun vs H Q E h => ?_) (fun cdv A outer s H vs Q E hr h => ?_)
  · obtain ⟨_, _, _, _, _, _, _, _, rfl, _⟩ := h
    rfl
  · obtain ⟨H0, p, dx, t, hh, ww, M, ad, rfl, s0, p0, hp, hT, hrow, hz, h2, w2, k⟩ := h
    refine ⟨_, pss_cons (ps_fld (pv 0) (pe_lc (own := [("row", 2)]) (g := gName 2) (te := tCB (rListOf K) (tCons (tVar 2) tNil)) (by rfl) scSI.nd (pi_tup (pv 1)) (blkOk_by (own := [("row", 2)]) (N := nmI) (sc := defScope (sSq 0)) (by decide +kernel))
          (fun _ _ _ _ _ => pg_name (i := 2) scSI.nd rfl (Or.inl rfl)) (fun _ _ _ _ _ => pts_nil)
          (fun _ _ _ _ _ => pe_callTy call_list_of (by rfl) B.list (by decide +kernel) (pa_cons (pv 2) pa_nil))) rfl)
      (pss_cons (ps_fld (pv 0) (pe_callB call_len_seq (by rfl) B.len PySem.boot_len (pa_cons (pv 1) pa_nil)) rfl)
      (pss_cons (ps_fld (pv 0) (pe_ifExp (pt_cmpR (op_neD hr.units) (pv 1) (pe_tup pa_nil) (nomark _)) (pe_callB call_len_seq (by rfl) B.len PySem.boot_len (pa_cons (pe_ix ix_tup (pv 1) pe_int (fun _ _ => rfl)) pa_nil)) pe_int) rfl)
      (pss_cons (ps_fld (pv 0) (pe_lc (own := [("one", 3)]) (g := gName 3) (te := tUnitRow K "high") (by rfl) scSI.nd (pi_range1 rfl B.range (pa_cons (pe_fld (pv 0) rfl) pa_nil)) (blkOk_by (own := [("one", 3)]) (N := nmI) (sc := defScope (sSq 0)) (by decide +kernel))
          (fun _ _ _ _ _ => pg_name (i := 3) scSI.nd rfl (Or.inr rfl)) (fun _ _ _ _ _ => pts_nil)
          (fun _ _ _ _ _ => pe_lc (own := [("other", 4)]) (g := gName 4) (by rfl) scSI.nd (pi_range1 rfl B.range (pa_cons (pe_fld (pv 0) rfl) pa_nil)) (blkOk_by (own := [("other", 4)]) (N := nmI) (sc := scOne) (by decide +kernel))
            (fun _ _ _ _ _ => pg_name (i := 4) scSI.nd rfl (Or.inl rfl)) (fun _ _ _ _ _ => pts_nil)
            (fun _ _ _ _ _ => pe_callTy call_int1 (by rfl) B.int (by decide +kernel) (pa_cons (pe_cmpR op_eq (pv 3) (pv 4) (nomark _)) pa_nil)))) rfl)
      (pss_one (ps_fld (pv 0) (pe_lc (own := [("one", 3)]) (g := gName 3) (te := tUnitRow K "wide") (by rfl) scSI.nd (pi_range1 rfl B.range (pa_cons (pe_fld (pv 0) rfl) pa_nil)) (blkOk_by (own := [("one", 3)]) (N := nmI) (sc := defScope (sSq 0)) (by decide +kernel))
          (fun _ _ _ _ _ => pg_name (i := 3) scSI.nd rfl (Or.inr rfl)) (fun _ _ _ _ _ => pts_nil)
          (fun _ _ _ _ _ => pe_lc (own := [("other", 4)]) (g := gName 4) (by rfl) scSI.nd (pi_range1 rfl B.range (pa_cons (pe_fld (pv 0) rfl) pa_nil)) (blkOk_by (own := [("other", 4)]) (N := nmI) (sc := scOne) (by decide +kernel))
            (fun _ _ _ _ _ => pg_name (i := 4) scSI.nd rfl (Or.inl rfl)) (fun _ _ _ _ _ => pts_nil)
            (fun _ _ _ _ _ => pe_callTy call_int1 (by rfl) B.int (by decide +kernel) (pa_cons (pe_cmpR op_eq (pv 3) (pv 4) (nomark _)) pa_nil)))) rfl))))), ?_⟩
    refine ⟨_, rfl, t, rfl, ⟨_, SqT.of hT⟩, fun D0 hD0 => ?_⟩
    refine lc_it (walk_tup (K := K) (a := t) (xs := aV hh ad)) (fun i H' => ∃ a', Tb H H' D0 i ww M a') ⟨ad, Tb.start hD0⟩ (fun i H' _ ⟨_, q⟩ => SqT.of (q.same _ _ hT)) ?_ ?_
    · rintro i x H2 H3 hi ⟨a', tb⟩ ⟨e3, hx⟩
      subst e3
      rw [aV_len] at hi
      rw [aV_get _ hi] at hx
      cases hx
      refine ⟨rfl, ?_⟩
      unfold tYes
      refine iteT ?_
      refine ⟨_, rfl, ad i, _, rfl, .inr (SqT.of (tb.same _ _ (hrow i hi))), fun l hl => ?_⟩
      exact tb.put (same_upd hl) hl upd_same (by omega)
    rintro H1 ⟨a0, t0⟩
    rw [aV_len] at t0
    have hp1 := t0.same _ _ hp
    refine ⟨_, rfl, p, C, dx, [], rfl, hp1, T.cl, T.nR, (by show 0 < 1000; decide), ?_⟩
    have x1 : Sx p H1 (upd H1 p (.ins C dx (putF "rows" (.ref D0) []))) := Sx.upd
    have hp2 : upd H1 p (.ins C dx (putF "rows" (.ref D0) [])) p = some (.ins C dx (putF "rows" (.ref D0) [])) := upd_same
    generalize upd H1 p (.ins C dx (putF "rows" (.ref D0) [])) = H2 at x1 hp2
    have ntp : ∀ {x ls}, H x = some (.tup ls) → x ≠ p := fun e => ne_of e hp (by intro z; cases z)
    have hT2 := x1 _ _ (ntp hT) (t0.same _ _ hT)
    refine ⟨_, rfl, t, _, rfl, .inr (SqT.of hT2), _, rfl, p, C, dx, _, rfl, hp2, T.cl, T.nH, (by show 1 < 1000; decide), ?_⟩
    rw [aV_len]
    have x2 : Sx p H2 (upd H2 p (.ins C dx (putF "high" (.int hh) (putF "rows" (.ref D0) [])))) := Sx.upd
    have hp3 : upd H2 p (.ins C dx (putF "high" (.int hh) (putF "rows" (.ref D0) []))) p = some (.ins C dx (putF "high" (.int hh) (putF "rows" (.ref D0) []))) := upd_same
    generalize upd H2 p (.ins C dx (putF "high" (.int hh) (putF "rows" (.ref D0) []))) = H3 at x2 hp3
    have hT3 := x2 _ _ (ntp hT) hT2
    refine ⟨_, rfl, by show 0 ≤ sizeLine; decide, fun e he => ?_⟩
    have x3 : Same H3 (upd H3 e (.tup [])) := same_upd he
    have he3 : upd H3 e (.tup []) e = some (.tup []) := upd_same
    generalize upd H3 e (.tup []) = H4 at x3 he3
    have hT4 := x3 _ _ hT3
    have hrow4 : ∀ r, r < hh → H4 (ad r) = some (.tup (rV ww (M r))) := fun r hr => x3 _ _ (x2 _ _ (ntp (hrow r hr)) (x1 _ _ (ntp (hrow r hr)) (t0.same _ _ (hrow r hr))))
    refine ⟨_, _, dp_mT hT4 hrow4, dp_nilT he3, shapedTT _, shaped_nilT, _, rfl, ?_⟩
    unfold dTT
    rw [eqv_nilT]
    have hwide : (fun (Q : V → Hp → Prop) => Q (.int ww) H4 → if (!(List.map dT (mT hh ww M)).isEmpty) = true then tCB (fun xs H Q => ∃ p ys, xs = [V.ref p] ∧ (SqL K H p ys ∨ SqT K H p ys) ∧ Q (.int ys.length) H) (tCons (tOp (rIxT K) (tVar 1) (tC (.int 0))) tNil) [some (.ref p), some (.ref t), none, none, none] H4 Q else Q (.int 0) H4) = fun _ => True := by
      funext Q
      refine eq_true fun q => ?_
      by_cases e0 : hh = 0
      · subst e0
        have : ww = 0 := hz rfl
        subst this
        exact iteF q
      · have ne : (List.map dT (mT hh ww M)).isEmpty = false := by
          cases e1 : (List.map dT (mT hh ww M)) with
          | nil => have := congrArg List.length e1; simp [mT] at this; exact absurd this e0
          | cons _ _ => rfl
        rw [ne]
        refine iteT ?_
        refine ⟨_, rfl, t, _, 0, _, rfl, rfl, SqT.of hT4, atI_nat (aV_get ad (by omega : 0 < hh)), ad 0, _, rfl, .inr (SqT.of (hrow4 0 (by omega))), ?_⟩
        rw [rV_len]; exact q
    refine (of_eq_true (congrFun hwide _)) ?_
    have hp4 := x3 _ _ hp3
    refine ⟨_, rfl, p, C, dx, _, rfl, hp4, T.cl, T.nW, (by show 2 < 1000; decide), ?_⟩
    have x4 : Sx p H4 (upd H4 p (.ins C dx (putF "wide" (.int ww) (putF "high" (.int hh) (putF "rows" (.ref D0) []))))) := Sx.upd
    have hp5 : upd H4 p (.ins C dx (putF "wide" (.int ww) (putF "high" (.int hh) (putF "rows" (.ref D0) [])))) p = some (.ins C dx (putF "wide" (.int ww) (putF "high" (.int hh) (putF "rows" (.ref D0) [])))) := upd_same
    generalize upd H4 p (.ins C dx (putF "wide" (.int ww) (putF "high" (.int hh) (putF "rows" (.ref D0) [])))) = H5 at x4 hp5
    have lkH5 : ∀ {z : List (Str × V)}, (putF "wide" (.int ww) (putF "high" (.int hh) z)).lookup ("high" : Str) = some (.int hh) := by
      intro z; rw [lookup_putF, if_neg (by decide +kernel), lookup_putF, if_pos rfl]
    refine ⟨_, rfl, p, C, dx, _, _, rfl, hp5, T.cl, T.nH, lkH5, hh, rfl, by omega, by omega, fun D1 hD1 => ?_⟩
    rw [Int.toNat_natCast]
    refine lc_it (walk_range (lo := 0) (n := hh)) (fun i H' => ∃ a', Tb H5 H' D1 i hh (fun r c => if r = c then 1 else 0) a') ⟨ad, Tb.start hD1⟩ (fun _ _ _ _ => True.intro) ?_ ?_
    · rintro i x Ha Hb hi ⟨a', tb⟩ ⟨rfl, rfl⟩
      refine ⟨rfl, ?_⟩
      unfold tYes
      refine iteT ?_
      refine unit_row (tb.same _ _ hp5) T.cl T.nH lkH5 h2 fun H' q sm hq hQ => ?_
      exact tb.put sm hq hQ (by omega)
    rintro H6 ⟨a1, t1⟩
    have hp6 := t1.same _ _ hp5
    refine ⟨_, rfl, p, C, dx, _, rfl, hp6, T.cl, T.nL, (by show 3 < 1000; decide), ?_⟩
    have x5 : Sx p H6 (upd H6 p (.ins C dx (putF "left" (.ref D1) (putF "wide" (.int ww) (putF "high" (.int hh) (putF "rows" (.ref D0) [])))))) := Sx.upd
    have hp7 : upd H6 p (.ins C dx (putF "left" (.ref D1) (putF "wide" (.int ww) (putF "high" (.int hh) (putF "rows" (.ref D0) []))))) p = some (.ins C dx (putF "left" (.ref D1) (putF "wide" (.int ww) (putF "high" (.int hh) (putF "rows" (.ref D0) []))))) := upd_same
    generalize upd H6 p (.ins C dx (putF "left" (.ref D1) (putF "wide" (.int ww) (putF "high" (.int hh) (putF "rows" (.ref D0) []))))) = H7 at x5 hp7
    have lkW7 : ∀ {z : List (Str × V)}, (putF "left" (.ref D1) (putF "wide" (.int ww) z)).lookup ("wide" : Str) = some (.int ww) := by
      intro z; rw [lookup_putF, if_neg (by decide +kernel), lookup_putF, if_pos rfl]
    refine ⟨_, rfl, p, C, dx, _, _, rfl, hp7, T.cl, T.nW, lkW7, ww, rfl, by omega, by omega, fun D2 hD2 => ?_⟩
    rw [Int.toNat_natCast]
    refine lc_it (walk_range (lo := 0) (n := ww)) (fun i H' => ∃ a', Tb H7 H' D2 i ww (fun r c => if r = c then 1 else 0) a') ⟨ad, Tb.start hD2⟩ (fun _ _ _ _ => True.intro) ?_ ?_
    · rintro i x Ha Hb hi ⟨a', tb⟩ ⟨rfl, rfl⟩
      refine ⟨rfl, ?_⟩
      unfold tYes
      refine iteT ?_
      refine unit_row (tb.same _ _ hp7) T.cl T.nW lkW7 w2 fun H' q sm hq hQ => ?_
      exact tb.put sm hq hQ (by omega)
    rintro H8 ⟨a2, t2⟩
    have hp8 := t2.same _ _ hp7
    refine ⟨_, rfl, p, C, dx, _, rfl, hp8, T.cl, T.nT, (by show 4 < 1000; decide), ?_⟩
    refine k _ ⟨_, _, Ws.build (F := unitF M) p0 s0 t0 ⟨_, hp1⟩ (x1.trans (x2.trans ((Sx.of x3).trans x4))) t1 ⟨_, hp6⟩ x5 t2 ⟨_, hp8⟩ Sx.upd upd_same h2 w2⟩
end
end K63W


namespace K63W
open PySem L2 RZ StX PySem.W
open K63 (sw sw_sw sw_lt)

/-- Python's order of tuples of ints -/
abbrev ltI (a b : List Int) : Bool := listLt a b
theorem dataLt_T (a b : List Int) : dataLt (dT a) (dT b) = ltI a b := DatumOrd.lt_eq (⟨a⟩ : Tup Int) ⟨b⟩
theorem dT_inj {a b : List Int} (h : dT a = dT b) : a = b := by
  unfold dT at h
  have h1 : a.map PyData.int = b.map PyData.int := PyData.tuple.inj h
  exact (List.map_inj_right (fun _ _ e => PyData.int.inj e)).1 h1
theorem minD_pick (x : List Int) (xs : List (List Int)) (m : List Int) (hm : m ∈ x :: xs) (h : ∀ y ∈ x :: xs, y ≠ m → ltI m y = true ∧ ltI y m = false) : minD (dT x) (xs.map dT) = dT m := by
  unfold minD
  induction xs generalizing x with
  | nil => rw [List.mem_singleton.1 hm]; rfl
  | cons y ys ih =>
    rw [List.map_cons, List.foldl_cons, dataLt_T]
    have hy : y ∈ x :: y :: ys := by simp
    have self : ∀ z : List Int, ltI z z = false := fun z => by rw [← dataLt_T]; exact dataLt_self _
    by_cases e : x = m
    · subst e
      have hlt : ltI y x = false := by
        by_cases e2 : y = x
        · rw [e2]; exact self x
        · exact (h y hy e2).2
      rw [hlt]
      exact ih x (by simp) fun z hz => h z (by simp at hz ⊢; rcases hz with hz | hz <;> simp [hz])
    · by_cases e2 : y = m
      · subst e2
        rw [(h x (by simp) e).1]
        exact ih y (by simp) fun z hz => h z (by simp at hz ⊢; rcases hz with hz | hz <;> simp [hz])
      · have hm' : m ∈ ys := by
          rcases List.mem_cons.1 hm with z | z
          · exact absurd z.symm e
          · rcases List.mem_cons.1 z with z | z
            · exact absurd z.symm e2
            · exact z
        cases ltI y x with
        | true => exact ih y (by simp [hm']) fun z hz => h z (by simp at hz ⊢; rcases hz with hz | hz <;> simp [hz])
        | false => exact ih x (by simp [hm']) fun z hz => h z (by simp at hz ⊢; rcases hz with hz | hz <;> simp [hz])

def dLT (Ls : List (List Int)) : PyData := .list (Ls.map dT)
theorem shapedLT (Ls : List (List Int)) : SeqAt.shaped (dLT Ls) = true := by
  have := depthTs Ls
  unfold SeqAt.shaped dLT
  rw [PyData.canLay0, canLayTs, Bool.true_and]
  apply decide_eq_true
  simp only [PyData.depth]; omega
theorem eqv_nilL {xs : List PyData} : PyData.eqv (.list xs) (.list []) = xs.isEmpty := by
  cases xs <;> simp [PyData.eqv, PyData.eqvAll]
theorem dp_TL {K : PySem.W.Frag} {H : Hp} {L : TL} (t : TLat H L) : DpAll K H (refs L) (L.map fun p => dT p.2) :=
  dpAll_map (bs := L) (adr := fun p => p.1) (enc := fun p => dT p.2) fun b hb => dpT (t b hb)

/-- the numbers of a row but 0 from a column on, with their places -/
def rowTr (f : Nat → Int) (r a n : Nat) : List (List Int) := ((List.range n).filter fun j => !decide (f (a + j) = 0)).map fun j => [if f (a + j) < 0 then - f (a + j) else f (a + j), (r : Int), ((a + j : Nat) : Int)]
def allTr (F : Nat → Nat → Int) (a n m : Nat) : List (List Int) := (List.range n).flatMap fun i => rowTr (F (a + i)) (a + i) a m
theorem rowTr_succ (f : Nat → Int) (r a n : Nat) : rowTr f r a (n + 1) = rowTr f r a n ++ if f (a + n) = 0 then [] else [[if f (a + n) < 0 then - f (a + n) else f (a + n), (r : Int), ((a + n : Nat) : Int)]] := by
  unfold rowTr
  rw [List.range_succ, List.filter_append, List.map_append]
  by_cases h : f (a + n) = 0 <;> simp [h]
theorem allTr_succ (F : Nat → Nat → Int) (a n m : Nat) : allTr F a (n + 1) m = allTr F a n m ++ rowTr (F (a + n)) (a + n) a m := by
  unfold allTr
  rw [List.range_succ, List.flatMap_append]; simp
theorem rowTr_len (f : Nat → Int) (r a n : Nat) : (rowTr f r a n).length ≤ n := by
  unfold rowTr
  rw [List.length_map]
  refine Nat.le_trans (List.length_filter_le _ _) ?_
  rw [List.length_range]; exact Nat.le_refl _
theorem allTr_len (F : Nat → Nat → Int) (a n m : Nat) : (allTr F a n m).length ≤ n * m := by
  induction n with
  | zero => simp [allTr]
  | succ n ih =>
    rw [allTr_succ, List.length_append, Nat.succ_mul]
    have := rowTr_len (F (a + n)) (a + n) a m
    omega
theorem mem_allTr {F : Nat → Nat → Int} {a n m : Nat} {y : List Int} : y ∈ allTr F a n m ↔ ∃ i j, a ≤ i ∧ i < a + n ∧ a ≤ j ∧ j < a + m ∧ F i j ≠ 0 ∧ y = [if F i j < 0 then - F i j else F i j, (i : Int), (j : Int)] := by
  unfold allTr rowTr
  simp only [List.mem_flatMap, List.mem_range, List.mem_map, List.mem_filter, Bool.not_eq_true', decide_eq_false_iff_not]
  constructor
  · rintro ⟨i, hi, j, ⟨hj, hf⟩, rfl⟩
    exact ⟨a + i, a + j, by omega, by omega, by omega, by omega, hf, rfl⟩
  · rintro ⟨i, j, h1, h2, h3, h4, hf, rfl⟩
    refine ⟨i - a, by omega, j - a, ⟨by omega, ?_⟩, ?_⟩
    · rw [show a + (i - a) = i by omega, show a + (j - a) = j by omega]; exact hf
    · rw [show a + (i - a) = i by omega, show a + (j - a) = j by omega]

section
variable {P : Program} {w : World} {K : PySem.W.Frag} {mg : Str → Option Value} {base : Heap}
abbrev nmLe : List Str := ["self", "at", "some", "row", "column"]
theorem scLe : FnScope nmLe ["self", "at"] (defScope (sSq 5)) := ⟨rfl, rfl, rfl, by decide +kernel, rfl, by decide +kernel, by decide +kernel⟩
def rAbs : List V → Hp → VK → Prop := fun xs H Q => ∃ i, xs = [.int i] ∧ Q (.int (if i < 0 then -i else i)) H
def tCell (K : PySem.W.Frag) : TE := tOp (rIxL K) (tOp (rIxL K) (tFld K (tVar 0) "rows") (tVar 3)) (tVar 4)
def spLeast (C : Addr) : Sp := fun vs H Q _ => ∃ (H0 : Hp) (p : Addr) (h w : Nat) (F : Nat → Nat → Nat → Int) (a : Nat), vs = [.ref p, .int (a : Nat)] ∧ Wk C H0 H p h w F ∧ a ≤ h ∧ a ≤ w ∧
  (((∀ i, a ≤ i → i < h → ∀ j, a ≤ j → j < w → F 0 i j = 0) ∧ ∀ H', Same H H' → Q .non H') ∨
    ∃ r c, K63.FU h w a (F 0) r c ∧ ∀ H' t, Same H H' → H' t = some (.tup [.int (r : Nat), .int (c : Nat)]) → Q (.ref t) H')
theorem ok_least {f C : Addr} {fd : FuncData} (F : Fun K "least" "Square.least" (sSq 5) f fd) (B : Bl mg) (T : STxt K mg C) :
    FnOk P w K mg base CX0 1 f fd ["self", "at"] (spLeast C) := by
  refine F.ok scLe (fun vs H Q E h => ?_) (fun cdv A outer s H vs Q E hr h => ?_)
  · obtain ⟨_, _, _, _, _, _, rfl, _⟩ := h
    rfl
  · obtain ⟨H0, p, hh, ww, F, a, rfl, ⟨hd, ad, W⟩, hah, haw, k⟩ := h
    refine ⟨_, pss_cons (ps_setLc2 (i := 2) (own := [("row", 3), ("column", 4)]) (vs1 := [4]) (g := gName 3) (g1 := gName 4) (wi1 := iRng2 (tCons (tVar 1) (tCons (tFld K (tVar 0) "wide") tNil)))
          (tt1 := tTest (tOp rNe (tCell K) (tC (.int 0)))) (te := tTup (tCons (tCB rAbs (tCons (tCell K) tNil)) (tCons (tVar 3) (tCons (tVar 4) tNil)))) (by rfl) scLe.nd rfl rfl (sw_true rfl rfl rfl (by decide +kernel))
          (pi_range2 rfl B.range (pa_cons (pv 1) (pa_cons (pe_fld (pv 0) rfl) pa_nil))) (blkOk_by (own := [("row", 3), ("column", 4)]) (N := nmLe) (sc := defScope (sSq 5)) (by decide +kernel)) (by decide)
          (fun _ _ _ _ _ => pg_name (i := 3) scLe.nd rfl (Or.inl rfl)) (fun _ _ _ _ _ => pts_nil)
          (fun _ _ _ _ _ => pi_range2 rfl B.range (pa_cons (pv 1) (pa_cons (pe_fld (pv 0) rfl) pa_nil)))
          (fun _ _ _ _ _ => pg_name (i := 4) scLe.nd rfl (Or.inl rfl)) (fun _ _ _ _ _ => pts_one (pt_cmpR op_ne (pe_ix ix_list (pe_ix ix_list (pe_fld (pv 0) rfl) (pv 3) (fun _ _ => rfl)) (pv 4) (fun _ _ => rfl)) pe_int (nomark _)))
          (fun _ _ _ _ _ => pe_tup (pa_cons (pe_callB call_abs (by rfl) B.abs (by decide +kernel) (pa_cons (pe_ix ix_list (pe_ix ix_list (pe_fld (pv 0) rfl) (pv 3) (fun _ _ => rfl)) (pv 4) (fun _ _ => rfl)) pa_nil)) (pa_cons (pv 3) (pa_cons (pv 4) pa_nil)))))
      (pss_one (ps_ret (pe_ifExp (pt_cmpR (op_neD hr.units) (pv 2) (pe_lst pa_nil) (nomark _)) (pe_slice sl_tupA (pe_callB (cr_minD rfl hr.units) (by rfl) B.min (by decide +kernel) (pa_cons (pv 2) pa_nil)) (po_some pe_int) po_none) pe_non))), ?_⟩
    have h2 := W.h2
    have w2 := W.w2
    refine ⟨_, rfl, _, rfl, W.gH T ⟨a, hh, rfl, ⟨by omega, by omega, by omega, by omega⟩, fun D hD => ?_⟩⟩
    have e1 : ((hh : Int) - (a : Int)).toNat = hh - a := by omega
    rw [e1]
    refine lc2_it (walk_range (lo := (a : Int)) (n := hh - a)) (fun i H2 => Same H H2 ∧ ∃ M : TL, H2 D = some (.lst (refs M)) ∧ TLat H2 M ∧ M.map (·.2) = allTr (F 0) a i (ww - a))
      ⟨same_upd hD, [], (by rw [upd_same]; rfl), (fun b hb => nomatch hb), rfl⟩ (fun _ _ _ _ => True.intro) ?_ ?_
    · rintro i x H2 H3 hi ⟨s2, M, hM, tM, eM⟩ ⟨rfl, rfl⟩
      refine ⟨rfl, ?_⟩
      unfold tYes
      refine iteT ?_
      have W2 := W.mono s2
      refine ⟨_, rfl, _, rfl, W2.gW T ⟨a, ww, rfl, ⟨by omega, by omega, by omega, by omega⟩, ?_⟩⟩
      have e2 : ((ww : Int) - (a : Int)).toNat = ww - a := by omega
      rw [e2]
      refine lc2_in (walk_range (lo := (a : Int)) (n := ww - a)) (fun j H4 => Same H H4 ∧ ∃ M : TL, H4 D = some (.lst (refs M)) ∧ TLat H4 M ∧ M.map (·.2) = allTr (F 0) a i (ww - a) ++ rowTr (F 0 (a + i)) (a + i) a j)
        ⟨s2, M, hM, tM, by rw [eM]; simp [rowTr]⟩ (fun _ _ _ _ => True.intro) ?_ ?_
      · rintro j x H4 H5 hj ⟨s4, M4, hM4, tM4, eM4⟩ ⟨rfl, rfl⟩
        have W4 := W.mono s4
        have hri : a + i < dn hh ww 0 := by show a + i < hh; omega
        have hcj : a + j < dm hh ww 0 := by show a + j < ww; omega
        have hlen : M4.length ≤ 40000 := by
          have l1 := congrArg List.length eM4
          rw [List.length_map, List.length_append] at l1
          have l2 := allTr_len (F 0) a i (ww - a)
          have l3 := rowTr_len (F 0 (a + i)) (a + i) a j
          have l4 : i * (ww - a) ≤ 199 * 200 := Nat.mul_le_mul (by omega) (by omega)
          omega
        have er : (a : Int) + (i : Nat) = ((a + i : Nat) : Int) := by omega
        have ec : (a : Int) + (j : Nat) = ((a + j : Nat) : Int) := by omega
        show gName 4 (V.int ((a : Int) + (j : Nat))) [some (.ref p), some (.int (a : Nat)), none, some (.int ((a : Int) + (i : Nat))), none] H5 _
        rw [er, ec]
        have rd : ∀ {Q : V → Hp → Prop}, Q (.int (F 0 (a + i) (a + j))) H5 → tCell K [some (.ref p), some (.int (a : Nat)), none, some (.int ((a + i : Nat) : Int)), some (.int ((a + j : Nat) : Int))] H5 Q := fun q =>
          ⟨_, rfl, W4.gR T ⟨_, rfl, W4.iRow (by decide) hri ⟨_, rfl, W4.iItem (by decide) hri hcj q⟩⟩⟩
        refine ⟨rfl, rd ⟨rfl, _, rfl, ?_⟩⟩
        rw [show rowTr (F 0 (a + i)) (a + i) a (j + 1) = _ from rowTr_succ _ _ _ _, ← List.append_assoc]
        by_cases hz : F 0 (a + i) (a + j) = 0
        · rw [if_pos hz, show (!decide (V.int (F 0 (a + i) (a + j)) = V.int 0)) = false by rw [hz]; rfl]
          exact iteF ⟨s4, M4, hM4, tM4, by rw [eM4, List.append_nil]⟩
        · rw [if_neg hz, show (!decide (V.int (F 0 (a + i) (a + j)) = V.int 0)) = true by rw [decide_eq_false (fun z => hz (V.int.inj z))]; rfl]
          refine iteT (rd ⟨_, rfl, _, rfl, _, rfl, (by show 3 ≤ sizeLine; decide), fun q hq => ?_⟩)
          have s5 := same_upd (o := .tup [.int (if F 0 (a + i) (a + j) < 0 then - F 0 (a + i) (a + j) else F 0 (a + i) (a + j)), .int ((a + i : Nat) : Int), .int ((a + j : Nat) : Int)]) hq
          have hM5 := s5 _ _ hM4
          refine ⟨_, hM5, (by rw [refs_len]; exact Nat.lt_of_le_of_lt hlen (by decide)), same_put hD (s4.trans s5), M4 ++ [(q, [if F 0 (a + i) (a + j) < 0 then - F 0 (a + i) (a + j) else F 0 (a + i) (a + j), ((a + i : Nat) : Int), ((a + j : Nat) : Int)])], ?_, ?_, ?_⟩
          · rw [upd_same, refs_app]; rfl
          · exact (tM4.fresh hq).put hM5
          · rw [List.map_append, eM4]; rfl
      · rintro H4 ⟨s4, M4, hM4, tM4, eM4⟩
        exact ⟨s4, M4, hM4, tM4, by rw [eM4, allTr_succ]⟩
    · rintro H2 ⟨s2, M, hM, tM, eM⟩
      have hlen : M.length ≤ 40000 := by
        have l1 := congrArg List.length eM
        rw [List.length_map] at l1
        have l2 := allTr_len (F 0) a (hh - a) (ww - a)
        have l4 : (hh - a) * (ww - a) ≤ 200 * 200 := Nat.mul_le_mul (by omega) (by omega)
        omega
      refine ⟨_, rfl, by show 0 ≤ sizeLine; decide, fun e he => ?_⟩
      have s3 : Same H2 (upd H2 e (.lst [])) := same_upd he
      have he3 : upd H2 e (.lst []) e = some (.lst []) := upd_same
      generalize upd H2 e (.lst []) = H3 at s3 he3
      have hM3 := s3 _ _ hM
      have tM3 := tM.same s3
      have eD : (M.map fun p => dT p.2) = (allTr (F 0) a (hh - a) (ww - a)).map dT := by rw [← eM, List.map_map]; rfl
      refine ⟨dLT (allTr (F 0) a (hh - a) (ww - a)), .list [], .lst (SqL.of hM3) (by rw [← eD]; exact dp_TL tM3), .lst (SqL.of he3) .nil, shapedLT _, shapedLT [], _, rfl, ?_⟩
      unfold dLT
      rw [eqv_nilL]
      rcases k with ⟨hz, k⟩ | ⟨r, c, fu, k⟩
      · have : allTr (F 0) a (hh - a) (ww - a) = [] := by
          cases e : allTr (F 0) a (hh - a) (ww - a) with
          | nil => rfl
          | cons y ys =>
            have hy : y ∈ allTr (F 0) a (hh - a) (ww - a) := by rw [e]; simp
            obtain ⟨i, j, h1, h2', h3, h4, h5, _⟩ := mem_allTr.1 hy
            exact absurd (hz i h1 (by omega) j h3 (by omega)) h5
        rw [this]
        exact iteF (k _ (s2.trans s3))
      · have hap := fu.ap; have hph := fu.ph; have haq := fu.aq; have hqw := fu.qw
        have hun : (if F 0 r c < 0 then - F 0 r c else F 0 r c) = 1 := by rcases fu.unit with z | z <;> rw [z] <;> rfl
        have hne : F 0 r c ≠ 0 := by rcases fu.unit with z | z <;> rw [z] <;> decide
        have hm : ([1, (r : Int), (c : Int)] : List Int) ∈ allTr (F 0) a (hh - a) (ww - a) := mem_allTr.2 ⟨r, c, hap, by omega, haq, by omega, hne, by rw [hun]⟩
        have hmin : ∀ y ∈ allTr (F 0) a (hh - a) (ww - a), y ≠ [1, (r : Int), (c : Int)] → ltI [1, (r : Int), (c : Int)] y = true ∧ ltI y [1, (r : Int), (c : Int)] = false := by
          intro y hy hne
          obtain ⟨i, j, h1, h2', h3, h4, h5, rfl⟩ := mem_allTr.1 hy
          generalize hv : (if F 0 i j < 0 then - F 0 i j else F 0 i j) = v at hne
          have hv1 : 1 ≤ v := by
            rw [← hv]; split <;> omega
          unfold ltI
          simp only [listLt, DatumOrd.lt]
          by_cases e1 : v = 1
          · have hu : F 0 i j = 1 ∨ F 0 i j = -1 := by
              rw [e1] at hv
              split at hv <;> omega
            have hir : r ≤ i := by
              apply Nat.le_of_not_lt; intro z
              have := fu.row i h1 z j h3 (by omega)
              rcases hu with y | y
              · exact this.1 y
              · exact this.2 y
            by_cases e2 : i = r
            · subst e2
              have hjc : c ≤ j := by
                apply Nat.le_of_not_lt; intro z
                have := fu.col j h3 z
                rcases hu with y | y
                · exact this.1 y
                · exact this.2 y
              have e3 : ¬ j = c := fun z => hne (by rw [e1, z])
              have e3' : ¬ (j : Int) = (c : Int) := by omega
              have e3'' : ¬ (c : Int) = (j : Int) := by omega
              have l1 : (c : Int) < (j : Int) := by omega
              have l2 : ¬ (j : Int) < (c : Int) := by omega
              rw [e1]
              simp [e3', e3'', l1, l2]
            · have e2' : ¬ (i : Int) = (r : Int) := by omega
              have e2'' : ¬ (r : Int) = (i : Int) := by omega
              have l1 : (r : Int) < (i : Int) := by omega
              have l2 : ¬ (i : Int) < (r : Int) := by omega
              rw [e1]
              simp [e2', e2'', l1, l2]
          · have e1' : ¬ (1 : Int) = v := fun z => e1 z.symm
            have l1 : (1 : Int) < v := by omega
            have l2 : ¬ v < 1 := by omega
            simp [e1, e1', l1, l2]
        cases M with
        | nil => rw [← eM] at hm; cases hm
        | cons b0 bs =>
          rw [← eM] at hm hmin
          rw [← eM]
          refine iteT ?_
          refine ⟨_, rfl, _, b0, bs, (fun p => p.1), (fun p => dT p.2), D, rfl, SqL.of hM3, fun b hb => dpT (tM3 b hb), ⟨?_, ?_⟩, ?_, fun b hb he => ?_⟩
          · intro x hx y hy
            obtain ⟨p1, _, rfl⟩ := List.mem_map.1 hx
            obtain ⟨p2, _, rfl⟩ := List.mem_map.1 hy
            exact alikeT _ _
          · intro x hx
            obtain ⟨p1, _, rfl⟩ := List.mem_map.1 hx
            exact fun z => nomatch z
          · have := depthTs ((b0 :: bs).map (·.2))
            rw [List.map_map] at this
            exact Nat.le_trans this (by decide)
          · have hp := minD_pick b0.2 (bs.map (fun x : Addr × List Int => x.2)) _ hm hmin
            have hb2 : b.2 = [1, (r : Int), (c : Int)] := by
              apply dT_inj
              refine he.trans (Eq.trans ?_ hp)
              rw [List.map_map]; rfl
            have hbt := tM3 b hb
            rw [hb2] at hbt
            refine ⟨1, rfl, tNo (sl_any hbt fun H5 q s5 h5 => ?_)⟩
            exact k H5 q (s2.trans (s3.trans s5)) h5
end
end K63W


namespace K63W
open PySem L2 RZ StX PySem.W
open K63 (sw sw_sw sw_lt)

theorem fmod_unit {x u : Int} (h : u = 1 ∨ u = -1) : x.fmod u = 0 := by
  apply Int.fmod_eq_zero_of_dvd
  rcases h with rfl | rfl
  · exact Int.one_dvd x
  · exact ⟨-x, by omega⟩
theorem fdiv_unit {x u : Int} (h : u = 1 ∨ u = -1) : x.fdiv u = x * u := by
  have h1 := Int.mul_fdiv_add_fmod x u
  rw [fmod_unit h] at h1
  rcases h with rfl | rfl <;> omega

/-- a method that is called by its name -/
structure Lm (K : PySem.W.Frag) (C : Addr) (m : Str) (f : Addr) (fd : FuncData) (ps : List Str) : Prop where
  m : Meth K C m f
  b : Binds K fd ps []

/-- all entries are small -/
def Bd (h w e : Nat) (F : Nat → Nat → Nat → Int) : Prop := ∀ k i j, k < 3 → i < dn h w k → j < dm h w k → (F k i j).natAbs < 2 ^ e
theorem mul_unit_abs {x u : Int} (h : u = 1 ∨ u = -1) : (x * u).natAbs = x.natAbs := by rcases h with rfl | rfl <;> omega

def rowF (a : Nat) (u : Int) (n : Nat) (F : Nat → Nat → Nat → Int) (k i j : Nat) : Int := if k ≠ 2 ∧ a < i ∧ i < a + 1 + n then F k i j + -(F 0 i a * u) * F k a j else F k i j
def colF (a : Nat) (u : Int) (n : Nat) (G : Nat → Nat → Nat → Int) (k i j : Nat) : Int := if k ≠ 1 ∧ a < j ∧ j < a + 1 + n then G k i j + -(G 0 a j * u) * G k i a else G k i j

section
variable {P : Program} {w : World} {K : PySem.W.Frag} {mg : Str → Option Value} {base : Heap}
abbrev nmCl : List Str := ["self", "at", "corner", "row", "column", "below"]
theorem scCl : FnScope nmCl ["self", "at"] (defScope (sSq 6)) := ⟨rfl, rfl, rfl, by decide +kernel, rfl, by decide +kernel, by decide +kernel⟩
def spIsClean (C : Addr) : Sp := fun vs H Q _ => ∃ (H0 : Hp) (p : Addr) (h w : Nat) (F : Nat → Nat → Nat → Int) (a e : Nat) (u : Int), vs = [.ref p, .int (a : Nat)] ∧ Wk C H0 H p h w F ∧ a < h ∧ a < w ∧ F 0 a a = u ∧ (u = 1 ∨ u = -1) ∧
  (∀ i, i < a → F 0 i a = 0) ∧ Bd h w e F ∧ 0 < e ∧ e + e ≤ 134217728 ∧
  ∀ H', Wk C H0 H' p h w (colF a u (w - (a + 1)) (rowF a u (h - (a + 1)) F)) → Q (.bl true) H'
theorem ok_isClean {f f1 f2 C : Addr} {fd fd1 fd2 : FuncData} (F : Fun K "is_clean" "Square.is_clean" (sSq 6) f fd) (B : Bl mg) (T : STxt K mg C)
    (G1 : FnOk P w K mg base CX0 1 f1 fd1 ["self", "to", "many", "source"] (spAddRow C)) (m1 : Lm K C "add_row" f1 fd1 ["self", "to", "many", "source"])
    (G2 : FnOk P w K mg base CX0 1 f2 fd2 ["self", "to", "many", "source"] (spAddCol C)) (m2 : Lm K C "add_column" f2 fd2 ["self", "to", "many", "source"]) :
    FnOk P w K mg base CX0 2 f fd ["self", "at"] (spIsClean C) := by
  refine F.ok scCl (fun vs H Q E h => ?_) (fun cdv A outer s H vs Q E hr h => ?_)
  · obtain ⟨_, _, _, _, _, _, _, _, rfl, _⟩ := h
    rfl
  · obtain ⟨H0, p, hh, ww, F, a, e, u, rfl, W, hah, haw, hcor, hu, hab, hB, he0, he2, k⟩ := h
    refine ⟨_, pss_cons (ps_set (i := 2) scCl.nd rfl (Or.inl rfl) (pe_ix ix_list (pe_ix ix_list (pe_fld (pv 0) rfl) (pv 1) (fun _ _ => rfl)) (pv 1) (fun _ _ => rfl)))
      (pss_cons (ps_for PassesOwn.never rfl (pi_range2 rfl B.range (pa_cons (pe_op op_add (pv 1) pe_int) (pa_cons (pe_fld (pv 0) rfl) pa_nil))) (pg_name (i := 3) scCl.nd rfl (Or.inl rfl))
        (pss_one (ps_expr (pe_meth (pv 0) T.cl m1.m G1 hr m1.b .nil pass0 (pa_cons (pv 3) (pa_cons (pe_un un_neg (pe_op op_fdivN (pe_ix ix_list (pe_ix ix_list (pe_fld (pv 0) rfl) (pv 3) (fun _ _ => rfl)) (pv 1) (fun _ _ => rfl)) (pv 2))) (pa_cons (pv 1) pa_nil)))))))
      (pss_cons (ps_for PassesOwn.never rfl (pi_range2 rfl B.range (pa_cons (pe_op op_add (pv 1) pe_int) (pa_cons (pe_fld (pv 0) rfl) pa_nil))) (pg_name (i := 4) scCl.nd rfl (Or.inl rfl))
        (pss_one (ps_expr (pe_meth (pv 0) T.cl m2.m G2 hr m2.b .nil pass0 (pa_cons (pv 4) (pa_cons (pe_un un_neg (pe_op op_fdivN (pe_ix ix_list (pe_ix ix_list (pe_fld (pv 0) rfl) (pv 1) (fun _ _ => rfl)) (pv 4) (fun _ _ => rfl)) (pv 2))) (pa_cons (pv 1) pa_nil)))))))
      (pss_cons (ps_setLc (i := 5) (own := [("row", 3)]) (g := gName 3) (te := tVar 3) (tt := tTest (tOp rNe (tOp (rIxL K) (tOp (rIxL K) (tFld K (tVar 0) "rows") (tVar 3)) (tVar 1)) (tC (.int 0)))) rfl scCl.nd rfl rfl (sw_true rfl rfl rfl (by decide +kernel))
          (pi_range2 rfl B.range (pa_cons (pe_op op_add (pv 1) pe_int) (pa_cons (pe_fld (pv 0) rfl) pa_nil))) (blkOk_by (own := [("row", 3)]) (N := nmCl) (sc := defScope (sSq 6)) (by decide +kernel))
          (fun _ _ _ _ _ => pg_name (i := 3) scCl.nd rfl (Or.inl rfl)) (fun _ _ _ _ _ => pts_one (pt_cmpR op_ne (pe_ix ix_list (pe_ix ix_list (pe_fld (pv 0) rfl) (pv 3) (fun _ _ => rfl)) (pv 1) (fun _ _ => rfl)) pe_int (nomark _))) (fun _ _ _ _ _ => pv 3))
      (pss_one (ps_ret (pe_and (pe_cmpR (op_eqD hr.units) (pv 5) (pe_lst pa_nil) (nomark _)) (pe_one (pe_not (pe_callB (cr_anyI rfl) (by rfl) B.any (by decide +kernel) (pa_cons
          (pe_slice sl_list (pe_ix ix_list (pe_fld (pv 0) rfl) (pv 1) (fun _ _ => rfl)) (po_some (pe_op op_add (pv 1) pe_int)) po_none) pa_nil)))))))))), ?_⟩
    have hn : (a : Int) + 1 = ((a + 1 : Nat) : Int) := by omega
    obtain ⟨hd, ad, W0⟩ := W
    have h2 := W0.h2
    have w2 := W0.w2
    have ha0 : a < dn hh ww 0 := hah
    have hm0 : a < dm hh ww 0 := haw
    refine ⟨_, rfl, W0.gR T ⟨_, rfl, W0.iRow (by decide) ha0 ⟨_, rfl, W0.iItem (by decide) ha0 hm0 ?_⟩⟩⟩
    rw [hcor]
    refine ⟨_, rfl, _, _, rfl, rfl, _, rfl, W0.gH T ⟨_, _, rfl, ⟨by omega, by omega, by omega, by omega⟩, ?_⟩⟩
    have e1 : ((hh : Int) - ((a : Int) + 1)).toNat = hh - (a + 1) := by omega
    rw [e1]
    refine for_range (lo := (a : Int) + 1) (n := hh - (a + 1))
      (fun i σ H' => ∃ v : Option V, σ = [some (.ref p), some (.int (a : Nat)), some (.int u), v, none, none] ∧ Wk C H0 H' p hh ww (rowF a u i F))
      ⟨none, rfl, hd, ad, W0.congr fun k i j _ _ _ => by unfold rowF; rw [if_neg (by omega)]⟩ ?_ ?_
    · rintro i σ H' hi ⟨v, rfl, hd', ad', W1⟩
      have er : (a : Int) + 1 + (i : Nat) = ((a + 1 + i : Nat) : Int) := by omega
      rw [er]
      have hri : a + 1 + i < dn hh ww 0 := by show a + 1 + i < hh; omega
      obtain ⟨dx, hp⟩ := W1.obj
      have nd : ∀ k j, rowF a u i F k (a + 1 + i) j = F k (a + 1 + i) j := fun k j => by unfold rowF; rw [if_neg (by omega)]
      have na : ∀ k j, rowF a u i F k a j = F k a j := fun k j => by unfold rowF; rw [if_neg (by omega)]
      have s1 := fdiv_unit (x := F 0 (a + 1 + i) a) hu
      have b1 := hB 0 (a + 1 + i) a (by decide) hri hm0
      refine ⟨_, rfl, p, dx, _, rfl, hp, sqf_none (by decide +kernel) (by decide +kernel) (by decide +kernel) (by decide +kernel) (by decide +kernel), _, rfl, _, rfl, W1.gR T ⟨_, rfl, W1.iRow (by decide) hri ⟨_, rfl, W1.iItem (by decide) hri hm0 ⟨_, rfl, _, _, rfl, rfl, ?_, _, rfl, _, rfl, ?_⟩⟩⟩⟩
      · exact ⟨by rcases hu with z | z <;> rw [z] <;> decide, by rcases hu with z | z <;> rw [z] <;> decide⟩
      · rw [nd, s1]
        refine ⟨H0, p, hh, ww, _, a + 1 + i, a, -(F 0 (a + 1 + i) a * u), rfl, ⟨_, _, W1⟩, hri, hah, by omega, ?_, fun H2 W2 => ?_⟩
        · intro k j hk hj
          rw [na]
          refine (big_mul (a := e) (b := e) ?_ (hB k a j (by omega) (by unfold dn; split <;> omega) hj) he0 he0 he2)
          rw [Int.natAbs_neg, mul_unit_abs hu]; exact b1
        · refine ⟨_, rfl, W2.congr fun k r j hk hr hj => ?_⟩
          by_cases c : k ≠ 2 ∧ r = a + 1 + i
          · rw [if_pos c, nd, na]
            unfold rowF
            rw [if_pos ⟨c.1, by omega, by omega⟩, c.2]
          · rw [if_neg c]
            unfold rowF
            by_cases c2 : k ≠ 2 ∧ a < r ∧ r < a + 1 + i
            · rw [if_pos c2, if_pos ⟨c2.1, c2.2.1, by omega⟩]
            · rw [if_neg c2, if_neg]
              rintro ⟨y1, y2, y3⟩
              by_cases y4 : r = a + 1 + i
              · exact c ⟨y1, y4⟩
              · exact c2 ⟨y1, y2, by omega⟩
    rintro σ H1 ⟨v, rfl, hd1, ad1, W1⟩
    obtain ⟨G, hG⟩ : ∃ G, G = rowF a u (hh - (a + 1)) F := ⟨_, rfl⟩
    rw [← hG] at W1 k
    have G0a : ∀ k j, G k a j = F k a j := fun k j => by rw [hG]; unfold rowF; rw [if_neg (by omega)]
    have G2 : ∀ i j, G 2 i j = F 2 i j := fun i j => by rw [hG]; unfold rowF; rw [if_neg (by omega)]
    have uu : u * u = 1 := by rcases hu with z | z <;> rw [z] <;> decide
    have Gz : ∀ i, i ≠ a → i < hh → G 0 i a = 0 := fun i hi hih => by
      rw [hG]; unfold rowF
      by_cases c : a < i
      · rw [if_pos ⟨by decide, c, by omega⟩, hcor, Int.neg_mul, Int.mul_assoc, uu, Int.mul_one]; omega
      · rw [if_neg (by omega)]; exact hab i (by omega)
    have GB : ∀ k i, k < 3 → k ≠ 1 → i < dn hh ww k → (G k i a).natAbs < 2 ^ e := fun k i hk hk1 hi => by
      have hm : dm hh ww k = ww := by unfold dm; rw [if_neg hk1]
      by_cases c : k = 2
      · subst c; rw [G2]; exact hB 2 i a hk hi (by rw [hm]; exact haw)
      · have : k = 0 := by omega
        subst this
        by_cases c2 : i = a
        · subst c2; rw [G0a]; exact hB 0 i i hk hi (by rw [hm]; exact haw)
        · rw [Gz i c2 hi]; exact Nat.pos_of_ne_zero (by simp)
    refine ⟨_, rfl, _, _, rfl, rfl, _, rfl, W1.gW T ⟨_, _, rfl, ⟨by omega, by omega, by omega, by omega⟩, ?_⟩⟩
    have e2 : ((ww : Int) - ((a : Int) + 1)).toNat = ww - (a + 1) := by omega
    rw [e2]
    refine for_range (lo := (a : Int) + 1) (n := ww - (a + 1))
      (fun i σ H' => ∃ v4 : Option V, σ = [some (.ref p), some (.int (a : Nat)), some (.int u), v, v4, none] ∧ Wk C H0 H' p hh ww (colF a u i G))
      ⟨none, rfl, hd1, ad1, W1.congr fun k i j _ _ _ => by unfold colF; rw [if_neg (by omega)]⟩ ?_ ?_
    · rintro i σ H' hi ⟨v4, rfl, hd', ad', W2⟩
      have er : (a : Int) + 1 + (i : Nat) = ((a + 1 + i : Nat) : Int) := by omega
      rw [er]
      have hci : a + 1 + i < dm hh ww 0 := by show a + 1 + i < ww; omega
      obtain ⟨dx, hp⟩ := W2.obj
      have nd : ∀ k r, colF a u i G k r (a + 1 + i) = G k r (a + 1 + i) := fun k j => by unfold colF; rw [if_neg (by omega)]
      have na : ∀ k r, colF a u i G k r a = G k r a := fun k j => by unfold colF; rw [if_neg (by omega)]
      have s1 := fdiv_unit (x := G 0 a (a + 1 + i)) hu
      have b1 := hB 0 a (a + 1 + i) (by decide) ha0 hci
      refine ⟨_, rfl, p, dx, _, rfl, hp, sqf_none (by decide +kernel) (by decide +kernel) (by decide +kernel) (by decide +kernel) (by decide +kernel), _, rfl, _, rfl, W2.gR T ⟨_, rfl, W2.iRow (by decide) ha0 ⟨_, rfl, W2.iItem (by decide) ha0 hci ⟨_, rfl, _, _, rfl, rfl, ?_, _, rfl, _, rfl, ?_⟩⟩⟩⟩
      · exact ⟨by rcases hu with z | z <;> rw [z] <;> decide, by rcases hu with z | z <;> rw [z] <;> decide⟩
      · rw [nd, s1]
        refine ⟨H0, p, hh, ww, _, a + 1 + i, a, -(G 0 a (a + 1 + i) * u), rfl, ⟨_, _, W2⟩, hci, haw, ?_, fun H2 W3 => ?_⟩
        · intro k r hk hk1 hr
          rw [na]
          refine (big_mul (a := e) (b := e) ?_ (GB k r hk hk1 hr) he0 he0 he2)
          rw [Int.natAbs_neg, mul_unit_abs hu, G0a]; exact b1
        · refine ⟨_, rfl, W3.congr fun k r j hk hr hj => ?_⟩
          by_cases c : k ≠ 1 ∧ j = a + 1 + i
          · rw [if_pos c, nd, na]
            unfold colF
            rw [if_pos ⟨c.1, by omega, by omega⟩, c.2]
          · rw [if_neg c]
            unfold colF
            by_cases c2 : k ≠ 1 ∧ a < j ∧ j < a + 1 + i
            · rw [if_pos c2, if_pos ⟨c2.1, c2.2.1, by omega⟩]
            · rw [if_neg c2, if_neg]
              rintro ⟨y1, y2, y3⟩
              by_cases y4 : j = a + 1 + i
              · exact c ⟨y1, y4⟩
              · exact c2 ⟨y1, y2, by omega⟩
    rintro σ H2 ⟨v4, rfl, W2⟩
    have hfin := k
    obtain ⟨Z, hZ⟩ : ∃ Z, Z = colF a u (ww - (a + 1)) G := ⟨_, rfl⟩
    rw [← hZ] at W2 hfin
    have Zc : ∀ i, a < i → i < hh → Z 0 i a = 0 := fun i hi hih => by
      rw [hZ]; unfold colF; rw [if_neg (by omega)]; exact Gz i (by omega) hih
    have Zr : ∀ j, a < j → j < ww → Z 0 a j = 0 := fun j hj hjw => by
      rw [hZ]; unfold colF
      rw [if_pos ⟨by decide, hj, by omega⟩, G0a, G0a, hcor, Int.neg_mul, Int.mul_assoc, uu, Int.mul_one]; omega
    obtain ⟨hd2, ad2, W2⟩ := W2
    refine ⟨_, rfl, _, _, rfl, rfl, _, rfl, W2.gH T ⟨_, _, rfl, ⟨by omega, by omega, by omega, by omega⟩, fun D hD => ?_⟩⟩
    rw [e1]
    refine lc_it (walk_range (lo := (a : Int) + 1) (n := hh - (a + 1))) (fun _ H' => Same H2 H' ∧ H' D = some (.lst [])) ⟨same_upd hD, upd_same⟩ (fun _ _ _ _ => True.intro) ?_ ?_
    · rintro i x H3 H4 hi ⟨s3, hD3⟩ ⟨rfl, rfl⟩
      have W3 := W2.mono s3
      have er : (a : Int) + 1 + (i : Nat) = ((a + 1 + i : Nat) : Int) := by omega
      have hri : a + 1 + i < dn hh ww 0 := by show a + 1 + i < hh; omega
      show gName 3 (V.int ((a : Int) + 1 + (i : Nat))) [some (.ref p), some (.int (a : Nat)), some (.int u), none, v4, none] H4 _
      rw [er]
      refine ⟨rfl, _, rfl, W3.gR T ⟨_, rfl, W3.iRow (by decide) hri ⟨_, rfl, W3.iItem (by decide) hri hm0 ⟨rfl, _, rfl, ?_⟩⟩⟩⟩
      rw [Zc (a + 1 + i) (by omega) (by omega)]
      exact iteF ⟨s3, hD3⟩
    · rintro H3 ⟨s3, hD3⟩
      have W3 := W2.mono s3
      refine ⟨_, rfl, by show 0 ≤ sizeLine; decide, fun e4 he4 => ?_⟩
      have s4 : Same H3 (upd H3 e4 (.lst [])) := same_upd he4
      have he5 : upd H3 e4 (.lst []) e4 = some (.lst []) := upd_same
      have W4 := W3.mono s4
      have hD4 := s4 _ _ hD3
      generalize upd H3 e4 (.lst []) = H4 at s4 he5 W4 hD4
      refine ⟨.list [], .list [], .lst (SqL.of hD4) .nil, .lst (SqL.of he5) .nil, shapedLT [], shapedLT [], ?_⟩
      rw [eqv_nilL]
      refine ⟨true, rfl, iteT ?_⟩
      refine ⟨_, rfl, W4.gR T ⟨_, rfl, W4.iRow (by decide) ha0 ⟨_, rfl, _, _, rfl, rfl, _, rfl, ad2 0 a, _, rfl, SqL.of (W4.row 0 a (by decide) ha0), fun q hq => ?_⟩⟩⟩
      rw [hn, cut_from, rV_map, ← List.map_drop]
      refine ⟨q, _, rfl, SqL.of upd_same, ?_⟩
      have hz : (((List.range (dm hh ww 0)).map (Z 0 a)).drop (a + 1)).any (fun n => n != 0) = false := by
        rw [List.any_eq_false]
        intro x hx
        obtain ⟨n, hn1, hn2⟩ := List.getElem_of_mem hx
        rw [List.getElem_drop, List.getElem_map, List.getElem_range] at hn2
        rw [List.length_drop, List.length_map, List.length_range] at hn1
        have : dm hh ww 0 = ww := rfl
        rw [← hn2, Zr _ (by omega) (by omega)]; decide
      rw [hz]
      exact ⟨false, rfl, hfin _ ⟨_, _, W4.mono (same_upd hq)⟩⟩
end
end K63W


namespace K63W
open PySem L2 RZ StX PySem.W
open K63 (sw sw_sw sw_lt nx FU Runs)

section
variable {P : Program} {w : World} {K : PySem.W.Frag} {mg : Str → Option Value} {base : Heap}
theorem scOd : FnScope ["self", "at", "row", "one"] ["self", "at"] (defScope (sSq 7)) := ⟨rfl, rfl, rfl, by decide +kernel, rfl, by decide +kernel, by decide +kernel⟩
def spOddRow (C : Addr) : Sp := fun vs H Q _ => ∃ (H0 : Hp) (p : Addr) (h w : Nat) (F : Nat → Nat → Nat → Int) (a : Nat), vs = [.ref p, .int (a : Nat)] ∧ Wk C H0 H p h w F ∧ a < h ∧ a < w ∧ (F 0 a a = 1 ∨ F 0 a a = -1) ∧
  ∀ H', Same H H' → Q .non H'
theorem ok_oddRow {f C : Addr} {fd : FuncData} (F : Fun K "odd_row" "Square.odd_row" (sSq 7) f fd) (B : Bl mg) (T : STxt K mg C) :
    FnOk P w K mg base CX0 1 f fd ["self", "at"] (spOddRow C) := by
  refine F.ok scOd (fun vs H Q E h => ?_) (fun cdv A outer s H vs Q E hr h => ?_)
  · obtain ⟨_, _, _, _, _, _, rfl, _⟩ := h
    rfl
  · obtain ⟨H0, p, hh, ww, F, a, rfl, ⟨hd, ad, W0⟩, hah, haw, hu, k⟩ := h
    refine ⟨_, pss_cons (ps_for PassesOwn.never rfl (pi_range2 rfl B.range (pa_cons (pe_op op_add (pv 1) pe_int) (pa_cons (pe_fld (pv 0) rfl) pa_nil))) (pg_name (i := 2) scOd.nd rfl (Or.inl rfl))
        (pss_one (ps_if (pt_val (pe_callB (cr_anyI rfl) (by rfl) B.any (by decide +kernel) (pa_cons
            (pe_lc (own := [("one", 3)]) (g := gName 3) (te := tOp (rI (fun _ j => j ≠ 0) fun i j => .int (i.fmod j)) (tVar 3) (tOp (rIxL K) (tOp (rIxL K) (tFld K (tVar 0) "rows") (tVar 1)) (tVar 1))) (by rfl) scOd.nd
              (pi_list (pe_slice sl_list (pe_ix ix_list (pe_fld (pv 0) rfl) (pv 2) (fun _ _ => rfl)) (po_some (pe_op op_add (pv 1) pe_int)) po_none)) (blkOk_by (own := [("one", 3)]) (N := ["self", "at", "row", "one"]) (sc := defScope (sSq 7)) (by decide +kernel))
              (fun _ _ _ _ _ => pg_name (i := 3) scOd.nd rfl (Or.inl rfl)) (fun _ _ _ _ _ => pts_nil)
              (fun _ _ _ _ _ => pe_op op_modN (pv 3) (pe_ix ix_list (pe_ix ix_list (pe_fld (pv 0) rfl) (pv 1) (fun _ _ => rfl)) (pv 1) (fun _ _ => rfl)))) pa_nil)))
          (pss_one (ps_ret (pv 2))) pss_nil)))
      (pss_one (ps_ret pe_non)), ?_⟩
    have h2 := W0.h2
    have w2 := W0.w2
    have hn : (a : Int) + 1 = ((a + 1 : Nat) : Int) := by omega
    have ha0 : a < dn hh ww 0 := hah
    have hm0 : a < dm hh ww 0 := haw
    refine ⟨_, rfl, _, _, rfl, rfl, _, rfl, W0.gH T ⟨_, _, rfl, ⟨by omega, by omega, by omega, by omega⟩, ?_⟩⟩
    have e1 : ((hh : Int) - ((a : Int) + 1)).toNat = hh - (a + 1) := by omega
    rw [e1]
    refine for_range (lo := (a : Int) + 1) (n := hh - (a + 1))
      (fun i σ H' => ∃ v : Option V, σ = [some (.ref p), some (.int (a : Nat)), v, none] ∧ Same H H') ⟨none, rfl, Same.rfl'⟩ ?_ ?_
    · rintro i σ H' hi ⟨v, rfl, s1⟩
      have er : (a : Int) + 1 + (i : Nat) = ((a + 1 + i : Nat) : Int) := by omega
      rw [er]
      have hri : a + 1 + i < dn hh ww 0 := by show a + 1 + i < hh; omega
      have W1 := W0.mono s1
      refine ⟨_, rfl, W1.gR T ⟨_, rfl, W1.iRow (by decide) hri ⟨_, rfl, _, _, rfl, rfl, _, rfl, ad 0 (a + 1 + i), _, rfl, SqL.of (W1.row 0 _ (by decide) hri), fun q hq => ?_⟩⟩⟩
      rw [hn, cut_from]
      have s2 := same_upd (o := .lst ((rV (dm hh ww 0) (F 0 (a + 1 + i))).drop (a + 1))) hq
      have hq2 : upd H' q (.lst ((rV (dm hh ww 0) (F 0 (a + 1 + i))).drop (a + 1))) q = some (.lst ((rV (dm hh ww 0) (F 0 (a + 1 + i))).drop (a + 1))) := upd_same
      generalize upd H' q (.lst ((rV (dm hh ww 0) (F 0 (a + 1 + i))).drop (a + 1))) = H2 at s2 hq2
      have W2 := W1.mono s2
      have hlen : ((rV (dm hh ww 0) (F 0 (a + 1 + i))).drop (a + 1)).length ≤ 200 := by
        rw [List.length_drop, rV_len]
        have : dm hh ww 0 = ww := rfl
        omega
      refine ⟨q, rfl, ⟨_, SqL.of hq2⟩, fun D hD => ?_⟩
      refine lc_it (walk_list (K := K) (a := q) (xs := (rV (dm hh ww 0) (F 0 (a + 1 + i))).drop (a + 1))) (Cmp H2 D fun j => (List.replicate j (0 : Int)).map V.int) (Cmp.start hD rfl) (fun j H3 _ c => SqL.of (c.same _ _ hq2)) ?_ ?_
      · rintro j x H3 H4 hj c ⟨rfl, hx⟩
        have W3 := W2.mono c.same
        have hjl := hj
        rw [List.getElem?_drop] at hx
        rw [List.length_drop, rV_len] at hj
        rw [rV_get _ (by omega)] at hx
        cases hx
        refine ⟨rfl, ?_⟩
        unfold tYes
        refine iteT ?_
        refine ⟨_, rfl, _, rfl, W3.gR T ⟨_, rfl, W3.iRow (by decide) ha0 ⟨_, rfl, W3.iItem (by decide) ha0 hm0 ⟨_, _, rfl, rfl, ?_, ?_⟩⟩⟩⟩
        · rcases hu with z | z <;> rw [z] <;> decide
        · rw [show (fun i j : Int => V.int (i.fmod j)) (F 0 (a + 1 + i) (a + 1 + j)) (F 0 a a) = V.int 0 from congrArg V.int (fmod_unit hu)]
          exact c.put hD Same.rfl' (by rw [List.replicate_succ', List.map_append]; rfl) (by rw [List.length_map, List.length_replicate]; omega)
      · intro H3 c
        refine ⟨D, _, rfl, SqL.of c.lst, ?_⟩
        have hz : (List.replicate ((rV (dm hh ww 0) (F 0 (a + 1 + i))).drop (a + 1)).length (0 : Int)).any (fun n => n != 0) = false := by
          rw [List.any_eq_false]; intro x hx; rw [(List.mem_replicate.1 hx).2]; decide
        rw [hz]
        exact ⟨_, rfl, iteF ⟨_, rfl, s1.trans (s2.trans c.same)⟩⟩
    · rintro σ H' ⟨v, rfl, s1⟩
      exact k _ s1

/-- the state at corner a: settled rows and columns, the rest as M, all entries small -/
structure Rd (h w a e : Nat) (M : Nat → Nat → Int) (F : Nat → Nat → Nat → Int) : Prop where
  fix : ∀ i j, i < h → j < w → i < a ∨ j < a → F 0 i j = if i = j then 1 else 0
  rest : ∀ i j, i < h → j < w → a ≤ i → a ≤ j → F 0 i j = M i j
  bd : Bd h w e F

/-- what one round makes of all three tables -/
def clF (a : Nat) (u : Int) (F : Nat → Nat → Nat → Int) (h w : Nat) : Nat → Nat → Nat → Int := colF a u (w - (a + 1)) (rowF a u (h - (a + 1)) F)
def swF (a r c : Nat) (F : Nat → Nat → Nat → Int) (k i j : Nat) : Int := if k = 1 then F k (sw a r i) j else if k = 0 then F k (sw a r i) (sw a c j) else F k i (sw a c j)
def ngF (a : Nat) (u : Int) (F : Nat → Nat → Nat → Int) (k i j : Nat) : Int := if k ≠ 2 ∧ i = a then u * F k i j else F k i j

theorem abs_step {x y z : Int} {e : Nat} (hx : x.natAbs < 2 ^ e) (hy : y.natAbs < 2 ^ e) (hz : z.natAbs < 2 ^ e) : (x + -y * z).natAbs < 2 ^ (2 * e + 1) := by
  have h1 : (x + -y * z).natAbs ≤ x.natAbs + y.natAbs * z.natAbs := by
    have := Int.natAbs_add_le x (-y * z)
    rw [Int.natAbs_mul, Int.natAbs_neg] at this
    exact this
  have h2 : y.natAbs * z.natAbs < 2 ^ e * 2 ^ e := Nat.mul_lt_mul'' hy hz
  have h3 : (2 : Nat) ^ (2 * e + 1) = 2 ^ e * 2 ^ e + 2 ^ e * 2 ^ e := by
    rw [Nat.pow_succ, Nat.two_mul, Nat.pow_add]; omega
  have h4 : (2 : Nat) ^ e ≤ 2 ^ e * 2 ^ e := Nat.le_mul_of_pos_left _ (Nat.two_pow_pos e)
  omega
theorem pow_mono2 {e : Nat} : (2 : Nat) ^ e ≤ 2 ^ (2 * e + 1) := Nat.pow_le_pow_right (by decide) (by omega)

theorem swF_bd {h w a e r c : Nat} {F : Nat → Nat → Nat → Int} (hB : Bd h w e F) (ha : a < h) (hr : r < h) (ha' : a < w) (hc : c < w) : Bd h w e (swF a r c F) := by
  intro k i j hk hi hj
  unfold swF
  have cs : k = 0 ∨ k = 1 ∨ k = 2 := by omega
  rcases cs with rfl | rfl | rfl
  · exact hB 0 _ _ (by decide) (sw_lt ha hr hi) (sw_lt ha' hc hj)
  · exact hB 1 _ _ (by decide) (sw_lt ha hr hi) hj
  · exact hB 2 _ _ (by decide) hi (sw_lt ha' hc hj)
theorem clF_bd {h w a e : Nat} {u : Int} {F : Nat → Nat → Nat → Int} (hu : u = 1 ∨ u = -1) (hB : Bd h w e F) (ha : a < h) (ha' : a < w) (hc : F 0 a a = u) (h0 : ∀ i, i < a → F 0 i a = 0) : Bd h w (2 * e + 1) (clF a u F h w) := by
  have ga : ∀ k j, rowF a u (h - (a + 1)) F k a j = F k a j := fun k j => by unfold rowF; rw [if_neg (by omega)]
  have g2 : ∀ i j, rowF a u (h - (a + 1)) F 2 i j = F 2 i j := fun i j => by unfold rowF; rw [if_neg (by omega)]
  have m1 : ∀ {x : Int}, x.natAbs < 2 ^ e → x.natAbs < 2 ^ (2 * e + 1) := fun q => Nat.lt_of_lt_of_le q pow_mono2
  have uu : u * u = 1 := by rcases hu with z | z <;> rw [z] <;> decide
  have mu : ∀ x : Int, (x * u).natAbs = x.natAbs := fun x => mul_unit_abs hu
  have hG : Bd h w (2 * e + 1) (rowF a u (h - (a + 1)) F) := by
    intro k i j hk hi hj
    unfold rowF
    by_cases c : k ≠ 2 ∧ a < i ∧ i < a + 1 + (h - (a + 1))
    · rw [if_pos c]
      refine abs_step (hB k i j hk hi hj) (by rw [mu]; exact hB 0 i a (by decide) (show i < h by omega) ha') (hB k a j hk (by unfold dn; rw [if_neg c.1]; exact ha) hj)
    · rw [if_neg c]; exact m1 (hB k i j hk hi hj)
  intro k i j hk hi hj
  show (colF a u (w - (a + 1)) (rowF a u (h - (a + 1)) F) k i j).natAbs < _
  unfold colF
  by_cases c : k ≠ 1 ∧ a < j ∧ j < a + 1 + (w - (a + 1))
  · rw [if_pos c]
    by_cases c2 : k = 2
    · subst c2
      rw [g2, g2, ga]
      exact abs_step (hB 2 i j hk hi hj) (by rw [mu]; exact hB 0 a j (by decide) ha (show j < w by omega)) (hB 2 i a hk hi ha')
    · have : k = 0 := by omega
      subst this
      by_cases c3 : i = a
      · subst c3
        rw [ga, ga, hc, Int.neg_mul, Int.mul_assoc, uu, Int.mul_one]
        have : F 0 i j + -F 0 i j = 0 := by omega
        rw [this]; exact Nat.two_pow_pos _
      · have z : rowF a u (h - (a + 1)) F 0 i a = 0 := by
          unfold rowF
          have hi' : i < h := hi
          by_cases c4 : a < i
          · rw [if_pos ⟨by decide, c4, by omega⟩, hc, Int.neg_mul, Int.mul_assoc, uu, Int.mul_one]; omega
          · rw [if_neg (by omega)]; exact h0 i (by omega)
        rw [z, Int.mul_zero, Int.add_zero]
        exact hG 0 i j hk hi hj
  · rw [if_neg c]; exact hG k i j hk hi hj
theorem ngF_bd {h w a e : Nat} {u : Int} {F : Nat → Nat → Nat → Int} (hu : u = 1 ∨ u = -1) (hB : Bd h w e F) : Bd h w e (ngF a u F) := by
  intro k i j hk hi hj
  unfold ngF
  by_cases c : k ≠ 2 ∧ i = a
  · rw [if_pos c, Int.mul_comm, mul_unit_abs hu]; exact hB k i j hk hi hj
  · rw [if_neg c]; exact hB k i j hk hi hj

/-- a round leads from corner a to corner a + 1 -/
theorem Rd.next {h w a e r c : Nat} {M : Nat → Nat → Int} {F : Nat → Nat → Nat → Int} (R : Rd h w a e M F) (fu : FU h w a M r c) :
    Rd h w (a + 1) (2 * e + 1) (nx a r c M) (ngF a (M r c) (clF a (M r c) (swF a r c F) h w)) := by
  have hap := fu.ap; have hph := fu.ph; have haq := fu.aq; have hqw := fu.qw
  have hu := fu.unit
  have ha : a < h := by omega
  have ha' : a < w := by omega
  have hcor : swF a r c F 0 a a = M r c := by
    show F 0 (sw a r a) (sw a c a) = _
    have e1 : sw a r a = r := by unfold sw; rw [if_pos rfl]
    have e2 : sw a c a = c := by unfold sw; rw [if_pos rfl]
    rw [e1, e2]; exact R.rest r c hph hqw hap haq
  have swlow : ∀ {x y i : Nat}, x ≤ y → i < x → sw x y i = i := fun h1 h2 => by unfold sw; rw [if_neg (by omega), if_neg (by omega)]
  have swhi : ∀ {x y i : Nat}, x ≤ y → x ≤ i → x ≤ sw x y i := fun {x y i} h1 h2 => by
    unfold sw; split
    · exact h1
    · split <;> omega
  have S0 : ∀ i j, i < h → j < w → i < a ∨ j < a → swF a r c F 0 i j = if i = j then 1 else 0 := by
    intro i j hi hj hl
    show F 0 (sw a r i) (sw a c j) = _
    have h1 := sw_lt ha hph hi
    have h2 := sw_lt ha' hqw hj
    rcases Nat.lt_or_ge i a with ci | ci
    · rw [swlow hap ci]
      rw [R.fix _ _ hi h2 (.inl ci)]
      by_cases cj : j < a
      · rw [swlow haq cj]
      · have := swhi haq (Nat.le_of_not_lt cj)
        rw [if_neg (by omega), if_neg (by omega)]
    · have cj : j < a := by omega
      rw [swlow haq cj]
      have := swhi hap ci
      rw [R.fix _ _ h1 hj (.inr cj), if_neg (by omega), if_neg (by omega)]
  have S1 : ∀ i j, i < h → j < w → a ≤ i → a ≤ j → swF a r c F 0 i j = M (sw a r i) (sw a c j) := by
    intro i j hi hj h1 h2
    exact R.rest _ _ (sw_lt ha hph hi) (sw_lt ha' hqw hj) (swhi hap h1) (swhi haq h2)
  have hB := swF_bd R.bd ha hph ha' hqw
  have hz : ∀ i, i < a → swF a r c F 0 i a = 0 := fun i hi => by rw [S0 i a (by omega) ha' (.inl hi), if_neg (by omega)]
  obtain ⟨u, hu'⟩ : ∃ u, u = M r c := ⟨_, rfl⟩
  rw [← hu'] at hu hcor ⊢
  have uu : u * u = 1 := by rcases hu with z | z <;> rw [z] <;> decide
  obtain ⟨S, hS⟩ : ∃ S, S = swF a r c F := ⟨_, rfl⟩
  rw [← hS] at S0 S1 hB hz hcor ⊢
  have hB2 := clF_bd hu hB ha ha' hcor hz
  -- the rows table behind the round
  have row : ∀ i j, rowF a u (h - (a + 1)) S 0 i j = if a < i ∧ i < h then S 0 i j + -(S 0 i a * u) * S 0 a j else S 0 i j := by
    intro i j; unfold rowF
    by_cases c1 : a < i ∧ i < h
    · rw [if_pos ⟨by decide, c1.1, by omega⟩, if_pos c1]
    · rw [if_neg (by omega), if_neg c1]
  have cl0 : ∀ i j, i < h → j < w → clF a u S h w 0 i j = if i = a ∧ a < j then 0 else rowF a u (h - (a + 1)) S 0 i j := by
    intro i j hi hj
    show colF a u (w - (a + 1)) (rowF a u (h - (a + 1)) S) 0 i j = _
    unfold colF
    by_cases c1 : a < j
    · rw [if_pos ⟨by decide, c1, by omega⟩]
      have ga : rowF a u (h - (a + 1)) S 0 a j = S 0 a j := by rw [row, if_neg (by omega)]
      have gaa : rowF a u (h - (a + 1)) S 0 a a = u := by rw [row, if_neg (by omega), hcor]
      by_cases c2 : i = a
      · subst c2
        rw [if_pos ⟨rfl, c1⟩, gaa, ga, Int.neg_mul, Int.mul_assoc, uu, Int.mul_one]; omega
      · rw [if_neg (fun z => c2 z.1)]
        have z : rowF a u (h - (a + 1)) S 0 i a = 0 := by
          rw [row]
          by_cases c3 : a < i
          · rw [if_pos ⟨c3, hi⟩, hcor, Int.neg_mul, Int.mul_assoc, uu, Int.mul_one]; omega
          · rw [if_neg (by omega)]; exact hz i (by omega)
        rw [z, Int.mul_zero, Int.add_zero]
    · rw [if_neg (by omega), if_neg (by omega)]
  refine ⟨fun i j hi hj hl => ?_, fun i j hi hj h1 h2 => ?_, ngF_bd hu hB2⟩
  · unfold ngF
    by_cases ci : i = a
    · subst ci
      rw [if_pos ⟨by decide, rfl⟩, cl0 i j hi hj]
      by_cases cj : i < j
      · rw [if_pos ⟨rfl, cj⟩, if_neg (by omega), Int.mul_zero]
      · rw [if_neg (by omega), row, if_neg (by omega)]
        by_cases cj2 : j = i
        · rw [cj2, hcor, uu, if_pos rfl]
        · rw [S0 i j hi hj (.inr (by omega)), if_neg (by omega), Int.mul_zero]
    · rw [if_neg (fun z => ci z.2), cl0 i j hi hj, if_neg (fun z => ci z.1), row]
      by_cases c3 : a < i
      · rw [if_pos ⟨c3, hi⟩]
        have cj : j ≤ a := by omega
        rw [if_neg (by omega)]
        by_cases cj2 : j = a
        · rw [cj2, hcor, Int.neg_mul, Int.mul_assoc, uu, Int.mul_one]; omega
        · rw [S0 i j hi hj (.inr (by omega)), S0 a j ha hj (.inr (by omega)), if_neg (by omega), if_neg (by omega), Int.mul_zero]; rfl
      · rw [if_neg (by omega)]
        exact S0 i j hi hj (.inl (by omega))
  · have h1' : a < i := h1
    have h2' : a < j := h2
    unfold ngF
    rw [if_neg (by omega), cl0 i j hi hj, if_neg (by omega), row, if_pos ⟨h1', hi⟩, S1 i j hi hj (by omega) (by omega), S1 i a hi ha' (by omega) (by omega), S1 a j ha hj (by omega) (by omega)]
    unfold nx
    have e1 : sw a r a = r := by unfold sw; rw [if_pos rfl]
    have e2 : sw a c a = c := by unfold sw; rw [if_pos rfl]
    rw [if_neg (by omega), if_neg (by omega), if_neg (by omega), e1, e2, ← hu', Int.neg_mul]
    rfl
end
end K63W


namespace K63W
open PySem L2 RZ StX PySem.W
open K63 (sw sw_sw sw_lt nx FU Runs)

/-- the heap that is kept may hold one more thing -/
theorem Ws.base {C p t : Addr} {o : HO} {H0 H : Hp} {h w : Nat} {F : Nat → Nat → Nat → Int} {hd : Nat → Addr} {ad : Nat → Nat → Addr} (W : Ws C H0 H p h w F hd ad) (ht : H t = some o) (hl : ∀ ls, o ≠ .lst ls) (hi : ∀ C dx fs, o ≠ .ins C dx fs) : Ws C (upd H0 t o) H p h w F hd ad := by
  obtain ⟨dx, hp⟩ := W.obj
  have n1 : p ≠ t := ne_of hp ht (fun z => hi _ _ _ z.symm)
  have n2 : ∀ k, k < 3 → hd k ≠ t := fun k hk => ne_of (W.top k hk) ht (fun z => hl _ z.symm)
  have n3 : ∀ k i, k < 3 → i < dn h w k → ad k i ≠ t := fun k i hk hik => ne_of (W.row k i hk hik) ht (fun z => hl _ z.symm)
  refine ⟨fun b x e => ?_, by rw [upd_ne n1]; exact W.p0, ⟨dx, hp⟩, W.top, W.row, fun k hk => by rw [upd_ne (n2 k hk)]; exact W.top0 k hk, fun k i hk hik => by rw [upd_ne (n3 k i hk hik)]; exact W.row0 k i hk hik, W.hh, W.ha, W.aa, W.h2, W.w2⟩
  by_cases c : b = t
  · subst c; rw [upd_same] at e; rw [← e]; exact ht
  · rw [upd_ne c] at e; exact W.same _ _ e
theorem Ws.baseSame {C p t : Addr} {o : HO} {H0 H : Hp} {h w : Nat} {F : Nat → Nat → Nat → Int} {hd : Nat → Addr} {ad : Nat → Nat → Addr} (W : Ws C H0 H p h w F hd ad) (ht : H t = some o) : Same H0 (upd H0 t o) := fun b x e => by
  by_cases c : b = t
  · subst c
    have := W.same _ _ e
    rw [ht] at this
    rw [upd_same, this]
  · rw [upd_ne c]; exact e
theorem Wk.unbase {C p : Addr} {H0 H0' H : Hp} {h w : Nat} {F : Nat → Nat → Nat → Int} (W : Wk C H0' H p h w F) (s : Same H0 H0') : Wk C H0 H p h w F := by
  obtain ⟨hd, ad, W⟩ := W
  exact ⟨hd, ad, s.trans W.same, s.free W.p0, W.obj, W.top, W.row, fun k hk => s.free (W.top0 k hk), fun k i hk hi => s.free (W.row0 k i hk hi), W.hh, W.ha, W.aa, W.h2, W.w2⟩

section
variable {P : Program} {w : World} {K : PySem.W.Frag} {mg : Str → Option Value} {base : Heap}
abbrev nmSt : List Str := ["self", "at", "place", "row", "one"]
theorem scSt : FnScope nmSt ["self", "at"] (defScope (sSq 8)) := ⟨rfl, rfl, rfl, by decide +kernel, rfl, by decide +kernel, by decide +kernel⟩
def spSettle (C : Addr) : Sp := fun vs H Q _ => ∃ (H0 : Hp) (p : Addr) (h w : Nat) (F : Nat → Nat → Nat → Int) (a e : Nat) (M : Nat → Nat → Int), vs = [.ref p, .int (a : Nat)] ∧ Wk C H0 H p h w F ∧ a < h ∧ a < w ∧ Rd h w a e M F ∧ 0 < e ∧ e + e ≤ 134217728 ∧
  (((∀ i, a ≤ i → i < h → ∀ j, a ≤ j → j < w → M i j = 0) ∧ ∀ H', Same H H' → Q (.bl false) H') ∨
    ∃ r c, FU h w a M r c ∧ ∀ H' F', Wk C H0 H' p h w F' → Rd h w (a + 1) (2 * e + 1) (nx a r c M) F' → Q (.bl true) H')
theorem FU.congr {h w a r c : Nat} {M M' : Nat → Nat → Int} (fu : FU h w a M r c) (e : ∀ i j, i < h → j < w → a ≤ i → a ≤ j → M' i j = M i j) : FU h w a M' r c := by
  have hap := fu.ap; have hph := fu.ph; have haq := fu.aq; have hqw := fu.qw
  refine ⟨hap, hph, haq, hqw, ?_, fun i h1 h2 j h3 h4 => ?_, fun j h3 h4 => ?_⟩
  · rw [e r c hph hqw hap haq]; exact fu.unit
  · rw [e i j (by omega) h4 h1 h3]; exact fu.row i h1 h2 j h3 h4
  · rw [e r j hph (by omega) hap h3]; exact fu.col j h3 h4
theorem sq_no {R L T : Addr} {h w : Nat} {m : Str} (h1 : (m == ("rows" : Str)) = false) (h2 : (m == ("high" : Str)) = false) (h3 : (m == ("wide" : Str)) = false) (h4 : (m == ("left" : Str)) = false) (h5 : (m == ("right" : Str)) = false) : (sqf R L T h w).lookup m = none :=
  sqf_none (fun z => by rw [z, beq_self_eq_true] at h1; cases h1) (fun z => by rw [z, beq_self_eq_true] at h2; cases h2) (fun z => by rw [z, beq_self_eq_true] at h3; cases h3) (fun z => by rw [z, beq_self_eq_true] at h4; cases h4) (fun z => by rw [z, beq_self_eq_true] at h5; cases h5)

theorem ok_settle {f f1 f2 f3 f4 f5 f6 C : Addr} {fd fd1 fd2 fd3 fd4 fd5 fd6 : FuncData} (F : Fun K "settle" "Square.settle" (sSq 8) f fd) (B : Bl mg) (T : STxt K mg C)
    (G1 : FnOk P w K mg base CX0 1 f1 fd1 ["self", "at"] (spLeast C)) (m1 : Lm K C "least" f1 fd1 ["self", "at"])
    (G2 : FnOk P w K mg base CX0 1 f2 fd2 ["self", "one", "other"] (spSwapRows C)) (m2 : Lm K C "swap_rows" f2 fd2 ["self", "one", "other"])
    (G3 : FnOk P w K mg base CX0 1 f3 fd3 ["self", "one", "other"] (spSwapCols C)) (m3 : Lm K C "swap_columns" f3 fd3 ["self", "one", "other"])
    (G4 : FnOk P w K mg base CX0 2 f4 fd4 ["self", "at"] (spIsClean C)) (m4 : Lm K C "is_clean" f4 fd4 ["self", "at"])
    (G5 : FnOk P w K mg base CX0 1 f5 fd5 ["self", "at"] (spOddRow C)) (m5 : Lm K C "odd_row" f5 fd5 ["self", "at"]) :
    FnOk P w K mg base CX0 3 f fd ["self", "at"] (spSettle C) := by
  refine F.ok scSt (fun vs H Q E h => ?_) (fun cdv A outer s H vs Q E hr h => ?_)
  · obtain ⟨_, _, _, _, _, _, _, _, rfl, _⟩ := h
    rfl
  · obtain ⟨H0, p, hh, ww, F, a, e, M, rfl, Wk0, hah, haw, R, he0, he2, k⟩ := h
    have hr1 := hr.mono (show 1 ≤ 2 by decide)
    refine ⟨_, pss_cons (ps_while PassesOwn.never (pt_val pe_bl) (pss_cons (ps_set (i := 2) scSt.nd rfl (Or.inl rfl) (pe_meth (pv 0) T.cl m1.m G1 hr1 m1.b .nil pass0 (pa_cons (pv 1) pa_nil)))
          (pss_cons (ps_if (pt_cmpR op_isN (pv 2) pe_non (nomark _)) (pss_one (ps_ret pe_bl)) pss_nil)
          (pss_cons (ps_expr (pe_meth (pv 0) T.cl m2.m G2 hr1 m2.b .nil pass0 (pa_cons (pv 1) (pa_cons (pe_ix ix_tup (pv 2) pe_int (fun _ _ => rfl)) pa_nil))))
          (pss_cons (ps_expr (pe_meth (pv 0) T.cl m3.m G3 hr1 m3.b .nil pass0 (pa_cons (pv 1) (pa_cons (pe_ix ix_tup (pv 2) pe_int (fun _ _ => rfl)) pa_nil))))
          (pss_one (ps_if (pt_val (pe_meth (pv 0) T.cl m4.m G4 hr m4.b .nil pass0 (pa_cons (pv 1) pa_nil)))
            (pss_cons (ps_set (i := 3) scSt.nd rfl (Or.inl rfl) (pe_meth (pv 0) T.cl m5.m G5 hr1 m5.b .nil pass0 (pa_cons (pv 1) pa_nil)))
              (pss_cons (ps_if (pt_cmpR op_isN (pv 3) pe_non (nomark _)) (pss_one ps_break) pss_nil) (pss_one ps_never))) pss_nil)))))))
      (pss_cons (ps_if (pt_cmpR op_lt (pe_ix ix_list (pe_ix ix_list (pe_fld (pv 0) rfl) (pv 1) (fun _ _ => rfl)) (pv 1) (fun _ _ => rfl)) pe_int (nomark _))
          (pss_cons (ps_asg (pe_lc (own := [("one", 4)]) (g := gName 4) (te := tUn (rU fun i => .int (-i)) (tVar 4)) (by rfl) scSt.nd (pi_list (pe_ix ix_list (pe_fld (pv 0) rfl) (pv 1) (fun _ _ => rfl))) (blkOk_by (own := [("one", 4)]) (N := nmSt) (sc := defScope (sSq 8)) (by decide +kernel))
              (fun _ _ _ _ _ => pg_name (i := 4) scSt.nd rfl (Or.inl rfl)) (fun _ _ _ _ _ => pts_nil) (fun _ _ _ _ _ => pe_un un_neg (pv 4))) (pg_sub (pe_fld (pv 0) rfl) (pv 1) set_list))
          (pss_one (ps_asg (pe_lc (own := [("one", 4)]) (g := gName 4) (te := tUn (rU fun i => .int (-i)) (tVar 4)) (by rfl) scSt.nd (pi_list (pe_ix ix_list (pe_fld (pv 0) rfl) (pv 1) (fun _ _ => rfl))) (blkOk_by (own := [("one", 4)]) (N := nmSt) (sc := defScope (sSq 8)) (by decide +kernel))
              (fun _ _ _ _ _ => pg_name (i := 4) scSt.nd rfl (Or.inl rfl)) (fun _ _ _ _ _ => pts_nil) (fun _ _ _ _ _ => pe_un un_neg (pv 4))) (pg_sub (pe_fld (pv 0) rfl) (pv 1) set_list)))) pss_nil)
      (pss_one (ps_ret pe_bl))), ?_⟩
    refine ⟨fun m σ H' => m = 0 ∧ σ = [some (.ref p), some (.int (a : Nat)), none, none, none] ∧ H' = H, ⟨0, rfl, rfl, rfl⟩, ?_⟩
    rintro m σ H' ⟨rfl, rfl, rfl⟩
    refine ⟨true, rfl, iteT ?_⟩
    refine ⟨fun _ _ => False, fun _ _ z => z.elim, ?_⟩
    obtain ⟨hd, ad, W⟩ := Wk0
    obtain ⟨dx, hp⟩ := W.obj
    refine ⟨_, rfl, p, dx, _, rfl, hp, sq_no (by decide +kernel) (by decide +kernel) (by decide +kernel) (by decide +kernel) (by decide +kernel), _, rfl, H0, p, hh, ww, F, a, rfl, ⟨hd, ad, W⟩, by omega, by omega, ?_⟩
    rcases k with ⟨hz, k⟩ | ⟨r, c, fu, k⟩
    · refine .inl ⟨fun i h1 h2 j h3 h4 => by rw [R.rest i j h2 h4 h1 h3]; exact hz i h1 h2 j h3 h4, fun H1 s1 => ?_⟩
      refine ⟨_, rfl, rfl, _, rfl, iteT ?_⟩
      exact k H1 s1
    · refine .inr ⟨r, c, FU.congr fu (fun i j h1 h2 h3 h4 => R.rest i j h1 h2 h3 h4), fun H1 t s1 ht => ?_⟩
      have hap := fu.ap; have hph := fu.ph; have haq := fu.aq; have hqw := fu.qw
      refine ⟨_, rfl, rfl, _, rfl, iteF ?_⟩
      have W1 := W.mono s1
      obtain ⟨dx1, hp1⟩ := W1.obj
      have sb := W1.baseSame ht
      have W1' := W1.base ht (fun _ z => nomatch z) (fun _ _ _ z => nomatch z)
      refine ⟨_, rfl, p, dx1, _, rfl, hp1, sq_no (by decide +kernel) (by decide +kernel) (by decide +kernel) (by decide +kernel) (by decide +kernel), _, rfl, _, rfl, t, _, 0, _, rfl, rfl, SqT.of ht, rfl, upd H0 t (.tup [.int (r : Nat), .int (c : Nat)]), p, hh, ww, F, a, r, rfl, ⟨hd, ad, W1'⟩, hah, hph, fun H2 Wk2 => ?_⟩
      obtain ⟨hd2, ad2, W2⟩ := Wk2
      obtain ⟨dx2, hp2⟩ := W2.obj
      have ht2 := W2.same _ _ upd_same
      refine ⟨_, rfl, p, dx2, _, rfl, hp2, sq_no (by decide +kernel) (by decide +kernel) (by decide +kernel) (by decide +kernel) (by decide +kernel), _, rfl, _, rfl, t, _, 1, _, rfl, rfl, SqT.of ht2, rfl, _, p, hh, ww, _, a, c, rfl, ⟨hd2, ad2, W2⟩, haw, hqw, fun H3 Wk3 => ?_⟩
      have Wk3' : Wk C H0 H3 p hh ww (swF a r c F) := (Wk3.unbase sb).congr fun k i j hk _ _ => by
        unfold swF
        have cs : k = 0 ∨ k = 1 ∨ k = 2 := by omega
        rcases cs with rfl | rfl | rfl <;> simp
      obtain ⟨hd3, ad3, W3⟩ := Wk3'
      obtain ⟨dx3, hp3⟩ := W3.obj
      have hu := fu.unit
      have hcor : swF a r c F 0 a a = M r c := by
        show F 0 (sw a r a) (sw a c a) = _
        have e1 : sw a r a = r := by unfold sw; rw [if_pos rfl]
        have e2 : sw a c a = c := by unfold sw; rw [if_pos rfl]
        rw [e1, e2]; exact R.rest r c hph hqw hap haq
      have hz : ∀ i, i < a → swF a r c F 0 i a = 0 := fun i hi => by
        show F 0 (sw a r i) (sw a c a) = 0
        have e1 : sw a r i = i := by unfold sw; rw [if_neg (by omega), if_neg (by omega)]
        have e2 : sw a c a = c := by unfold sw; rw [if_pos rfl]
        rw [e1, e2, R.fix i c (by omega) hqw (.inl hi), if_neg (by omega)]
      refine ⟨_, rfl, p, dx3, _, rfl, hp3, sq_no (by decide +kernel) (by decide +kernel) (by decide +kernel) (by decide +kernel) (by decide +kernel), _, rfl, H0, p, hh, ww, _, a, e, M r c, rfl, ⟨hd3, ad3, W3⟩, hah, haw, hcor, hu, hz, swF_bd R.bd hah hph haw hqw, he0, he2, fun H4 Wk4 => ?_⟩
      refine ⟨true, rfl, iteT ?_⟩
      have hnext := Rd.next R fu
      have hc4 : clF a (M r c) (swF a r c F) hh ww 0 a a = M r c := by
        show colF a (M r c) (ww - (a + 1)) (rowF a (M r c) (hh - (a + 1)) (swF a r c F)) 0 a a = _
        unfold colF rowF
        rw [if_neg (by omega), if_neg (by omega)]; exact hcor
      have Wk4' : Wk C H0 H4 p hh ww (clF a (M r c) (swF a r c F) hh ww) := Wk4
      obtain ⟨Z, hZ⟩ : ∃ Z, Z = clF a (M r c) (swF a r c F) hh ww := ⟨_, rfl⟩
      rw [← hZ] at Wk4' hnext hc4
      obtain ⟨hd4, ad4, W4⟩ := Wk4'
      obtain ⟨dx4, hp4⟩ := W4.obj
      refine ⟨_, rfl, p, dx4, _, rfl, hp4, sq_no (by decide +kernel) (by decide +kernel) (by decide +kernel) (by decide +kernel) (by decide +kernel), _, rfl, H0, p, hh, ww, Z, a, rfl, ⟨hd4, ad4, W4⟩, hah, haw, by rw [hc4]; exact hu, fun H5 s5 => ?_⟩
      refine ⟨_, rfl, rfl, _, rfl, iteT ?_⟩
      have W5 := W4.mono s5
      have ha0 : a < dn hh ww 0 := hah
      have ha1 : a < dn hh ww 1 := hah
      have hm0 : a < dm hh ww 0 := haw
      refine ⟨_, rfl, W5.gR T ⟨_, rfl, W5.iRow (by decide) ha0 ⟨_, rfl, W5.iItem (by decide) ha0 hm0 ⟨_, _, rfl, rfl, _, rfl, ?_⟩⟩⟩⟩
      rw [hc4]
      rcases hu with hu | hu
      · rw [hu] at hnext ⊢
        refine iteF ?_
        refine k _ _ ⟨hd4, ad4, W5.congr fun k i j _ _ _ => ?_⟩ hnext
        unfold ngF
        by_cases c : k ≠ 2 ∧ i = a
        · rw [if_pos c, Int.one_mul]
        · rw [if_neg c]
      · rw [hu] at hnext ⊢
        refine iteT ?_
        refine ⟨_, rfl, W5.gR T ⟨_, rfl, W5.iRow (by decide) ha0 ⟨_, rfl, ⟨_, SqL.of (W5.row 0 a (by decide) ha0)⟩, ?_⟩⟩⟩
        have rw0 : H5 (ad4 0 a) = some (.lst (rV (dm hh ww 0) (Z 0 a))) := W5.row 0 a (by decide) ha0
        have W0' := W5
        refine fun D hD => lc_it (walk_list (K := K) (xs := rV (dm hh ww 0) (Z 0 a))) (Cmp H5 D fun j => rV j (fun c => - Z 0 a c)) (Cmp.start hD rfl) (fun j H' _ c => SqL.of (c.same _ _ rw0)) ?_ ?_
        · rintro j x H1' H2' hj c ⟨rfl, hx⟩
          rw [rV_len] at hj
          rw [rV_get _ hj] at hx
          cases hx
          refine ⟨rfl, ?_⟩
          unfold tYes
          refine iteT ⟨_, rfl, _, rfl, ?_⟩
          refine c.put hD Same.rfl' (rV_snoc _ _) ?_
          rw [rV_len]
          have : dm hh ww 0 ≤ 200 := by
            unfold dm; split
            · exact W0'.h2
            · exact W0'.w2
          omega
        intro H6 cfin
        rw [rV_len] at cfin
        have s6 := cfin.same
        have hD6 := cfin.lst
        have W6 := W5.mono s6
        refine ⟨_, rfl, W6.gR T ⟨_, rfl, W6.sRow (by decide) ha0 ?_⟩⟩
        have W7 := W6.setRow (f := fun j => - Z 0 a j) (by decide) ha0 hD6 (W5.same.free hD) (fun l hl => ne_of_none (W5.top l hl) hD) (fun l j hl hj => ne_of_none (W5.row l j hl hj) hD)
        generalize upd H6 (hd4 0) _ = H7 at W7
        obtain ⟨ad7, had7⟩ : ∃ ad7, ad7 = (fun l r => if l = 0 ∧ r = a then D else ad4 l r) := ⟨_, rfl⟩
        rw [← had7] at W7
        refine ⟨_, rfl, W7.gL T ⟨_, rfl, W7.iRow (by decide) ha1 ⟨_, rfl, ⟨_, SqL.of (W7.row 1 a (by decide) ha1)⟩, ?_⟩⟩⟩
        have rw1 : H7 (ad7 1 a) = some (.lst (rV (dm hh ww 1) (Z 1 a))) := by
          rw [W7.row 1 a (by decide) ha1]
          exact congrArg (fun z => some (HO.lst z)) (rV_congr fun j _ => by simp)
        refine fun D8 hD8 => lc_it (walk_list (K := K) (xs := rV (dm hh ww 1) (Z 1 a))) (Cmp H7 D8 fun j => rV j (fun c => - Z 1 a c)) (Cmp.start hD8 rfl) (fun j H' _ c => SqL.of (c.same _ _ rw1)) ?_ ?_
        · rintro j x H1' H2' hj c ⟨rfl, hx⟩
          rw [rV_len] at hj
          rw [rV_get _ hj] at hx
          cases hx
          refine ⟨rfl, ?_⟩
          unfold tYes
          refine iteT ⟨_, rfl, _, rfl, ?_⟩
          refine c.put hD8 Same.rfl' (rV_snoc _ _) ?_
          rw [rV_len]
          have : dm hh ww 1 ≤ 200 := by
            unfold dm; split
            · exact W0'.h2
            · exact W0'.w2
          omega
        intro H8 cfin
        rw [rV_len] at cfin
        have s8 := cfin.same
        have hD8' := cfin.lst
        have W8 := W7.mono s8
        refine ⟨_, rfl, W8.gL T ⟨_, rfl, W8.sRow (by decide) ha1 ?_⟩⟩
        have W9 := W8.setRow (f := fun j => - Z 1 a j) (by decide) ha1 hD8' (W7.same.free hD8) (fun l hl => ne_of_none (W7.top l hl) hD8) (fun l j hl hj => ne_of_none (W7.row l j hl hj) hD8)
        refine k _ _ ⟨_, _, W9.congr fun k i j hk _ _ => ?_⟩ hnext
        unfold ngF
        have cs : k = 0 ∨ k = 1 ∨ k = 2 := by omega
        rcases cs with rfl | rfl | rfl
        · by_cases c : i = a
          · subst c; simp
          · simp [c]
        · by_cases c : i = a
          · subst c; simp
          · simp [c]
        · simp
end
end K63W


namespace K63W
open PySem L2 RZ StX PySem.W
open K63 (sw sw_sw sw_lt nx FU Runs)

theorem Runs.within {h w a r : Nat} {M : Nat → Nat → Int} (R : Runs h w a M r) : a ≤ h → a ≤ w → r ≤ h ∧ r ≤ w := by
  induction R with
  | stop _ => intro h1 h2; exact ⟨h1, h2⟩
  | step fu _ ih =>
    intro _ _
    have hap := fu.ap; have hph := fu.ph; have haq := fu.aq; have hqw := fu.qw
    exact ih (by omega) (by omega)

section
variable {P : Program} {w : World} {K : PySem.W.Frag} {mg : Str → Option Value} {base : Heap}
theorem scRn : FnScope ["self", "at"] ["self"] (defScope (sSq 9)) := ⟨rfl, rfl, rfl, by decide +kernel, rfl, by decide +kernel, by decide +kernel⟩
def spRun (C : Addr) : Sp := fun vs H Q _ => ∃ (H0 : Hp) (p : Addr) (h w : Nat) (F : Nat → Nat → Nat → Int) (M : Nat → Nat → Int) (r : Nat), vs = [.ref p] ∧ Wk C H0 H p h w F ∧ Rd h w 0 1 M F ∧ Runs h w 0 M r ∧ r ≤ 24 ∧
  ∀ H' F', Wk C H0 H' p h w F' → (∀ i, i < h → i < w → F' 0 i i = if i < r then 1 else 0) → Q .non H'
theorem ok_run {f f1 C : Addr} {fd fd1 : FuncData} (F : Fun K "run" "Square.run" (sSq 9) f fd) (B : Bl mg) (T : STxt K mg C)
    (G1 : FnOk P w K mg base CX0 3 f1 fd1 ["self", "at"] (spSettle C)) (m1 : Lm K C "settle" f1 fd1 ["self", "at"]) :
    FnOk P w K mg base CX0 4 f fd ["self"] (spRun C) := by
  refine F.ok scRn (fun vs H Q E h => ?_) (fun cdv A outer s H vs Q E hr h => ?_)
  · obtain ⟨_, _, _, _, _, _, _, rfl, _⟩ := h
    rfl
  · obtain ⟨H0, p, hh, ww, F, M, r, rfl, Wk0, R, hR, hr24, k⟩ := h
    refine ⟨_, pss_cons (ps_set (i := 1) scRn.nd rfl (Or.inl rfl) pe_int)
      (pss_one (ps_while PassesOwn.never (PW.pt (pw_and (pt_cmpR op_lt (pv 1) (pe_callB (call_min2 rfl) (by rfl) B.min (by decide +kernel) (pa_cons (pe_fld (pv 0) rfl) (pa_cons (pe_fld (pv 0) rfl) pa_nil))) (nomark _))
          (pw_and1 (pt_val (pe_meth (pv 0) T.cl m1.m G1 hr m1.b .nil pass0 (pa_cons (pv 1) pa_nil))))))
        (pss_one (ps_aug (i := 1) scRn.nd rfl (Or.inl rfl) pe_int ip_add)))), ?_⟩
    refine ⟨fun m σ H' => ∃ (a e : Nat) (M : Nat → Nat → Int) (F : Nat → Nat → Nat → Int), m = r - a ∧ σ = [some (.ref p), some (.int (a : Nat))] ∧ Wk C H0 H' p hh ww F ∧ Rd hh ww a e M F ∧ Runs hh ww a M r ∧ a ≤ r ∧ a ≤ hh ∧ a ≤ ww ∧ e + 1 = 2 ^ (a + 1),
      ⟨_, 0, 1, M, F, rfl, rfl, Wk0, R, hR, Nat.zero_le _, Nat.zero_le _, Nat.zero_le _, rfl⟩, ?_⟩
    rintro m σ H' ⟨a, e, M, F, rfl, rfl, ⟨hd, ad, W⟩, R, hR, har, hah, haw, he⟩
    have he2 : e + e ≤ 134217728 ∨ a = r := by
      by_cases c : a = r
      · exact .inr c
      · left
        have : (2 : Nat) ^ (a + 1) ≤ 2 ^ 24 := Nat.pow_le_pow_right (by decide) (by omega)
        have : (2 : Nat) ^ 24 = 16777216 := by decide
        omega
    have he0 : 0 < e := by
      have : (2 : Nat) ^ 1 ≤ 2 ^ (a + 1) := Nat.pow_le_pow_right (by decide) (by omega)
      omega
    have fin : a = r → ∀ H1, Same H' H1 → ((∀ i, a ≤ i → i < hh → ∀ j, a ≤ j → j < ww → M i j = 0)) → Q .non H1 := by
      intro e1 H1 s1 hz
      subst e1
      refine k H1 F ⟨hd, ad, W.mono s1⟩ fun i hi hi' => ?_
      by_cases c : i < a
      · rw [R.fix i i hi hi' (.inl c), if_pos rfl, if_pos c]
      · rw [R.rest i i hi hi' (by omega) (by omega), if_neg c]; exact hz i (by omega) hi i (by omega) hi'
    refine ⟨_, rfl, _, rfl, W.gH T ⟨_, rfl, W.gW T ⟨_, _, rfl, _, _, rfl, rfl, _, rfl, ?_⟩⟩⟩
    by_cases c : a < hh ∧ a < ww
    · have hlt : decide ((a : Int) < if (ww : Int) < (hh : Int) then (ww : Int) else (hh : Int)) = true := decide_eq_true (by split <;> omega)
      rw [hlt]
      refine iteT ?_
      obtain ⟨dx, hp⟩ := W.obj
      have he2' : e + e ≤ 134217728 := by
        rcases he2 with q | q
        · exact q
        · subst q
          have : (2 : Nat) ^ (a + 1) ≤ 2 ^ 25 := Nat.pow_le_pow_right (by decide) (by omega)
          have : (2 : Nat) ^ 25 = 33554432 := by decide
          omega
      refine ⟨_, rfl, p, dx, _, rfl, hp, sq_no (by decide +kernel) (by decide +kernel) (by decide +kernel) (by decide +kernel) (by decide +kernel), _, rfl, H0, p, hh, ww, F, a, e, M, rfl, ⟨hd, ad, W⟩, c.1, c.2, R, he0, he2', ?_⟩
      cases hR with
      | stop hz => exact .inl ⟨hz, fun H1 s1 => ⟨false, rfl, iteF (fin rfl H1 s1 hz)⟩⟩
      | step fu hR' =>
        refine .inr ⟨_, _, fu, fun H1 F1 W1 R1 => ⟨true, rfl, iteT ?_⟩⟩
        have := Runs.le hR'
        refine ⟨fun σ' H'' => ∃ m', m' < r - a ∧ _, fun σ' H'' z => z, ?_⟩
        refine ⟨_, rfl, _, _, rfl, rfl, r - (a + 1), by omega, a + 1, 2 * e + 1, _, F1, rfl, rfl, W1, R1, hR', by omega, by omega, by omega, ?_⟩
        rw [Nat.pow_succ, ← he]; omega
    · have hlt : decide ((a : Int) < if (ww : Int) < (hh : Int) then (ww : Int) else (hh : Int)) = false := decide_eq_false (by split <;> omega)
      rw [hlt]
      refine iteF ?_
      cases hR with
      | stop hz => exact fin rfl H' Same.rfl' hz
      | step fu hR' =>
        have hap := fu.ap; have hph := fu.ph; have haq := fu.aq; have hqw := fu.qw
        exact absurd ⟨by omega, by omega⟩ c

abbrev sDivisors : Stmt := top 33
theorem scDv : FnScope ["rows", "work", "at"] ["rows"] (defScope sDivisors) := ⟨rfl, rfl, rfl, by decide +kernel, rfl, by decide +kernel, by decide +kernel⟩
def spDivisors : Sp := fun vs H Q _ => ∃ (t : Addr) (h w : Nat) (M : Nat → Nat → Int) (ad : Nat → Addr) (r : Nat), vs = [.ref t] ∧ H t = some (.tup (aV h ad)) ∧ (∀ r, r < h → H (ad r) = some (.tup (rV w (M r)))) ∧ (h = 0 → w = 0) ∧ h ≤ 200 ∧ w ≤ 200 ∧
  (∀ i j, i < h → j < w → (M i j).natAbs < 2) ∧ Runs h w 0 M r ∧ r ≤ 24 ∧ ∀ H' q, Same H H' → H q = none → H' q = some (.lst (rV r fun _ => 1)) → Q (.ref q) H'
theorem ok_divisors {f f1 f2 C : Addr} {fd fd1 fd2 : FuncData} (F : Fun K "divisors" "divisors" sDivisors f fd) (B : Bl mg) (T : STxt K mg C) (MK : Mk K C f1)
    (G1 : FnOk P w K mg base CX0 1 f1 fd1 ["self", "rows"] (spSqInit C)) (b1 : Binds K fd1 ["self", "rows"] [])
    (G2 : FnOk P w K mg base CX0 4 f2 fd2 ["self"] (spRun C)) (m2 : Lm K C "run" f2 fd2 ["self"]) :
    FnOk P w K mg base CX0 5 f fd ["rows"] spDivisors := by
  refine F.ok scDv (fun vs H Q E h => ?_) (fun cdv A outer s H vs Q E hr h => ?_)
  · obtain ⟨_, _, _, _, _, _, rfl, _⟩ := h
    rfl
  · obtain ⟨t, hh, ww, M, ad, r, rfl, hT, hrow, hz, h2, w2, hM, hR, hr24, k⟩ := h
    refine ⟨_, pss_cons (ps_set (i := 1) scDv.nd rfl (Or.inr rfl) (pe_make MK G1 (hr.mono (by decide)) rfl T.mgC b1 .nil pass0 (pa_cons (pv 0) pa_nil)))
      (pss_cons (ps_expr (pe_meth0 (pv 1) T.cl m2.m G2 hr m2.b .nil pass0))
      (pss_one (ps_ret (pe_lc (own := [("at", 2)]) (g := gName 2) (tt := tTest (tOp rNe (tOp (rIxL K) (tOp (rIxL K) (tFld K (tVar 1) "rows") (tVar 2)) (tVar 2)) (tC (.int 0)))) (te := tOp (rIxL K) (tOp (rIxL K) (tFld K (tVar 1) "rows") (tVar 2)) (tVar 2)) (by rfl) scDv.nd
          (pi_range1 rfl B.range (pa_cons (pe_callB (call_min2 rfl) (by rfl) B.min (by decide +kernel) (pa_cons (pe_fld (pv 1) rfl) (pa_cons (pe_fld (pv 1) rfl) pa_nil))) pa_nil))
          (blkOk_by (own := [("at", 2)]) (N := ["rows", "work", "at"]) (sc := defScope sDivisors) (by decide +kernel))
          (fun _ _ _ _ _ => pg_name (i := 2) scDv.nd rfl (Or.inl rfl)) (fun _ _ _ _ _ => pts_one (pt_cmpR op_ne (pe_ix ix_list (pe_ix ix_list (pe_fld (pv 1) rfl) (pv 2) (fun _ _ => rfl)) (pv 2) (fun _ _ => rfl)) pe_int (nomark _)))
          (fun _ _ _ _ _ => pe_ix ix_list (pe_ix ix_list (pe_fld (pv 1) rfl) (pv 2) (fun _ _ => rfl)) (pv 2) (fun _ _ => rfl)))))), ?_⟩
    refine ⟨_, rfl, fun x dx hx hdx hne => ?_⟩
    have s0 : Same H (upd (upd H dx (.own x)) x (.ins C dx [])) := fun b o e => by
      rw [upd_ne (ne_of_none e hx), upd_ne (ne_of_none e hdx)]; exact e
    refine ⟨H, x, dx, t, hh, ww, M, ad, rfl, s0, hx, upd_same, s0 _ _ hT, fun r hr => s0 _ _ (hrow r hr), hz, h2, w2, fun H1 Wk1 => ⟨rfl, ?_⟩⟩
    obtain ⟨hd, ad1, W1⟩ := Wk1
    obtain ⟨dx1, hp1⟩ := W1.obj
    have Rd0 : Rd hh ww 0 1 M (unitF M) := by
      refine ⟨fun i j _ _ hl => absurd hl (by omega), fun i j _ _ _ _ => rfl, fun k i j hk hi hj => ?_⟩
      unfold unitF
      by_cases c : k = 0
      · subst c; rw [if_pos rfl]; exact hM i j hi hj
      · rw [if_neg c]; split <;> decide
    refine ⟨_, rfl, x, dx1, _, rfl, hp1, sq_no (by decide +kernel) (by decide +kernel) (by decide +kernel) (by decide +kernel) (by decide +kernel), H, x, hh, ww, _, M, r, rfl, ⟨hd, ad1, W1⟩, Rd0, hR, hr24, fun H2 F' Wk2 hF => ?_⟩
    obtain ⟨hd2, ad2, W2⟩ := Wk2
    have hrw := Runs.within hR (Nat.zero_le _) (Nat.zero_le _)
    refine ⟨_, rfl, W2.gH T ⟨_, rfl, W2.gW T ⟨_, _, rfl, _, rfl, ?_, ?_, fun D hD => ?_⟩⟩⟩
    · split <;> omega
    · split <;> omega
    have hmin : (if (ww : Int) < (hh : Int) then (ww : Int) else (hh : Int)).toNat = min hh ww := by split <;> omega
    rw [hmin]
    refine lc_it (walk_range (lo := 0) (n := min hh ww)) (Cmp H2 D fun j => rV (min j r) fun _ => 1) (Cmp.start hD (by simp [rV])) (fun _ _ _ _ => True.intro) ?_ ?_
    · rintro j y H3 H4 hj c ⟨rfl, rfl⟩
      have W3 := W2.mono c.same
      have hj1 : j < dn hh ww 0 := by show j < hh; omega
      have hj2 : j < dm hh ww 0 := by show j < ww; omega
      have ej : (0 : Int) + (j : Nat) = ((j : Nat) : Int) := by omega
      show gName 2 (V.int ((0 : Int) + (j : Nat))) [some (.ref t), some (.ref x), none] H4 _
      rw [ej]
      refine ⟨rfl, _, rfl, W3.gR T ⟨_, rfl, W3.iRow (by decide) hj1 ⟨_, rfl, W3.iItem (by decide) hj1 hj2 ⟨rfl, _, rfl, ?_⟩⟩⟩⟩
      by_cases cj : j < r
      · have e1 : F' 0 j j = 1 := by rw [hF j hj1 hj2, if_pos cj]
        rw [e1]
        refine iteT ⟨_, rfl, W3.gR T ⟨_, rfl, W3.iRow (by decide) hj1 ⟨_, rfl, W3.iItem (by decide) hj1 hj2 ?_⟩⟩⟩
        rw [e1]
        exact c.put hD Same.rfl' (by rw [Nat.min_eq_left (by omega : j + 1 ≤ r), Nat.min_eq_left (by omega : j ≤ r)]; exact rV_snoc _ _) (by rw [rV_len]; omega)
      · have e1 : F' 0 j j = 0 := by rw [hF j hj1 hj2, if_neg cj]
        rw [e1]
        exact iteF (c.skip Same.rfl' (by rw [Nat.min_eq_right (by omega : r ≤ j + 1), Nat.min_eq_right (by omega : r ≤ j)]))
    · intro H3 c
      have hl := c.lst
      rw [Nat.min_eq_right (by omega : r ≤ min hh ww)] at hl
      exact k H3 D (W2.same.trans c.same) (W2.same.free hD) hl
end
end K63W


namespace K63W
open PySem L2 RZ StX PySem.W

abbrev sTidy : Stmt := top 26
abbrev sBoundaryIn : Stmt := top 27

/-- a dict from tuples of ints to ints -/
def nD (L : List (List Int × Int)) : List (List Key × V) := L.map fun p => (kI p.1, V.int p.2)
theorem nD_len (L : List (List Int × Int)) : (nD L).length = L.length := List.length_map _
theorem nD_none {L : List (List Int × Int)} {l : List Int} (h : l ∉ L.map (·.1)) : valV (nD L) (kI l) = none := by
  induction L with
  | nil => rfl
  | cons p L ih =>
    rw [List.map_cons, List.mem_cons, not_or] at h
    rw [show nD (p :: L) = (kI p.1, V.int p.2) :: nD L from rfl, valV_neg (fun e => h.1 (kI_inj e).symm), ih h.2]
theorem nD_some {L : List (List Int × Int)} {l : List Int} {n : Int} (hn : (L.map (·.1)).Nodup) (h : (l, n) ∈ L) : valV (nD L) (kI l) = some (.int n) := by
  induction L with
  | nil => cases h
  | cons p L ih =>
    rw [List.map_cons, List.nodup_cons] at hn
    rw [show nD (p :: L) = (kI p.1, V.int p.2) :: nD L from rfl]
    rcases List.mem_cons.1 h with e | h
    · subst e; exact valV_pos rfl
    · rw [valV_neg, ih hn.2 h]
      intro e
      exact hn.1 (by rw [kI_inj e]; exact List.mem_map.2 ⟨_, h, rfl⟩)
theorem nD_put {L : List (List Int × Int)} {l : List Int} {n : Int} (h : l ∉ L.map (·.1)) : putK (nD L) (kI l) (V.int n) = nD (L ++ [(l, n)]) := by
  unfold putK
  rw [valV_any, nD_none h]
  show (if false = true then _ else _) = _
  rw [if_neg (by decide)]
  unfold nD; rw [List.map_append]; rfl
theorem nD_at {L : List (List Int × Int)} {i : Nat} {k : List Key} {v : V} (h : (nD L)[i]? = some (k, v)) : ∃ p, L[i]? = some p ∧ k = kI p.1 ∧ v = .int p.2 := by
  unfold nD at h
  rw [List.getElem?_map] at h
  cases e : L[i]? with
  | none => rw [e] at h; cases h
  | some p =>
    rw [e] at h
    have := Option.some.inj h
    exact ⟨p, rfl, (congrArg Prod.fst this).symm, (congrArg Prod.snd this).symm⟩

/-- pairs of a tuple of ints and an int, and where they stand -/
abbrev PL := List (Addr × (Addr × (List Int × Int)))
def prs (M : PL) : List V := M.map fun b => V.ref b.1
def PLat (H : Hp) (M : PL) : Prop := ∀ b ∈ M, H b.1 = some (.tup [.ref b.2.1, .int b.2.2.2]) ∧ H b.2.1 = some (.tup (b.2.2.1.map V.int))
theorem PLat.same {H H' : Hp} {M : PL} (h : PLat H M) (s : Same H H') : PLat H' M := fun b hb => ⟨s _ _ (h b hb).1, s _ _ (h b hb).2⟩
theorem PLat.put {H : Hp} {M : PL} {D : Addr} {xs : List V} {o : HO} (h : PLat H M) (hD : H D = some (.lst xs)) : PLat (upd H D o) M := fun b hb => by
  have h1 := h b hb
  constructor
  · rw [upd_ne (ne_of h1.1 hD (by intro z; cases z))]; exact h1.1
  · rw [upd_ne (ne_of h1.2 hD (by intro z; cases z))]; exact h1.2
theorem PLat.app {H : Hp} {M N : PL} (h : PLat H M) (h2 : PLat H N) : PLat H (M ++ N) := fun b hb => by
  rcases List.mem_append.1 hb with q | q
  · exact h b q
  · exact h2 b q
def dP (p : List Int × Int) : PyData := .tuple [dT p.1, .int p.2]
theorem alikeP (a b : List Int × Int) : alike (dP a) (dP b) = true := by
  unfold dP; simp only [alike, alikeAll, alikeT, Bool.and_self]
theorem depthP (p : List Int × Int) : (dP p).depth = 2 := by
  unfold dP; simp [PyData.depth, PyData.depthAll, depthT]

/-- the boundary of a simplex, place by place -/
def bdM (l : List Int) : List (List Int × Int) := (List.range l.length).map fun i => (l.take i ++ l.drop (i + 1), if i % 2 = 0 then 1 else -1)
theorem bdM_len (l : List Int) : (bdM l).length = l.length := by unfold bdM; simp
theorem bdM_keys (l : List Int) : (bdM l).map (·.1) = delM l := by unfold bdM delM; rw [List.map_map]; rfl
theorem nd_inj {α : Type} {l : List α} (h : l.Nodup) {i j : Nat} (hi : i < l.length) (hj : j < l.length) (e : l[i] = l[j]) : i = j := by
  rcases Nat.lt_trichotomy i j with c | c | c
  · exact absurd e (List.pairwise_iff_getElem.1 h i j hi hj c)
  · exact c
  · exact absurd e.symm (List.pairwise_iff_getElem.1 h j i hj hi c)
theorem delM_nodup {l : List Int} (h : l.Nodup) : (delM l).Nodup := by
  unfold delM
  rw [List.Nodup, List.pairwise_map]
  refine List.Pairwise.imp_of_mem ?_ (List.pairwise_lt_range (n := l.length))
  intro i j hi hj hij e
  have hi := List.mem_range.1 hi
  have hj := List.mem_range.1 hj
  have h1 := congrArg (fun z => z[i]?) e
  rw [List.getElem?_append_right (by rw [List.length_take]; omega), List.getElem?_append_left (by rw [List.length_take]; omega), List.length_take, List.getElem?_drop, List.getElem?_take, if_pos hij] at h1
  rw [show i + 1 + (i - min i l.length) = i + 1 by omega] at h1
  rw [List.getElem?_eq_getElem (by omega), List.getElem?_eq_getElem (by omega)] at h1
  have h2 := Option.some.inj h1
  have := nd_inj h _ _ h2
  omega

section
variable {P : Program} {w : World} {K : PySem.W.Frag} {mg : Str → Option Value} {base : Heap}
theorem sc26 : FnScope ["numbers", "simplex", "number"] ["numbers"] (defScope sTidy) := ⟨rfl, rfl, rfl, by decide +kernel, rfl, by decide +kernel, by decide +kernel⟩
def spTidy : Sp := fun vs H Q _ => ∃ (d : Addr) (L : List (List Int × Int)), vs = [.ref d] ∧ H d = some (.dT (nD L)) ∧ L.length ≤ 400 ∧ (∀ p ∈ L, p.2 ≠ 0) ∧
  ∀ H' p (M : PL), Same H H' → H p = none → H' p = some (.tup (prs M)) → PLat H' M → (M.map (fun b => b.2.2)).Perm L → Q (.ref p) H'
theorem ok_tidy {f : Addr} {fd : FuncData} (F : Fun K "tidy" "tidy" sTidy f fd) (B : Bl mg) :
    FnOk P w K mg base CX0 1 f fd ["numbers"] spTidy := by
  refine F.ok sc26 (fun vs H Q E h => ?_) (fun cdv A outer s H vs Q E hr h => ?_)
  · obtain ⟨_, _, rfl, _⟩ := h
    rfl
  · obtain ⟨d, L, rfl, hA, h400, hne, k⟩ := h
    refine ⟨_, pss_one (ps_ret (pe_callTy call_tuple_of (by rfl) B.tuple (by decide +kernel) (pa_cons (pe_callB (cr_sortedD hr.units) (by rfl) B.sorted (by decide +kernel) (pa_cons
        (pe_lock (pe_lc (own := [("simplex", 1), ("number", 2)]) (g := gTup K 2 (gCons (gName 1) (gCons (gName 2) gNil))) (tt := tTest (tOp rNe (tVar 2) (tC (.int 0)))) (te := tTup (tCons (tVar 1) (tCons (tVar 2) tNil))) (by rfl) sc26.nd (pi_itemsT (pv 0)) (blkOk_by (own := [("simplex", 1), ("number", 2)]) (N := ["numbers", "simplex", "number"]) (sc := defScope sTidy) (by decide +kernel))
          (fun _ _ _ _ _ => pg_tup rfl (pgs_cons (pg_name (i := 1) sc26.nd rfl (Or.inl rfl)) (pgs_cons (pg_name (i := 2) sc26.nd rfl (Or.inl rfl)) pgs_nil))) (fun _ _ _ _ _ => pts_one (pt_cmpR op_ne (pv 2) pe_int (nomark _)))
          (fun _ _ _ _ _ => pe_tup (pa_cons (pv 1) (pa_cons (pv 2) pa_nil))))) pa_nil)) pa_nil))), ?_⟩
    refine ⟨d, _, hA, True.intro, fun od => ?_⟩
    have lk : upd H d (.frz od (.dT (nD L))) d = some (.frz od (.dT (nD L))) := upd_same
    refine ⟨_, rfl, d, od, _, rfl, lk, fun D hD => ?_⟩
    have hdD : d ≠ D := ne_of_none lk hD
    refine lc_it (walk_itemsT (d := d) (o := od) (kvs := nD L))
      (fun j H2 => Same (upd H d (.frz od (.dT (nD L)))) H2 ∧ ∃ M : PL, H2 D = some (.lst (prs M)) ∧ PLat H2 M ∧ M.map (fun b => b.2.2) = L.take j)
      ⟨same_upd hD, [], (by rw [upd_same]; rfl), (fun b hb => nomatch hb), rfl⟩ (fun j H2 _ q => q.1 _ _ lk) ?_ ?_
    · rintro j x H2 H3 hj ⟨s2, M, hM, tM, eM⟩ ⟨T0, kk, vv, q0, hx, rfl, hT0, hq0, rfl⟩
      obtain ⟨p, hp, rfl, rfl⟩ := nD_at hx
      rw [kI_kV] at hq0
      have s3 := same_upd (o := .tup [.ref q0, .int p.2]) hT0
      refine ⟨T0, _, rfl, SqT.of upd_same, rfl, _, _, rfl, _, _, rfl, rfl, rfl, _, rfl, rfl, _, rfl, ?_⟩
      have hpn : p.2 ≠ 0 := hne p (mem_at hp)
      rw [show (!decide (V.int p.2 = V.int 0)) = true by rw [decide_eq_false (fun z => hpn (V.int.inj z))]; rfl]
      refine iteT ⟨_, rfl, _, rfl, (by show 2 ≤ sizeLine; decide), fun q hq => ?_⟩
      have hMl : M.length ≤ 400 := by
        have := congrArg List.length eM
        rw [List.length_map, List.length_take] at this; omega
      have s4 := same_upd (o := .tup [.ref q0, .int p.2]) hq
      have hM' := s4 _ _ (s3 _ _ hM)
      refine ⟨_, hM', (by unfold prs; rw [List.length_map]; exact Nat.lt_of_le_of_lt hMl (by decide)), same_put hD (s2.trans (s3.trans s4)), M ++ [(q, q0, p)], ?_, ?_, ?_⟩
      · rw [upd_same]; unfold prs; rw [List.map_append]; rfl
      · refine PLat.put (PLat.app (tM.same (s3.trans s4)) ?_) hM'
        intro b hb
        rw [List.mem_singleton.1 hb]
        exact ⟨upd_same, s4 _ _ (s3 _ _ hq0)⟩
      · rw [List.map_append, eM, List.take_add_one, hp]; rfl
    · rintro H1 ⟨s1, M, hM1, tM1, eM⟩
      rw [nD_len, List.take_length] at eM
      refine ⟨s1 _ _ lk, ?_⟩
      have hnd : ∀ {b : Addr} {o : HO}, H1 b = some o → (o ≠ .frz od (.dT (nD L))) → b ≠ d := by
        intro b o hb hne e
        rw [e, s1 _ _ lk] at hb
        exact hne (Option.some.inj hb).symm
      have s2 : Same H (upd H1 d (.dT (nD L))) := by
        intro b o e
        by_cases hb : b = d
        · rw [hb] at e ⊢; rw [upd_same, ← e, hA]
        · rw [upd_ne hb]; exact s1 _ _ (by rw [upd_ne hb]; exact e)
      have hM : upd H1 d (.dT (nD L)) D = some (.lst (prs M)) := by rw [upd_ne hdD.symm]; exact hM1
      have tM : PLat (upd H1 d (.dT (nD L))) M := fun b hb => by
        have h1 := tM1 b hb
        constructor
        · rw [upd_ne (hnd h1.1 (by intro z; cases z))]; exact h1.1
        · rw [upd_ne (hnd h1.2 (by intro z; cases z))]; exact h1.2
      generalize upd H1 d (.dT (nD L)) = H2 at s2 hM tM
      have hMl : M.length ≤ 400 := by rw [← List.length_map (f := fun b : Addr × (Addr × (List Int × Int)) => b.2.2), eM]; exact h400
      refine ⟨_, M, (fun b => b.1), (fun b => dP b.2.2), D, rfl, SqL.of hM, ?_, AllAlike.of (fun a b => alikeP _ _), Sortable.tuples (fun b => ⟨_, _, rfl⟩), (fun b _ => by rw [depthP]; decide), fun p hp => ?_⟩
      · intro b hb
        exact .tup (SqT.of (tM b hb).1) (.cons (dpT (tM b hb).2) (.cons (.int _) .nil))
      · refine ⟨p, _, rfl, .inl ⟨SqL.of upd_same, fun t ht => ?_⟩⟩
        have s6 := same_upd (o := .lst ((M.mergeSort (dataLe false fun b => dP b.2.2)).map fun b => V.ref b.1)) hp
        have s7 := same_upd (o := .tup ((M.mergeSort (dataLe false fun b => dP b.2.2)).map fun b => V.ref b.1)) ht
        have pm := List.mergeSort_perm M (dataLe false fun b : Addr × (Addr × (List Int × Int)) => dP b.2.2)
        refine k _ t (M.mergeSort (dataLe false fun b => dP b.2.2)) (s2.trans (s6.trans s7)) (s2.free (s6.free ht)) upd_same (fun b hb => (tM.same (s6.trans s7)) b (pm.mem_iff.1 hb)) ?_
        rw [← eM]; exact pm.map _

abbrev nmBd : List Str := ["chain", "found", "simplex", "number", "at", "part"]
theorem sc27 : FnScope nmBd ["chain"] (defScope sBoundaryIn) := ⟨rfl, rfl, rfl, by decide +kernel, rfl, by decide +kernel, by decide +kernel⟩
def spBoundaryIn : Sp := fun vs H Q _ => ∃ (t u q : Addr) (l : List Int), vs = [.ref t] ∧ H t = some (.tup [.ref u]) ∧ H u = some (.tup [.ref q, .int 1]) ∧ H q = some (.tup (l.map V.int)) ∧ l.Nodup ∧ l.length ≤ 8 ∧
  ∀ H' p (M : PL), Same H H' → H p = none → H' p = some (.tup (prs M)) → PLat H' M → (M.map (fun b => b.2.2)).Perm (bdM l) → Q (.ref p) H'
theorem ok_boundaryIn {f f1 : Addr} {fd fd1 : FuncData} (F : Fun K "boundary_in" "boundary_in" sBoundaryIn f fd) (B : Bl mg)
    (G1 : FnOk P w K mg base CX0 1 f1 fd1 ["numbers"] spTidy) (k1 : Lk K mg "tidy" f1 fd1 ["numbers"]) :
    FnOk P w K mg base CX0 2 f fd ["chain"] spBoundaryIn := by
  refine F.ok sc27 (fun vs H Q E h => ?_) (fun cdv A outer s H vs Q E hr h => ?_)
  · obtain ⟨_, _, _, _, rfl, _⟩ := h
    rfl
  · obtain ⟨t, u, q, l, rfl, hT, hU, hq, hnd, h8, k⟩ := h
    have hu := hu_of hr
    refine ⟨_, pss_cons (ps_set (i := 1) sc27.nd rfl (Or.inl rfl) pe_dnewT)
      (pss_cons (ps_for PassesOwn.never rfl (pi_tup (pv 0)) (pg_tup rfl (pgs_cons (pg_name (i := 2) sc27.nd rfl (Or.inl rfl)) (pgs_cons (pg_name (i := 3) sc27.nd rfl (Or.inl rfl)) pgs_nil)))
        (pss_one (ps_for PassesOwn.never rfl (pi_range1 rfl B.range (pa_cons (pe_callB call_len_seq (by rfl) B.len PySem.boot_len (pa_cons (pv 2) pa_nil)) pa_nil)) (pg_name (i := 4) sc27.nd rfl (Or.inl rfl))
          (pss_cons (ps_set (i := 5) sc27.nd rfl (Or.inl rfl) (pe_op op_catA (pe_slice sl_tupA (pv 2) po_none (po_some (pv 4))) (pe_slice sl_tupA (pv 2) (po_some (pe_op op_add (pv 4) pe_int)) po_none)))
          (pss_one (ps_dput hu (pv 1) (pv 5) (pe_op op_add (pe_dget2 hu (pv 1) (pv 5) pe_int ⟨rfl, rfl, rfl, rfl⟩) (pe_ifExp (pt_cmpR op_eq (pe_op op_mod (pv 4) pe_int) pe_int (nomark _)) (pv 3) (pe_un un_neg (pv 3)))) rfl))))))
      (pss_one (ps_ret (pe_call G1 hr rfl k1.g k1.k k1.b .nil pass0 (pa_cons (pv 1) pa_nil))))), ?_⟩
    refine fun d hd => ?_
    have s1 : Same H (upd H d (.dT [])) := same_upd hd
    refine ⟨_, rfl, t, rfl, ⟨_, SqT.of (s1 _ _ hT)⟩, for_tup (K := K) (a := t) (xs := [.ref u])
      (fun i σ H' => ∃ (v1 v2 v3 v4 : Option V), σ = [some (.ref t), some (.ref d), v1, v2, v3, v4] ∧ Same H H' ∧ H' d = some (.dT (nD (if i = 0 then [] else bdM l))))
      ⟨none, none, none, none, rfl, s1, by rw [upd_same]; rfl⟩ (fun i σ H' _ ⟨_, _, _, _, _, q, _⟩ => SqT.of (q _ _ hT)) ?_ ?_⟩
    · rintro i x σ H' hx ⟨v1, v2, v3, v4, rfl, sm, hD⟩
      have hi : i < 1 := (List.getElem?_eq_some_iff.mp hx).1
      have hi0 : i = 0 := by omega
      subst hi0
      have hxe := (Option.some.inj hx).symm
      subst hxe
      rw [if_pos rfl] at hD
      refine ⟨u, _, rfl, SqT.of (sm _ _ hU), rfl, _, _, rfl, _, _, rfl, rfl, ?_⟩
      refine ⟨_, rfl, q, _, rfl, .inr (SqT.of (sm _ _ hq)), _, rfl, ?_, ?_, ?_⟩
      · rw [List.length_map]; omega
      · rw [List.length_map]; omega
      · rw [List.length_map, Int.toNat_natCast]
        refine for_range (lo := 0) (n := l.length)
          (fun j σ H4 => ∃ (v3 v4 : Option V), σ = [some (.ref t), some (.ref d), some (.ref q), some (.int 1), v3, v4] ∧ Same H H4 ∧ H4 d = some (.dT (nD ((bdM l).take j))))
          ⟨_, _, rfl, sm, hD⟩ ?_ ?_
        · rintro j σ H4 hj ⟨u3, u4, rfl, s4, e4⟩
          have q4 := s4 _ _ hq
          have hjl : (bdM l)[j]? = some (l.take j ++ l.drop (j + 1), if j % 2 = 0 then 1 else -1) := by
            unfold bdM; rw [List.getElem?_map, List.getElem?_range hj]; rfl
          have hnew : (l.take j ++ l.drop (j + 1)) ∉ ((bdM l).take j).map (·.1) := by
            have nd := delM_nodup hnd
            rw [List.map_take, bdM_keys]
            intro hm
            obtain ⟨i, hi1, hi2⟩ := List.getElem_of_mem hm
            rw [List.length_take, delM_len] at hi1
            rw [List.getElem_take] at hi2
            have hdj : (delM l)[j]'(by rw [delM_len]; exact hj) = l.take j ++ l.drop (j + 1) := by unfold delM; simp
            rw [← hdj] at hi2
            have := nd_inj nd _ _ hi2
            omega
          rw [Int.zero_add]
          refine ⟨_, rfl, _, rfl, (j : Int), rfl, sl_any q4 (fun H5 p5 s5 h5 => ?_)⟩
          rw [cut_to, ← List.map_take] at h5
          have q5 := s5 _ _ q4
          refine ⟨_, rfl, _, rfl, (j : Int), 1, rfl, rfl, ?_⟩
          refine ⟨((j + 1 : Nat) : Int), rfl, tNo (sl_any q5 (fun H6 p6 s6 h6 => ?_))⟩
          rw [cut_from, ← List.map_drop] at h6
          have h56 := s6 _ _ h5
          refine cat_any h56 h6 (by rw [List.length_map, List.length_map, List.length_take, List.length_drop]; omega) (fun H7 p7 s7 h7 => ?_)
          rw [← List.map_append] at h7
          have e7 := s7 _ _ (s6 _ _ (s5 _ _ e4))
          have hg : DGet H7 d (.ref p7) (valV (nD ((bdM l).take j)) (kI (l.take j ++ l.drop (j + 1)))) := DGet.t e7 (by rw [kI_kV]; exact h7)
          rw [nD_none hnew] at hg
          have fin : ∀ n : Int, n = (if j % 2 = 0 then 1 else -1) → ∃ a H8, V.ref d = .ref a ∧ DPut H7 a (.ref p7) (.int n) H8 ∧ ∃ (v3 v4 : Option V), [some (.ref t), some (.ref d), some (.ref q), some (.int 1), some (.int (j : Nat)), some (.ref p7)] = [some (.ref t), some (.ref d), some (.ref q), some (.int 1), v3, v4] ∧ Same H H8 ∧ H8 d = some (.dT (nD ((bdM l).take (j + 1)))) := by
            rintro n rfl
            refine ⟨d, _, rfl, DPut.t e7 (by rw [kI_kV]; exact h7) ?_, _, _, rfl, same_put hd (s4.trans (s5.trans (s6.trans s7))), ?_⟩
            · rw [nD_len, List.length_take, bdM_len]
              exact Nat.lt_of_le_of_lt (show _ ≤ 8 by omega) (by decide)
            · rw [upd_same, nD_put hnew, List.take_add_one, hjl]; rfl
          refine ⟨_, rfl, d, rfl, .inr ⟨_, .inl e7⟩, _, rfl, none, hg, _, rfl, _, _, rfl, rfl, (by show (0 : Int) < 2; decide), rfl, _, rfl, ?_⟩
          by_cases hp : j % 2 = 0
          · have hd2 : decide (V.int ((j : Int) % 2) = V.int 0) = true := decide_eq_true (by rw [show ((j : Int) % 2) = 0 by omega])
            rw [hd2]
            refine iteT ⟨_, rfl, _, _, rfl, rfl, _, rfl, _, rfl, ?_⟩
            exact fin _ (by rw [if_pos hp]; rfl)
          · have hd2 : decide (V.int ((j : Int) % 2) = V.int 0) = false := decide_eq_false (fun z => hp (by have := V.int.inj z; omega))
            rw [hd2]
            refine iteF ⟨_, rfl, _, rfl, _, _, rfl, rfl, _, rfl, _, rfl, ?_⟩
            exact fin _ (by rw [if_neg hp]; rfl)
        · rintro σ H4 ⟨u3, u4, rfl, s4, e4⟩
          rw [show (bdM l).take l.length = bdM l by rw [← bdM_len l]; exact List.take_length] at e4
          exact ⟨_, _, _, _, rfl, s4, by rw [if_neg (by decide)]; exact e4⟩
    · rintro σ H' ⟨v1, v2, v3, v4, rfl, sm, hD⟩
      have hD' : H' d = some (.dT (nD (bdM l))) := hD
      refine ⟨_, rfl, d, bdM l, rfl, hD', by rw [bdM_len]; omega, ?_, fun H2 p M s2 hp hP tM pm => ?_⟩
      · intro p hp
        unfold bdM at hp
        obtain ⟨i, _, rfl⟩ := List.mem_map.1 hp
        show (if i % 2 = 0 then (1 : Int) else -1) ≠ 0
        split <;> decide
      · exact k H2 p M (sm.trans s2) (sm.free hp) hP tM pm
end
end K63W


namespace K63W
open PySem L2 RZ StX PySem.W

abbrev sRowsAt : Stmt := top 29

/-- what a list of pairs says of a key, 0 if nothing -/
def lkI (L : List (List Int × Int)) (a : List Int) : Int := ((L.find? fun p => decide (p.1 = a)).map (·.2)).getD 0
theorem lkI_none {L : List (List Int × Int)} {a : List Int} (h : a ∉ L.map (·.1)) : lkI L a = 0 := by
  unfold lkI
  rw [List.find?_eq_none.2]
  · rfl
  · intro p hp e
    exact h (List.mem_map.2 ⟨p, hp, of_decide_eq_true e⟩)
theorem lkI_some {L : List (List Int × Int)} {a : List Int} {n : Int} (hn : (L.map (·.1)).Nodup) (h : (a, n) ∈ L) : lkI L a = n := by
  induction L with
  | nil => cases h
  | cons p L ih =>
    rw [List.map_cons, List.nodup_cons] at hn
    unfold lkI
    rw [List.find?_cons]
    by_cases e : p.1 = a
    · rw [decide_eq_true e]
      rcases List.mem_cons.1 h with e2 | h2
      · rw [← e2]; rfl
      · exact absurd (List.mem_map.2 ⟨_, h2, rfl⟩) (by rw [← e] at *; exact hn.1)
    · rw [decide_eq_false e]
      rcases List.mem_cons.1 h with e2 | h2
      · exact absurd (by rw [← e2]) e
      · exact ih hn.2 h2
theorem lkI_perm {L L' : List (List Int × Int)} (p : L.Perm L') (hn : (L.map (·.1)).Nodup) (a : List Int) : lkI L a = lkI L' a := by
  have hn' : (L'.map (·.1)).Nodup := (p.map _).nodup_iff.1 hn
  by_cases h : a ∈ L.map (·.1)
  · obtain ⟨q, hq, rfl⟩ := List.mem_map.1 h
    rw [lkI_some hn (n := q.2) hq, lkI_some hn' (n := q.2) (p.mem_iff.1 hq)]
  · rw [lkI_none h, lkI_none (fun z => h ((p.map _).mem_iff.2 z))]
theorem lkI_snoc {L : List (List Int × Int)} {p : List Int × Int} (h : p.1 ∉ L.map (·.1)) (a : List Int) : lkI (L ++ [p]) a = if a = p.1 then p.2 else lkI L a := by
  unfold lkI
  rw [List.find?_append]
  by_cases e : a = p.1
  · subst e
    rw [if_pos rfl, List.find?_eq_none.2]
    · simp
    · intro q hq e; exact h (List.mem_map.2 ⟨q, hq, of_decide_eq_true e⟩)
  · rw [if_neg e]
    have : List.find? (fun q => decide (q.1 = a)) [p] = none := by simp [Ne.symm e]
    rw [this]; simp
/-- the matrix of boundaries between two lists of faces -/
def incM (A U : List (List Int)) (i j : Nat) : Int := lkI (bdM (U.getD j [])) (A.getD i [])

theorem Tb.setItem {H1 H : Hp} {D : Addr} {n m : Nat} {f : Nat → Nat → Int} {ad : Nat → Addr} (t : Tb H1 H D n m f ad) {i j : Nat} (hi : i < n) (x : Int) :
    Tb H1 (upd H (ad i) (.lst ((rV m (f i)).set j (.int x)))) D n m (fun r c => if r = i ∧ c = j then x else f r c) ad := by
  refine ⟨same_put (t.new i hi) t.same, t.d0, by rw [upd_ne (t.ne i hi)]; exact t.top, fun r hr => ?_, t.new, t.ne, t.inj⟩
  by_cases e : r = i
  · subst e
    rw [upd_same, rV_set]
    exact congrArg (fun z => some (HO.lst z)) (rV_congr fun c _ => by simp)
  · rw [upd_ne (fun z => e (t.inj _ _ hr hi z)), t.row r hr]
    exact congrArg (fun z => some (HO.lst z)) (rV_congr fun c _ => by simp [e])
theorem Tb.congr {H1 H : Hp} {D : Addr} {n m : Nat} {f g : Nat → Nat → Int} {ad : Nat → Addr} (t : Tb H1 H D n m f ad) (h : ∀ i j, i < n → j < m → f i j = g i j) : Tb H1 H D n m g ad :=
  ⟨t.same, t.d0, t.top, fun r hr => by rw [t.row r hr, rV_congr (fun j hj => h r j hr hj)], t.new, t.ne, t.inj⟩
theorem rep_zero (n : Nat) : (List.replicate n [V.int 0]).flatten = rV n (fun _ => 0) := by
  induction n with
  | zero => rfl
  | succ n ih => rw [List.replicate_succ', List.flatten_append, ih, rV_snoc]; rfl

theorem Tb.rebase {H0 H1 H : Hp} {D : Addr} {n m : Nat} {f : Nat → Nat → Int} {ad : Nat → Addr} (t : Tb H1 H D n m f ad) (s : Same H0 H1) : Tb H0 H D n m f ad :=
  ⟨s.trans t.same, s.free t.d0, t.top, t.row, fun r hr => s.free (t.new r hr), t.ne, t.inj⟩
/-- built while the dict at d was locked -/
theorem Tb.unlock {H1 H : Hp} {D d : Addr} {o : Obj} {u : HO} {n m : Nat} {f : Nat → Nat → Int} {ad : Nat → Addr} (t : Tb (upd H1 d (.frz o u)) H D n m f ad) (hd : H1 d = some u) : Tb H1 (upd H d u) D n m f ad := by
  have nf : ∀ {x}, upd H1 d (.frz o u) x = none → x ≠ d ∧ H1 x = none := fun {x} e => by
    by_cases c : x = d
    · rw [c, upd_same] at e; cases e
    · rw [upd_ne c] at e; exact ⟨c, e⟩
  refine ⟨fun b x e => ?_, (nf t.d0).2, by rw [upd_ne (nf t.d0).1]; exact t.top, fun r hr => by rw [upd_ne (nf (t.new r hr)).1]; exact t.row r hr, fun r hr => (nf (t.new r hr)).2, t.ne, t.inj⟩
  by_cases c : b = d
  · rw [c] at e ⊢; rw [upd_same, ← e, hd]
  · rw [upd_ne c]; exact t.same _ _ (by rw [upd_ne c]; exact e)
/-- a list's items with their places -/
def lowD (A : List (List Int)) (i : Nat) : List (List Int × Int) := (List.range i).map fun j => (A.getD j [], (j : Int))
theorem lowD_keys {A : List (List Int)} {i : Nat} (h : i ≤ A.length) : (lowD A i).map (·.1) = A.take i := by
  unfold lowD
  rw [List.map_map]
  apply List.ext_getElem?
  intro j
  rw [List.getElem?_take]
  by_cases hj : j < i
  · rw [List.getElem?_map, List.getElem?_range hj, if_pos hj, List.getElem?_eq_getElem (by omega)]
    simp [List.getD, List.getElem?_eq_getElem (by omega : j < A.length)]
  · rw [List.getElem?_map, List.getElem?_eq_none (by simp; omega), if_neg hj]; rfl
theorem lowD_len (A : List (List Int)) (i : Nat) : (lowD A i).length = i := by unfold lowD; simp
theorem lowD_succ (A : List (List Int)) (i : Nat) : lowD A (i + 1) = lowD A i ++ [(A.getD i [], (i : Int))] := by unfold lowD; rw [List.range_succ, List.map_append]; rfl

structure ROk (A U : List (List Int)) : Prop where
  nd : A.Nodup
  und : ∀ u ∈ U, u.Nodup ∧ u.length ≤ 8
  sub : ∀ u ∈ U, ∀ a ∈ delM u, a ∈ A
  lenA : A.length ≤ 200
  lenU : U.length ≤ 200

section
variable {P : Program} {w : World} {K : PySem.W.Frag} {mg : Str → Option Value} {base : Heap}
abbrev nmRa : List Str := ["shape", "degree", "lower", "upper", "found", "column", "simplex", "part", "number", "at", "row"]
theorem sc29 : FnScope nmRa ["shape", "degree"] (defScope sRowsAt) := ⟨rfl, rfl, rfl, by decide +kernel, rfl, by decide +kernel, by decide +kernel⟩
def spRowsAt (C : Addr) : Sp := fun vs H Q _ => ∃ (p : Addr) (Ls : List (List Int)) (n : Int), vs = [.ref p, .int n] ∧ CxAt C H p Ls ∧ Ls.length ≤ 400 ∧ ROk (atM Ls (n - 1)) (atM Ls n) ∧
  ∀ H' q ad, Tb H H' q (atM Ls (n - 1)).length (atM Ls n).length (incM (atM Ls (n - 1)) (atM Ls n)) ad → Q (.ref q) H'
theorem ok_rowsAt {f f1 f2 C : Addr} {fd fd1 fd2 : FuncData} (F : Fun K "rows_at" "rows_at" sRowsAt f fd) (B : Bl mg) (T : CTxt K mg C)
    (G1 : FnOk P w K mg base CX0 2 f1 fd1 ["shape", "degree"] (spSimplicesAt C)) (k1 : Lk K mg "simplices_at" f1 fd1 ["shape", "degree"])
    (G2 : FnOk P w K mg base CX0 2 f2 fd2 ["chain"] spBoundaryIn) (k2 : Lk K mg "boundary_in" f2 fd2 ["chain"]) :
    FnOk P w K mg base CX0 3 f fd ["shape", "degree"] (spRowsAt C) := by
  refine F.ok sc29 (fun vs H Q E h => ?_) (fun cdv A outer s H vs Q E hr h => ?_)
  · obtain ⟨_, _, _, rfl, _⟩ := h
    rfl
  · obtain ⟨p, Ls, n, rfl, hC, h400, ok, k⟩ := h
    have hu := hu_of hr
    refine ⟨_, pss_cons (ps_setDg1 (i := 2) (own := [("at", 9), ("simplex", 6)]) (g := gTup K 2 (gCons (gName 9) (gCons (gName 6) gNil))) (o0 := .dT []) (tk := tVar 6) (tv := tVar 9) rfl rfl (swd_true rfl rfl rfl (by decide +kernel)) (Nat.lt_of_succ_lt hu) (.inr rfl) rfl sc29.nd
          (pi_enum (by rfl) B.enumerate (pa_cons (pe_call G1 hr rfl k1.g k1.k k1.b .nil pass0 (pa_cons (pv 0) (pa_cons (pe_op op_sub (pv 1) pe_int) pa_nil))) pa_nil)) (blkOk_by (own := [("at", 9), ("simplex", 6)]) (N := nmRa) (sc := defScope sRowsAt) (by decide +kernel))
          (fun _ _ _ _ _ => pg_tup rfl (pgs_cons (pg_name (i := 9) sc29.nd rfl (Or.inl rfl)) (pgs_cons (pg_name (i := 6) sc29.nd rfl (Or.inl rfl)) pgs_nil))) (fun _ _ _ _ _ => pts_nil) (fun _ _ _ _ _ => pv 6) (fun _ _ _ _ _ => pv 9))
      (pss_cons (ps_set (i := 3) sc29.nd rfl (Or.inr rfl) (pe_call G1 hr rfl k1.g k1.k k1.b .nil pass0 (pa_cons (pv 0) (pa_cons (pv 1) pa_nil))))
      (pss_cons (ps_lock (ps_setLc (i := 4) (own := [("row", 10)]) (g := gName 10) (te := tOp rRep (tLst (tCons (tC (.int 0)) tNil)) (tCB (rLenQ K) (tCons (tVar 3) tNil))) (by rfl) sc29.nd rfl rfl (sw_true rfl rfl rfl (by decide +kernel))
          (pi_keys (pv 2)) (blkOk_by (own := [("row", 10)]) (N := nmRa) (sc := defScope sRowsAt) (by decide +kernel)) (fun _ _ _ _ _ => pg_name (i := 10) sc29.nd rfl (Or.inl rfl)) (fun _ _ _ _ _ => pts_nil)
          (fun _ _ _ _ _ => pe_op op_rep (pe_lst (pa_cons pe_int pa_nil)) (pe_callB call_len_seq (by rfl) B.len PySem.boot_len (pa_cons (pv 3) pa_nil)))))
      (pss_cons (ps_for PassesOwn.never rfl (pi_enum (by rfl) B.enumerate (pa_cons (pv 3) pa_nil)) (pg_tup rfl (pgs_cons (pg_name (i := 5) sc29.nd rfl (Or.inl rfl)) (pgs_cons (pg_name (i := 6) sc29.nd rfl (Or.inl rfl)) pgs_nil)))
        (pss_one (ps_for PassesOwn.never rfl (pi_tup (pe_call G2 hr rfl k2.g k2.k k2.b .nil pass0 (pa_cons (pe_tup (pa_cons (pe_tup (pa_cons (pv 6) (pa_cons pe_int pa_nil))) pa_nil)) pa_nil))) (pg_tup rfl (pgs_cons (pg_name (i := 7) sc29.nd rfl (Or.inl rfl)) (pgs_cons (pg_name (i := 8) sc29.nd rfl (Or.inl rfl)) pgs_nil)))
          (pss_one (ps_asg (pv 8) (pg_sub (pe_ix ix_list (pv 4) (pe_dget hu (pv 2) (pv 7) (fun _ _ => rfl)) (fun _ _ => rfl)) (pv 5) set_list))))))
      (pss_one (ps_ret (pv 4)))))), ?_⟩
    obtain ⟨A, hA⟩ : ∃ A, A = atM Ls (n - 1) := ⟨_, rfl⟩
    obtain ⟨U, hU⟩ : ∃ U, U = atM Ls n := ⟨_, rfl⟩
    rw [← hA, ← hU] at ok k
    have gA : ∀ {i}, i < A.length → A[i]? = some (A.getD i []) := fun {i} hi => by rw [List.getD_eq_getElem?_getD, List.getElem?_eq_getElem hi]; rfl
    have nA : ∀ {i}, i < A.length → A.getD i [] ∉ A.take i := fun {i} hi hm => by
      obtain ⟨j, hj, e⟩ := List.getElem_of_mem hm
      rw [List.length_take] at hj
      rw [List.getElem_take] at e
      have e2 : A.getD i [] = A[i] := by rw [List.getD_eq_getElem?_getD, List.getElem?_eq_getElem hi]; rfl
      rw [e2] at e
      have := nd_inj ok.nd _ _ e
      omega
    refine ⟨_, rfl, _, rfl, _, _, rfl, rfl, p, Ls, n - 1, rfl, hC, h400, fun H1 a LA s1 ha tA eA hLA => ?_⟩
    rw [← hA] at eA
    have lA : LA.length = A.length := by rw [← eA, List.length_map]
    refine ⟨a, _, rfl, SqL.of hLA, fun d hd => ?_⟩
    refine dg_it (walk_enum (K := K) (a := a) (xs := refs LA)) (fun i H' => Same H1 H' ∧ H' d = some (.dT (nD (lowD A i)))) ⟨same_upd hd, upd_same⟩ (fun i H' _ q => SqL.of (q.1 _ _ hLA)) ?_ ?_
    · rintro i x H2 H3 hi ⟨s2, hD2⟩ ⟨T0, x1, x2, rfl, hT0, rfl, e3, e4⟩
      cases e3
      obtain ⟨b, hb, rfl⟩ := map_at e4
      rw [refs_len, lA] at hi
      have hbA : b.2 = A.getD i [] := by
        have : A[i]? = some b.2 := by rw [← eA, List.getElem?_map, hb]; rfl
        rw [gA hi] at this
        exact (Option.some.inj this).symm
      have s3 := same_upd (o := .tup [.int (i : Nat), V.ref b.1]) hT0
      refine ⟨T0, _, rfl, SqT.of upd_same, rfl, _, _, rfl, _, _, rfl, rfl, rfl, ?_⟩
      unfold tYes
      refine iteT ⟨_, rfl, _, rfl, _, DPut.t (s3 _ _ hD2) (k := kI (A.getD i [])) (by rw [kI_kV, ← hbA]; exact s3 _ _ (s2 _ _ (tA b (mem_at hb)))) ?_, same_put hd (s2.trans s3), ?_⟩
      · rw [nD_len, lowD_len]
        exact Nat.lt_of_lt_of_le (Nat.lt_of_lt_of_le hi ok.lenA) (by decide)
      · rw [upd_same, nD_put (by rw [lowD_keys (by omega)]; exact nA hi), lowD_succ]
    rintro H2 ⟨s2, hD2⟩
    rw [refs_len, lA] at hD2
    refine ⟨_, rfl, _, rfl, p, Ls, n, rfl, (hC.same s1).same s2, h400, fun H3 u LU s3 hu0 tU eU hLU => ?_⟩
    rw [← hU] at eU
    have lU : LU.length = U.length := by rw [← eU, List.length_map]
    have hD3 := s3 _ _ hD2
    have sH3 : Same H H3 := s1.trans (s2.trans s3)
    refine ⟨d, _, hD3, True.intro, fun od => ?_⟩
    have lk : upd H3 d (.frz od (.dT (nD (lowD A A.length)))) d = some (.frz od (.dT (nD (lowD A A.length)))) := upd_same
    refine ⟨_, rfl, d, od, rfl, .inr ⟨_, lk, fun q hq => ?_⟩⟩
    have nud : u ≠ d := ne_of hLU hD3 (by intro z; cases z)
    have hLU4 : upd H3 d (.frz od (.dT (nD (lowD A A.length)))) u = some (.lst (refs LU)) := by rw [upd_ne nud]; exact hLU
    refine lc_it (walk_keysT (d := d) (o := od) (kvs := nD (lowD A A.length))) (fun i H' => ∃ ad, Tb (upd H3 d (.frz od (.dT (nD (lowD A A.length))))) H' q i U.length (fun _ _ => 0) ad)
      ⟨fun _ => 0, Tb.start hq⟩ (fun i H' _ ⟨_, t⟩ => t.same _ _ lk) ?_ ?_
    · rintro i x H4 H5 hi ⟨ad, tb⟩ ⟨rfl, kk, vv, q0, hx, rfl, hq0⟩
      rw [nD_len, lowD_len] at hi
      refine ⟨rfl, ?_⟩
      unfold tYes
      refine iteT ⟨by show 1 ≤ sizeLine; decide, fun l hl => ?_⟩
      have s5 := same_upd (o := .lst [.int 0]) hl
      have hl5 : upd H5 l (.lst [.int 0]) l = some (.lst [.int 0]) := upd_same
      have tb5 := tb.mono s5
      generalize upd H5 l (.lst [.int 0]) = H6 at s5 hl5 tb5
      have hlenU := ok.lenU
      refine ⟨_, rfl, u, _, rfl, .inl (SqL.of (tb5.same _ _ hLU4)), l, _, _, rfl, rfl, hl5, ?_, ?_, ?_, fun z hz => ?_⟩
      · rw [refs_len]; omega
      · rw [refs_len]; omega
      · rw [refs_len]
        show 1 * ((LU.length : Nat) : Int).toNat ≤ sizeLine
        exact Nat.le_trans (show _ ≤ 200 by omega) (by decide)
      · rw [refs_len, Int.toNat_natCast, rep_zero, lU]
        exact tb5.put (same_upd hz) hz upd_same (by have := ok.lenA; omega)
    rintro H4 ⟨ad, tb⟩
    rw [nD_len, lowD_len] at tb
    refine ⟨tb.same _ _ lk, ?_⟩
    have tb5 := tb.unlock hD3
    generalize upd H4 d (.dT (nD (lowD A A.length))) = H5 at tb5
    refine ⟨_, rfl, u, _, rfl, SqL.of (tb5.same _ _ hLU), ?_⟩
    refine for_it (walk_enum (K := K) (a := u) (xs := refs LU))
      (fun c σ H' => ∃ (v5 v6 v7 v8 : Option V), σ = [some (.ref p), some (.int n), some (.ref d), some (.ref u), some (.ref q), v5, v6, v7, v8, none, none] ∧
        Tb H3 H' q A.length U.length (fun i j => if j < c then incM A U i j else 0) ad)
      ⟨none, none, none, none, rfl, tb5.congr fun i j _ _ => by rw [if_neg (Nat.not_lt_zero _)]⟩ (fun c σ H' _ ⟨_, _, _, _, _, t⟩ => SqL.of (t.same _ _ hLU)) ?_ ?_
    · rintro c x σ H6 H7 hc ⟨v5, v6, v7, v8, rfl, t6⟩ ⟨T0, x1, x2, rfl, hT0, rfl, e3, e4⟩
      cases e3
      obtain ⟨b, hb, rfl⟩ := map_at e4
      rw [refs_len, lU] at hc
      have hbU : U[c]? = some b.2 := by rw [← eU, List.getElem?_map, hb]; rfl
      have hbm : b.2 ∈ U := mem_at hbU
      have hbg : U.getD c [] = b.2 := by rw [List.getD_eq_getElem?_getD, hbU]; rfl
      have s7 := same_upd (o := .tup [.int (c : Nat), V.ref b.1]) hT0
      have t7 := t6.mono s7
      refine ⟨T0, _, rfl, SqT.of upd_same, rfl, _, _, rfl, _, _, rfl, rfl, ?_⟩
      generalize upd H6 T0 (.tup [.int (c : Nat), V.ref b.1]) = H8 at s7 t7
      refine ⟨_, rfl, by show 2 ≤ sizeLine; decide, fun e1 he1 => ⟨by show 1 ≤ sizeLine; decide, fun e2 he2 => ?_⟩⟩
      have s8 := same_upd (o := .tup [.ref b.1, .int 1]) he1
      have h8 : upd H8 e1 (.tup [.ref b.1, .int 1]) e1 = some (.tup [.ref b.1, .int 1]) := upd_same
      generalize upd H8 e1 (.tup [.ref b.1, .int 1]) = H9 at s8 h8 he2
      have s9 := same_upd (o := .tup [.ref e1]) he2
      have h9 : upd H9 e2 (.tup [.ref e1]) e2 = some (.tup [.ref e1]) := upd_same
      generalize upd H9 e2 (.tup [.ref e1]) = H10 at s9 h9
      have hb10 := s9 _ _ (s8 _ _ (t7.same _ _ (tU b (mem_at hb))))
      have ob := ok.und b.2 hbm
      refine ⟨e2, e1, b.1, b.2, rfl, h9, s9 _ _ h8, hb10, ob.1, ob.2, fun H11 pT M s11 _ hP tM pm => ?_⟩
      have t11 := t7.mono (s8.trans (s9.trans s11))
      have keysM : (M.map fun b => b.2.2).map (·.1) = M.map fun b => b.2.2.1 := by rw [List.map_map]; rfl
      have ndM : ((M.map fun b => b.2.2).map (·.1)).Nodup := by
        rw [(pm.map _).nodup_iff, bdM_keys]; exact delM_nodup ob.1
      refine ⟨pT, rfl, ⟨_, SqT.of hP⟩, for_tup (K := K) (a := pT) (xs := prs M)
        (fun j σ H' => ∃ (v7 v8 : Option V), σ = [some (.ref p), some (.int n), some (.ref d), some (.ref u), some (.ref q), some (.int (c : Nat)), some (.ref b.1), v7, v8, none, none] ∧ H' pT = some (.tup (prs M)) ∧ PLat H' M ∧
          Tb H3 H' q A.length U.length (fun r k => if k < c then incM A U r k else if k = c then lkI ((M.map fun b => b.2.2).take j) (A.getD r []) else 0) ad)
        ⟨_, _, rfl, hP, tM, t11.congr fun r k _ _ => ?_⟩ (fun j σ H' _ ⟨_, _, _, q, _⟩ => SqT.of q) ?_ ?_⟩
      · by_cases e : k < c
        · rw [if_pos e, if_pos e]
        · rw [if_neg e, if_neg e]
          split
          · rfl
          · rfl
      · rintro j x σ H12 hx ⟨w7, w8, rfl, hP12, tM12, t12⟩
        obtain ⟨m, hm, rfl⟩ := map_at hx
        have hmM := tM12 m (mem_at hm)
        refine ⟨m.1, _, rfl, SqT.of hmM.1, rfl, _, _, rfl, _, _, rfl, rfl, ?_⟩
        have hpart : m.2.2.1 ∈ A := by
          refine ok.sub b.2 hbm _ ?_
          rw [← bdM_keys]
          exact ((pm.map _).mem_iff).1 (List.mem_map.2 ⟨m.2.2, List.mem_map.2 ⟨m, mem_at hm, rfl⟩, rfl⟩)
        obtain ⟨i, hi, hiA⟩ := List.getElem_of_mem hpart
        have hgi : A.getD i [] = m.2.2.1 := by rw [List.getD_eq_getElem?_getD, List.getElem?_eq_getElem hi]; exact hiA
        have hg : DGet H12 d (.ref m.2.1) (some (.int (i : Nat))) := by
          have z := DGet.t (t12.same _ _ hD3) (k := kI m.2.2.1) (by rw [kI_kV]; exact hmM.2)
          rw [nD_some (n := (i : Int)) (by rw [lowD_keys (Nat.le_refl _), List.take_length]; exact ok.nd) (by unfold lowD; exact List.mem_map.2 ⟨i, List.mem_range.2 hi, by rw [hgi]⟩)] at z
          exact z
        refine ⟨_, rfl, _, rfl, _, rfl, _, rfl, d, _, rfl, hg, q, _, i, _, rfl, rfl, SqL.of t12.top, atI_nat (aV_get _ hi), _, rfl, ad i, _, c, c, rfl, rfl, t12.row i hi, ixN_ofNat (by rw [rV_len]; exact hc), ?_⟩
        have t13 := t12.setItem (j := c) hi m.2.2.2
        refine ⟨_, _, rfl, ?_, ?_, t13.congr fun r k hr hk => ?_⟩
        · rw [upd_ne (ne_of hP12 (t12.row i hi) (by intro z; cases z))]; exact hP12
        · exact tM12.put (t12.row i hi)
        · have hjm : (M.map fun b => b.2.2)[j]? = some m.2.2 := by rw [List.getElem?_map, hm]; rfl
          have hnew : m.2.2.1 ∉ ((M.map fun b => b.2.2).take j).map (·.1) := by
            intro hm2
            rw [List.map_take] at hm2
            obtain ⟨j', hj', e⟩ := List.getElem_of_mem hm2
            rw [List.length_take] at hj'
            rw [List.getElem_take] at e
            have hjl : j < ((M.map fun b => b.2.2).map (·.1)).length := by
              have := (List.getElem?_eq_some_iff.mp hm).1
              rw [List.length_map, List.length_map]; exact this
            have e2 : ((M.map fun b => b.2.2).map (·.1))[j] = m.2.2.1 := by
              have : ((M.map fun b => b.2.2).map (·.1))[j]? = some m.2.2.1 := by rw [List.getElem?_map, hjm]; rfl
              rw [List.getElem?_eq_getElem hjl] at this
              exact Option.some.inj this
            rw [← e2] at e
            have := nd_inj ndM _ _ e
            omega
          rw [List.take_add_one, hjm]
          show _ = if k < c then incM A U r k else if k = c then lkI ((M.map fun b => b.2.2).take j ++ [m.2.2]) (A.getD r []) else 0
          rw [lkI_snoc hnew]
          by_cases e1 : k < c
          · rw [if_pos e1, if_neg (by omega), if_pos e1]
          · rw [if_neg e1]
            by_cases e2 : k = c
            · rw [if_pos e2, if_neg e1, if_pos e2]
              by_cases e3 : r = i
              · rw [if_pos ⟨e3, e2⟩, e3, hgi, if_pos rfl]
              · rw [if_neg (fun z => e3 z.1), if_neg]
                intro z
                rw [← hgi] at z
                refine e3 (nd_inj ok.nd hr hi ?_)
                have e5 : A.getD r [] = A[r] := by rw [List.getD_eq_getElem?_getD, List.getElem?_eq_getElem hr]; rfl
                have e6 : A.getD i [] = A[i] := by rw [List.getD_eq_getElem?_getD, List.getElem?_eq_getElem hi]; rfl
                rw [← e5, ← e6]; exact z
            · rw [if_neg (fun z => e2 z.2), if_neg e1, if_neg e2, if_neg e2]
      · rintro σ H12 ⟨w7, w8, rfl, hP12, tM12, t12⟩
        refine ⟨_, _, _, _, rfl, t12.congr fun r k hr hk => ?_⟩
        have hlen : (prs M).length = (M.map fun b => b.2.2).length := by unfold prs; rw [List.length_map, List.length_map]
        rw [hlen, List.take_length]
        by_cases e1 : k < c
        · rw [if_pos e1, if_pos (by omega)]
        · rw [if_neg e1]
          by_cases e2 : k = c
          · rw [if_pos e2, if_pos (by omega), e2]
            unfold incM
            rw [hbg]
            exact lkI_perm pm ndM _
          · rw [if_neg e2, if_neg (by omega)]
    · rintro σ H6 ⟨v5, v6, v7, v8, rfl, t6⟩
      rw [refs_len, lU] at t6
      refine ⟨_, rfl, k H6 q ad ((t6.congr fun i j _ hj => by rw [if_pos hj]).rebase sH3)⟩
end
end K63W


namespace K63W
open PySem L2 RZ StX PySem.W
open K63 (Runs)

abbrev sAllDivisors : Stmt := top 36
abbrev sHoles : Stmt := top 37

theorem incM_abs (A U : List (List Int)) (i j : Nat) : (incM A U i j).natAbs < 2 := by
  unfold incM
  generalize U.getD j [] = u
  generalize A.getD i [] = a
  by_cases h : a ∈ (bdM u).map (·.1)
  · unfold lkI
    cases e : (bdM u).find? fun p => decide (p.1 = a) with
    | none => decide
    | some p =>
      have hp := List.mem_of_find?_eq_some e
      unfold bdM at hp
      obtain ⟨k, _, rfl⟩ := List.mem_map.1 hp
      show (if k % 2 = 0 then (1 : Int) else -1).natAbs < 2
      split <;> decide
  · rw [lkI_none h]; decide

/-- what is asked of a degree -/
def DivOk (Ls : List (List Int)) (n : Int) (r : Nat) : Prop := (n < 0 ∧ r = 0) ∨
  (0 ≤ n ∧ ROk (atM Ls (n - 1)) (atM Ls n) ∧ ((atM Ls (n - 1)).length = 0 → (atM Ls n).length = 0) ∧ Runs (atM Ls (n - 1)).length (atM Ls n).length 0 (incM (atM Ls (n - 1)) (atM Ls n)) r ∧ r ≤ 24)

section
variable {P : Program} {w : World} {K : PySem.W.Frag} {mg : Str → Option Value} {base : Heap}
def rTupOf (K : PySem.W.Frag) : List V → Hp → VK → Prop := fun xs H Q => ∃ p ys, xs = [.ref p] ∧ ((SqL K H p ys ∧ ∀ t, H t = none → Q (.ref t) (upd H t (.tup ys))) ∨ (SqT K H p ys ∧ Q (.ref p) H))
theorem sc36 : FnScope ["shape", "degree", "row"] ["shape", "degree"] (defScope sAllDivisors) := ⟨rfl, rfl, rfl, by decide +kernel, rfl, by decide +kernel, by decide +kernel⟩
def spAllDiv (C : Addr) : Sp := fun vs H Q _ => ∃ (p : Addr) (Ls : List (List Int)) (n : Int) (r : Nat), vs = [.ref p, .int n] ∧ CxAt C H p Ls ∧ Ls.length ≤ 400 ∧ DivOk Ls n r ∧
  ∀ H' q, Same H H' → H q = none → H' q = some (.lst (rV r fun _ => 1)) → Q (.ref q) H'
theorem ok_allDiv {f f1 f2 C : Addr} {fd fd1 fd2 : FuncData} (F : Fun K "all_divisors" "all_divisors" sAllDivisors f fd) (B : Bl mg)
    (G1 : FnOk P w K mg base CX0 3 f1 fd1 ["shape", "degree"] (spRowsAt C)) (k1 : Lk K mg "rows_at" f1 fd1 ["shape", "degree"])
    (G2 : FnOk P w K mg base CX0 5 f2 fd2 ["rows"] spDivisors) (k2 : Lk K mg "divisors" f2 fd2 ["rows"]) :
    FnOk P w K mg base CX0 6 f fd ["shape", "degree"] (spAllDiv C) := by
  refine F.ok sc36 (fun vs H Q E h => ?_) (fun cdv A outer s H vs Q E hr h => ?_)
  · obtain ⟨_, _, _, _, rfl, _⟩ := h
    rfl
  · obtain ⟨p, Ls, n, r, rfl, hC, h400, ok, k⟩ := h
    refine ⟨_, pss_one (ps_ret (pe_ifExp (pt_cmpR op_ge (pv 1) pe_int (nomark _)) (pe_call G2 hr rfl k2.g k2.k k2.b .nil pass0 (pa_cons (pe_callTy call_tuple_of (by rfl) B.tuple (by decide +kernel) (pa_cons
        (pe_lc (own := [("row", 2)]) (g := gName 2) (te := tCB (rTupOf K) (tCons (tVar 2) tNil)) (by rfl) sc36.nd (pi_list (pe_call G1 (hr.mono (by decide)) rfl k1.g k1.k k1.b .nil pass0 (pa_cons (pv 0) (pa_cons (pv 1) pa_nil)))) (blkOk_by (own := [("row", 2)]) (N := ["shape", "degree", "row"]) (sc := defScope sAllDivisors) (by decide +kernel))
          (fun _ _ _ _ _ => pg_name (i := 2) sc36.nd rfl (Or.inl rfl)) (fun _ _ _ _ _ => pts_nil)
          (fun _ _ _ _ _ => pe_callTy call_tuple_of (by rfl) B.tuple (by decide +kernel) (pa_cons (pv 2) pa_nil))) pa_nil)) pa_nil)) (pe_lst pa_nil))), ?_⟩
    refine ⟨_, rfl, _, _, rfl, rfl, _, rfl, ?_⟩
    rcases ok with ⟨hn, rfl⟩ | ⟨hn, ok, hz, hR, hr24⟩
    · rw [show decide ((0 : Int) ≤ n) = false from decide_eq_false (by omega)]
      refine iteF ⟨by show 0 ≤ sizeLine; decide, fun q hq => ?_⟩
      exact k _ q (same_upd hq) hq (by rw [upd_same]; rfl)
    · rw [show decide ((0 : Int) ≤ n) = true from decide_eq_true hn]
      refine iteT ?_
      have oA := ok.lenA
      have oU := ok.lenU
      refine ⟨_, rfl, _, rfl, p, Ls, n, rfl, hC, h400, ok, fun H1 q ad tb => ⟨q, rfl, ⟨_, SqL.of tb.top⟩, fun D hD => ?_⟩⟩
      generalize atM Ls (n - 1) = A at ok hz hR oA tb
      generalize atM Ls n = U at ok hz hR oU tb
      refine lc_it (walk_list (K := K) (a := q) (xs := aV A.length ad)) (fun i H' => Same H1 H' ∧ ∃ a', H' D = some (.lst (aV i a')) ∧ ∀ r, r < i → H' (a' r) = some (.tup (rV U.length (incM A U r))))
        ⟨same_upd hD, ad, by rw [upd_same]; rfl, fun r hr => absurd hr (Nat.not_lt_zero _)⟩ (fun i H' _ q => SqL.of (q.1 _ _ tb.top)) ?_ ?_
      · rintro i x H2 H3 hi ⟨s2, a', hD2, hr2⟩ ⟨rfl, hx⟩
        rw [aV_len] at hi
        rw [aV_get _ hi] at hx
        cases hx
        refine ⟨rfl, ?_⟩
        unfold tYes
        refine iteT ⟨_, rfl, ad i, _, rfl, .inl ⟨SqL.of (s2 _ _ (tb.row i hi)), fun t ht => ?_⟩⟩
        have s3 := same_upd (o := .tup (rV U.length (incM A U i))) ht
        have hD3 := s3 _ _ hD2
        refine ⟨_, hD3, by rw [aV_len]; exact Nat.lt_of_lt_of_le (Nat.lt_of_lt_of_le hi oA) (by decide), same_put hD (s2.trans s3), fun r => if r = i then t else a' r, ?_, fun r hr => ?_⟩
        · rw [upd_same, aV_snoc, if_pos rfl]
          exact congrArg (fun z => some (HO.lst (z ++ [V.ref t]))) (aV_congr fun j hj => by rw [if_neg (by omega)])
        · show upd (upd H3 t (.tup (rV U.length (incM A U i)))) D (.lst (aV i a' ++ [V.ref t])) (if r = i then t else a' r) = _
          by_cases e : r = i
          · subst e
            rw [if_pos rfl, upd_ne (ne_of (upd_same (H := H3) (a := t)) hD3 (by intro z; cases z)), upd_same]
          · rw [if_neg e]
            have h4 := s3 _ _ (hr2 r (by omega))
            rw [upd_ne (ne_of h4 hD3 (by intro z; cases z))]; exact h4
      · rintro H2 ⟨s2, a', hD2, hr2⟩
        rw [aV_len] at hD2 hr2
        refine ⟨D, _, rfl, .inl ⟨SqL.of hD2, fun t ht => ?_⟩⟩
        have s3 := same_upd (o := .tup (aV A.length a')) ht
        refine ⟨t, A.length, U.length, incM A U, a', r, rfl, upd_same, fun r hr => s3 _ _ (hr2 r hr), hz, oA, oU, fun i j _ _ => incM_abs A U i j, hR, hr24, fun H4 z s4 hz hZ => ?_⟩
        have sA := tb.same.trans (s2.trans (s3.trans s4))
        exact k H4 z sA ((tb.same.trans (s2.trans s3)).free hz) hZ

abbrev nmHo : List Str := ["shape", "degree", "upper", "rank", "number"]
theorem sc37 : FnScope nmHo ["shape", "degree"] (defScope sHoles) := ⟨rfl, rfl, rfl, by decide +kernel, rfl, by decide +kernel, by decide +kernel⟩
def spHoles (C : Addr) : Sp := fun vs H Q _ => ∃ (p : Addr) (Ls : List (List Int)) (n : Int) (r r1 : Nat), vs = [.ref p, .int n] ∧ CxAt C H p Ls ∧ Ls.length ≤ 400 ∧ -1 ≤ n ∧ n ≤ 7 ∧ DivOk Ls n r ∧ DivOk Ls (n + 1) r1 ∧
  ∀ H' t e, Same H H' → H t = none → H' t = some (.tup [.int ((atM Ls n).length - (r : Int) - (r1 : Int)), .ref e]) → H' e = some (.tup []) → Q (.ref t) H'
theorem ok_holes {f f1 f2 f3 f4 C : Addr} {fd fd1 fd2 fd3 fd4 : FuncData} (F : Fun K "holes" "holes" sHoles f fd) (B : Bl mg)
    (G1 : FnOk P w K mg base CX0 1 f1 fd1 ["value"] (spNeedComplex C)) (k1 : Lk K mg "need_complex" f1 fd1 ["value"])
    (G2 : FnOk P w K mg base CX0 3 f2 fd2 ["degree", "least"] spNeedDegree) (k2 : Lk K mg "need_degree" f2 fd2 ["degree", "least"])
    (G3 : FnOk P w K mg base CX0 6 f3 fd3 ["shape", "degree"] (spAllDiv C)) (k3 : Lk K mg "all_divisors" f3 fd3 ["shape", "degree"])
    (G4 : FnOk P w K mg base CX0 3 f4 fd4 ["shape", "degree"] (spCountAt C)) (k4 : Lk K mg "count_at" f4 fd4 ["shape", "degree"]) :
    FnOk P w K mg base CX0 7 f fd ["shape", "degree"] (spHoles C) := by
  refine F.ok sc37 (fun vs H Q E h => ?_) (fun cdv A outer s H vs Q E hr h => ?_)
  · obtain ⟨_, _, _, _, _, rfl, _⟩ := h
    rfl
  · obtain ⟨p, Ls, n, r, r1, rfl, hC, h400, hn1, hn7, ok, ok1, k⟩ := h
    refine ⟨_, pss_cons (ps_expr (pe_call G1 (hr.mono (by decide)) rfl k1.g k1.k k1.b .nil pass0 (pa_cons (pv 0) pa_nil)))
      (pss_cons (ps_expr (pe_call G2 (hr.mono (by decide)) rfl k2.g k2.k k2.b .nil pass0 (pa_cons (pv 1) (pa_cons (pe_un un_neg pe_int) pa_nil))))
      (pss_cons (ps_set (i := 2) sc37.nd rfl (Or.inl rfl) (pe_call G3 hr rfl k3.g k3.k k3.b .nil pass0 (pa_cons (pv 0) (pa_cons (pe_op op_add (pv 1) pe_int) pa_nil))))
      (pss_cons (ps_set (i := 3) sc37.nd rfl (Or.inl rfl) (pe_op op_sub (pe_op op_sub (pe_call G4 (hr.mono (by decide)) rfl k4.g k4.k k4.b .nil pass0 (pa_cons (pv 0) (pa_cons (pv 1) pa_nil)))
          (pe_callB call_len_seq (by rfl) B.len PySem.boot_len (pa_cons (pe_call G3 hr rfl k3.g k3.k k3.b .nil pass0 (pa_cons (pv 0) (pa_cons (pv 1) pa_nil))) pa_nil)))
          (pe_callB call_len_seq (by rfl) B.len PySem.boot_len (pa_cons (pv 2) pa_nil))))
      (pss_one (ps_ret (pe_tup (pa_cons (pv 3) (pa_cons (pe_callTy call_tuple_of (by rfl) B.tuple (by decide +kernel) (pa_cons
          (pe_lc (own := [("number", 4)]) (g := gName 4) (tt := tTest (tOp (rI0 fun i j => .bl (decide (j < i))) (tVar 4) (tC (.int 1)))) (te := tVar 4) (by rfl) sc37.nd (pi_list (pv 2)) (blkOk_by (own := [("number", 4)]) (N := nmHo) (sc := defScope sHoles) (by decide +kernel))
            (fun _ _ _ _ _ => pg_name (i := 4) sc37.nd rfl (Or.inl rfl)) (fun _ _ _ _ _ => pts_one (pt_cmpR op_gt (pv 4) pe_int (nomark _))) (fun _ _ _ _ _ => pv 4)) pa_nil)) pa_nil)))))))), ?_⟩
    refine ⟨_, rfl, p, Ls, rfl, hC, ?_⟩
    refine ⟨_, rfl, _, rfl, n, -1, rfl, hn1, hn7, ?_⟩
    refine ⟨_, rfl, _, rfl, _, _, rfl, rfl, p, Ls, n + 1, r1, rfl, hC, h400, ok1, fun H1 q1 s1 hq1 hQ1 => ?_⟩
    refine ⟨_, rfl, _, rfl, p, Ls, n, rfl, hC.same s1, h400, fun H2 s2 => ?_⟩
    refine ⟨_, rfl, _, rfl, p, Ls, n, r, rfl, (hC.same s1).same s2, h400, ok, fun H3 q3 s3 hq3 hQ3 => ?_⟩
    refine ⟨q3, _, rfl, .inl (SqL.of hQ3), _, _, rfl, rfl, ?_⟩
    have hQ13 := s3 _ _ (s2 _ _ hQ1)
    refine ⟨_, rfl, q1, _, rfl, .inl (SqL.of hQ13), _, _, rfl, rfl, ?_⟩
    rw [rV_len, rV_len]
    refine ⟨_, rfl, _, rfl, q1, rfl, ⟨_, SqL.of hQ13⟩, fun D hD => ?_⟩
    refine lc_it (walk_list (K := K) (a := q1) (xs := rV r1 fun _ => 1)) (fun _ H' => Same H3 H' ∧ H' D = some (.lst [])) ⟨same_upd hD, upd_same⟩ (fun i H' _ q => SqL.of (q.1 _ _ hQ13)) ?_ ?_
    · rintro i x H4 H5 hi ⟨s4, hD4⟩ ⟨rfl, hx⟩
      rw [rV_len] at hi
      rw [rV_get _ hi] at hx
      cases hx
      refine ⟨rfl, _, rfl, _, _, rfl, rfl, _, rfl, ?_⟩
      exact iteF ⟨s4, hD4⟩
    · rintro H4 ⟨s4, hD4⟩
      refine ⟨D, _, rfl, .inl ⟨SqL.of hD4, fun e he => ⟨by show 2 ≤ sizeLine; decide, fun t ht => ?_⟩⟩⟩
      have s5 := same_upd (o := .tup []) he
      have s6 := same_upd (o := .tup [.int ((atM Ls n).length - (r : Int) - (r1 : Int)), .ref e]) ht
      have sA := s1.trans (s2.trans (s3.trans (s4.trans s5)))
      exact k _ t e (sA.trans s6) (sA.free ht) upd_same (s6 _ _ upd_same)
end
end K63W


namespace K63W
open PySem L2 RZ StX PySem.W

abbrev sShapeOf : Stmt := top 40

/-- a dict as a set of ints -/
def iD (L : List Int) : List (Key × V) := L.map fun t => (Sum.inl t, V.bl true)
theorem iD_val (L : List Int) (l : Int) : valV (iD L) (Sum.inl l) = if l ∈ L then some (V.bl true) else none := by
  induction L with
  | nil => rfl
  | cons a L ih =>
    by_cases h : a = l
    · subst h
      rw [show iD (a :: L) = (Sum.inl a, V.bl true) :: iD L from rfl, valV_pos rfl]; simp
    · rw [show iD (a :: L) = (Sum.inl a, V.bl true) :: iD L from rfl, valV_neg (fun e => h (Sum.inl.inj e)), ih]
      by_cases h2 : l ∈ L
      · simp [h2]
      · simp [h2, Ne.symm h]
def addI (f : List Int) (p : Int) : List Int := if p ∈ f then f else f ++ [p]
theorem iD_put (L : List Int) (l : Int) : putK (iD L) (Sum.inl l) (V.bl true) = iD (addI L l) := by
  unfold putK addI
  rw [valV_any, iD_val]
  by_cases h : l ∈ L
  · rw [if_pos h, if_pos h]
    show (if true = true then _ else _) = _
    rw [if_pos rfl]
    unfold iD; rw [List.map_map]
    apply List.map_congr_left; intro a _
    show (if (Sum.inl a : Key) = Sum.inl l then ((Sum.inl a : Key), V.bl true) else (Sum.inl a, V.bl true)) = (Sum.inl a, V.bl true)
    split <;> rfl
  · rw [if_neg h, if_neg h]
    show (if false = true then _ else _) = _
    rw [if_neg (by decide)]
    unfold iD; rw [List.map_append]; rfl
theorem iD_len (L : List Int) : (iD L).length = L.length := List.length_map _
theorem iD_at {L : List Int} {i : Nat} {k : Key} {v : V} (h : (iD L)[i]? = some (k, v)) : ∃ t, L[i]? = some t ∧ k = Sum.inl t := by
  unfold iD at h
  rw [List.getElem?_map] at h
  cases e : L[i]? with
  | none => rw [e] at h; cases h
  | some p => rw [e] at h; exact ⟨p, rfl, (congrArg Prod.fst (Option.some.inj h)).symm⟩
def addsI (f ps : List Int) : List Int := ps.foldl addI f
theorem addsI_snoc (f ps : List Int) (p : Int) : addsI f (ps ++ [p]) = addI (addsI f ps) p := by unfold addsI; rw [List.foldl_append]; rfl
theorem addsI_le (ps : List Int) : ∀ f : List Int, (addsI f ps).length ≤ f.length + ps.length := by
  induction ps with
  | nil => intro f; simp [addsI]
  | cons p ps ih =>
    intro f
    have h1 := ih (addI f p)
    have h2 : (addI f p).length ≤ f.length + 1 := by unfold addI; split <;> simp
    have h3 : addsI f (p :: ps) = addsI (addI f p) ps := rfl
    rw [h3, List.length_cons]; omega
def thingsM (Rs : List (List Int)) : List Int := Rs.foldl addsI []
theorem thingsM_snoc (Rs : List (List Int)) (s : List Int) : thingsM (Rs ++ [s]) = addsI (thingsM Rs) s := by unfold thingsM; rw [List.foldl_append]; rfl
theorem thingsM_le (Rs : List (List Int)) (h8 : ∀ l ∈ Rs, l.length ≤ 8) : (thingsM Rs).length ≤ Rs.length * 8 := by
  have : ∀ (B : List (List Int)) (A : List Int), (∀ l ∈ B, l.length ≤ 8) → (B.foldl addsI A).length ≤ A.length + B.length * 8 := by
    intro B
    induction B with
    | nil => intro A _; simp
    | cons s B ih =>
      intro A hB
      have h1 := ih (addsI A s) (fun l hl => hB l (by simp [hl]))
      have h2 := addsI_le s A
      have h3 := hB s (by simp)
      rw [List.foldl_cons, List.length_cons]; omega
  have h := this Rs [] h8
  simpa [thingsM] using h
/-- in which of the first n sets t is -/
def colP (Rs : List (List Int)) (t : Int) (n : Nat) : List Int := ((List.range n).filter fun i => decide (t ∈ Rs.getD i [])).map fun i : Nat => (i : Int)
theorem colP_succ (Rs : List (List Int)) (t : Int) (n : Nat) : colP Rs t (n + 1) = colP Rs t n ++ if t ∈ Rs.getD n [] then [(n : Int)] else [] := by
  unfold colP
  rw [List.range_succ, List.filter_append, List.map_append]
  by_cases h : t ∈ Rs.getD n []
  · have : (List.filter (fun i => decide (t ∈ Rs.getD i [])) [n]) = [n] := List.filter_cons_of_pos (p := fun i => decide (t ∈ Rs.getD i [])) (decide_eq_true h)
    rw [if_pos h, this]; rfl
  · have : (List.filter (fun i => decide (t ∈ Rs.getD i [])) [n]) = [] := List.filter_cons_of_neg (p := fun i => decide (t ∈ Rs.getD i [])) (by rw [decide_eq_false h]; decide)
    rw [if_neg h, this]; rfl
theorem colP_len (Rs : List (List Int)) (t : Int) (n : Nat) : (colP Rs t n).length ≤ n := by
  unfold colP
  rw [List.length_map]
  refine Nat.le_trans (List.length_filter_le _ _) ?_
  rw [List.length_range]; exact Nat.le_refl _
def sosM (Rs : List (List Int)) : List (List Int) := (thingsM Rs).map fun t => colP Rs t Rs.length
theorem inV_ints (t : Int) (ns : List Int) : inV (.int t) (ns.map V.int) = decide (t ∈ ns) := by
  unfold inV
  rw [List.any_map]
  by_cases h : t ∈ ns
  · rw [decide_eq_true h, List.any_eq_true]
    exact ⟨t, h, by show (t == t) = true; exact beq_self_eq_true t⟩
  · rw [decide_eq_false h, List.any_eq_false]
    intro x hx e
    have : x = t := by simpa [eqV] using e
    exact h (this ▸ hx)
theorem flat_ints (ns : List Int) : (ns.map V.int).all flatV = true := by
  rw [List.all_map]; exact List.all_eq_true.2 fun x _ => rfl
/-- lists of ints at their places -/
def LLat (H : Hp) (R : TL) : Prop := ∀ p ∈ R, H p.1 = some (.lst (p.2.map V.int))
theorem LLat.same {H H' : Hp} {L : TL} (h : LLat H L) (s : Same H H') : LLat H' L := fun p hp => s _ _ (h p hp)

section
variable {P : Program} {w : World} {K : PySem.W.Frag} {mg : Str → Option Value} {base : Heap}
abbrev nmSo : List Str := ["sets", "things", "found", "thing", "at", "one"]
theorem sc40 : FnScope nmSo ["sets"] (defScope sShapeOf) := ⟨rfl, rfl, rfl, by decide +kernel, rfl, by decide +kernel, by decide +kernel⟩
def spShapeOf (C : Addr) : Sp := fun vs H Q _ => ∃ (a : Addr) (R : TL), vs = [.ref a] ∧ H a = some (.lst (refs R)) ∧ LLat H R ∧ R.length ≤ 8 ∧ (∀ b ∈ R, b.2.length ≤ 8) ∧ MadeOk (sosM (R.map (·.2))) ∧
  ∀ H' p, Same H H' → H p = none → CxAt C H' p (madeM (sosM (R.map (·.2)))) → Q (.ref p) H'
theorem ok_shapeOf {f f1 C : Addr} {fd fd1 : FuncData} (F : Fun K "shape_of_sets" "shape_of_sets" sShapeOf f fd) (B : Bl mg)
    (G1 : FnOk P w K mg base CX0 7 f1 fd1 ["simplices"] (spMade C)) (k1 : Lk K mg "made" f1 fd1 ["simplices"]) :
    FnOk P w K mg base CX0 8 f fd ["sets"] (spShapeOf C) := by
  refine F.ok sc40 (fun vs H Q E h => ?_) (fun cdv A outer s H vs Q E hr h => ?_)
  · obtain ⟨_, _, rfl, _⟩ := h
    rfl
  · obtain ⟨a, R, rfl, hA, tR, hR8, hb8, ok, k⟩ := h
    have hu := hu_of hr
    refine ⟨_, pss_cons (ps_setDg2 (i := 1) (own := [("one", 5), ("thing", 3)]) (vs1 := [3]) (g := gName 5) (g1 := gName 3) (wi1 := iList K (tVar 5)) (tt1 := tYes) (o0 := .dK []) (tk := tVar 3) (tv := tC (.bl true)) rfl rfl (swd_true rfl rfl rfl (by decide +kernel)) (Nat.lt_of_succ_lt hu) (.inl rfl) rfl sc40.nd
          (pi_list (pv 0)) (blkOk_by (own := [("one", 5), ("thing", 3)]) (N := nmSo) (sc := defScope sShapeOf) (by decide +kernel)) (by decide)
          (fun _ _ _ _ _ => pg_name (i := 5) sc40.nd rfl (Or.inl rfl)) (fun _ _ _ _ _ => pts_nil) (fun _ _ _ _ _ => pi_list (pv 5))
          (fun _ _ _ _ _ => pg_name (i := 3) sc40.nd rfl (Or.inl rfl)) (fun _ _ _ _ _ => pts_nil) (fun _ _ _ _ _ => pv 3) (fun _ _ _ _ _ => pe_bl))
      (pss_cons (ps_set (i := 2) sc40.nd rfl (Or.inl rfl) (pe_lst pa_nil))
      (pss_cons (ps_lock (ps_for PassesOwn.never rfl (pi_keys (pv 1)) (pg_name (i := 3) sc40.nd rfl (Or.inr rfl))
        (pss_one (ps_expr (pe_bm PySem.F.plainAttrs_list PySem.F.slot_list_append PySem.F.type_list_append mt_append (pv 2) (pa_cons (pe_callTy call_tuple_of (by rfl) B.tuple (by decide +kernel) (pa_cons
          (pe_lc (own := [("at", 4), ("one", 5)]) (g := gTup K 2 (gCons (gName 4) (gCons (gName 5) gNil))) (tt := tTest (tOp (rIn K false) (tVar 3) (tVar 5))) (te := tVar 4) (by rfl) sc40.nd (pi_enum (by rfl) B.enumerate (pa_cons (pv 0) pa_nil))
            (blkOk_by (own := [("at", 4), ("one", 5)]) (N := nmSo) (sc := defScope sShapeOf) (by decide +kernel))
            (fun _ _ _ _ _ => pg_tup rfl (pgs_cons (pg_name (i := 4) sc40.nd rfl (Or.inl rfl)) (pgs_cons (pg_name (i := 5) sc40.nd rfl (Or.inl rfl)) pgs_nil)))
            (fun _ _ _ _ _ => pts_one (pt_cmpR op_in_seq (pv 3) (pv 5) (by rfl))) (fun _ _ _ _ _ => pv 4)) pa_nil)) pa_nil))))))
      (pss_one (ps_ret (pe_call G1 hr rfl k1.g k1.k k1.b .nil pass0 (pa_cons (pv 2) pa_nil)))))), ?_⟩
    obtain ⟨Rs, hRs⟩ : ∃ Rs, Rs = R.map (·.2) := ⟨_, rfl⟩
    rw [← hRs] at ok k
    have lR : Rs.length = R.length := by rw [hRs, List.length_map]
    have hb8' : ∀ l ∈ Rs, l.length ≤ 8 := fun l hl => by
      rw [hRs] at hl
      obtain ⟨b, hb, rfl⟩ := List.mem_map.1 hl
      exact hb8 b hb
    have gR : ∀ {i : Nat} {b : Addr × List Int}, R[i]? = some b → Rs[i]? = some b.2 := fun {i b} h => by rw [hRs, List.getElem?_map, h]; rfl
    refine ⟨_, rfl, a, rfl, ⟨_, SqL.of hA⟩, fun d hd => ?_⟩
    refine dg_it (walk_list (K := K) (a := a) (xs := refs R)) (fun i H' => Same H H' ∧ H' d = some (.dK (iD (thingsM (Rs.take i))))) ⟨same_upd hd, upd_same⟩ (fun i H' _ q => SqL.of (q.1 _ _ hA)) ?_ ?_
    · rintro i x H1 H2 hi ⟨s1, hD1⟩ ⟨rfl, hx⟩
      obtain ⟨b, hb, rfl⟩ := map_at hx
      have hbl := s1 _ _ (tR b (mem_at hb))
      refine ⟨rfl, ?_⟩
      unfold tYes
      refine iteT ⟨_, rfl, b.1, rfl, ⟨_, SqL.of hbl⟩, ?_⟩
      have hl1 : (thingsM (Rs.take i)).length ≤ 64 := by
        have h1 := thingsM_le (Rs.take i) (fun l hl => hb8' l (List.mem_of_mem_take hl))
        rw [List.length_take] at h1; omega
      have hl2 := hb8 b (mem_at hb)
      refine two_it (tb1 := bPut (tVar 3) (tC (.bl true))) (D := d) (g1 := gName 3) (tt1 := tYes) (vs1 := [3]) (walk_list (K := K) (a := b.1) (xs := b.2.map V.int)) (fun j H' => Same H H' ∧ H' d = some (.dK (iD (addsI (thingsM (Rs.take i)) (b.2.take j))))) ⟨s1, hD1⟩ (fun j H' _ q => SqL.of (q.1 _ _ (tR b (mem_at hb)))) ?_ ?_
      · rintro j x H3 H4 hj ⟨s3, hD3⟩ ⟨rfl, hx⟩
        obtain ⟨t, ht, rfl⟩ := map_at hx
        refine ⟨rfl, ?_⟩
        unfold tYes
        refine iteT ?_
        refine ⟨_, rfl, _, DPut.k hD3 (k := Sum.inl t) ?_, same_put hd s3, ?_⟩
        · rw [iD_len]
          have h2 := addsI_le (b.2.take j) (thingsM (Rs.take i))
          rw [List.length_take] at h2
          exact Nat.lt_of_le_of_lt (show _ ≤ 100 by omega) (by decide)
        · rw [upd_same, iD_put, List.take_add_one, ht]
          exact congrArg (fun z => some (HO.dK (iD z))) (addsI_snoc _ _ _).symm
      · rintro H3 ⟨s3, hD3⟩
        rw [List.length_map, List.take_length] at hD3
        refine ⟨s3, ?_⟩
        rw [hD3, List.take_add_one, gR hb]
        exact congrArg (fun z => some (HO.dK (iD z))) (thingsM_snoc _ _).symm
    rintro H2 ⟨s2, hD2⟩
    rw [refs_len, ← lR, List.take_length] at hD2
    refine ⟨by show 0 ≤ sizeLine; decide, fun q hq => ?_⟩
    have hdq : d ≠ q := ne_of_none hD2 hq
    have s3 : Same H2 (upd H2 q (.lst [])) := same_upd hq
    refine ⟨d, _, s3 _ _ hD2, True.intro, fun od => ?_⟩
    have lk : upd (upd H2 q (.lst [])) d (.frz od (.dK (iD (thingsM Rs)))) d = some (.frz od (.dK (iD (thingsM Rs)))) := upd_same
    have hq0 : upd H2 d (.frz od (.dK (iD (thingsM Rs)))) q = none := by rw [upd_ne hdq.symm]; exact hq
    have sb : Same (upd H2 d (.frz od (.dK (iD (thingsM Rs))))) (upd (upd H2 q (.lst [])) d (.frz od (.dK (iD (thingsM Rs))))) := by
      intro b o hb
      by_cases h : b = d
      · rw [h] at hb ⊢; rw [upd_same] at hb ⊢; exact hb
      · rw [upd_ne h] at hb ⊢; exact s3 _ _ hb
    have lkb : upd H2 d (.frz od (.dK (iD (thingsM Rs)))) d = some (.frz od (.dK (iD (thingsM Rs)))) := upd_same
    have hAd : a ≠ d := ne_of (s2 _ _ hA) hD2 (by intro z; cases z)
    have hAb : upd H2 d (.frz od (.dK (iD (thingsM Rs)))) a = some (.lst (refs R)) := by rw [upd_ne hAd]; exact s2 _ _ hA
    have tRb : LLat (upd H2 d (.frz od (.dK (iD (thingsM Rs))))) R := fun p hp => by
      have h1 := s2 _ _ (tR p hp)
      rw [upd_ne (ne_of h1 hD2 (by intro z; cases z))]; exact h1
    refine ⟨_, rfl, d, od, rfl, .inl ⟨_, lk, ?_⟩⟩
    have hth := thingsM_le Rs hb8'
    refine for_it (walk_keys (d := d) (o := od) (kvs := iD (thingsM Rs)))
      (fun i σ H' => ∃ (v3 : Option V) (L : TL), σ = [some (.ref a), some (.ref d), some (.ref q), v3, none, none] ∧ Same (upd H2 d (.frz od (.dK (iD (thingsM Rs))))) H' ∧ H' q = some (.lst (refs L)) ∧ TLat H' L ∧ L.map (·.2) = ((thingsM Rs).take i).map fun t => colP Rs t Rs.length)
      ⟨none, [], rfl, sb, by rw [upd_ne hdq.symm, upd_same]; rfl, (fun p hp => nomatch hp), rfl⟩ (fun i σ H' _ ⟨_, _, _, s, _⟩ => s _ _ lkb) ?_ ?_
    · rintro i x σ H3 H4 hi ⟨v3, L, rfl, s4, hq4, tL, eL⟩ ⟨rfl, kk, vv, hx, rfl⟩
      obtain ⟨t, ht, rfl⟩ := iD_at hx
      have hLl : L.length ≤ 64 := by
        have e1 := congrArg List.length eL
        rw [List.length_map, List.length_map, List.length_take] at e1; omega
      refine ⟨_, rfl, .inl ⟨rfl, _, SqL.of hq4⟩, _, rfl, a, _, rfl, SqL.of (s4 _ _ hAb), fun D hD => ?_⟩
      refine lc_it (walk_enum (K := K) (a := a) (xs := refs R)) (fun j H' => Same H4 H' ∧ H' D = some (.lst ((colP Rs t j).map V.int))) ⟨same_upd hD, by rw [upd_same]; rfl⟩ (fun j H' _ q => SqL.of (q.1 _ _ (s4 _ _ hAb))) ?_ ?_
      · rintro j x H5 H6 hj ⟨s5, hD5⟩ ⟨T0, x1, x2, rfl, hT0, rfl, e3, e4⟩
        cases e3
        obtain ⟨b, hb, rfl⟩ := map_at e4
        rw [refs_len] at hj
        have s6 := same_upd (o := .tup [.int (j : Nat), V.ref b.1]) hT0
        have hbl := s6 _ _ (s5 _ _ (s4 _ _ (tRb b (mem_at hb))))
        have hD6 := s6 _ _ hD5
        have hgb : Rs.getD j [] = b.2 := by rw [List.getD_eq_getElem?_getD, gR hb]; rfl
        refine ⟨T0, _, rfl, SqT.of upd_same, rfl, _, _, rfl, _, _, rfl, rfl, rfl, ?_⟩
        refine ⟨_, rfl, _, rfl, b.1, _, rfl, .inl (SqL.of hbl), rfl, flat_ints _, _, rfl, ?_⟩
        rw [show inV (kV (Sum.inl t)) (b.2.map V.int) = decide (t ∈ b.2) from inV_ints t b.2]
        have hcl := colP_len Rs t j
        by_cases hm : t ∈ b.2
        · rw [show (if false = true then !decide (t ∈ b.2) else decide (t ∈ b.2)) = true by rw [if_neg (by decide)]; exact decide_eq_true hm]
          refine iteT ⟨_, rfl, _, hD6, by rw [List.length_map]; exact Nat.lt_of_le_of_lt (show _ ≤ 8 by omega) (by decide), same_put hD (s5.trans s6), ?_⟩
          rw [upd_same, colP_succ, hgb, if_pos hm, List.map_append]; rfl
        · rw [show (if false = true then !decide (t ∈ b.2) else decide (t ∈ b.2)) = false by rw [if_neg (by decide)]; exact decide_eq_false hm]
          refine iteF ⟨s5.trans s6, ?_⟩
          rw [hD6, colP_succ, hgb, if_neg hm, List.append_nil]
      · rintro H5 ⟨s5, hD5⟩
        rw [refs_len, ← lR] at hD5
        refine ⟨D, _, rfl, .inl ⟨SqL.of hD5, fun z hz => ?_⟩⟩
        have s6 := same_upd (o := .tup ((colP Rs t Rs.length).map V.int)) hz
        have hq6 := s6 _ _ (s5 _ _ hq4)
        refine ⟨q, _, _, rfl, rfl, hq6, by rw [refs_len]; exact Nat.lt_of_le_of_lt hLl (by decide), ?_⟩
        refine ⟨_, L ++ [(z, colP Rs t Rs.length)], rfl, same_put hq0 (s4.trans (s5.trans s6)), by rw [upd_same, refs_app]; rfl, ?_, ?_⟩
        · exact ((tL.same s5).fresh hz).put hq6
        · rw [List.map_append, eL, List.take_add_one, ht, List.map_append]; rfl
    · rintro σ H3 ⟨v3, L, rfl, s4, hq4, tL, eL⟩
      rw [iD_len, List.take_length] at eL
      refine ⟨s4 _ _ lkb, ?_⟩
      have hnd : ∀ {b : Addr} {o : HO}, H3 b = some o → (o ≠ .frz od (.dK (iD (thingsM Rs)))) → b ≠ d := by
        intro b o hb hne e
        rw [e, s4 _ _ lkb] at hb
        exact hne (Option.some.inj hb).symm
      have s5 : Same H2 (upd H3 d (.dK (iD (thingsM Rs)))) := by
        intro b o e
        by_cases hb : b = d
        · rw [hb] at e ⊢; rw [upd_same, ← e, hD2]
        · rw [upd_ne hb]; exact s4 _ _ (by rw [upd_ne hb]; exact e)
      refine ⟨_, rfl, q, L, rfl, ?_, ?_, ?_, fun H6 p s6 hp hC => ?_⟩
      · rw [upd_ne hdq.symm]; exact hq4
      · intro p hp
        rw [upd_ne (hnd (tL p hp) (by intro z; cases z))]; exact tL p hp
      · rw [eL]; exact ok
      · rw [eL] at hC
        exact k H6 p (s2.trans (s5.trans s6)) (s2.free (s5.free hp)) hC
end
end K63W


namespace K63W
open PySem L2 RZ StX PySem.W

abbrev sNeedTable : Stmt := top 41
abbrev sRowShape : Stmt := top 42
abbrev sColShape : Stmt := top 43

/-- a table of bits -/
structure TabAt (H : Hp) (t : Addr) (h w : Nat) (T : Nat → Nat → Int) (ad : Nat → Addr) : Prop where
  top : H t = some (.tup (aV h ad))
  row : ∀ r, r < h → H (ad r) = some (.tup (rV w (T r)))
  h8 : h ≤ 8
  w8 : w ≤ 8
  bit : ∀ r c, T r c = 0 ∨ T r c = 1
theorem TabAt.same {H H' : Hp} {t : Addr} {h w : Nat} {T : Nat → Nat → Int} {ad : Nat → Addr} (a : TabAt H t h w T ad) (s : Same H H') : TabAt H' t h w T ad :=
  ⟨s _ _ a.top, fun r hr => s _ _ (a.row r hr), a.h8, a.w8, a.bit⟩
/-- the places of the ones among the first n -/
def onesM (n : Nat) (f : Nat → Int) : List Int := ((List.range n).filter fun j => decide (f j = 1)).map fun j : Nat => (j : Int)
theorem onesM_succ (n : Nat) (f : Nat → Int) : onesM (n + 1) f = onesM n f ++ if f n = 1 then [(n : Int)] else [] := by
  unfold onesM
  rw [List.range_succ, List.filter_append, List.map_append]
  by_cases h : f n = 1 <;> simp [h]
theorem onesM_len (n : Nat) (f : Nat → Int) : (onesM n f).length ≤ n := by
  unfold onesM
  rw [List.length_map]
  refine Nat.le_trans (List.length_filter_le _ _) ?_
  rw [List.length_range]; exact Nat.le_refl _
/-- has the row a one -/
def hasOne (n : Nat) (f : Nat → Int) : Bool := decide ((1 : Int) ∈ (List.range n).map f)
def rowsM (h w : Nat) (T : Nat → Nat → Int) : List (List Int) := (List.range h).map fun r => onesM w (T r)
def colsM (h w : Nat) (T : Nat → Nat → Int) : List (List Int) := ((List.range h).filter fun r => hasOne w (T r)).map fun r => onesM w (T r)
theorem rowsM_succ (h w : Nat) (T : Nat → Nat → Int) : rowsM (h + 1) w T = rowsM h w T ++ [onesM w (T h)] := by
  unfold rowsM; rw [List.range_succ, List.map_append]; rfl
theorem colsM_succ (h w : Nat) (T : Nat → Nat → Int) : colsM (h + 1) w T = colsM h w T ++ if hasOne w (T h) = true then [onesM w (T h)] else [] := by
  unfold colsM
  rw [List.range_succ, List.filter_append, List.map_append]
  by_cases hh : hasOne w (T h) = true <;> simp [hh]

section
variable {P : Program} {w : World} {K : PySem.W.Frag} {mg : Str → Option Value} {base : Heap}
theorem sc41 : FnScope ["table", "row", "bit"] ["table"] (defScope sNeedTable) := ⟨rfl, rfl, rfl, by decide +kernel, rfl, by decide +kernel, by decide +kernel⟩
def spNeedTable : Sp := fun vs H Q _ => ∃ (t : Addr) (h w : Nat) (T : Nat → Nat → Int) (ad : Nat → Addr), vs = [.ref t] ∧ TabAt H t h w T ad ∧ ∀ H', Same H H' → Q .non H'
theorem ok_needTable {f f1 f2 : Addr} {fd fd1 fd2 : FuncData} {t8 : Tok} (F : Fun K "need_table" "need_table" sNeedTable f fd) (B : Bl mg)
    (G1 : FnOk P w K mg base CX0 1 f1 fd1 ["value", "least", "most"] (spIsList K)) (k1 : Lk K mg "is_list" f1 fd1 ["value", "least", "most"])
    (G2 : FnOk P w K mg base CX0 2 f2 fd2 ["value", "least", "most"] spIsIn) (k2 : Lk K mg "is_in" f2 fd2 ["value", "least", "most"]) (mS : mg "MOST_SIDE" = some (.int 8 t8)) :
    FnOk P w K mg base CX0 3 f fd ["table"] spNeedTable := by
  refine F.ok sc41 (fun vs H Q E h => ?_) (fun cdv A outer s H vs Q E hr h => ?_)
  · obtain ⟨_, _, _, _, _, rfl, _⟩ := h
    rfl
  · obtain ⟨t, hh, ww, T, ad, rfl, tb, k⟩ := h
    refine ⟨_, pss_cons (ps_if (pt_not (pt_val (pe_call G1 (hr.mono (by decide)) rfl k1.g k1.k k1.b .nil pass0 (pa_cons (pv 0) (pa_cons pe_int (pa_cons (pe_glob (v := .int 8) rfl mS ⟨_, rfl⟩) pa_nil)))))) (pss_one ps_never) pss_nil)
      (pss_one (ps_for PassesOwn.never rfl (pi_tup (pv 0)) (pg_name (i := 1) sc41.nd rfl (Or.inl rfl))
        (pss_one (ps_if (PW.pt (pw_or (pt_not (pt_val (pe_call G1 (hr.mono (by decide)) rfl k1.g k1.k k1.b .nil pass0 (pa_cons (pv 1) (pa_cons pe_int (pa_cons (pe_glob (v := .int 8) rfl mS ⟨_, rfl⟩) pa_nil))))))
          (pw_or (pt_cmpR op_ne (pe_callB call_len_seq (by rfl) B.len PySem.boot_len (pa_cons (pv 1) pa_nil)) (pe_callB call_len_seq (by rfl) B.len PySem.boot_len (pa_cons (pe_ix ix_tup (pv 0) pe_int (fun _ _ => rfl)) pa_nil)) (nomark _))
          (pw_or1 (pt_not (pt_val (pe_callB (cr_all rfl) (by rfl) B.all (by decide +kernel) (pa_cons
            (pe_lc (own := [("bit", 2)]) (g := gName 2) (by rfl) sc41.nd (pi_tup (pv 1)) (blkOk_by (own := [("bit", 2)]) (N := ["table", "row", "bit"]) (sc := defScope sNeedTable) (by decide +kernel))
              (fun _ _ _ _ _ => pg_name (i := 2) sc41.nd rfl (Or.inl rfl)) (fun _ _ _ _ _ => pts_nil)
              (fun _ _ _ _ _ => pe_call G2 hr rfl k2.g k2.k k2.b .nil pass0 (pa_cons (pv 2) (pa_cons pe_int (pa_cons pe_int pa_nil))))) pa_nil))))))))
          (pss_one ps_never) pss_nil)))), ?_⟩
    have h8 := tb.h8
    have w8 := tb.w8
    refine ⟨_, rfl, t, _, 0, 8, rfl, tb.top, by rw [aV_len]; omega, by rw [aV_len]; omega, true, rfl, iteF ?_⟩
    refine ⟨_, rfl, t, rfl, ⟨_, SqT.of tb.top⟩, for_tup (K := K) (a := t) (xs := aV hh ad) (fun i σ H' => ∃ v : Option V, σ = [some (.ref t), v, none] ∧ Same H H') ⟨none, rfl, Same.rfl'⟩ (fun i σ H' _ ⟨_, _, s⟩ => SqT.of (s _ _ tb.top)) ?_ ?_⟩
    · rintro i x σ H1 hx ⟨v, rfl, s1⟩
      have hi : i < hh := by have := (List.getElem?_eq_some_iff.mp hx).1; rwa [aV_len] at this
      rw [aV_get _ hi] at hx
      cases hx
      have t1 := tb.same s1
      refine ⟨_, rfl, ad i, _, 0, 8, rfl, t1.row i hi, by rw [rV_len]; omega, by rw [rV_len]; omega, true, rfl, iteF ?_⟩
      refine ⟨_, rfl, ad i, _, rfl, .inr (SqT.of (t1.row i hi)), _, rfl, t, _, 0, _, rfl, rfl, SqT.of t1.top, atI_nat (aV_get ad (by omega : 0 < hh)), ad 0, _, rfl, .inr (SqT.of (t1.row 0 (by omega))), rfl, _, rfl, ?_⟩
      rw [rV_len, rV_len, show (!decide (V.int (ww : Nat) = V.int (ww : Nat))) = false by rw [decide_eq_true rfl]; rfl]
      refine iteF ?_
      refine ⟨_, rfl, ad i, rfl, ⟨_, SqT.of (t1.row i hi)⟩, fun D hD => ?_⟩
      refine lc_it (walk_tup (K := K) (a := ad i) (xs := rV ww (T i))) (Cmp H1 D fun j => (List.replicate j true).map V.bl) (Cmp.start hD rfl) (fun j H' _ p => SqT.of (p.same _ _ (t1.row i hi))) ?_ ?_
      · rintro j x H2 H3 hj c ⟨rfl, hx⟩
        rw [rV_len] at hj
        rw [rV_get _ hj] at hx
        cases hx
        refine ⟨rfl, ?_⟩
        unfold tYes
        refine iteT ⟨_, rfl, T i j, 0, 1, rfl, ?_, ?_, ?_⟩
        · rcases tb.bit i j with z | z <;> rw [z] <;> decide
        · rcases tb.bit i j with z | z <;> rw [z] <;> decide
        · exact c.put hD Same.rfl' (rep_succ j) (by simp; omega)
      · intro H2 c
        refine ⟨D, _, rfl, SqL.of c.lst, ?_⟩
        rw [rep_all]
        exact ⟨_, rfl, iteF ⟨_, rfl, s1.trans c.same⟩⟩
    · rintro σ H1 ⟨v, rfl, s1⟩
      exact k _ s1

/-- [at for at, bit in enumerate(row) if bit == 1] over a row of bits at q -/
def tOnes (K : PySem.W.Frag) (i j k : Nat) : TE := tLc (iEnumT K (tCons (tVar i) tNil)) (gTup K 2 (gCons (gName j) (gCons (gName k) gNil))) (tTest (tOp rEq (tVar k) (tC (.int 1)))) (tVar j) [j, k]
theorem ones_lc {σ : L2.St} {H : Hp} {q : Addr} {n : Nat} {f : Nat → Int} {Q : V → Hp → Prop} (hσ : ∃ s2 s3 : Option V, σ = [s2, some (.ref q), none, none] ∧ s3 = none) (hq : H q = some (.tup (rV n f))) (h8 : n ≤ 8)
    (k : ∀ H' D, Same H H' → H D = none → H' D = some (.lst ((onesM n f).map V.int)) → Q (.ref D) H') : tOnes K 1 2 3 σ H Q := by
  obtain ⟨s2, _, rfl, _⟩ := hσ
  refine ⟨_, rfl, q, _, rfl, SqT.of hq, fun D hD => ?_⟩
  refine lc_it (walk_enumT (K := K) (a := q) (xs := rV n f)) (fun j H' => Same H H' ∧ H' D = some (.lst ((onesM j f).map V.int))) ⟨same_upd hD, by rw [upd_same]; rfl⟩ (fun j H' _ c => SqT.of (c.1 _ _ hq)) ?_ ?_
  · rintro j x H2 H3 hj ⟨s2, hD2⟩ ⟨T0, x1, x2, rfl, hT0, rfl, e3, e4⟩
    cases e3
    rw [rV_len] at hj
    have e4' := (rV_get f hj).symm.trans e4
    cases e4'
    have s3 := same_upd (o := .tup [.int (j : Nat), V.int (f j)]) hT0
    refine ⟨T0, _, rfl, SqT.of upd_same, rfl, _, _, rfl, _, _, rfl, rfl, rfl, ?_⟩
    have hD3 := s3 _ _ hD2
    have hl := onesM_len j f
    refine ⟨_, rfl, rfl, _, rfl, ?_⟩
    by_cases h1 : f j = 1
    · rw [show decide (V.int (f j) = V.int 1) = true from decide_eq_true (by rw [h1])]
      refine iteT ⟨_, rfl, _, hD3, by rw [List.length_map]; exact Nat.lt_of_le_of_lt (show _ ≤ 8 by omega) (by decide), same_put hD (s2.trans s3), ?_⟩
      rw [upd_same, onesM_succ, if_pos h1, List.map_append]; rfl
    · rw [show decide (V.int (f j) = V.int 1) = false from decide_eq_false (fun z => h1 (V.int.inj z))]
      refine iteF ⟨s2.trans s3, ?_⟩
      rw [hD3, onesM_succ, if_neg h1, List.append_nil]
  · rintro H2 ⟨s2, hD2⟩
    rw [rV_len] at hD2
    exact k H2 D s2 hD hD2

theorem ones_tup {σ : L2.St} {H : Hp} {q : Addr} {n : Nat} {f : Nat → Int} {Q : V → Hp → Prop} (hσ : ∃ s2 s3 : Option V, σ = [s2, some (.ref q), none, none] ∧ s3 = none) (hq : H q = some (.tup (rV n f))) (h8 : n ≤ 8)
    (k : ∀ H' y, Same H H' → H y = none → H' y = some (.tup ((onesM n f).map V.int)) → Q (.ref y) H') : tCB (rTupOf K) (tCons (tOnes K 1 2 3) tNil) σ H Q :=
  ones_lc (Q := fun v H1 => rTupOf K [v] H1 Q) hσ hq h8 fun H' D s hD hD' => ⟨D, _, rfl, .inl ⟨SqL.of hD', fun y hy => k _ y (s.trans (same_upd hy)) (s.free hy) upd_same⟩⟩

theorem sc42 : FnScope ["table", "row", "at", "bit"] ["table"] (defScope sRowShape) := ⟨rfl, rfl, rfl, by decide +kernel, rfl, by decide +kernel, by decide +kernel⟩
def spRowShape (C : Addr) : Sp := fun vs H Q _ => ∃ (t : Addr) (h w : Nat) (T : Nat → Nat → Int) (ad : Nat → Addr), vs = [.ref t] ∧ TabAt H t h w T ad ∧ MadeOk (sosM (rowsM h w T)) ∧
  ∀ H' p, Same H H' → H p = none → CxAt C H' p (madeM (sosM (rowsM h w T))) → Q (.ref p) H'
theorem ok_rowShape {f f1 f2 C : Addr} {fd fd1 fd2 : FuncData} (F : Fun K "row_shape" "row_shape" sRowShape f fd) (B : Bl mg)
    (G1 : FnOk P w K mg base CX0 3 f1 fd1 ["table"] spNeedTable) (k1 : Lk K mg "need_table" f1 fd1 ["table"])
    (G2 : FnOk P w K mg base CX0 8 f2 fd2 ["sets"] (spShapeOf C)) (k2 : Lk K mg "shape_of_sets" f2 fd2 ["sets"]) :
    FnOk P w K mg base CX0 9 f fd ["table"] (spRowShape C) := by
  refine F.ok sc42 (fun vs H Q E h => ?_) (fun cdv A outer s H vs Q E hr h => ?_)
  · obtain ⟨_, _, _, _, _, rfl, _⟩ := h
    rfl
  · obtain ⟨t, hh, ww, T, ad, rfl, tb, ok, k⟩ := h
    refine ⟨_, pss_cons (ps_expr (pe_call G1 (hr.mono (by decide)) rfl k1.g k1.k k1.b .nil pass0 (pa_cons (pv 0) pa_nil)))
      (pss_one (ps_ret (pe_call G2 hr rfl k2.g k2.k k2.b .nil pass0 (pa_cons
        (pe_lc (own := [("row", 1)]) (g := gName 1) (te := tOnes K 1 2 3) (by rfl) sc42.nd (pi_tup (pv 0)) (blkOk_by (own := [("row", 1)]) (N := ["table", "row", "at", "bit"]) (sc := defScope sRowShape) (by decide +kernel))
          (fun _ _ _ _ _ => pg_name (i := 1) sc42.nd rfl (Or.inl rfl)) (fun _ _ _ _ _ => pts_nil)
          (fun _ _ _ _ _ => pe_lc (own := [("at", 2), ("bit", 3)]) (g := gTup K 2 (gCons (gName 2) (gCons (gName 3) gNil))) (by rfl) sc42.nd (pi_enumT (by rfl) B.enumerate (pa_cons (pv 1) pa_nil)) (blkOk_by (own := [("at", 2), ("bit", 3)]) (N := ["table", "row", "at", "bit"]) (sc := lcScope (stVal (bodyAt sRowShape 1))) (by decide +kernel))
            (fun _ _ _ _ _ => pg_tup rfl (pgs_cons (pg_name (i := 2) sc42.nd rfl (Or.inl rfl)) (pgs_cons (pg_name (i := 3) sc42.nd rfl (Or.inl rfl)) pgs_nil)))
            (fun _ _ _ _ _ => pts_one (pt_cmpR op_eq (pv 3) pe_int (nomark _))) (fun _ _ _ _ _ => pv 2))) pa_nil)))), ?_⟩
    have h8 := tb.h8
    have w8 := tb.w8
    refine ⟨_, rfl, t, hh, ww, T, ad, rfl, tb, fun H1 s1 => ?_⟩
    have t1 := tb.same s1
    refine ⟨_, rfl, t, rfl, ⟨_, SqT.of t1.top⟩, fun D hD => ?_⟩
    refine lc_it (walk_tup (K := K) (a := t) (xs := aV hh ad)) (fun i H' => Same H1 H' ∧ ∃ R : TL, H' D = some (.lst (refs R)) ∧ LLat H' R ∧ (∀ b ∈ R, H1 b.1 = none) ∧ (∀ b ∈ R, D ≠ b.1) ∧ R.map (·.2) = rowsM i ww T)
      ⟨same_upd hD, [], by rw [upd_same]; rfl, (fun b hb => nomatch hb), (fun b hb => nomatch hb), (fun b hb => nomatch hb), rfl⟩ (fun j H' _ c => SqT.of (c.1 _ _ t1.top)) ?_ ?_
    · rintro i x H2 H3 hi ⟨s2, R, hD2, lR, nR, dR, eR⟩ ⟨rfl, hx⟩
      rw [aV_len] at hi
      rw [aV_get _ hi] at hx
      cases hx
      refine ⟨rfl, ?_⟩
      unfold tYes
      refine iteT ?_
      refine ones_lc (f := T i) ⟨_, none, rfl, rfl⟩ (s2 _ _ (t1.row i hi)) w8 fun H4 z s4 hz hZ => ?_
      have hD4 := s4 _ _ hD2
      have hlen : R.length ≤ 8 := by
        have := congrArg List.length eR
        rw [List.length_map] at this
        unfold rowsM at this
        rw [List.length_map, List.length_range] at this; omega
      have hDz : D ≠ z := ne_of_none hD2 hz
      refine ⟨_, hD4, by rw [refs_len]; exact Nat.lt_of_le_of_lt hlen (by decide), same_put hD (s2.trans s4), R ++ [(z, onesM ww (T i))], by rw [upd_same, refs_app]; rfl, ?_, ?_, ?_, ?_⟩
      · intro b hb
        rcases List.mem_append.1 hb with h | h
        · rw [upd_ne (dR b h).symm]; exact s4 _ _ (lR b h)
        · rw [List.mem_singleton.1 h, upd_ne hDz.symm]; exact hZ
      · intro b hb
        rcases List.mem_append.1 hb with h | h
        · exact nR b h
        · rw [List.mem_singleton.1 h]; exact s2.free hz
      · intro b hb
        rcases List.mem_append.1 hb with h | h
        · exact dR b h
        · rw [List.mem_singleton.1 h]; exact hDz
      · rw [List.map_append, eR, rowsM_succ]; rfl
    · rintro H2 ⟨s2, R, hD2, lR, nR, dR, eR⟩
      rw [aV_len] at eR
      have hlen : R.length ≤ 8 := by
        have := congrArg List.length eR
        rw [List.length_map] at this
        unfold rowsM at this
        rw [List.length_map, List.length_range] at this; omega
      refine ⟨D, R, rfl, hD2, lR, hlen, ?_, by rw [eR]; exact ok, fun H3 p s3 hp hC => ?_⟩
      · intro b hb
        have hm : b.2 ∈ rowsM hh ww T := by rw [← eR]; exact List.mem_map.2 ⟨b, hb, rfl⟩
        unfold rowsM at hm
        obtain ⟨r, _, e⟩ := List.mem_map.1 hm
        rw [← e]
        have := onesM_len ww (T r); omega
      · rw [eR] at hC
        exact k H3 p (s1.trans (s2.trans s3)) (s1.free (s2.free hp)) hC

theorem sc43 : FnScope ["table", "row", "at", "bit"] ["table"] (defScope sColShape) := ⟨rfl, rfl, rfl, by decide +kernel, rfl, by decide +kernel, by decide +kernel⟩
def spColShape (C : Addr) : Sp := fun vs H Q _ => ∃ (t : Addr) (h w : Nat) (T : Nat → Nat → Int) (ad : Nat → Addr), vs = [.ref t] ∧ TabAt H t h w T ad ∧ MadeOk (colsM h w T) ∧
  ∀ H' p, Same H H' → H p = none → CxAt C H' p (madeM (colsM h w T)) → Q (.ref p) H'
theorem ok_colShape {f f1 f2 C : Addr} {fd fd1 fd2 : FuncData} (F : Fun K "column_shape" "column_shape" sColShape f fd) (B : Bl mg)
    (G1 : FnOk P w K mg base CX0 3 f1 fd1 ["table"] spNeedTable) (k1 : Lk K mg "need_table" f1 fd1 ["table"])
    (G2 : FnOk P w K mg base CX0 7 f2 fd2 ["simplices"] (spMade C)) (k2 : Lk K mg "made" f2 fd2 ["simplices"]) :
    FnOk P w K mg base CX0 8 f fd ["table"] (spColShape C) := by
  refine F.ok sc43 (fun vs H Q E h => ?_) (fun cdv A outer s H vs Q E hr h => ?_)
  · obtain ⟨_, _, _, _, _, rfl, _⟩ := h
    rfl
  · obtain ⟨t, hh, ww, T, ad, rfl, tb, ok, k⟩ := h
    refine ⟨_, pss_cons (ps_expr (pe_call G1 (hr.mono (by decide)) rfl k1.g k1.k k1.b .nil pass0 (pa_cons (pv 0) pa_nil)))
      (pss_one (ps_ret (pe_call G2 hr rfl k2.g k2.k k2.b .nil pass0 (pa_cons
        (pe_lc (own := [("row", 1)]) (g := gName 1) (tt := tTest (tOp (rIn K false) (tC (.int 1)) (tVar 1))) (te := tCB (rTupOf K) (tCons (tOnes K 1 2 3) tNil)) (by rfl) sc43.nd (pi_tup (pv 0)) (blkOk_by (own := [("row", 1)]) (N := ["table", "row", "at", "bit"]) (sc := defScope sColShape) (by decide +kernel))
          (fun _ _ _ _ _ => pg_name (i := 1) sc43.nd rfl (Or.inl rfl)) (fun _ _ _ _ _ => pts_one (pt_cmpR op_in_seq pe_int (pv 1) (by rfl)))
          (fun _ _ _ _ _ => pe_callTy call_tuple_of (by rfl) B.tuple (by decide +kernel) (pa_cons (pe_lc (own := [("at", 2), ("bit", 3)]) (g := gTup K 2 (gCons (gName 2) (gCons (gName 3) gNil))) (by rfl) sc43.nd (pi_enumT (by rfl) B.enumerate (pa_cons (pv 1) pa_nil)) (blkOk_by (own := [("at", 2), ("bit", 3)]) (N := ["table", "row", "at", "bit"]) (sc := lcScope (stVal (bodyAt sColShape 1))) (by decide +kernel))
            (fun _ _ _ _ _ => pg_tup rfl (pgs_cons (pg_name (i := 2) sc43.nd rfl (Or.inl rfl)) (pgs_cons (pg_name (i := 3) sc43.nd rfl (Or.inl rfl)) pgs_nil)))
            (fun _ _ _ _ _ => pts_one (pt_cmpR op_eq (pv 3) pe_int (nomark _))) (fun _ _ _ _ _ => pv 2)) pa_nil))) pa_nil)))), ?_⟩
    have h8 := tb.h8
    have w8 := tb.w8
    refine ⟨_, rfl, t, hh, ww, T, ad, rfl, tb, fun H1 s1 => ?_⟩
    have t1 := tb.same s1
    refine ⟨_, rfl, t, rfl, ⟨_, SqT.of t1.top⟩, fun D hD => ?_⟩
    refine lc_it (walk_tup (K := K) (a := t) (xs := aV hh ad)) (fun i H' => Same H1 H' ∧ ∃ R : TL, H' D = some (.lst (refs R)) ∧ TLat H' R ∧ R.map (·.2) = colsM i ww T)
      ⟨same_upd hD, [], by rw [upd_same]; rfl, (fun b hb => nomatch hb), rfl⟩ (fun j H' _ c => SqT.of (c.1 _ _ t1.top)) ?_ ?_
    · rintro i x H2 H3 hi ⟨s2, R, hD2, lR, eR⟩ ⟨rfl, hx⟩
      rw [aV_len] at hi
      rw [aV_get _ hi] at hx
      cases hx
      have hrow := s2 _ _ (t1.row i hi)
      have hlen : R.length ≤ 8 := by
        have := congrArg List.length eR
        rw [List.length_map] at this
        unfold colsM at this
        rw [List.length_map] at this
        have h2 := List.length_filter_le (fun r => hasOne ww (T r)) (List.range i)
        rw [List.length_range] at h2; omega
      refine ⟨rfl, _, rfl, ad i, _, rfl, .inr (SqT.of hrow), rfl, by rw [rV_map]; exact flat_ints _, _, rfl, ?_⟩
      rw [if_neg (by decide), rV_map, inV_ints]
      by_cases h1 : hasOne ww (T i) = true
      · rw [show decide ((1 : Int) ∈ (List.range ww).map (T i)) = true from h1]
        refine iteT ?_
        refine ones_tup (f := T i) ⟨_, none, rfl, rfl⟩ hrow w8 fun H4 y s4 hy hY => ?_
        have hD5 := s4 _ _ hD2
        refine ⟨_, hD5, by rw [refs_len]; exact Nat.lt_of_le_of_lt hlen (by decide), same_put hD (s2.trans s4), R ++ [(y, onesM ww (T i))], by rw [upd_same, refs_app]; rfl, ((lR.same s4).app (fun p hp => by rw [List.mem_singleton.1 hp]; exact hY)).put hD5, ?_⟩
        rw [List.map_append, eR, colsM_succ, if_pos h1]; rfl
      · rw [show decide ((1 : Int) ∈ (List.range ww).map (T i)) = false by have := h1; unfold hasOne at this; simpa using this]
        refine iteF ⟨s2, R, hD2, lR, ?_⟩
        rw [eR, colsM_succ, if_neg h1, List.append_nil]
    · rintro H2 ⟨s2, R, hD2, lR, eR⟩
      rw [aV_len] at eR
      refine ⟨D, R, rfl, hD2, lR, by rw [eR]; exact ok, fun H3 p s3 hp hC => ?_⟩
      rw [eR] at hC
      exact k H3 p (s1.trans (s2.trans s3)) (s1.free (s2.free hp)) hC
end
end K63W


namespace K63W
open PySem L2 RZ StX PySem.W

abbrev sTaken : Stmt := top 45
abbrev sPick : Stmt := top 46

/-- the list at s is written, or it stands apart from a -/
def NeK (K : PySem.W.Frag) (s a : Addr) (xs : List V) : Prop := s ≠ a ∨ ∃ (o : Obj) (its : Array Value) (n : Nat), K.lookup s = some o ∧ o.cls = .type "list" ∧ o.dict = none ∧ o.data = .seq its n ∧ its.size ≤ sizeLine ∧ Vals xs its.toList
theorem SqL.sx {K : PySem.W.Frag} {H H' : Hp} {a s : Addr} {xs : List V} (h : SqL K H s xs) (x : Sx a H H') (n : NeK K s a xs) : SqL K H' s xs := by
  rcases n with n | n
  · rcases h with h | h
    · left
      rcases h with h | ⟨o, h⟩
      · exact .inl (x _ _ n h)
      · exact .inr ⟨o, x _ _ n h⟩
    · exact .inr h
  · exact .inr n
theorem NeK.of {K : PySem.W.Frag} {H : Hp} {a s : Addr} {xs : List V} (h : SqL K H s xs) (ha : H a = none) : NeK K s a xs := by
  rcases h with h | h
  · left
    rcases h with h | ⟨o, h⟩
    · exact ne_of_none h ha
    · exact ne_of_none h ha
  · exact .inr h
/-- the drawing row: the script, the draws so far, the mixed number, the rest of a great cell -/
def RowAt (K : PySem.W.Frag) (H : Hp) (a s : Addr) (ns : List Int) : Prop := NeK K s a (ns.map V.int) ∧ SqL K H s (ns.map V.int) ∧ ∃ (i : Nat) (x r : Int), H a = some (.lst [.ref s, .int (i : Nat), .int x, .int r]) ∧ 0 ≤ x ∧ x < 2147483647
theorem RowAt.same {K : PySem.W.Frag} {H H' : Hp} {a s : Addr} {ns : List Int} (h : RowAt K H a s ns) (e : Same H H') : RowAt K H' a s ns :=
  let ⟨n, q, i, x, r, h1, h2⟩ := h
  ⟨n, e.seq q, i, x, r, e _ _ h1, h2⟩
theorem fmod_in {x m : Int} (h : 0 < m) : 0 ≤ x.fmod m ∧ x.fmod m < m := by
  rw [Int.fmod_eq_emod_of_nonneg x (by omega)]
  exact ⟨Int.emod_nonneg x (by omega), Int.emod_lt_of_pos x h⟩

section
variable {P : Program} {w : World} {K : PySem.W.Frag} {mg : Str → Option Value} {base : Heap}
theorem sc45 : FnScope ["_law_row", "_law_many", "_law_found", "_law_cell"] ["_law_row", "_law_many"] (defScope sTaken) := ⟨rfl, rfl, rfl, by decide +kernel, rfl, by decide +kernel, by decide +kernel⟩
def spTaken (K : PySem.W.Frag) : Sp := fun vs H Q _ => ∃ (a s : Addr) (ns : List Int) (m : Int), vs = [.ref a, .int m] ∧ RowAt K H a s ns ∧ 0 < m ∧ m < 1073741824 ∧
  ∀ H' n, Sx a H H' → RowAt K H' a s ns → 0 ≤ n → n < m → Q (.int n) H'
theorem ok_taken {f : Addr} {fd : FuncData} (F : Fun K "_law_taken" "_law_taken" sTaken f fd) (B : Bl mg) :
    FnOk P w K mg base CX0 1 f fd ["_law_row", "_law_many"] (spTaken K) := by
  refine F.ok sc45 (fun vs H Q E h => ?_) (fun cdv A outer s H vs Q E hr h => ?_)
  · obtain ⟨_, _, _, _, rfl, _⟩ := h
    rfl
  · obtain ⟨a, sc, ns, m, rfl, ⟨hsa, hs, i, x, r, ha, hx0, hx1⟩, hm, hm2, k⟩ := h
    refine ⟨_, pss_cons (ps_if (pt_cmpR op_gt (pe_ix ix_list (pv 0) pe_int (fun _ _ => rfl)) pe_int (nomark _))
        (pss_cons (ps_set (i := 2) sc45.nd rfl (Or.inl rfl) (pe_op op_modN (pe_callTy call_int1 (by rfl) B.int (by decide +kernel) (pa_cons (pe_ix ix_list (pv 0) pe_int (fun _ _ => rfl)) pa_nil)) (pv 1)))
        (pss_cons (ps_asg (pe_op op_fdivN (pe_ix ix_list (pv 0) pe_int (fun _ _ => rfl)) (pv 1)) (pg_sub (pv 0) pe_int set_list))
        (pss_one (ps_ret (pv 2))))) pss_nil)
      (pss_cons (ps_asg (pe_op op_add (pe_ix ix_list (pv 0) pe_int (fun _ _ => rfl)) pe_int) (pg_sub (pv 0) pe_int set_list))
      (pss_cons (ps_if (pt_cmpR op_gt (pe_ix ix_list (pv 0) pe_int (fun _ _ => rfl)) (pe_callB call_len_seq (by rfl) B.len PySem.boot_len (pa_cons (pe_ix ix_list (pv 0) pe_int (fun _ _ => rfl)) pa_nil)) (nomark _))
        (pss_cons (ps_asg (pe_op op_modN (pe_callTy call_int1 (by rfl) B.int (by decide +kernel) (pa_cons (pe_op op_add (pe_op op_mul (pe_ix ix_list (pv 0) pe_int (fun _ _ => rfl)) pe_int) pe_int) pa_nil)) pe_int) (pg_sub (pv 0) pe_int set_list))
        (pss_one (ps_ret (pe_op op_modN (pe_callTy call_int1 (by rfl) B.int (by decide +kernel) (pa_cons (pe_op op_fdivN (pe_ix ix_list (pv 0) pe_int (fun _ _ => rfl)) pe_int) pa_nil)) (pv 1))))) pss_nil)
      (pss_cons (ps_set (i := 3) sc45.nd rfl (Or.inl rfl) (pe_ix ix_list (pe_ix ix_list (pv 0) pe_int (fun _ _ => rfl)) (pe_op op_sub (pe_ix ix_list (pv 0) pe_int (fun _ _ => rfl)) pe_int) (fun _ _ => rfl)))
      (pss_cons (ps_asg (pe_op op_modN (pe_callTy call_int1 (by rfl) B.int (by decide +kernel) (pa_cons (pe_op op_add (pe_op op_add (pe_op op_mul (pe_ix ix_list (pv 0) pe_int (fun _ _ => rfl)) pe_int) (pv 3)) pe_int) pa_nil)) pe_int) (pg_sub (pv 0) pe_int set_list))
      (pss_cons (ps_if (pt_cmpR op_ge (pv 3) (pe_op op_pow pe_int pe_int) (nomark _)) (pss_one (ps_asg (pe_op op_fdivN (pv 3) (pv 1)) (pg_sub (pv 0) pe_int set_list))) pss_nil)
      (pss_one (ps_ret (pe_op op_modN (pe_callTy call_int1 (by rfl) B.int (by decide +kernel) (pa_cons (pv 3) pa_nil)) (pv 1))))))))), ?_⟩
    have hm0 : m ≠ 0 := by omega
    have hmd : m ≠ 0 ∧ m.natAbs < 1073741824 := ⟨hm0, by omega⟩
    refine ⟨_, rfl, a, _, 3, _, rfl, rfl, SqL.of ha, rfl, _, _, rfl, rfl, _, rfl, ?_⟩
    by_cases hr0 : (0 : Int) < r
    · rw [decide_eq_true hr0]
      refine iteT ⟨_, rfl, a, _, 3, _, rfl, rfl, SqL.of ha, rfl, .inl ⟨_, rfl, _, rfl, _, _, rfl, rfl, hm0, ?_⟩⟩
      refine ⟨_, rfl, a, _, 3, _, rfl, rfl, SqL.of ha, rfl, _, rfl, _, _, rfl, rfl, hmd, ?_⟩
      refine ⟨_, rfl, a, _, 3, 3, rfl, rfl, ha, rfl, _, rfl, ?_⟩
      have hf := fmod_in (x := r) hm
      exact k _ _ Sx.upd ⟨hsa, SqL.sx hs Sx.upd hsa, i, x, _, upd_same, hx0, hx1⟩ hf.1 hf.2
    · rw [decide_eq_false hr0]
      refine iteF ⟨_, rfl, a, _, 1, _, rfl, rfl, SqL.of ha, rfl, _, _, rfl, rfl, _, rfl, a, _, 1, 1, rfl, rfl, ha, rfl, ?_⟩
      have x1 : Sx a H (upd H a (.lst [.ref sc, .int ((i + 1 : Nat) : Int), .int x, .int r])) := Sx.upd
      have h1 : upd H a (.lst [.ref sc, .int ((i + 1 : Nat) : Int), .int x, .int r]) a = some (.lst [.ref sc, .int ((i + 1 : Nat) : Int), .int x, .int r]) := upd_same
      rw [show (HO.lst (([V.ref sc, .int (i : Nat), .int x, .int r] : List V).set 1 (.int ((i : Int) + 1)))) = .lst [.ref sc, .int ((i + 1 : Nat) : Int), .int x, .int r] from rfl]
      generalize upd H a (.lst [.ref sc, .int ((i + 1 : Nat) : Int), .int x, .int r]) = H1 at x1 h1
      have hs1 := SqL.sx hs x1 hsa
      refine ⟨_, rfl, a, _, 1, _, rfl, rfl, SqL.of h1, rfl, _, rfl, a, _, 0, _, rfl, rfl, SqL.of h1, rfl, sc, _, rfl, .inl hs1, _, _, rfl, rfl, _, rfl, ?_⟩
      rw [List.length_map]
      by_cases hl : ((ns.length : Nat) : Int) < ((i + 1 : Nat) : Int)
      · rw [decide_eq_true hl]
        refine iteT ⟨_, rfl, a, _, 2, _, rfl, rfl, SqL.of h1, rfl, _, _, rfl, rfl, .inl ⟨by omega, by omega⟩, _, _, rfl, rfl, .inl ⟨_, rfl, _, _, rfl, rfl, by show (2147483647 : Int) ≠ 0; decide, ?_⟩⟩
        have hf := fmod_in (x := x * 48271 + 11) (m := 2147483647) (by decide)
        refine ⟨_, rfl, a, _, 2, 2, rfl, rfl, h1, rfl, ?_⟩
        refine ⟨_, rfl, a, _, 2, _, rfl, rfl, SqL.of upd_same, rfl, _, _, rfl, rfl, ⟨by decide, by decide⟩, .inl ⟨_, rfl, _, rfl, _, _, rfl, rfl, hm0, ?_⟩⟩
        have hg := fmod_in (x := ((x * 48271 + 11).fmod 2147483647).fdiv 7) hm
        exact k _ _ (x1.trans Sx.upd) ⟨hsa, SqL.sx hs1 Sx.upd hsa, i + 1, (x * 48271 + 11).fmod 2147483647, r, upd_same, hf.1, hf.2⟩ hg.1 hg.2
      · rw [decide_eq_false hl]
        have hil : i < ns.length := by omega
        refine iteF ⟨_, rfl, a, _, 0, _, rfl, rfl, SqL.of h1, rfl, _, rfl, a, _, 1, _, rfl, rfl, SqL.of h1, rfl, _, _, rfl, rfl, sc, _, _, .int (ns[i]), rfl, rfl, hs1, ?_, ?_⟩
        · rw [show ((i + 1 : Nat) : Int) - 1 = ((i : Nat) : Int) by omega]
          exact atI_nat (by rw [List.getElem?_map, List.getElem?_eq_getElem hil]; rfl)
        generalize ns[i] = cell
        refine ⟨_, rfl, a, _, 2, _, rfl, rfl, SqL.of h1, rfl, _, _, rfl, rfl, .inl ⟨by omega, by omega⟩, _, rfl, _, _, rfl, rfl, _, _, rfl, rfl, .inl ⟨_, rfl, _, _, rfl, rfl, by show (2147483647 : Int) ≠ 0; decide, ?_⟩⟩
        have hf := fmod_in (x := x * 48271 + cell + 11) (m := 2147483647) (by decide)
        refine ⟨_, rfl, a, _, 2, 2, rfl, rfl, h1, rfl, ?_⟩
        have hg := fmod_in (x := cell) hm
        refine ⟨_, rfl, _, _, rfl, rfl, ⟨by decide, by decide, by decide⟩, _, _, rfl, rfl, _, rfl, ?_⟩
        generalize decide ((10 : Int) ^ (18 : Int).toNat ≤ cell) = big
        cases big with
        | true =>
          refine iteT ⟨_, rfl, _, rfl, _, _, rfl, rfl, hmd, _, rfl, a, _, 3, 3, rfl, rfl, upd_same, rfl, ?_⟩
          refine ⟨_, rfl, .inl ⟨_, rfl, _, rfl, _, _, rfl, rfl, hm0, ?_⟩⟩
          exact k _ _ (x1.trans (Sx.upd.trans Sx.upd)) ⟨hsa, SqL.sx (SqL.sx hs1 Sx.upd hsa) Sx.upd hsa, i + 1, (x * 48271 + cell + 11).fmod 2147483647, _, upd_same, hf.1, hf.2⟩ hg.1 hg.2
        | false =>
          refine iteF ⟨_, rfl, .inl ⟨_, rfl, _, rfl, _, _, rfl, rfl, hm0, ?_⟩⟩
          exact k _ _ (x1.trans Sx.upd) ⟨hsa, SqL.sx hs1 Sx.upd hsa, i + 1, (x * 48271 + cell + 11).fmod 2147483647, r, upd_same, hf.1, hf.2⟩ hg.1 hg.2

theorem sc46 : FnScope ["_law_row", "_law_things"] ["_law_row", "_law_things"] (defScope sPick) := ⟨rfl, rfl, rfl, by decide +kernel, rfl, by decide +kernel, by decide +kernel⟩
def spPick (K : PySem.W.Frag) : Sp := fun vs H Q _ => ∃ (a s t : Addr) (ns zs : List Int), vs = [.ref a, .ref t] ∧ RowAt K H a s ns ∧ H t = some (.lst (zs.map V.int)) ∧ t ≠ a ∧ zs ≠ [] ∧ zs.length ≤ 8 ∧
  ∀ H' z, Sx a H H' → RowAt K H' a s ns → z ∈ zs → Q (.int z) H'
theorem ok_pick {f f1 : Addr} {fd fd1 : FuncData} (F : Fun K "_law_pick" "_law_pick" sPick f fd) (B : Bl mg)
    (G1 : FnOk P w K mg base CX0 1 f1 fd1 ["_law_row", "_law_many"] (spTaken K)) (k1 : Lk K mg "_law_taken" f1 fd1 ["_law_row", "_law_many"]) :
    FnOk P w K mg base CX0 2 f fd ["_law_row", "_law_things"] (spPick K) := by
  refine F.ok sc46 (fun vs H Q E h => ?_) (fun cdv A outer s H vs Q E hr h => ?_)
  · obtain ⟨_, _, _, _, _, rfl, _⟩ := h
    rfl
  · obtain ⟨a, sc, t, ns, zs, rfl, hR, ht, hta, hz, h8, k⟩ := h
    refine ⟨_, pss_one (ps_ret (pe_ix ix_list (pv 1) (pe_call G1 hr rfl k1.g k1.k k1.b .nil pass0 (pa_cons (pv 0) (pa_cons (pe_callB call_len_seq (by rfl) B.len PySem.boot_len (pa_cons (pv 1) pa_nil)) pa_nil))) (fun _ _ => rfl))), ?_⟩
    have hl : 0 < zs.length := List.length_pos_iff.2 hz
    refine ⟨_, rfl, _, rfl, _, rfl, t, _, rfl, .inl (SqL.of ht), a, sc, ns, _, rfl, hR, by rw [List.length_map]; omega, by rw [List.length_map]; omega, fun H' n x hR' h0 h1 => ?_⟩
    rw [List.length_map] at h1
    have hn : n.toNat < zs.length := by omega
    refine ⟨t, _, n, .int (zs[n.toNat]), rfl, rfl, SqL.of (x _ _ hta ht), ?_, k H' _ x hR' (List.getElem_mem hn)⟩
    have e : atI (zs.map V.int) ((n.toNat : Nat) : Int) = some (.int (zs[n.toNat])) := atI_nat (by rw [List.getElem?_map, List.getElem?_eq_getElem hn]; rfl)
    rwa [show ((n.toNat : Nat) : Int) = n by omega] at e
end
end K63W


namespace K63W
open PySem L2 RZ StX PySem.W

abbrev sAlike : Stmt := top 47

/-- two values with the same ints at the same places, of a depth -/
def Al (H : Hp) : Nat → V → V → Prop
  | 0, x, y => ∃ i : Int, x = .int i ∧ y = .int i
  | n + 1, x, y => (∃ i : Int, x = .int i ∧ y = .int i) ∨ ∃ (a b : Addr) (xs ys : List V), x = .ref a ∧ y = .ref b ∧ ((H a = some (.lst xs) ∧ H b = some (.lst ys)) ∨ (H a = some (.tup xs) ∧ H b = some (.tup ys))) ∧ xs.length = ys.length ∧ ys.length ≤ 1000 ∧
    ∀ (k : Nat) (x y : V), xs[k]? = some x → ys[k]? = some y → Al H n x y
theorem Al.same {H H' : Hp} (s : Same H H') : ∀ {n : Nat} {x y : V}, Al H n x y → Al H' n x y
  | 0, _, _, h => let ⟨i, e1, e2⟩ := h; ⟨i, e1, e2⟩
  | n + 1, _, _, h => by
    rcases h with h | ⟨a, b, xs, ys, e1, e2, h, l, l2, k⟩
    · exact .inl h
    · refine .inr ⟨a, b, xs, ys, e1, e2, ?_, l, l2, fun j x y h1 h2 => (k j x y h1 h2).same s⟩
      rcases h with ⟨h1, h2⟩ | ⟨h1, h2⟩
      · exact .inl ⟨s _ _ h1, s _ _ h2⟩
      · exact .inr ⟨s _ _ h1, s _ _ h2⟩
theorem kat_int {K : PySem.W.Frag} : PySem.W.kitAny K (.type "int") [.type "tuple", .type "list"] = some false :=
  kitAny_cons (kit_ty (r := false) (by decide +kernel)) (fun _ => kitAny_cons (kit_ty (r := false) (by decide +kernel)) (fun _ => rfl) (fun z => nomatch z)) (fun z => nomatch z)
theorem kat_tup {K : PySem.W.Frag} : PySem.W.kitAny K (.type "tuple") [.type "tuple", .type "list"] = some true :=
  kitAny_cons (kit_ty (r := true) (by decide +kernel)) (fun z => nomatch z) (fun _ => rfl)
theorem kat_lst {K : PySem.W.Frag} : PySem.W.kitAny K (.type "list") [.type "tuple", .type "list"] = some true :=
  kitAny_cons (kit_ty (r := false) (by decide +kernel)) (fun _ => kitAny_cons (kit_ty (r := true) (by decide +kernel)) (fun z => nomatch z) (fun _ => rfl)) (fun z => nomatch z)
theorem paired_tl : Paired ClsV [V.ty "tuple", V.ty "list"] [Value.type "tuple", Value.type "list"] := .cons (.ty _) (.cons (.ty _) .nil)

section
variable {P : Program} {w : World} {K : PySem.W.Frag} {mg : Str → Option Value} {base : Heap}
theorem sc47 : FnScope ["_law_found", "_law_due", "_law_k"] ["_law_found", "_law_due"] (defScope sAlike) := ⟨rfl, rfl, rfl, by decide +kernel, rfl, by decide +kernel, by decide +kernel⟩
def spAlike (n : Nat) : Sp := fun vs H Q _ => ∃ x y : V, vs = [x, y] ∧ Al H n x y ∧ ∀ H', Same H H' → Q (.bl true) H'
theorem ok_alike0 {f : Addr} {fd : FuncData} (F : Fun K "_law_alike" "_law_alike" sAlike f fd) (B : Bl mg) :
    FnOk P w K mg base CX0 1 f fd ["_law_found", "_law_due"] (spAlike 0) := by
  refine F.ok sc47 (fun vs H Q E h => ?_) (fun cdv A outer s H vs Q E hr h => ?_)
  · obtain ⟨_, _, rfl, _⟩ := h
    rfl
  · obtain ⟨_, _, rfl, ⟨i, rfl, rfl⟩, k⟩ := h
    refine ⟨_, pss_cons (ps_if (pt_val (pe_callB call_isiT (by rfl) B.isinstance (by decide +kernel) (pa_cons (pv 1) (pa_cons (pe_tup (pa_cons (pe_bltn (v := .ty "tuple") (by rfl) B.tuple (by decide +kernel) rfl) (pa_cons (pe_bltn (v := .ty "list") (by rfl) B.list (by decide +kernel) rfl) pa_nil))) pa_nil)))) (pss_cons ps_never (pss_cons ps_never (pss_one ps_never))) pss_nil)
      (pss_cons (ps_if (PW.pt (pw_or (pt_cmpR op_isN (pv 1) pe_non (nomark _)) (pw_or1 (pt_val (pe_callB call_isi (by rfl) B.isinstance (by decide +kernel) (pa_cons (pv 1) (pa_cons (pe_bltn (v := .ty "str") (by rfl) B.str (by decide +kernel) rfl) pa_nil))))))) (pss_one ps_never) pss_nil)
      (pss_one (ps_ret (pe_and (pe_callB call_isi (by rfl) B.isinstance (by decide +kernel) (pa_cons (pv 0) (pa_cons (pe_bltn (v := .ty "int") (by rfl) B.int (by decide +kernel) rfl) pa_nil)))
        (pe_and (pe_cmpR op_eq (pe_callB call_isi (by rfl) B.isinstance (by decide +kernel) (pa_cons (pv 0) (pa_cons (pe_bltn (v := .ty "bool") (by rfl) B.bool (by decide +kernel) rfl) pa_nil))) (pe_callB call_isi (by rfl) B.isinstance (by decide +kernel) (pa_cons (pv 1) (pa_cons (pe_bltn (v := .ty "bool") (by rfl) B.bool (by decide +kernel) rfl) pa_nil))) (nomark _))
          (pe_one (pe_cmpR op_eq (pv 0) (pv 1) (nomark _)))))))), ?_⟩
    refine ⟨_, rfl, by show 2 ≤ sizeLine; decide, fun tp htp => ?_⟩
    refine ⟨_, tp, _, _, _, false, rfl, upd_same, paired_tl, .base (.int i), kat_int, false, rfl, iteF ?_⟩
    refine ⟨_, rfl, rfl, _, rfl, iteF ?_⟩
    refine ⟨_, rfl, _, _, .type "int", .type "str", false, rfl, .ty "str", .base (.int i), kit_ty (by decide +kernel), false, rfl, iteF ?_⟩
    refine ⟨_, rfl, _, _, .type "int", .type "int", true, rfl, .ty "int", .base (.int i), kit_ty (by decide +kernel), true, rfl, iteT ?_⟩
    refine ⟨_, rfl, _, _, .type "int", .type "bool", false, rfl, .ty "bool", .base (.int i), kit_ty (by decide +kernel), _, rfl, _, _, .type "int", .type "bool", false, rfl, .ty "bool", .base (.int i), kit_ty (by decide +kernel), rfl, true, rfl, iteT ?_⟩
    refine ⟨_, rfl, _, rfl, rfl, ?_⟩
    rw [decide_eq_true rfl]
    exact k _ (same_upd htp)
theorem ok_alikeS {n : Nat} {f : Addr} {fd : FuncData} (F : Fun K "_law_alike" "_law_alike" sAlike f fd) (B : Bl mg) (G1 : FnOk P w K mg base CX0 (n + 1) f fd ["_law_found", "_law_due"] (spAlike n)) (k1 : Lk K mg "_law_alike" f fd ["_law_found", "_law_due"]) :
    FnOk P w K mg base CX0 (n + 2) f fd ["_law_found", "_law_due"] (spAlike (n + 1)) := by
  refine F.ok sc47 (fun vs H Q E h => ?_) (fun cdv A outer s H vs Q E hr h => ?_)
  · obtain ⟨_, _, rfl, _⟩ := h
    rfl
  · obtain ⟨x, y, rfl, hA, k⟩ := h
    refine ⟨_, pss_cons (ps_if (pt_val (pe_callB call_isiT (by rfl) B.isinstance (by decide +kernel) (pa_cons (pv 1) (pa_cons (pe_tup (pa_cons (pe_bltn (v := .ty "tuple") (by rfl) B.tuple (by decide +kernel) rfl) (pa_cons (pe_bltn (v := .ty "list") (by rfl) B.list (by decide +kernel) rfl) pa_nil))) pa_nil))))
        (pss_cons (ps_if (PW.pt (pw_or (pt_not (pt_val (pe_callB call_isiT (by rfl) B.isinstance (by decide +kernel) (pa_cons (pv 0) (pa_cons (pe_tup (pa_cons (pe_bltn (v := .ty "tuple") (by rfl) B.tuple (by decide +kernel) rfl) (pa_cons (pe_bltn (v := .ty "list") (by rfl) B.list (by decide +kernel) rfl) pa_nil))) pa_nil)))))
            (pw_or1 (pt_cmpR op_ne (pe_callB call_isi (by rfl) B.isinstance (by decide +kernel) (pa_cons (pv 0) (pa_cons (pe_bltn (v := .ty "list") (by rfl) B.list (by decide +kernel) rfl) pa_nil))) (pe_callB call_isi (by rfl) B.isinstance (by decide +kernel) (pa_cons (pv 1) (pa_cons (pe_bltn (v := .ty "list") (by rfl) B.list (by decide +kernel) rfl) pa_nil))) (nomark _))))) (pss_one (ps_ret pe_bl)) pss_nil)
        (pss_cons (ps_if (pt_cmpR op_ne (pe_callB call_len_seq (by rfl) B.len PySem.boot_len (pa_cons (pv 0) pa_nil)) (pe_callB call_len_seq (by rfl) B.len PySem.boot_len (pa_cons (pv 1) pa_nil)) (nomark _)) (pss_one (ps_ret pe_bl)) pss_nil)
        (pss_one (ps_ret (pe_cmpR (op_eqD hr.units) (pe_lc (own := [("_law_k", 2)]) (g := gName 2) (te := tVar 2) (tt := tNot (tB (tCall (spAlike n) [] E0 (tCons (tOp (rIx K) (tVar 0) (tVar 2)) (tCons (tOp (rIx K) (tVar 1) (tVar 2)) tNil))))) (by rfl) sc47.nd (pi_range1 rfl B.range (pa_cons (pe_callB call_len_seq (by rfl) B.len PySem.boot_len (pa_cons (pv 1) pa_nil)) pa_nil))
            (blkOk_by (own := [("_law_k", 2)]) (N := ["_law_found", "_law_due", "_law_k"]) (sc := defScope sAlike) (by decide +kernel)) (fun _ _ _ _ _ => pg_name (i := 2) sc47.nd rfl (Or.inl rfl))
            (fun _ _ _ _ _ => pts_one (pt_not (pt_val (pe_call G1 hr rfl k1.g k1.k k1.b .nil pass0 (pa_cons (pe_ix ix_seq (pv 0) (pv 2) (fun _ _ => rfl)) (pa_cons (pe_ix ix_seq (pv 1) (pv 2) (fun _ _ => rfl)) pa_nil)))))) (fun _ _ _ _ _ => pv 2)) (pe_lst pa_nil) (nomark _)))))) pss_nil)
      (pss_cons (ps_if (PW.pt (pw_or (pt_cmpR op_isN (pv 1) pe_non (nomark _)) (pw_or1 (pt_val (pe_callB call_isi (by rfl) B.isinstance (by decide +kernel) (pa_cons (pv 1) (pa_cons (pe_bltn (v := .ty "str") (by rfl) B.str (by decide +kernel) rfl) pa_nil))))))) (pss_one ps_never) pss_nil)
      (pss_one (ps_ret (pe_and (pe_callB call_isi (by rfl) B.isinstance (by decide +kernel) (pa_cons (pv 0) (pa_cons (pe_bltn (v := .ty "int") (by rfl) B.int (by decide +kernel) rfl) pa_nil)))
        (pe_and (pe_cmpR op_eq (pe_callB call_isi (by rfl) B.isinstance (by decide +kernel) (pa_cons (pv 0) (pa_cons (pe_bltn (v := .ty "bool") (by rfl) B.bool (by decide +kernel) rfl) pa_nil))) (pe_callB call_isi (by rfl) B.isinstance (by decide +kernel) (pa_cons (pv 1) (pa_cons (pe_bltn (v := .ty "bool") (by rfl) B.bool (by decide +kernel) rfl) pa_nil))) (nomark _))
          (pe_one (pe_cmpR op_eq (pv 0) (pv 1) (nomark _)))))))), ?_⟩
    rcases hA with ⟨i, rfl, rfl⟩ | ⟨a, b, xs, ys, rfl, rfl, hab, hl, hl2, hk⟩
    · refine ⟨_, rfl, by show 2 ≤ sizeLine; decide, fun tp htp => ?_⟩
      refine ⟨_, tp, _, _, _, false, rfl, upd_same, paired_tl, .base (.int i), kat_int, false, rfl, iteF ?_⟩
      refine ⟨_, rfl, rfl, _, rfl, iteF ?_⟩
      refine ⟨_, rfl, _, _, .type "int", .type "str", false, rfl, .ty "str", .base (.int i), kit_ty (by decide +kernel), false, rfl, iteF ?_⟩
      refine ⟨_, rfl, _, _, .type "int", .type "int", true, rfl, .ty "int", .base (.int i), kit_ty (by decide +kernel), true, rfl, iteT ?_⟩
      refine ⟨_, rfl, _, _, .type "int", .type "bool", false, rfl, .ty "bool", .base (.int i), kit_ty (by decide +kernel), _, rfl, _, _, .type "int", .type "bool", false, rfl, .ty "bool", .base (.int i), kit_ty (by decide +kernel), rfl, true, rfl, iteT ?_⟩
      refine ⟨_, rfl, _, rfl, rfl, ?_⟩
      rw [decide_eq_true rfl]
      exact k _ (same_upd htp)
    · obtain ⟨T, tl, hTa, hTb, hkt, hkl, hSa, hSb⟩ : ∃ (T : String) (tl : Bool), (∀ H1, Same H H1 → TyX K H1 (.ref a) (.type T)) ∧ (∀ H1, Same H H1 → TyX K H1 (.ref b) (.type T)) ∧
          PySem.W.kitAny K (.type T) [.type "tuple", .type "list"] = some true ∧ PySem.W.kitOne K (.type T) (.type "list") = some tl ∧ (∀ H1, Same H H1 → SqL K H1 a xs ∨ SqT K H1 a xs) ∧ (∀ H1, Same H H1 → SqL K H1 b ys ∨ SqT K H1 b ys) := by
        rcases hab with ⟨h1, h2⟩ | ⟨h1, h2⟩
        · exact ⟨"list", true, fun H1 s => .base (.lst (s _ _ h1)), fun H1 s => .base (.lst (s _ _ h2)), kat_lst, kit_ty (by decide +kernel), fun H1 s => .inl (SqL.of (s _ _ h1)), fun H1 s => .inl (SqL.of (s _ _ h2))⟩
        · exact ⟨"tuple", false, fun H1 s => .base (.tup (s _ _ h1)), fun H1 s => .base (.tup (s _ _ h2)), kat_tup, kit_ty (by decide +kernel), fun H1 s => .inr (SqT.of (s _ _ h1)), fun H1 s => .inr (SqT.of (s _ _ h2))⟩
      refine ⟨_, rfl, by show 2 ≤ sizeLine; decide, fun tp htp => ?_⟩
      have s1 := same_upd (o := .tup [.ty "tuple", .ty "list"]) htp
      refine ⟨_, tp, _, _, _, true, rfl, upd_same, paired_tl, hTb _ s1, hkt, true, rfl, iteT ?_⟩
      generalize upd H tp (.tup [.ty "tuple", .ty "list"]) = H1 at s1
      refine ⟨_, rfl, by show 2 ≤ sizeLine; decide, fun tq htq => ?_⟩
      have s2 := s1.trans (same_upd (o := .tup [.ty "tuple", .ty "list"]) htq)
      refine ⟨_, tq, _, _, _, true, rfl, upd_same, paired_tl, hTa _ s2, hkt, true, rfl, iteF ?_⟩
      generalize upd H1 tq (.tup [.ty "tuple", .ty "list"]) = H2 at s2
      refine ⟨_, rfl, _, _, _, _, tl, rfl, .ty "list", hTa _ s2, hkl, _, rfl, _, _, _, _, tl, rfl, .ty "list", hTb _ s2, hkl, rfl, _, rfl, ?_⟩
      rw [show (!decide (V.bl tl = V.bl tl)) = false by rw [decide_eq_true rfl]; rfl]
      refine iteF ?_
      refine ⟨_, rfl, a, _, rfl, hSa _ s2, _, rfl, b, _, rfl, hSb _ s2, rfl, _, rfl, ?_⟩
      rw [hl, show (!decide (V.int (ys.length : Nat) = V.int (ys.length : Nat))) = false by rw [decide_eq_true rfl]; rfl]
      refine iteF ?_
      refine ⟨_, rfl, b, _, rfl, hSb _ s2, _, rfl, by omega, by omega, fun D hD => ?_⟩
      rw [Int.toNat_natCast]
      refine lc_it (walk_range (lo := 0) (n := ys.length)) (fun _ H' => Same H2 H' ∧ H' D = some (.lst [])) ⟨same_upd hD, upd_same⟩ (fun _ _ _ _ => True.intro) ?_ ?_
      · rintro i z H3 H4 hi ⟨s3, hD3⟩ ⟨rfl, rfl⟩
        have s4 := s2.trans s3
        have hx : xs[i]? = some (xs[i]'(by omega)) := List.getElem?_eq_getElem (by omega)
        have hy : ys[i]? = some ys[i] := List.getElem?_eq_getElem hi
        show gName 2 (V.int ((0 : Int) + (i : Nat))) [some (.ref a), some (.ref b), none] H4 _
        rw [show (0 : Int) + (i : Nat) = ((i : Nat) : Int) by omega]
        have gx : ∀ {R : V → Hp → Prop}, R (xs[i]'(by omega)) H4 → rIx K (.ref a) (.int (i : Nat)) H4 R := fun {R} q => by
          rcases hSa _ s4 with h | h
          · exact .inl ⟨a, _, i, _, rfl, rfl, h, atI_nat hx, q⟩
          · exact .inr (.inl ⟨a, _, i, _, rfl, rfl, h, atI_nat hx, q⟩)
        have gy : ∀ {R : V → Hp → Prop}, R ys[i] H4 → rIx K (.ref b) (.int (i : Nat)) H4 R := fun {R} q => by
          rcases hSb _ s4 with h | h
          · exact .inl ⟨b, _, i, _, rfl, rfl, h, atI_nat hy, q⟩
          · exact .inr (.inl ⟨b, _, i, _, rfl, rfl, h, atI_nat hy, q⟩)
        refine ⟨rfl, _, rfl, _, rfl, gx ⟨_, rfl, _, rfl, gy ⟨_, _, rfl, (hk i _ _ hx hy).same s4, fun H5 s5 => ⟨true, rfl, iteF ⟨s3.trans s5, s5 _ _ hD3⟩⟩⟩⟩⟩
      · rintro H3 ⟨s3, hD3⟩
        refine ⟨by show 0 ≤ sizeLine; decide, fun e he => ?_⟩
        have s4 := same_upd (o := .lst []) he
        refine ⟨.list [], .list [], .lst (SqL.of (s4 _ _ hD3)) .nil, .lst (SqL.of upd_same) .nil, shapedLT [], shapedLT [], ?_⟩
        rw [eqv_nilL]
        exact k _ (s2.trans (s3.trans s4))
theorem ok_alike {f : Addr} {fd : FuncData} (F : Fun K "_law_alike" "_law_alike" sAlike f fd) (B : Bl mg) (k1 : Lk K mg "_law_alike" f fd ["_law_found", "_law_due"]) : ∀ n, FnOk P w K mg base CX0 (n + 1) f fd ["_law_found", "_law_due"] (spAlike n)
  | 0 => ok_alike0 F B
  | n + 1 => ok_alikeS F B (ok_alike F B k1 n) k1
end
end K63W


namespace L2
open PySem PySem.Spec PyProof.Rows
section
variable {X : Cx}
/-- range(n) as a value -/
theorem cr_range1v : CallR X (.type "range") (fun vs H Q => ∃ j, vs = [V.int j] ∧ ∀ p, H p = none → Q (.ref p) (upd H p (.rng 0 j))) := by
  intro pins s σ H vs us Q I r h
  obtain ⟨j, rfl, q⟩ := h
  obtain ⟨u1, rfl, ri⟩ := vals1 r
  obtain ⟨t, rfl⟩ := ri
  refine call_range_1 ⟨.ref s.heap.objs.size, upd H s.heap.objs.size (.rng 0 j), I.laid (t' := s.toks + 1 + 1) (fun b o e => Heap.get?_push_of_some _ e) (Nat.le_refl _) ?_, rfl, q _ (I.hok.fresh (Nat.le_refl _))⟩
  exact ⟨s.toks, t, s.toks + 1, Heap.get?_push_size _ rfl⟩
/-- list(r), r a range(6) -/
theorem cr_list_rng6 (hc : X.calm = true) : CallR X (.type "list") (fun vs H Q => ∃ p, vs = [V.ref p] ∧ H p = some (.rng 0 6) ∧ ∀ l, H l = none → Q (.ref l) (upd H l (.lst ((List.range 6).map fun i : Nat => V.int ((i : Nat) : Int))))) := by
  intro pins s σ H vs us Q I r h
  obtain ⟨p, rfl, hp, q⟩ := h
  obtain ⟨u1, rfl, ri⟩ := vals1 r
  cases (show u1 = Value.ref p from ri)
  obtain ⟨t, u, v, ho⟩ := I.hok p _ hp
  refine call_list_range (n := 6) (I.ok.hd hc) (show IsRange s.heap p 0 6 1 t u v from ho) (by decide +kernel) (by decide +kernel) (by decide) fun h' tk acc' c' hk hS hacc => ?_
  refine ⟨.ref s.heap.objs.size, upd H s.heap.objs.size (.lst ((List.range 6).map fun i : Nat => V.int ((i : Nat) : Int))), I.laid hk (Nat.le_refl _) ?_, rfl, q _ (I.hok.fresh (Nat.le_refl _))⟩
  have hv := vals_of_get acc'.toList (fun i : Nat => V.int ((i : Nat) : Int)) (fun j u hu => by
    obtain ⟨t, rfl⟩ := hacc.2 j u (by simpa using hu)
    exact ⟨t, by rw [Int.zero_add, Int.mul_one]⟩)
  have hl : acc'.toList.length = 6 := by simpa using hacc.1
  rw [hl] at hv
  exact ⟨by show 6 ≤ sizeLine; decide, acc'.toList, c', hv, by simpa using hS⟩
end
end L2
namespace K63W
open PySem L2 RZ StX PySem.W

abbrev sSimplex : Stmt := top 48
theorem sx_put {a p : Addr} {H0 H : Hp} {o : HO} (h : Sx a H0 H) (hp : H0 p = none) : Sx a H0 (upd H p o) := fun b x n e => by
  rw [upd_ne (ne_of_none e hp)]; exact h b x n e
/-- the drawing row at work, all else that stood at H0 as it was -/
structure Dr (K : PySem.W.Frag) (a s : Addr) (ns : List Int) (H0 H : Hp) : Prop where
  n : NeK K s a (ns.map V.int)
  q : SqL K H0 s (ns.map V.int)
  a0 : ∃ o, H0 a = some o
  x : Sx a H0 H
  r : ∃ (i : Nat) (x r : Int), H a = some (.lst [.ref s, .int (i : Nat), .int x, .int r]) ∧ 0 ≤ x ∧ x < 2147483647
section
variable {K : PySem.W.Frag} {a s p : Addr} {ns : List Int} {H0 H H' : Hp} {o : HO}
theorem Dr.start (h : RowAt K H0 a s ns) : Dr K a s ns H0 H0 :=
  let ⟨n, q, i, x, r, h1, h2⟩ := h
  ⟨n, q, ⟨_, h1⟩, fun _ _ _ e => e, i, x, r, h1, h2⟩
theorem Dr.row (d : Dr K a s ns H0 H) : RowAt K H a s ns := ⟨d.n, SqL.sx d.q d.x d.n, d.r⟩
theorem Dr.step (d : Dr K a s ns H0 H) (x : Sx a H H') (r : RowAt K H' a s ns) : Dr K a s ns H0 H' := ⟨d.n, d.q, d.a0, d.x.trans x, r.2.2⟩
theorem Dr.same (d : Dr K a s ns H0 H) (e : Same H H') : Dr K a s ns H0 H' :=
  let ⟨i, x, r, h1, h2⟩ := d.r
  ⟨d.n, d.q, d.a0, d.x.trans (Sx.of e), i, x, r, e _ _ h1, h2⟩
theorem Dr.ne (d : Dr K a s ns H0 H) (hp : H0 p = none) : a ≠ p := let ⟨o, h⟩ := d.a0; ne_of_none h hp
theorem Dr.put (d : Dr K a s ns H0 H) (hp : H0 p = none) : Dr K a s ns H0 (upd H p o) :=
  let ⟨i, x, r, h1, h2⟩ := d.r
  ⟨d.n, d.q, d.a0, sx_put d.x hp, i, x, r, by rw [upd_ne (d.ne hp)]; exact h1, h2⟩
theorem Dr.free (d : Dr K a s ns H0 H) (hp : H p = none) : H0 p = none := by
  cases e : H0 p with
  | none => rfl
  | some o =>
    by_cases c : p = a
    · obtain ⟨i, x, r, h1, _⟩ := d.r
      rw [c, h1] at hp; cases hp
    · rw [d.x _ _ c e] at hp; cases hp
end
theorem erase_map {α β : Type} (f : α → β) : ∀ (L : List α) (k : Nat), (L.map f).eraseIdx k = (L.eraseIdx k).map f
  | [], _ => rfl
  | x :: L, 0 => rfl
  | x :: L, k + 1 => by
    show f x :: (L.map f).eraseIdx k = f x :: (L.eraseIdx k).map f
    rw [erase_map f L k]
theorem erase_perm {α : Type} : ∀ (L : List α) (k : Nat) (hk : k < L.length), (L[k] :: L.eraseIdx k).Perm L
  | x :: L, 0, _ => List.Perm.refl _
  | x :: L, k + 1, hk => by
    have h := erase_perm L k (by simpa using hk)
    exact (List.Perm.swap x _ _).trans (h.cons x)
/-- a simplex of at most three of the points below 6 -/
def Sx6 (l : List Int) : Prop := 1 ≤ l.length ∧ l.length ≤ 3 ∧ (∀ n ∈ l, 0 ≤ n ∧ n < 6) ∧ l.Pairwise (· < ·)

section
variable {P : Program} {w : World} {K : PySem.W.Frag} {mg : Str → Option Value} {base : Heap}
abbrev nmSx : List Str := ["_law_row", "_law_most", "_law_size", "_law_left", "_law_found", "_law_turn"]
theorem sc48 : FnScope nmSx ["_law_row", "_law_most", "_law_size"] (defScope sSimplex) := ⟨rfl, rfl, rfl, by decide +kernel, rfl, by decide +kernel, by decide +kernel⟩
def spSimplex (K : PySem.W.Frag) : Sp := fun vs H Q _ => ∃ (a s : Addr) (ns : List Int), vs = [.ref a, .int 6, .int 3] ∧ RowAt K H a s ns ∧
  ∀ H' t l, Sx a H H' → RowAt K H' a s ns → H t = none → H' t = some (.tup (l.map V.int)) → Sx6 l → Q (.ref t) H'
theorem ok_simplex {f f1 : Addr} {fd fd1 : FuncData} (F : Fun K "_law_simplex" "_law_simplex" sSimplex f fd) (B : Bl mg)
    (G1 : FnOk P w K mg base CX0 1 f1 fd1 ["_law_row", "_law_many"] (spTaken K)) (k1 : Lk K mg "_law_taken" f1 fd1 ["_law_row", "_law_many"]) :
    FnOk P w K mg base CX0 2 f fd ["_law_row", "_law_most", "_law_size"] (spSimplex K) := by
  refine F.ok sc48 (fun vs H Q E h => ?_) (fun cdv A outer s H vs Q E hr h => ?_)
  · obtain ⟨_, _, _, rfl, _⟩ := h
    rfl
  · obtain ⟨a, sc, ns, rfl, hR, k⟩ := h
    refine ⟨_, pss_cons (ps_par (i := 3) (j := 4) (by rfl) sc48.nd rfl rfl (by decide) rfl rfl (pa_cons (pe_callTy (cr_list_rng6 rfl) (by rfl) B.list (by decide +kernel) (pa_cons (pe_callTy cr_range1v (by rfl) B.range (by decide +kernel) (pa_cons (pv 1) pa_nil)) pa_nil)) (pa_cons (pe_lst pa_nil) pa_nil)) (by rfl))
      (pss_cons (ps_for PassesOwn.never rfl (pi_range1 rfl B.range (pa_cons (pe_callB (call_min2 rfl) (by rfl) B.min (by decide +kernel) (pa_cons (pv 1) (pa_cons (pe_op op_add pe_int (pe_call G1 hr rfl k1.g k1.k k1.b .nil pass0 (pa_cons (pv 0) (pa_cons (pv 2) pa_nil)))) pa_nil))) pa_nil)) (pg_name (i := 5) sc48.nd rfl (Or.inl rfl))
        (pss_one (ps_expr (pe_bm PySem.F.plainAttrs_list PySem.F.slot_list_append PySem.F.type_list_append mt_append (pv 4) (pa_cons
          (pe_bm PySem.F.plainAttrs_list PySem.F.slot_list_pop PySem.F.type_list_pop mt_popAt (pv 3) (pa_cons (pe_call G1 hr rfl k1.g k1.k k1.b .nil pass0 (pa_cons (pv 0) (pa_cons (pe_callB call_len_seq (by rfl) B.len PySem.boot_len (pa_cons (pv 3) pa_nil)) pa_nil))) pa_nil)) pa_nil)))))
      (pss_one (ps_ret (pe_callTy call_tuple_of (by rfl) B.tuple (by decide +kernel) (pa_cons (pe_callB cr_sorted (by rfl) B.sorted (by decide +kernel) (pa_cons (pv 4) pa_nil)) pa_nil))))), ?_⟩
    have d0 := Dr.start hR
    refine ⟨_, rfl, 6, rfl, fun p hp => ?_⟩
    have d1 : Dr K a sc ns H (upd H p (.rng 0 6)) := d0.put hp
    refine ⟨p, rfl, upd_same, fun l hl => ?_⟩
    have hl0 := d1.free hl
    have d2 : Dr K a sc ns H (upd (upd H p (.rng 0 6)) l (.lst ((List.range 6).map fun i : Nat => V.int ((i : Nat) : Int)))) := d1.put hl0
    have hL : upd (upd H p (.rng 0 6)) l (.lst ((List.range 6).map fun i : Nat => V.int ((i : Nat) : Int))) l = some (.lst (([0, 1, 2, 3, 4, 5] : List Int).map V.int)) := upd_same
    generalize upd (upd H p (.rng 0 6)) l (.lst ((List.range 6).map fun i : Nat => V.int ((i : Nat) : Int))) = H2 at d2 hL
    refine ⟨by show 0 ≤ sizeLine; decide, fun e he => ?_⟩
    have he0 := d2.free he
    have nle : l ≠ e := ne_of_none hL he
    have d3 : Dr K a sc ns H (upd H2 e (.lst [])) := d2.put he0
    have hL3 : upd H2 e (.lst []) l = some (.lst (([0, 1, 2, 3, 4, 5] : List Int).map V.int)) := by rw [upd_ne nle]; exact hL
    have hE3 : upd H2 e (.lst []) e = some (.lst []) := upd_same
    generalize upd H2 e (.lst []) = H3 at d3 hL3 hE3
    have lna : l ≠ a := (d3.ne hl0).symm
    have ena : e ≠ a := (d3.ne he0).symm
    refine ⟨_, _, rfl, ?_⟩
    refine ⟨_, rfl, _, rfl, _, rfl, a, sc, ns, 3, rfl, d3.row, by decide, by decide, fun H4 n x4 r4 hn0 hn1 => ?_⟩
    have d4 := d3.step x4 r4
    have hL4 := x4 _ _ lna hL3
    have hE4 := x4 _ _ ena hE3
    refine ⟨_, _, rfl, rfl, _, _, rfl, _, rfl, ?_, ?_, ?_⟩
    · split <;> omega
    · split <;> omega
    obtain ⟨m, hm, hm1, hm3⟩ : ∃ m : Nat, (if (1 + n) < (6 : Int) then 1 + n else 6).toNat = m ∧ 1 ≤ m ∧ m ≤ 3 := ⟨_, rfl, by split <;> omega, by split <;> omega⟩
    rw [hm]
    refine for_range (lo := 0) (n := m)
      (fun i σ H' => ∃ (v : Option V) (L Fd : List Int), σ = [some (.ref a), some (.int 6), some (.int 3), some (.ref l), some (.ref e), v] ∧ Dr K a sc ns H H' ∧ H' l = some (.lst (L.map V.int)) ∧ H' e = some (.lst (Fd.map V.int)) ∧
        (L ++ Fd).Nodup ∧ (∀ z ∈ L ++ Fd, 0 ≤ z ∧ z < 6) ∧ Fd.length = i ∧ L.length + i = 6)
      ⟨none, [0, 1, 2, 3, 4, 5], [], rfl, d4, hL4, hE4, by decide, by decide, rfl, rfl⟩ ?_ ?_
    · rintro i σ H5 hi ⟨v, L, Fd, rfl, d5, hL5, hE5, nd, rg, lf, ll⟩
      refine ⟨_, rfl, .inl ⟨rfl, _, SqL.of hE5⟩, _, rfl, .inl ⟨rfl, _, SqL.of hL5⟩, _, rfl, _, rfl, l, _, rfl, .inl (SqL.of hL5), a, sc, ns, _, rfl, d5.row, by rw [List.length_map]; omega, by rw [List.length_map]; omega, fun H6 n x6 r6 hn0 hn1 => ?_⟩
      have d6 := d5.step x6 r6
      have hL6 := x6 _ _ lna hL5
      have hE6 := x6 _ _ ena hE5
      rw [List.length_map] at hn1
      have hk : n.toNat < L.length := by omega
      refine ⟨l, _, n, n.toNat, .int L[n.toNat], rfl, rfl, hL6, by omega, by omega, by rw [List.length_map]; exact seqIndex_of hn0 hn1, by rw [List.getElem?_map, List.getElem?_eq_getElem hk]; rfl, ?_⟩
      have d7 : Dr K a sc ns H (upd H6 l (.lst ((L.map V.int).eraseIdx n.toNat))) := d6.put hl0
      have hE7 : upd H6 l (.lst ((L.map V.int).eraseIdx n.toNat)) e = some (.lst (Fd.map V.int)) := by rw [upd_ne nle.symm]; exact hE6
      refine ⟨e, _, _, rfl, rfl, hE7, by rw [List.length_map]; exact Nat.lt_of_le_of_lt (show _ ≤ 6 by omega) (by decide), ?_⟩
      have hp : (L.eraseIdx n.toNat ++ (Fd ++ [L[n.toNat]])).Perm (L ++ Fd) := by
        have h1 : (L[n.toNat] :: L.eraseIdx n.toNat).Perm L := erase_perm L _ hk
        have h2 : (L.eraseIdx n.toNat ++ (Fd ++ [L[n.toNat]])).Perm (L[n.toNat] :: L.eraseIdx n.toNat ++ Fd) := by
          rw [← List.append_assoc]
          exact (List.perm_append_comm).trans (by simp)
        exact h2.trans (h1.append_right Fd)
      refine ⟨_, L.eraseIdx n.toNat, Fd ++ [L[n.toNat]], rfl, d7.put he0, ?_, ?_, hp.nodup_iff.2 nd, fun z hz => rg z (hp.mem_iff.1 hz), by rw [List.length_append]; simp; omega, by rw [List.length_eraseIdx_of_lt hk]; omega⟩
      · rw [upd_ne nle, upd_same, erase_map]
      · rw [upd_same, List.map_append]; rfl
    · rintro σ H5 ⟨v, L, Fd, rfl, d5, hL5, hE5, nd, rg, lf, ll⟩
      refine ⟨_, rfl, e, Fd, rfl, SqL.of hE5, by omega, fun ns' q pm sr hq => ?_⟩
      refine ⟨q, _, rfl, .inl ⟨SqL.of upd_same, fun t ht => ?_⟩⟩
      have hq0 := d5.free hq
      have d6 : Dr K a sc ns H (upd H5 q (.lst (ns'.map V.int))) := d5.put hq0
      have ht0 := d6.free ht
      have d7 : Dr K a sc ns H (upd (upd H5 q (.lst (ns'.map V.int))) t (.tup (ns'.map V.int))) := d6.put ht0
      have ndF : ns'.Nodup := pm.nodup_iff.2 (List.nodup_append.1 nd).2.1
      refine k _ t ns' d7.x d7.row ht0 upd_same ⟨by rw [pm.length_eq]; omega, by rw [pm.length_eq]; omega, fun z hz => rg z (List.mem_append_right _ (pm.mem_iff.1 hz)), ?_⟩
      exact (sr.and ndF).imp fun h => by omega
end
end K63W


namespace K63W
open PySem L2 RZ StX PySem.W

abbrev sSimplices : Stmt := top 49
def relabC (sc outer : Scope) : Scope := { sc with names := sc.names.map fun (n, k) => if (k == .free && outer.kind == .function && outer.names.lookup n == some .cell) then (n, .cell) else (n, k) }
def ifBody (s : Stmt) : List Stmt := match s with
  | .If _ b _ _ => b
  | _ => []
def inIf (s : Stmt) (i : Nat) : Stmt := (ifBody s).getD i (.Pass ⟨0, 0, 0, 0⟩)

theorem TLat.sx {a : Addr} {H H' : Hp} {L : TL} (t : TLat H L) (x : Sx a H H') (ha : ∃ xs, H a = some (.lst xs)) : TLat H' L := fun p hp => by
  obtain ⟨xs, ha⟩ := ha
  exact x _ _ (ne_of (t p hp) ha (by intro z; cases z)) (t p hp)
theorem TLat.putL {H : Hp} {L : TL} {p : Addr} {o : HO} (t : TLat H L) (hp : ∃ xs, H p = some (.lst xs)) : TLat (upd H p o) L := let ⟨_, h⟩ := hp; t.put h

def plane10 : List (List Int) := [[0, 1, 2], [0, 1, 3], [0, 2, 4], [0, 3, 5], [0, 4, 5], [1, 2, 5], [1, 3, 4], [1, 4, 5], [2, 3, 4], [2, 3, 5]]
/-- what _law_simplices draws: the plane of six, or at most seven simplices -/
def SimsOk (Ls : List (List Int)) : Prop := Ls = plane10 ∨ (Ls.length ≤ 7 ∧ ∀ l ∈ Ls, Sx6 l)
theorem ite_both {c : Bool} {X Y : Prop} (h : Y → X) (y : Y) : if c = true then X else Y := by
  cases c
  · exact y
  · exact h y
theorem mod_next {i m : Nat} (hi : i < m) (hm : 2 ≤ m) : ((i : Int) + 1).fmod (m : Int) ≠ (i : Int) := by
  rw [Int.fmod_eq_emod_of_nonneg _ (by omega)]
  by_cases h : i + 1 < m
  · rw [Int.emod_eq_of_lt (by omega) (by omega)]; omega
  · have : (i : Int) + 1 = (m : Int) := by omega
    rw [this, Int.emod_self]; omega
/-- the first m ints but one -/
def butM (n at_ : Nat) : List Int := ((List.range n).filter fun j => !decide (j = at_)).map fun j : Nat => (j : Int)
theorem butM_succ (n at_ : Nat) : butM (n + 1) at_ = butM n at_ ++ if n = at_ then [] else [(n : Int)] := by
  unfold butM
  rw [List.range_succ, List.filter_append, List.map_append]
  by_cases h : n = at_ <;> simp [h]
theorem butM_ok : ∀ m : Nat, 2 ≤ m → m ≤ 4 → ∀ i : Nat, i < m → Sx6 (butM m i) := by
  have h : ∀ m : Fin 5, ∀ i : Fin 4, 2 ≤ m.val → i.val < m.val → (1 ≤ (butM m i).length ∧ (butM m i).length ≤ 3 ∧ (∀ n ∈ butM m i, 0 ≤ n ∧ n < 6) ∧ (butM m i).Pairwise (· < ·)) := by decide +kernel
  intro m h2 h4 i hi
  exact h ⟨m, by omega⟩ ⟨i, by omega⟩ h2 hi
theorem sx6_pair {x y : Int} {l : List Int} (hp : l.Perm [x, y]) (hs : l.Pairwise (· ≤ ·)) (hn : x ≠ y) (hx : 0 ≤ x ∧ x < 6) (hy : 0 ≤ y ∧ y < 6) : Sx6 l := by
  have nd : l.Nodup := hp.nodup_iff.2 (by simp [hn])
  refine ⟨by rw [hp.length_eq]; simp, by rw [hp.length_eq]; simp, fun n h => ?_, (hs.and nd).imp fun h => by omega⟩
  have := hp.mem_iff.1 h
  simp only [List.mem_cons, List.not_mem_nil, or_false] at this
  rcases this with rfl | rfl
  · exact hx
  · exact hy

section
variable {P : Program} {w : World} {K : PySem.W.Frag} {mg : Str → Option Value} {base : Heap}
abbrev nmSs : List Str := ["_law_row", "_law_most", "_law_size", "_law_way", "_law_many", "_law_found", "_law_at", "_law_vertex", "_law_turn"]
theorem sc49 : FnScope nmSs ["_law_row", "_law_most", "_law_size"] (defScope sSimplices) := ⟨rfl, rfl, rfl, by decide +kernel, rfl, by decide +kernel, by decide +kernel⟩
def spSimplices (K : PySem.W.Frag) : Sp := fun vs H Q _ => ∃ (a s : Addr) (ns : List Int), vs = [.ref a, .int 6, .int 3] ∧ RowAt K H a s ns ∧
  ∀ H' t (L : TL), Sx a H H' → RowAt K H' a s ns → H' t = some (.tup (refs L)) → TLat H' L → SimsOk (L.map (·.2)) → Q (.ref t) H'
def rSort1 (K : PySem.W.Frag) : List V → Hp → VK → Prop := rSorted K
theorem ok_simplices {f f1 f2 : Addr} {fd fd1 fd2 : FuncData} (F : Fun K "_law_simplices" "_law_simplices" sSimplices f fd) (B : Bl mg)
    (G1 : FnOk P w K mg base CX0 1 f1 fd1 ["_law_row", "_law_many"] (spTaken K)) (k1 : Lk K mg "_law_taken" f1 fd1 ["_law_row", "_law_many"])
    (G2 : FnOk P w K mg base CX0 2 f2 fd2 ["_law_row", "_law_most", "_law_size"] (spSimplex K)) (k2 : Lk K mg "_law_simplex" f2 fd2 ["_law_row", "_law_most", "_law_size"]) :
    FnOk P w K mg base CX0 3 f fd ["_law_row", "_law_most", "_law_size"] (spSimplices K) := by
  refine F.ok sc49 (fun vs H Q E h => ?_) (fun cdv A outer s H vs Q E hr h => ?_)
  · obtain ⟨_, _, _, rfl, _⟩ := h
    rfl
  · obtain ⟨a, sc, ns, rfl, hR, k⟩ := h
    have hr1 := hr.mono (show 1 ≤ 2 by decide)
    refine ⟨_, pss_cons (ps_set (i := 3) sc49.nd rfl (Or.inl rfl) (pe_call G1 hr1 rfl k1.g k1.k k1.b .nil pass0 (pa_cons (pv 0) (pa_cons pe_int pa_nil))))
      (pss_cons (ps_if (pt_cmpR op_eq (pv 3) pe_int (nomark _))
        (pss_cons (ps_set (i := 4) sc49.nd rfl (Or.inr rfl) (pe_op op_add pe_int (pe_call G1 hr1 rfl k1.g k1.k k1.b .nil pass0 (pa_cons (pv 0) (pa_cons (pe_callB (call_min2 rfl) (by rfl) B.min (by decide +kernel) (pa_cons (pe_op op_sub (pv 1) pe_int) (pa_cons (pv 2) pa_nil))) pa_nil)))))
        (pss_one (ps_ret (pe_callTy call_tuple_of (by rfl) B.tuple (by decide +kernel) (pa_cons
          (pe_lc (own := [("_law_at", 6)]) (g := gName 6) (te := tCB (rTupOf K) (tCons (tLc (iRng1 (tCons (tVar 4) tNil)) (gName 7) (tTest (tOp rNe (tVar 7) (tVar 6))) (tVar 7) [7]) tNil)) (by rfl) sc49.nd (pi_range1 rfl B.range (pa_cons (pv 4) pa_nil))
            (blkOk_by (own := [("_law_at", 6)]) (N := nmSs) (sc := defScope sSimplices) (by decide +kernel))
            (fun _ _ _ _ _ => pg_name (i := 6) sc49.nd rfl (Or.inr rfl)) (fun _ _ _ _ _ => pts_nil)
            (fun _ _ _ _ _ => pe_callTy call_tuple_of (by rfl) B.tuple (by decide +kernel) (pa_cons
              (pe_lc (own := [("_law_vertex", 7)]) (g := gName 7) (by rfl) sc49.nd (pi_range1 rfl B.range (pa_cons (pv 4) pa_nil)) (blkOk_by (own := [("_law_vertex", 7)]) (N := nmSs) (sc := relabC (lcScope (stVal (inIf (bodyAt sSimplices 1) 1))) (defScope sSimplices)) (by decide +kernel))
                (fun _ _ _ _ _ => pg_name (i := 7) sc49.nd rfl (Or.inl rfl)) (fun _ _ _ _ _ => pts_one (pt_cmpR op_ne (pv 7) (pv 6) (nomark _))) (fun _ _ _ _ _ => pv 7)) pa_nil))) pa_nil))))) pss_nil)
      (pss_cons (ps_if (PW.pt (pw_and (pt_cmpR op_eq (pv 3) pe_int (nomark _)) (pw_and (pt_cmpR op_gt (pv 1) pe_int (nomark _)) (pw_and1 (pt_cmpR op_gt (pv 2) pe_int (nomark _))))))
        (pss_one (ps_ret (pe_tup (pa_cons (pe_tup (pa_cons pe_int (pa_cons pe_int (pa_cons pe_int pa_nil)))) (pa_cons (pe_tup (pa_cons pe_int (pa_cons pe_int (pa_cons pe_int pa_nil)))) (pa_cons (pe_tup (pa_cons pe_int (pa_cons pe_int (pa_cons pe_int pa_nil)))) (pa_cons (pe_tup (pa_cons pe_int (pa_cons pe_int (pa_cons pe_int pa_nil)))) (pa_cons (pe_tup (pa_cons pe_int (pa_cons pe_int (pa_cons pe_int pa_nil))))
          (pa_cons (pe_tup (pa_cons pe_int (pa_cons pe_int (pa_cons pe_int pa_nil)))) (pa_cons (pe_tup (pa_cons pe_int (pa_cons pe_int (pa_cons pe_int pa_nil)))) (pa_cons (pe_tup (pa_cons pe_int (pa_cons pe_int (pa_cons pe_int pa_nil)))) (pa_cons (pe_tup (pa_cons pe_int (pa_cons pe_int (pa_cons pe_int pa_nil)))) (pa_cons (pe_tup (pa_cons pe_int (pa_cons pe_int (pa_cons pe_int pa_nil)))) pa_nil)))))))))))))
        pss_nil)
      (pss_cons (ps_if (PW.pt (pw_and (pt_cmpR op_eq (pv 3) pe_int (nomark _)) (pw_and (pt_cmpR op_gt (pv 1) pe_int (nomark _)) (pw_and1 (pt_cmpR op_gt (pv 2) pe_int (nomark _)))))) (pss_cons ps_never (pss_cons ps_never (pss_one ps_never))) pss_nil)
      (pss_cons (ps_if (PW.pt (pw_and (pt_cmpR op_eq (pv 3) pe_int (nomark _)) (pw_and (pt_cmpR op_gt (pv 1) pe_int (nomark _)) (pw_and1 (pt_cmpR op_gt (pv 2) pe_int (nomark _))))))
        (pss_cons (ps_set (i := 4) sc49.nd rfl (Or.inr rfl) (pe_op op_add pe_int (pe_call G1 hr1 rfl k1.g k1.k k1.b .nil pass0 (pa_cons (pv 0) (pa_cons (pe_op op_sub (pv 1) pe_int) pa_nil)))))
        (pss_one (ps_ret (pe_callTy call_tuple_of (by rfl) B.tuple (by decide +kernel) (pa_cons
          (pe_lc (own := [("_law_at", 6)]) (g := gName 6) (te := tCB (rTupOf K) (tCons (tCB (rSort1 K) (tCons (tLst (tCons (tVar 6) (tCons (tOp (rI (fun _ j => j ≠ 0) fun i j => .int (i.fmod j)) (tCB rInt1 (tCons (tOp (rI0 fun i j => .int (i + j)) (tVar 6) (tC (.int 1))) tNil)) (tVar 4)) tNil))) tNil)) tNil)) (by rfl) sc49.nd (pi_range1 rfl B.range (pa_cons (pv 4) pa_nil))
            (blkOk_by (own := [("_law_at", 6)]) (N := nmSs) (sc := defScope sSimplices) (by decide +kernel))
            (fun _ _ _ _ _ => pg_name (i := 6) sc49.nd rfl (Or.inl rfl)) (fun _ _ _ _ _ => pts_nil)
            (fun _ _ _ _ _ => pe_callTy call_tuple_of (by rfl) B.tuple (by decide +kernel) (pa_cons (pe_callB cr_sorted (by rfl) B.sorted (by decide +kernel) (pa_cons (pe_lst (pa_cons (pv 6) (pa_cons (pe_op op_modN (pe_callTy call_int1 (by rfl) B.int (by decide +kernel) (pa_cons (pe_op op_add (pv 6) pe_int) pa_nil)) (pv 4)) pa_nil))) pa_nil)) pa_nil))) pa_nil))))) pss_nil)
      (pss_one (ps_ret (pe_callTy call_tuple_of (by rfl) B.tuple (by decide +kernel) (pa_cons
          (pe_lc (own := [("_law_turn", 8)]) (g := gName 8) (te := tCall (spSimplex K) [] E0 (tCons (tVar 0) (tCons (tVar 1) (tCons (tVar 2) tNil)))) (by rfl) sc49.nd (pi_range1 rfl B.range (pa_cons (pe_call G1 hr1 rfl k1.g k1.k k1.b .nil pass0 (pa_cons (pv 0) (pa_cons pe_int pa_nil))) pa_nil))
            (blkOk_by (own := [("_law_turn", 8)]) (N := nmSs) (sc := defScope sSimplices) (by decide +kernel))
            (fun _ _ _ _ _ => pg_name (i := 8) sc49.nd rfl (Or.inl rfl)) (fun _ _ _ _ _ => pts_nil)
            (fun _ _ _ _ _ => pe_call G2 hr rfl k2.g k2.k k2.b .nil pass0 (pa_cons (pv 0) (pa_cons (pv 1) (pa_cons (pv 2) pa_nil))))) pa_nil)))))))), ?_⟩
    refine ⟨_, rfl, a, sc, ns, 9, rfl, hR, by decide, by decide, fun H1 way x1 r1 w0 w9 => ?_⟩
    have d1 := (Dr.start hR).step x1 r1
    have hne : ∀ {z : Int}, way ≠ z → decide (V.int way = V.int z) = false := fun h => decide_eq_false (fun e => h (V.int.inj e))
    refine ⟨_, rfl, rfl, _, rfl, ?_⟩
    by_cases c0 : way = 0
    · subst c0
      rw [decide_eq_true rfl]
      refine iteT ⟨_, rfl, _, rfl, _, _, rfl, rfl, _, rfl, _, _, rfl, a, sc, ns, 3, rfl, r1, by decide, by decide, fun H2 n x2 r2 n0 n3 => ⟨_, _, rfl, rfl, ?_⟩⟩
      have d2 := d1.step x2 r2
      obtain ⟨m, hm⟩ : ∃ m : Nat, 2 + n = (m : Int) := ⟨(2 + n).toNat, by omega⟩
      have hm2 : 2 ≤ m := by omega
      have hm4 : m ≤ 4 := by omega
      rw [show (fun i j : Int => V.int (i + j)) 2 n = V.int ((m : Nat) : Int) from congrArg V.int hm]
      refine ⟨_, rfl, m, rfl, by omega, by omega, fun D hD => ?_⟩
      rw [Int.toNat_natCast]
      refine lc_it (walk_range (lo := 0) (n := m)) (fun i H' => Same H2 H' ∧ ∃ L : TL, H' D = some (.lst (refs L)) ∧ TLat H' L ∧ L.map (·.2) = (List.range i).map (butM m))
        ⟨same_upd hD, [], by rw [upd_same]; rfl, (fun b hb => nomatch hb), rfl⟩ (fun _ _ _ _ => True.intro) ?_ ?_
      · rintro i x H3 H4 hi ⟨s3, L, hL, tL, eL⟩ ⟨rfl, rfl⟩
        show gName 6 (V.int ((0 : Int) + (i : Nat))) [some (.ref a), some (.int 6), some (.int 3), some (.int 0), some (.int (m : Nat)), none, none, none, none] H4 _
        rw [show (0 : Int) + (i : Nat) = ((i : Nat) : Int) by omega]
        refine ⟨rfl, ?_⟩
        unfold tYes
        refine iteT ⟨_, rfl, m, rfl, by omega, by omega, fun D2 hD2 => ?_⟩
        rw [Int.toNat_natCast]
        refine lc_it (walk_range (lo := 0) (n := m)) (Cmp H4 D2 fun j => (butM j i).map V.int) (Cmp.start hD2 rfl) (fun _ _ _ _ => True.intro) ?_ ?_
        · rintro j x H5 H6 hj c ⟨rfl, rfl⟩
          show gName 7 (V.int ((0 : Int) + (j : Nat))) [some (.ref a), some (.int 6), some (.int 3), some (.int 0), some (.int (m : Nat)), none, some (.int (i : Nat)), none, none] H6 _
          rw [show (0 : Int) + (j : Nat) = ((j : Nat) : Int) by omega]
          refine ⟨rfl, _, rfl, _, rfl, rfl, _, rfl, ?_⟩
          by_cases e : j = i
          · rw [show (!decide (V.int ((j : Nat) : Int) = V.int ((i : Nat) : Int))) = false by rw [e, decide_eq_true rfl]; rfl]
            exact iteF (c.skip Same.rfl' (by rw [butM_succ, if_pos e, List.append_nil]))
          · rw [show (!decide (V.int ((j : Nat) : Int) = V.int ((i : Nat) : Int))) = true by rw [decide_eq_false (fun z => e (by have := V.int.inj z; omega))]; rfl]
            refine iteT ⟨_, rfl, ?_⟩
            exact c.put hD2 Same.rfl' (by rw [butM_succ, if_neg e, List.map_append]; rfl) (by
              have := List.length_filter_le (fun k => !decide (k = i)) (List.range j)
              rw [List.length_map]; unfold butM; rw [List.length_map]; rw [List.length_range] at this; omega)
        · intro H5 c
          refine ⟨D2, _, rfl, .inl ⟨SqL.of c.lst, fun t ht => ?_⟩⟩
          have s5 := same_upd (o := .tup ((butM m i).map V.int)) ht
          have hL5 := s5 _ _ (c.same _ _ hL)
          have hl : L.length ≤ 4 := by
            have := congrArg List.length eL
            rw [List.length_map, List.length_map, List.length_range] at this; omega
          refine ⟨_, hL5, by rw [refs_len]; exact Nat.lt_of_le_of_lt hl (by decide), same_put hD (s3.trans (c.same.trans s5)), L ++ [(t, butM m i)], by rw [upd_same, refs_app]; rfl, ((tL.same c.same).fresh ht).put hL5, ?_⟩
          rw [List.map_append, eL, List.range_succ, List.map_append]; rfl
      · rintro H3 ⟨s3, L, hL, tL, eL⟩
        refine ⟨D, _, rfl, .inl ⟨SqL.of hL, fun t ht => ?_⟩⟩
        have s4 := same_upd (o := .tup (refs L)) ht
        have d4 := (d2.same s3).same s4
        refine k _ t L d4.x d4.row upd_same (tL.same s4) (.inr ?_)
        rw [eL]
        refine ⟨by rw [List.length_map, List.length_range]; omega, fun l hl => ?_⟩
        obtain ⟨i, hi, rfl⟩ := List.mem_map.1 hl
        exact butM_ok m hm2 hm4 i (List.mem_range.1 hi)
    rw [hne c0]
    refine iteF ⟨_, rfl, rfl, _, rfl, ?_⟩
    by_cases c1 : way = 1
    · subst c1
      rw [decide_eq_true rfl]
      refine iteT ⟨_, rfl, _, _, rfl, rfl, _, rfl, iteT ⟨_, rfl, _, _, rfl, rfl, _, rfl, iteT ?_⟩⟩
      have len3 : ∀ {x y z : V}, [x, y, z].length ≤ sizeLine := fun {_ _ _} => by show 3 ≤ sizeLine; decide
      refine ⟨len3, fun t0 h0 => ⟨len3, fun t1 h1 => ⟨len3, fun t2 h2 => ⟨len3, fun t3 h3 => ⟨len3, fun t4 h4 => ⟨len3, fun t5 h5 => ⟨len3, fun t6 h6 => ⟨len3, fun t7 h7 => ⟨len3, fun t8 h8 => ⟨len3, fun t9 h9 => ⟨by show 10 ≤ sizeLine; decide, fun t ht => ?_⟩⟩⟩⟩⟩⟩⟩⟩⟩⟩⟩
      have T0 : TLat _ ([] ++ [(t0, [0, 1, 2])]) := TLat.fresh (L := []) (fun p hp => nomatch hp) h0
      have D0 := d1.same (same_upd (o := .tup (([0, 1, 2] : List Int).map V.int)) h0)
      have T1 := T0.fresh (ns := [0, 1, 3]) h1
      have D1 := D0.same (same_upd (o := .tup (([0, 1, 3] : List Int).map V.int)) h1)
      have T2 := T1.fresh (ns := [0, 2, 4]) h2
      have D2 := D1.same (same_upd (o := .tup (([0, 2, 4] : List Int).map V.int)) h2)
      have T3 := T2.fresh (ns := [0, 3, 5]) h3
      have D3 := D2.same (same_upd (o := .tup (([0, 3, 5] : List Int).map V.int)) h3)
      have T4 := T3.fresh (ns := [0, 4, 5]) h4
      have D4 := D3.same (same_upd (o := .tup (([0, 4, 5] : List Int).map V.int)) h4)
      have T5 := T4.fresh (ns := [1, 2, 5]) h5
      have D5 := D4.same (same_upd (o := .tup (([1, 2, 5] : List Int).map V.int)) h5)
      have T6 := T5.fresh (ns := [1, 3, 4]) h6
      have D6 := D5.same (same_upd (o := .tup (([1, 3, 4] : List Int).map V.int)) h6)
      have T7 := T6.fresh (ns := [1, 4, 5]) h7
      have D7 := D6.same (same_upd (o := .tup (([1, 4, 5] : List Int).map V.int)) h7)
      have T8 := T7.fresh (ns := [2, 3, 4]) h8
      have D8 := D7.same (same_upd (o := .tup (([2, 3, 4] : List Int).map V.int)) h8)
      have T9 := T8.fresh (ns := [2, 3, 5]) h9
      have D9 := D8.same (same_upd (o := .tup (([2, 3, 5] : List Int).map V.int)) h9)
      have s10 := same_upd (o := .tup [.ref t0, .ref t1, .ref t2, .ref t3, .ref t4, .ref t5, .ref t6, .ref t7, .ref t8, .ref t9]) ht
      have D10 := D9.same s10
      exact k _ t _ D10.x D10.row upd_same (T9.same s10) (.inl rfl)
    rw [hne c1]
    refine iteF (iteF ⟨_, rfl, rfl, _, rfl, ite_both (fun y => ⟨_, rfl, _, _, rfl, rfl, _, rfl, iteF y⟩) (iteF ⟨_, rfl, rfl, _, rfl, ?_⟩)⟩)
    by_cases c3 : way = 3
    · subst c3
      rw [decide_eq_true rfl]
      refine iteT ⟨_, rfl, _, _, rfl, rfl, _, rfl, iteT ⟨_, rfl, _, _, rfl, rfl, _, rfl, iteT ?_⟩⟩
      refine ⟨_, rfl, _, rfl, _, _, rfl, rfl, a, sc, ns, 4, rfl, r1, by decide, by decide, fun H2 n x2 r2 n0 n3 => ⟨_, _, rfl, rfl, ?_⟩⟩
      have d2 := d1.step x2 r2
      obtain ⟨m, hm⟩ : ∃ m : Nat, 3 + n = (m : Int) := ⟨(3 + n).toNat, by omega⟩
      have hm2 : 3 ≤ m := by omega
      have hm4 : m ≤ 6 := by omega
      rw [show (fun i j : Int => V.int (i + j)) 3 n = V.int ((m : Nat) : Int) from congrArg V.int hm]
      refine ⟨_, rfl, m, rfl, by omega, by omega, fun D hD => ?_⟩
      rw [Int.toNat_natCast]
      refine lc_it (walk_range (lo := 0) (n := m)) (fun i H' => Same H2 H' ∧ ∃ L : TL, H' D = some (.lst (refs L)) ∧ TLat H' L ∧ L.length = i ∧ ∀ p ∈ L, Sx6 p.2)
        ⟨same_upd hD, [], by rw [upd_same]; rfl, (fun b hb => nomatch hb), rfl, (fun b hb => nomatch hb)⟩ (fun _ _ _ _ => True.intro) ?_ ?_
      · rintro i x H3 H4 hi ⟨s3, L, hL, tL, lL, oL⟩ ⟨rfl, rfl⟩
        show gName 6 (V.int ((0 : Int) + (i : Nat))) [some (.ref a), some (.int 6), some (.int 3), some (.int 3), some (.int (m : Nat)), none, none, none, none] H4 _
        rw [show (0 : Int) + (i : Nat) = ((i : Nat) : Int) by omega]
        refine ⟨rfl, ?_⟩
        unfold tYes
        have hmod := fmod_in (x := (i : Int) + 1) (m := (m : Int)) (by omega)
        refine iteT ⟨_, rfl, _, rfl, _, _, rfl, rfl, .inl ⟨_, rfl, _, rfl, _, _, rfl, rfl, by show (m : Int) ≠ 0; omega, by show 2 ≤ sizeLine; decide, fun q hq => ?_⟩⟩
        have s5 := same_upd (o := .lst (([(i : Int), ((i : Int) + 1).fmod (m : Int)] : List Int).map V.int)) hq
        refine ⟨q, [(i : Int), ((i : Int) + 1).fmod (m : Int)], rfl, SqL.of upd_same, by show 2 < 64; decide, fun ns' z pm sr hz => ?_⟩
        have s6 := same_upd (o := .lst (ns'.map V.int)) hz
        refine ⟨z, _, rfl, .inl ⟨SqL.of upd_same, fun t ht => ?_⟩⟩
        have s7 := same_upd (o := .tup (ns'.map V.int)) ht
        have sA := s5.trans (s6.trans s7)
        have hL5 := sA _ _ hL
        refine ⟨_, hL5, by rw [refs_len]; exact Nat.lt_of_le_of_lt (show _ ≤ 6 by omega) (by decide), same_put hD (s3.trans sA), L ++ [(t, ns')], by rw [upd_same, refs_app]; rfl, ((tL.same (s5.trans s6)).fresh ht).put hL5, by rw [List.length_append]; simp [lL], ?_⟩
        intro p hp
        rcases List.mem_append.1 hp with h | h
        · exact oL p h
        · rw [List.mem_singleton.1 h]
          exact sx6_pair pm sr (fun e => mod_next hi (by omega) e.symm) ⟨by omega, by omega⟩ ⟨hmod.1, by omega⟩
      · rintro H3 ⟨s3, L, hL, tL, lL, oL⟩
        refine ⟨D, _, rfl, .inl ⟨SqL.of hL, fun t ht => ?_⟩⟩
        have s4 := same_upd (o := .tup (refs L)) ht
        have d4 := (d2.same s3).same s4
        refine k _ t L d4.x d4.row upd_same (tL.same s4) (.inr ⟨by rw [List.length_map, lL]; omega, fun l hl => ?_⟩)
        obtain ⟨p, hp, rfl⟩ := List.mem_map.1 hl
        exact oL p hp
    rw [hne c3]
    refine iteF (iteF ?_)
    refine ⟨_, rfl, a, sc, ns, 8, rfl, r1, by decide, by decide, fun H2 n x2 r2 n0 n8 => ?_⟩
    have d2 := d1.step x2 r2
    refine ⟨n, rfl, by omega, by omega, fun D hD => ?_⟩
    have hD0 := d2.free hD
    have dR := Dr.start d2.row
    have nDa : D ≠ a := (dR.ne hD).symm
    refine lc_it (walk_range (lo := 0) (n := n.toNat)) (fun i H' => Dr K a sc ns H2 H' ∧ ∃ L : TL, H' D = some (.lst (refs L)) ∧ TLat H' L ∧ L.length = i ∧ ∀ p ∈ L, Sx6 p.2)
      ⟨dR.put hD, [], by rw [upd_same]; rfl, (fun b hb => nomatch hb), rfl, (fun b hb => nomatch hb)⟩ (fun _ _ _ _ => True.intro) ?_ ?_
    · rintro i x H3 H4 hi ⟨d3, L, hL, tL, lL, oL⟩ ⟨rfl, rfl⟩
      refine ⟨rfl, ?_⟩
      unfold tYes
      refine iteT ⟨_, rfl, _, rfl, _, rfl, a, sc, ns, rfl, d3.row, fun H5 t l x5 r5 ht hT ok => ?_⟩
      have d5 := d3.step x5 r5
      have hL5 := x5 _ _ nDa hL
      obtain ⟨i0, z0, z1, hz, _⟩ := d3.r
      refine ⟨_, hL5, by rw [refs_len]; exact Nat.lt_of_le_of_lt (show _ ≤ 8 by omega) (by decide), d5.put hD, L ++ [(t, l)], by rw [upd_same, refs_app]; rfl, (TLat.app (tL.sx x5 ⟨_, hz⟩) (fun p hp => by rw [List.mem_singleton.1 hp]; exact hT)).put hL5, by rw [List.length_append]; simp [lL], ?_⟩
      intro p hp
      rcases List.mem_append.1 hp with h | h
      · exact oL p h
      · rw [List.mem_singleton.1 h]; exact ok
    · rintro H3 ⟨d3, L, hL, tL, lL, oL⟩
      refine ⟨D, _, rfl, .inl ⟨SqL.of hL, fun t ht => ?_⟩⟩
      have s4 := same_upd (o := .tup (refs L)) ht
      have d4 := d3.same s4
      refine k _ t L (d2.x.trans d4.x) d4.row upd_same (tL.same s4) (.inr ⟨by rw [List.length_map, lL]; omega, fun l hl => ?_⟩)
      obtain ⟨p, hp, rfl⟩ := List.mem_map.1 hl
      exact oL p hp
end
end K63W


namespace K63W
open PySem L2 RZ StX PySem.W

abbrev sFaces : Stmt := top 50

theorem keys_TL {H : Hp} : ∀ {Fs : List (List Int)} {bs : List Addr}, IsKeys H (setD Fs) bs → ∃ L : TL, bs.map V.ref = refs L ∧ L.map (·.2) = Fs ∧ TLat H L
  | [], _, .nil => ⟨[], rfl, rfl, fun p hp => nomatch hp⟩
  | l :: Fs, _, .cons (b := b) h t => by
    obtain ⟨L, h1, h2, h3⟩ := keys_TL (Fs := Fs) t
    refine ⟨(b, l) :: L, ?_, ?_, ?_⟩
    · rw [List.map_cons, h1]; rfl
    · rw [List.map_cons, h2]
    · intro p hp
      rcases List.mem_cons.1 hp with e | e
      · subst e
        have h' : H b = some (.tup ((kI l).map kV)) := h
        rw [kI_kV] at h'; exact h'
      · exact h3 p e
/-- all faces of the simplices, the law's own way -/
def lawF (Ls : List (List Int)) : List (List Int) := Ls.foldl (fun f s => addsM f ((partsM s).drop 1)) []
theorem lawF_snoc (Ls : List (List Int)) (s : List Int) : lawF (Ls ++ [s]) = addsM (lawF Ls) ((partsM s).drop 1) := by unfold lawF; rw [List.foldl_append]; rfl
theorem lawF_le (Ls : List (List Int)) (h8 : ∀ l ∈ Ls, l.length ≤ 8) : (lawF Ls).length ≤ Ls.length * 256 := by
  have : ∀ (B A : List (List Int)), (∀ l ∈ B, l.length ≤ 8) → (B.foldl (fun f s => addsM f ((partsM s).drop 1)) A).length ≤ A.length + B.length * 256 := by
    intro B
    induction B with
    | nil => intro A _; simp
    | cons s B ih =>
      intro A hB
      have h1 := ih (addsM A ((partsM s).drop 1)) (fun l hl => hB l (by simp [hl]))
      have h2 := addsM_le ((partsM s).drop 1) A
      have h3 := hB s (by simp)
      have h4 : (partsM s).length ≤ 256 := by
        rw [partsM_len]; exact Nat.le_trans (Nat.pow_le_pow_right (by decide) h3) (by decide)
      rw [List.length_drop] at h2
      rw [List.foldl_cons, List.length_cons]; omega
  have h := this Ls [] h8
  simpa [lawF] using h

section
variable {P : Program} {w : World} {K : PySem.W.Frag} {mg : Str → Option Value} {base : Heap}
abbrev nmFa : List Str := ["_law_simplices_here", "_law_met", "_law_simplex_here", "_law_some", "_law_vertex", "_law_part", "_law_pair"]
theorem sc50 : FnScope nmFa ["_law_simplices_here"] (defScope sFaces) := ⟨rfl, rfl, rfl, by decide +kernel, rfl, by decide +kernel, by decide +kernel⟩

/-- all faces, by length, then ascending; the simplices in a tuple -/
def spFacesT : Sp := fun vs H Q _ => ∃ (a : Addr) (L : TL), vs = [.ref a] ∧ H a = some (.tup (refs L)) ∧ TLat H L ∧ L.length ≤ 10 ∧ (∀ p ∈ L, p.2.length ≤ 8) ∧
  ∀ H' q (M : TL), Same H H' → H q = none → TLat H' M → M.map (·.2) = lawF (L.map (·.2)) → H' q = some (.lst (refs (M.mergeSort leO))) → Q (.ref q) H'
theorem ok_facesT {f : Addr} {fd : FuncData} (F : Fun K "_law_faces" "_law_faces" sFaces f fd) (B : Bl mg) :
    FnOk P w K mg base CX0 1 f fd ["_law_simplices_here"] spFacesT := by
  refine F.ok sc50 (fun vs H Q E h => ?_) (fun cdv A outer s H vs Q E hr h => ?_)
  · obtain ⟨_, _, rfl, _⟩ := h
    rfl
  · obtain ⟨a, L, rfl, hA, tL, h10, h8, k⟩ := h
    have hu := hu_of hr
    refine ⟨_, pss_cons (ps_set (i := 1) sc50.nd rfl (Or.inl rfl) pe_dnewT)
      (pss_cons (ps_for PassesOwn.never rfl (pi_tup (pv 0)) (pg_name (i := 2) sc50.nd rfl (Or.inl rfl))
        (pss_cons (ps_set (i := 3) sc50.nd rfl (Or.inl rfl) (pe_lst (pa_cons (pe_tup pa_nil) pa_nil)))
        (pss_cons (ps_for PassesOwn.never rfl (pi_tup (pv 2)) (pg_name (i := 4) sc50.nd rfl (Or.inr rfl))
          (pss_one (ps_set (i := 3) sc50.nd rfl (Or.inl rfl) (pe_op op_cat (pv 3)
            (pe_lc (own := [("_law_part", 5)]) (g := gName 5) (te := tOp (rCatA K) (tVar 5) (tTup (tCons (tVar 4) tNil))) (by rfl) sc50.nd (pi_list (pv 3)) (blkOk_by (own := [("_law_part", 5)]) (N := nmFa) (sc := defScope sFaces) (by decide +kernel))
              (fun _ _ _ _ _ => pg_name (i := 5) sc50.nd rfl (Or.inl rfl)) (fun _ _ _ _ _ => pts_nil) (fun _ _ _ _ _ => pe_op op_catA (pv 5) (pe_tup (pa_cons (pv 4) pa_nil))))))))
        (pss_one (ps_for PassesOwn.never rfl (pi_list (pe_slice sl_list (pv 3) (po_some pe_int) po_none)) (pg_name (i := 5) sc50.nd rfl (Or.inl rfl))
          (pss_one (ps_dput hu (pv 1) (pv 5) pe_bl rfl)))))))
      (pss_one (ps_ret (pe_lc (own := [("_law_pair", 6)]) (g := gName 6) (te := tOp (rIxT K) (tVar 6) (tC (.int 1))) (by rfl) sc50.nd
        (pi_list (pe_callB (cr_sortedD hr.units) (by rfl) B.sorted (by decide +kernel) (pa_cons
          (pe_lc (own := [("_law_part", 5)]) (g := gName 5) (te := tTup (tCons (tCB (rLenQ K) (tCons (tVar 5) tNil)) (tCons (tVar 5) tNil))) (by rfl) sc50.nd (pi_list (pe_callTy (call_list_dT rfl) (by rfl) B.list (by decide +kernel) (pa_cons (pv 1) pa_nil))) (blkOk_by (own := [("_law_part", 5)]) (N := nmFa) (sc := defScope sFaces) (by decide +kernel))
            (fun _ _ _ _ _ => pg_name (i := 5) sc50.nd rfl (Or.inl rfl)) (fun _ _ _ _ _ => pts_nil)
            (fun _ _ _ _ _ => pe_tup (pa_cons (pe_callB call_len_seq (by rfl) B.len PySem.boot_len (pa_cons (pv 5) pa_nil)) (pa_cons (pv 5) pa_nil)))) pa_nil)))
        (blkOk_by (own := [("_law_pair", 6)]) (N := nmFa) (sc := defScope sFaces) (by decide +kernel))
        (fun _ _ _ _ _ => pg_name (i := 6) sc50.nd rfl (Or.inl rfl)) (fun _ _ _ _ _ => pts_nil)
        (fun _ _ _ _ _ => pe_ix ix_tup (pv 6) pe_int (fun _ _ => rfl)))))), ?_⟩
    refine fun d hd => ?_
    have s1 : Same H (upd H d (.dT [])) := same_upd hd
    refine ⟨_, rfl, a, rfl, ⟨_, SqT.of (s1 _ _ hA)⟩, for_tup (K := K) (a := a) (xs := refs L)
      (fun i σ H' => ∃ (v2 v3 v4 v5 : Option V), σ = [some (.ref a), some (.ref d), v2, v3, v4, v5, none] ∧ Same H H' ∧ H' d = some (.dT (setD (lawF ((L.take i).map (·.2))))))
      ⟨none, none, none, none, rfl, s1, by rw [upd_same]; rfl⟩ (fun i σ H' _ ⟨_, _, _, _, _, q, _⟩ => SqT.of (q _ _ hA)) ?_ ?_⟩
    · rintro i x σ H1 hi ⟨v2, v3, v4, v5, rfl, sm, hD⟩
      obtain ⟨p, hp, rfl⟩ := map_at hi
      have hpt := sm _ _ (tL p (mem_at hp))
      have hp8 := h8 p (mem_at hp)
      have hnext : lawF ((L.take (i + 1)).map (·.2)) = addsM (lawF ((L.take i).map (·.2))) ((partsM p.2).drop 1) := by
        rw [List.take_add_one, hp, List.map_append]; exact lawF_snoc _ _
      refine ⟨by show 0 ≤ sizeLine; decide, fun e he => ⟨by show 1 ≤ sizeLine; decide, fun o ho => ?_⟩⟩
      have neo : e ≠ o := fun z => by rw [← z, upd_same] at ho; cases ho
      have ho0 : H1 o = none := by rw [upd_ne neo.symm] at ho; exact ho
      have s2 : Same H1 (upd (upd H1 e (.tup [])) o (.lst [.ref e])) := same_put ho0 (same_upd he)
      have h2o : upd (upd H1 e (.tup [])) o (.lst [.ref e]) o = some (.lst (refs [(e, [])])) := by rw [upd_same]; rfl
      have h2t : TLat (upd (upd H1 e (.tup [])) o (.lst [.ref e])) [(e, [])] := fun q hq => by
        rw [List.mem_singleton.1 hq, upd_ne neo, upd_same]; rfl
      generalize upd (upd H1 e (.tup [])) o (.lst [.ref e]) = H2 at s2 h2o h2t
      refine ⟨_, rfl, p.1, rfl, ⟨_, SqT.of (s2 _ _ hpt)⟩, for_tup (K := K) (a := p.1) (xs := p.2.map V.int)
        (fun j σ H' => ∃ (o : Addr) (v4 v5 : Option V) (M : TL), σ = [some (.ref a), some (.ref d), some (.ref p.1), some (.ref o), v4, v5, none] ∧ Same H1 H' ∧ H' o = some (.lst (refs M)) ∧ TLat H' M ∧ M.map (·.2) = partsM (p.2.take j))
        ⟨o, _, _, [(e, [])], rfl, s2, h2o, h2t, rfl⟩ (fun j σ H' _ ⟨_, _, _, _, _, q, _⟩ => SqT.of (q _ _ hpt)) ?_ ?_⟩
      · rintro j y σ H3 hj ⟨o3, w4, w5, M, rfl, s3, h3o, t3, e3⟩
        obtain ⟨n, hn, rfl⟩ := map_at hj
        have hjn : j < p.2.length := (List.getElem?_eq_some_iff.mp hn).1
        have hMl : M.length ≤ 256 := by
          have := congrArg List.length e3
          rw [List.length_map, partsM_len] at this
          rw [this]
          exact Nat.le_trans (Nat.pow_le_pow_right (by decide) (by rw [List.length_take]; omega : (p.2.take j).length ≤ 8)) (by decide)
        refine ⟨_, rfl, _, rfl, o3, rfl, ⟨_, SqL.of h3o⟩, fun D hDn => ?_⟩
        refine lc_it (walk_list (K := K) (a := o3) (xs := refs M))
          (fun c H4 => Same H3 H4 ∧ ∃ N : TL, H4 D = some (.lst (refs N)) ∧ TLat H4 N ∧ N.map (·.2) = (M.take c).map (fun p => p.2 ++ [n]))
          ⟨same_upd hDn, [], (by rw [upd_same]; rfl), (fun p hp => nomatch hp), rfl⟩ (fun c H4 _ q => SqL.of (q.1 _ _ h3o)) ?_ ?_
        · rintro c x H4 H5 hc ⟨s4, N, hN, tN, eN⟩ ⟨rfl, hx⟩
          obtain ⟨m, hm, rfl⟩ := map_at hx
          have hmt := s4 _ _ (t3 m (mem_at hm))
          have hm8 : m.2.length ≤ 8 := by
            have h1 : m.2 ∈ partsM (p.2.take j) := by rw [← e3]; exact List.mem_map.2 ⟨m, mem_at hm, rfl⟩
            have h2 := partsM_le _ _ h1
            rw [List.length_take] at h2; omega
          refine ⟨rfl, ?_⟩
          unfold tYes
          refine iteT ⟨_, rfl, _, rfl, by show 1 ≤ sizeLine; decide, fun z hz => ?_⟩
          have s5 := same_upd (o := .tup [.int n]) hz
          refine cat_any (ys := [.int n]) (s5 _ _ hmt) upd_same (by rw [List.length_map]; show m.2.length + 1 ≤ 1000; omega) (fun H6 z6 s6 h6 => ?_)
          have s56 := s5.trans s6
          have hN' := s56 _ _ hN
          have hNl : N.length ≤ 256 := by
            have := congrArg List.length eN
            rw [List.length_map, List.length_map, List.length_take] at this; omega
          refine ⟨refs N, hN', by rw [refs_len]; exact Nat.lt_of_le_of_lt hNl (by decide), same_put hDn (s4.trans s56), N ++ [(z6, m.2 ++ [n])], by rw [upd_same, refs_app]; rfl, ((tN.same s56).app (fun q hq => by rw [List.mem_singleton.1 hq, List.map_append]; exact h6)).put hN', ?_⟩
          rw [List.map_append, eN, List.take_add_one, hm, List.map_append]; rfl
        · rintro H4 ⟨s4, N, hN, tN, eN⟩
          rw [refs_len, List.take_length] at eN
          have hNl : N.length = M.length := by
            have := congrArg List.length eN
            rwa [List.length_map, List.length_map] at this
          have h4o := s4 _ _ h3o
          refine ⟨o3, D, _, _, rfl, rfl, h4o, hN, by rw [refs_len, refs_len]; exact Nat.le_trans (show _ ≤ 512 by omega) (by decide), fun z hz => ?_⟩
          have s5 := same_upd (o := .lst (refs M ++ refs N)) hz
          refine ⟨z, _, _, M ++ N, rfl, s3.trans (s4.trans s5), by rw [upd_same, refs_app], ((t3.same s4).app tN).same s5, ?_⟩
          rw [List.map_append, eN, e3, List.take_add_one, hn]
          show _ = partsM (p.2.take j ++ [n])
          rw [partsM_snoc, ← e3, List.map_map]; rfl
      · rintro σ H3 ⟨o3, w4, w5, M, rfl, s3, h3o, t3, e3⟩
        rw [List.length_map, List.take_length] at e3
        refine ⟨_, rfl, 1, rfl, o3, _, rfl, SqL.of h3o, fun z hz => ?_⟩
        rw [cut1, ← refs_drop]
        have s4 := same_upd (o := .lst (refs (M.drop 1))) hz
        have h4z : upd H3 z (.lst (refs (M.drop 1))) z = some (.lst (refs (M.drop 1))) := upd_same
        have t4 : TLat (upd H3 z (.lst (refs (M.drop 1)))) (M.drop 1) := fun q hq => s4 _ _ (t3 q (List.mem_of_mem_drop hq))
        generalize upd H3 z (.lst (refs (M.drop 1))) = H4 at s4 h4z t4
        have hD4 := s4 _ _ (s3 _ _ hD)
        have hlen := lawF_le ((L.take i).map (·.2)) (fun l hl => by
          obtain ⟨q, hq, rfl⟩ := List.mem_map.1 hl
          exact h8 q (List.mem_of_mem_take hq))
        rw [List.length_map, List.length_take] at hlen
        have hM1 : M.length ≤ 256 := by
          have := congrArg List.length e3
          rw [List.length_map, partsM_len] at this
          rw [this]; exact Nat.le_trans (Nat.pow_le_pow_right (by decide) hp8) (by decide)
        refine ⟨z, rfl, ⟨_, SqL.of h4z⟩, for_list (K := K) (a := z) (xs := refs (M.drop 1))
          (fun j σ H' => ∃ (v4 v5 : Option V), σ = [some (.ref a), some (.ref d), some (.ref p.1), some (.ref o3), v4, v5, none] ∧ Same H H' ∧ H' z = some (.lst (refs (M.drop 1))) ∧ TLat H' (M.drop 1) ∧
            H' d = some (.dT (setD (addsM (lawF ((L.take i).map (·.2))) (((M.drop 1).take j).map (·.2))))))
          ⟨_, _, rfl, sm.trans (s3.trans s4), h4z, t4, hD4⟩ (fun j σ H' _ ⟨_, _, _, _, q, _⟩ => SqL.of q) ?_ ?_⟩
        · rintro j y σ H5 hj ⟨u4, u5, rfl, s5, h5z, t5, hD5⟩
          obtain ⟨q, hq, rfl⟩ := map_at hj
          refine ⟨_, rfl, _, rfl, d, _, rfl, DPut.t hD5 (k := kI q.2) (by rw [kI_kV]; exact t5 q (mem_at hq)) ?_, ?_⟩
          · rw [setD_len]
            have h1 := addsM_le (((M.drop 1).take j).map (·.2)) (lawF ((L.take i).map (·.2)))
            rw [List.length_map, List.length_take, List.length_drop] at h1
            exact Nat.lt_of_le_of_lt (show _ ≤ 3000 by omega) (by decide)
          · have nzd : z ≠ d := ne_of h5z hD5 (by intro e; cases e)
            refine ⟨_, _, rfl, same_put hd s5, by rw [upd_ne nzd]; exact h5z, t5.putD hD5, ?_⟩
            rw [upd_same, setD_put, List.take_add_one, hq, List.map_append]
            exact congrArg (fun z => some (HO.dT (setD z))) (addsM_snoc _ _ _).symm
        · rintro σ H5 ⟨u4, u5, rfl, s5, h5z, t5, hD5⟩
          rw [refs_len, List.take_length, List.map_drop, e3, ← hnext] at hD5
          exact ⟨_, _, _, _, rfl, s5, hD5⟩
    · rintro σ H1 ⟨v2, v3, v4, v5, rfl, sm, hD⟩
      rw [refs_len, List.take_length] at hD
      refine ⟨_, rfl, d, _, rfl, .inl hD, fun p bs hpn hk => ?_⟩
      obtain ⟨G, eG, eG2, tG⟩ := keys_TL hk
      rw [eG]
      have hlen := lawF_le (L.map (·.2)) (fun l hl => by
        obtain ⟨q, hq, rfl⟩ := List.mem_map.1 hl
        exact h8 q hq)
      rw [List.length_map] at hlen
      have hGl : G.length ≤ 2560 := by
        have := congrArg List.length eG2
        rw [List.length_map] at this; omega
      have sp := same_upd (o := .lst (refs G)) hpn
      have hA2 : upd H1 p (.lst (refs G)) p = some (.lst (refs G)) := upd_same
      have tl := tG.same sp
      generalize upd H1 p (.lst (refs G)) = H9 at sp hA2 tl
      refine ⟨p, rfl, ⟨_, SqL.of hA2⟩, fun D hD => ?_⟩
      refine lc_it (walk_list (K := K) (a := p) (xs := refs G))
        (fun j H2 => Same H9 H2 ∧ ∃ M : List (Addr × (Addr × List Int)), H2 D = some (.lst (M.map fun b => V.ref b.1)) ∧ M.map (·.2) = G.take j ∧
          ∀ b ∈ M, H2 b.1 = some (.tup [.int b.2.2.length, .ref b.2.1]))
        ⟨same_upd hD, [], (by rw [upd_same]; rfl), rfl, (fun b hb => nomatch hb)⟩ (fun j H2 _ q => SqL.of (q.1 _ _ hA2)) ?_ ?_
      · rintro j x H2 H3 hj ⟨s2, M, hM, eM, tM⟩ ⟨e3, hx⟩
        subst e3
        obtain ⟨p, hp, rfl⟩ := map_at hx
        have hpt := s2 _ _ (tl p (mem_at hp))
        refine ⟨rfl, ?_⟩
        unfold tYes
        refine iteT ?_
        refine ⟨_, rfl, p.1, _, rfl, .inr (SqT.of hpt), _, rfl, (by show 2 ≤ sizeLine; decide), fun q hq => ?_⟩
        rw [List.length_map]
        have s3 : Same H3 (upd H3 q (.tup [.int p.2.length, .ref p.1])) := same_upd hq
        have hM' := s3 _ _ hM
        have hMl : M.length ≤ 2560 := by
          have := congrArg List.length eM
          rw [List.length_map, List.length_take] at this; omega
        refine ⟨_, hM', (by rw [List.length_map]; exact Nat.lt_of_le_of_lt hMl (by decide)), same_put hD (s2.trans s3), M ++ [(q, p)], ?_, ?_, ?_⟩
        · rw [upd_same, List.map_append]; rfl
        · rw [List.map_append, eM, List.take_add_one, hp]; rfl
        · intro b hb
          rcases List.mem_append.1 hb with h | h
          · have h1 := s3 _ _ (tM b h)
            rw [upd_ne (ne_of h1 hM' (by intro z; cases z))]; exact h1
          · rw [List.mem_singleton.1 h]
            have h1 : upd H3 q (.tup [.int p.2.length, .ref p.1]) q = some (.tup [.int p.2.length, .ref p.1]) := upd_same
            rw [upd_ne (ne_of h1 hM' (by intro z; cases z))]; exact h1
      · rintro H2 ⟨s2, M, hM, eM, tM⟩
        rw [refs_len, List.take_length] at eM
        have hMl : M.length = G.length := by rw [← eM, List.length_map]
        have tl2 : ∀ b ∈ M, H2 b.2.1 = some (.tup (b.2.2.map V.int)) := fun b hb => s2 _ _ (tl b.2 (by rw [← eM]; exact List.mem_map.2 ⟨b, hb, rfl⟩))
        refine ⟨_, M, (fun b => b.1), (fun b => dO b.2.2), D, rfl, SqL.of hM, ?_, AllAlike.of (fun a b => alikeO _ _), Sortable.tuples (fun b => ⟨_, _, rfl⟩), (fun b _ => by rw [depthO]; decide), fun p hp => ?_⟩
        · intro b hb
          exact .tup (SqT.of (tM b hb)) (.cons (.int _) (.cons (dpT (tl2 b hb)) .nil))
        · have s3 : Same H2 (upd H2 p (.lst ((M.mergeSort (dataLe false fun b => dO b.2.2)).map fun b => V.ref b.1))) := same_upd hp
          have eS : (M.mergeSort (dataLe false fun b => dO b.2.2)).map (·.2) = G.mergeSort leO := by
            rw [← eM]; exact sort_maps (r := dataLe false fun b : Addr × (Addr × List Int) => dO b.2.2) (s := leO) (fun b : Addr × (Addr × List Int) => b.2) (fun _ _ _ _ => rfl)
          refine ⟨p, rfl, ⟨_, SqL.of upd_same⟩, fun D2 hD2 => ?_⟩
          refine lc_it (walk_list (K := K) (a := p) (xs := (M.mergeSort (dataLe false fun b => dO b.2.2)).map fun b => V.ref b.1))
            (fun j H3 => Same (upd H2 p (.lst ((M.mergeSort (dataLe false fun b => dO b.2.2)).map fun b => V.ref b.1))) H3 ∧ H3 D2 = some (.lst (refs ((G.mergeSort leO).take j))))
            ⟨same_upd hD2, by rw [upd_same]; rfl⟩ (fun j H3 _ q => SqL.of (q.1 _ _ upd_same)) ?_ ?_
          · rintro j x H3 H4 hj c ⟨e4, hx⟩
            subst e4
            obtain ⟨b, hb, rfl⟩ := map_at hx
            have hbM : b ∈ M := (List.mem_mergeSort).1 (mem_at hb)
            have hbt := c.1 _ _ (s3 _ _ (tM b hbM))
            refine ⟨rfl, ?_⟩
            unfold tYes
            refine iteT ?_
            refine ⟨_, rfl, b.1, _, 1, _, rfl, rfl, SqT.of hbt, rfl, ?_⟩
            refine ⟨_, c.2, ?_, same_put hD2 c.1, ?_⟩
            · rw [refs_len, List.length_take, List.length_mergeSort]
              exact Nat.lt_of_le_of_lt (show _ ≤ 2560 by omega) (by decide)
            · have hb2 : (G.mergeSort leO)[j]? = some b.2 := by rw [← eS, List.getElem?_map, hb]; rfl
              rw [upd_same, List.take_add_one, hb2, refs_app]; rfl
          · intro H3 c
            have e5 : (G.mergeSort leO).take ((M.mergeSort (dataLe false fun b => dO b.2.2)).map fun b => V.ref b.1).length = G.mergeSort leO := by
              rw [List.length_map, List.length_mergeSort, hMl]
              exact List.take_of_length_le (by rw [List.length_mergeSort]; exact Nat.le_refl _)
            have h5 := c.2
            rw [e5] at h5
            have sA := s2.trans (s3.trans c.1)
            exact k H3 D2 G (sm.trans (sp.trans sA)) (sm.free (sp.free (s2.free (s3.free hD2)))) (tl.same sA) eG2 h5

/-- all faces, by length, then ascending; the simplices in a list -/
def spFacesL : Sp := fun vs H Q _ => ∃ (a : Addr) (L : TL), vs = [.ref a] ∧ H a = some (.lst (refs L)) ∧ TLat H L ∧ L.length ≤ 10 ∧ (∀ p ∈ L, p.2.length ≤ 8) ∧
  ∀ H' q (M : TL), Same H H' → H q = none → TLat H' M → M.map (·.2) = lawF (L.map (·.2)) → H' q = some (.lst (refs (M.mergeSort leO))) → Q (.ref q) H'
theorem ok_facesL {f : Addr} {fd : FuncData} (F : Fun K "_law_faces" "_law_faces" sFaces f fd) (B : Bl mg) :
    FnOk P w K mg base CX0 1 f fd ["_law_simplices_here"] spFacesL := by
  refine F.ok sc50 (fun vs H Q E h => ?_) (fun cdv A outer s H vs Q E hr h => ?_)
  · obtain ⟨_, _, rfl, _⟩ := h
    rfl
  · obtain ⟨a, L, rfl, hA, tL, h10, h8, k⟩ := h
    have hu := hu_of hr
    refine ⟨_, pss_cons (ps_set (i := 1) sc50.nd rfl (Or.inl rfl) pe_dnewT)
      (pss_cons (ps_for PassesOwn.never rfl (pi_list (pv 0)) (pg_name (i := 2) sc50.nd rfl (Or.inl rfl))
        (pss_cons (ps_set (i := 3) sc50.nd rfl (Or.inl rfl) (pe_lst (pa_cons (pe_tup pa_nil) pa_nil)))
        (pss_cons (ps_for PassesOwn.never rfl (pi_tup (pv 2)) (pg_name (i := 4) sc50.nd rfl (Or.inr rfl))
          (pss_one (ps_set (i := 3) sc50.nd rfl (Or.inl rfl) (pe_op op_cat (pv 3)
            (pe_lc (own := [("_law_part", 5)]) (g := gName 5) (te := tOp (rCatA K) (tVar 5) (tTup (tCons (tVar 4) tNil))) (by rfl) sc50.nd (pi_list (pv 3)) (blkOk_by (own := [("_law_part", 5)]) (N := nmFa) (sc := defScope sFaces) (by decide +kernel))
              (fun _ _ _ _ _ => pg_name (i := 5) sc50.nd rfl (Or.inl rfl)) (fun _ _ _ _ _ => pts_nil) (fun _ _ _ _ _ => pe_op op_catA (pv 5) (pe_tup (pa_cons (pv 4) pa_nil))))))))
        (pss_one (ps_for PassesOwn.never rfl (pi_list (pe_slice sl_list (pv 3) (po_some pe_int) po_none)) (pg_name (i := 5) sc50.nd rfl (Or.inl rfl))
          (pss_one (ps_dput hu (pv 1) (pv 5) pe_bl rfl)))))))
      (pss_one (ps_ret (pe_lc (own := [("_law_pair", 6)]) (g := gName 6) (te := tOp (rIxT K) (tVar 6) (tC (.int 1))) (by rfl) sc50.nd
        (pi_list (pe_callB (cr_sortedD hr.units) (by rfl) B.sorted (by decide +kernel) (pa_cons
          (pe_lc (own := [("_law_part", 5)]) (g := gName 5) (te := tTup (tCons (tCB (rLenQ K) (tCons (tVar 5) tNil)) (tCons (tVar 5) tNil))) (by rfl) sc50.nd (pi_list (pe_callTy (call_list_dT rfl) (by rfl) B.list (by decide +kernel) (pa_cons (pv 1) pa_nil))) (blkOk_by (own := [("_law_part", 5)]) (N := nmFa) (sc := defScope sFaces) (by decide +kernel))
            (fun _ _ _ _ _ => pg_name (i := 5) sc50.nd rfl (Or.inl rfl)) (fun _ _ _ _ _ => pts_nil)
            (fun _ _ _ _ _ => pe_tup (pa_cons (pe_callB call_len_seq (by rfl) B.len PySem.boot_len (pa_cons (pv 5) pa_nil)) (pa_cons (pv 5) pa_nil)))) pa_nil)))
        (blkOk_by (own := [("_law_pair", 6)]) (N := nmFa) (sc := defScope sFaces) (by decide +kernel))
        (fun _ _ _ _ _ => pg_name (i := 6) sc50.nd rfl (Or.inl rfl)) (fun _ _ _ _ _ => pts_nil)
        (fun _ _ _ _ _ => pe_ix ix_tup (pv 6) pe_int (fun _ _ => rfl)))))), ?_⟩
    refine fun d hd => ?_
    have s1 : Same H (upd H d (.dT [])) := same_upd hd
    refine ⟨_, rfl, a, rfl, ⟨_, SqL.of (s1 _ _ hA)⟩, for_list (K := K) (a := a) (xs := refs L)
      (fun i σ H' => ∃ (v2 v3 v4 v5 : Option V), σ = [some (.ref a), some (.ref d), v2, v3, v4, v5, none] ∧ Same H H' ∧ H' d = some (.dT (setD (lawF ((L.take i).map (·.2))))))
      ⟨none, none, none, none, rfl, s1, by rw [upd_same]; rfl⟩ (fun i σ H' _ ⟨_, _, _, _, _, q, _⟩ => SqL.of (q _ _ hA)) ?_ ?_⟩
    · rintro i x σ H1 hi ⟨v2, v3, v4, v5, rfl, sm, hD⟩
      obtain ⟨p, hp, rfl⟩ := map_at hi
      have hpt := sm _ _ (tL p (mem_at hp))
      have hp8 := h8 p (mem_at hp)
      have hnext : lawF ((L.take (i + 1)).map (·.2)) = addsM (lawF ((L.take i).map (·.2))) ((partsM p.2).drop 1) := by
        rw [List.take_add_one, hp, List.map_append]; exact lawF_snoc _ _
      refine ⟨by show 0 ≤ sizeLine; decide, fun e he => ⟨by show 1 ≤ sizeLine; decide, fun o ho => ?_⟩⟩
      have neo : e ≠ o := fun z => by rw [← z, upd_same] at ho; cases ho
      have ho0 : H1 o = none := by rw [upd_ne neo.symm] at ho; exact ho
      have s2 : Same H1 (upd (upd H1 e (.tup [])) o (.lst [.ref e])) := same_put ho0 (same_upd he)
      have h2o : upd (upd H1 e (.tup [])) o (.lst [.ref e]) o = some (.lst (refs [(e, [])])) := by rw [upd_same]; rfl
      have h2t : TLat (upd (upd H1 e (.tup [])) o (.lst [.ref e])) [(e, [])] := fun q hq => by
        rw [List.mem_singleton.1 hq, upd_ne neo, upd_same]; rfl
      generalize upd (upd H1 e (.tup [])) o (.lst [.ref e]) = H2 at s2 h2o h2t
      refine ⟨_, rfl, p.1, rfl, ⟨_, SqT.of (s2 _ _ hpt)⟩, for_tup (K := K) (a := p.1) (xs := p.2.map V.int)
        (fun j σ H' => ∃ (o : Addr) (v4 v5 : Option V) (M : TL), σ = [some (.ref a), some (.ref d), some (.ref p.1), some (.ref o), v4, v5, none] ∧ Same H1 H' ∧ H' o = some (.lst (refs M)) ∧ TLat H' M ∧ M.map (·.2) = partsM (p.2.take j))
        ⟨o, _, _, [(e, [])], rfl, s2, h2o, h2t, rfl⟩ (fun j σ H' _ ⟨_, _, _, _, _, q, _⟩ => SqT.of (q _ _ hpt)) ?_ ?_⟩
      · rintro j y σ H3 hj ⟨o3, w4, w5, M, rfl, s3, h3o, t3, e3⟩
        obtain ⟨n, hn, rfl⟩ := map_at hj
        have hjn : j < p.2.length := (List.getElem?_eq_some_iff.mp hn).1
        have hMl : M.length ≤ 256 := by
          have := congrArg List.length e3
          rw [List.length_map, partsM_len] at this
          rw [this]
          exact Nat.le_trans (Nat.pow_le_pow_right (by decide) (by rw [List.length_take]; omega : (p.2.take j).length ≤ 8)) (by decide)
        refine ⟨_, rfl, _, rfl, o3, rfl, ⟨_, SqL.of h3o⟩, fun D hDn => ?_⟩
        refine lc_it (walk_list (K := K) (a := o3) (xs := refs M))
          (fun c H4 => Same H3 H4 ∧ ∃ N : TL, H4 D = some (.lst (refs N)) ∧ TLat H4 N ∧ N.map (·.2) = (M.take c).map (fun p => p.2 ++ [n]))
          ⟨same_upd hDn, [], (by rw [upd_same]; rfl), (fun p hp => nomatch hp), rfl⟩ (fun c H4 _ q => SqL.of (q.1 _ _ h3o)) ?_ ?_
        · rintro c x H4 H5 hc ⟨s4, N, hN, tN, eN⟩ ⟨rfl, hx⟩
          obtain ⟨m, hm, rfl⟩ := map_at hx
          have hmt := s4 _ _ (t3 m (mem_at hm))
          have hm8 : m.2.length ≤ 8 := by
            have h1 : m.2 ∈ partsM (p.2.take j) := by rw [← e3]; exact List.mem_map.2 ⟨m, mem_at hm, rfl⟩
            have h2 := partsM_le _ _ h1
            rw [List.length_take] at h2; omega
          refine ⟨rfl, ?_⟩
          unfold tYes
          refine iteT ⟨_, rfl, _, rfl, by show 1 ≤ sizeLine; decide, fun z hz => ?_⟩
          have s5 := same_upd (o := .tup [.int n]) hz
          refine cat_any (ys := [.int n]) (s5 _ _ hmt) upd_same (by rw [List.length_map]; show m.2.length + 1 ≤ 1000; omega) (fun H6 z6 s6 h6 => ?_)
          have s56 := s5.trans s6
          have hN' := s56 _ _ hN
          have hNl : N.length ≤ 256 := by
            have := congrArg List.length eN
            rw [List.length_map, List.length_map, List.length_take] at this; omega
          refine ⟨refs N, hN', by rw [refs_len]; exact Nat.lt_of_le_of_lt hNl (by decide), same_put hDn (s4.trans s56), N ++ [(z6, m.2 ++ [n])], by rw [upd_same, refs_app]; rfl, ((tN.same s56).app (fun q hq => by rw [List.mem_singleton.1 hq, List.map_append]; exact h6)).put hN', ?_⟩
          rw [List.map_append, eN, List.take_add_one, hm, List.map_append]; rfl
        · rintro H4 ⟨s4, N, hN, tN, eN⟩
          rw [refs_len, List.take_length] at eN
          have hNl : N.length = M.length := by
            have := congrArg List.length eN
            rwa [List.length_map, List.length_map] at this
          have h4o := s4 _ _ h3o
          refine ⟨o3, D, _, _, rfl, rfl, h4o, hN, by rw [refs_len, refs_len]; exact Nat.le_trans (show _ ≤ 512 by omega) (by decide), fun z hz => ?_⟩
          have s5 := same_upd (o := .lst (refs M ++ refs N)) hz
          refine ⟨z, _, _, M ++ N, rfl, s3.trans (s4.trans s5), by rw [upd_same, refs_app], ((t3.same s4).app tN).same s5, ?_⟩
          rw [List.map_append, eN, e3, List.take_add_one, hn]
          show _ = partsM (p.2.take j ++ [n])
          rw [partsM_snoc, ← e3, List.map_map]; rfl
      · rintro σ H3 ⟨o3, w4, w5, M, rfl, s3, h3o, t3, e3⟩
        rw [List.length_map, List.take_length] at e3
        refine ⟨_, rfl, 1, rfl, o3, _, rfl, SqL.of h3o, fun z hz => ?_⟩
        rw [cut1, ← refs_drop]
        have s4 := same_upd (o := .lst (refs (M.drop 1))) hz
        have h4z : upd H3 z (.lst (refs (M.drop 1))) z = some (.lst (refs (M.drop 1))) := upd_same
        have t4 : TLat (upd H3 z (.lst (refs (M.drop 1)))) (M.drop 1) := fun q hq => s4 _ _ (t3 q (List.mem_of_mem_drop hq))
        generalize upd H3 z (.lst (refs (M.drop 1))) = H4 at s4 h4z t4
        have hD4 := s4 _ _ (s3 _ _ hD)
        have hlen := lawF_le ((L.take i).map (·.2)) (fun l hl => by
          obtain ⟨q, hq, rfl⟩ := List.mem_map.1 hl
          exact h8 q (List.mem_of_mem_take hq))
        rw [List.length_map, List.length_take] at hlen
        have hM1 : M.length ≤ 256 := by
          have := congrArg List.length e3
          rw [List.length_map, partsM_len] at this
          rw [this]; exact Nat.le_trans (Nat.pow_le_pow_right (by decide) hp8) (by decide)
        refine ⟨z, rfl, ⟨_, SqL.of h4z⟩, for_list (K := K) (a := z) (xs := refs (M.drop 1))
          (fun j σ H' => ∃ (v4 v5 : Option V), σ = [some (.ref a), some (.ref d), some (.ref p.1), some (.ref o3), v4, v5, none] ∧ Same H H' ∧ H' z = some (.lst (refs (M.drop 1))) ∧ TLat H' (M.drop 1) ∧
            H' d = some (.dT (setD (addsM (lawF ((L.take i).map (·.2))) (((M.drop 1).take j).map (·.2))))))
          ⟨_, _, rfl, sm.trans (s3.trans s4), h4z, t4, hD4⟩ (fun j σ H' _ ⟨_, _, _, _, q, _⟩ => SqL.of q) ?_ ?_⟩
        · rintro j y σ H5 hj ⟨u4, u5, rfl, s5, h5z, t5, hD5⟩
          obtain ⟨q, hq, rfl⟩ := map_at hj
          refine ⟨_, rfl, _, rfl, d, _, rfl, DPut.t hD5 (k := kI q.2) (by rw [kI_kV]; exact t5 q (mem_at hq)) ?_, ?_⟩
          · rw [setD_len]
            have h1 := addsM_le (((M.drop 1).take j).map (·.2)) (lawF ((L.take i).map (·.2)))
            rw [List.length_map, List.length_take, List.length_drop] at h1
            exact Nat.lt_of_le_of_lt (show _ ≤ 3000 by omega) (by decide)
          · have nzd : z ≠ d := ne_of h5z hD5 (by intro e; cases e)
            refine ⟨_, _, rfl, same_put hd s5, by rw [upd_ne nzd]; exact h5z, t5.putD hD5, ?_⟩
            rw [upd_same, setD_put, List.take_add_one, hq, List.map_append]
            exact congrArg (fun z => some (HO.dT (setD z))) (addsM_snoc _ _ _).symm
        · rintro σ H5 ⟨u4, u5, rfl, s5, h5z, t5, hD5⟩
          rw [refs_len, List.take_length, List.map_drop, e3, ← hnext] at hD5
          exact ⟨_, _, _, _, rfl, s5, hD5⟩
    · rintro σ H1 ⟨v2, v3, v4, v5, rfl, sm, hD⟩
      rw [refs_len, List.take_length] at hD
      refine ⟨_, rfl, d, _, rfl, .inl hD, fun p bs hpn hk => ?_⟩
      obtain ⟨G, eG, eG2, tG⟩ := keys_TL hk
      rw [eG]
      have hlen := lawF_le (L.map (·.2)) (fun l hl => by
        obtain ⟨q, hq, rfl⟩ := List.mem_map.1 hl
        exact h8 q hq)
      rw [List.length_map] at hlen
      have hGl : G.length ≤ 2560 := by
        have := congrArg List.length eG2
        rw [List.length_map] at this; omega
      have sp := same_upd (o := .lst (refs G)) hpn
      have hA2 : upd H1 p (.lst (refs G)) p = some (.lst (refs G)) := upd_same
      have tl := tG.same sp
      generalize upd H1 p (.lst (refs G)) = H9 at sp hA2 tl
      refine ⟨p, rfl, ⟨_, SqL.of hA2⟩, fun D hD => ?_⟩
      refine lc_it (walk_list (K := K) (a := p) (xs := refs G))
        (fun j H2 => Same H9 H2 ∧ ∃ M : List (Addr × (Addr × List Int)), H2 D = some (.lst (M.map fun b => V.ref b.1)) ∧ M.map (·.2) = G.take j ∧
          ∀ b ∈ M, H2 b.1 = some (.tup [.int b.2.2.length, .ref b.2.1]))
        ⟨same_upd hD, [], (by rw [upd_same]; rfl), rfl, (fun b hb => nomatch hb)⟩ (fun j H2 _ q => SqL.of (q.1 _ _ hA2)) ?_ ?_
      · rintro j x H2 H3 hj ⟨s2, M, hM, eM, tM⟩ ⟨e3, hx⟩
        subst e3
        obtain ⟨p, hp, rfl⟩ := map_at hx
        have hpt := s2 _ _ (tl p (mem_at hp))
        refine ⟨rfl, ?_⟩
        unfold tYes
        refine iteT ?_
        refine ⟨_, rfl, p.1, _, rfl, .inr (SqT.of hpt), _, rfl, (by show 2 ≤ sizeLine; decide), fun q hq => ?_⟩
        rw [List.length_map]
        have s3 : Same H3 (upd H3 q (.tup [.int p.2.length, .ref p.1])) := same_upd hq
        have hM' := s3 _ _ hM
        have hMl : M.length ≤ 2560 := by
          have := congrArg List.length eM
          rw [List.length_map, List.length_take] at this; omega
        refine ⟨_, hM', (by rw [List.length_map]; exact Nat.lt_of_le_of_lt hMl (by decide)), same_put hD (s2.trans s3), M ++ [(q, p)], ?_, ?_, ?_⟩
        · rw [upd_same, List.map_append]; rfl
        · rw [List.map_append, eM, List.take_add_one, hp]; rfl
        · intro b hb
          rcases List.mem_append.1 hb with h | h
          · have h1 := s3 _ _ (tM b h)
            rw [upd_ne (ne_of h1 hM' (by intro z; cases z))]; exact h1
          · rw [List.mem_singleton.1 h]
            have h1 : upd H3 q (.tup [.int p.2.length, .ref p.1]) q = some (.tup [.int p.2.length, .ref p.1]) := upd_same
            rw [upd_ne (ne_of h1 hM' (by intro z; cases z))]; exact h1
      · rintro H2 ⟨s2, M, hM, eM, tM⟩
        rw [refs_len, List.take_length] at eM
        have hMl : M.length = G.length := by rw [← eM, List.length_map]
        have tl2 : ∀ b ∈ M, H2 b.2.1 = some (.tup (b.2.2.map V.int)) := fun b hb => s2 _ _ (tl b.2 (by rw [← eM]; exact List.mem_map.2 ⟨b, hb, rfl⟩))
        refine ⟨_, M, (fun b => b.1), (fun b => dO b.2.2), D, rfl, SqL.of hM, ?_, AllAlike.of (fun a b => alikeO _ _), Sortable.tuples (fun b => ⟨_, _, rfl⟩), (fun b _ => by rw [depthO]; decide), fun p hp => ?_⟩
        · intro b hb
          exact .tup (SqT.of (tM b hb)) (.cons (.int _) (.cons (dpT (tl2 b hb)) .nil))
        · have s3 : Same H2 (upd H2 p (.lst ((M.mergeSort (dataLe false fun b => dO b.2.2)).map fun b => V.ref b.1))) := same_upd hp
          have eS : (M.mergeSort (dataLe false fun b => dO b.2.2)).map (·.2) = G.mergeSort leO := by
            rw [← eM]; exact sort_maps (r := dataLe false fun b : Addr × (Addr × List Int) => dO b.2.2) (s := leO) (fun b : Addr × (Addr × List Int) => b.2) (fun _ _ _ _ => rfl)
          refine ⟨p, rfl, ⟨_, SqL.of upd_same⟩, fun D2 hD2 => ?_⟩
          refine lc_it (walk_list (K := K) (a := p) (xs := (M.mergeSort (dataLe false fun b => dO b.2.2)).map fun b => V.ref b.1))
            (fun j H3 => Same (upd H2 p (.lst ((M.mergeSort (dataLe false fun b => dO b.2.2)).map fun b => V.ref b.1))) H3 ∧ H3 D2 = some (.lst (refs ((G.mergeSort leO).take j))))
            ⟨same_upd hD2, by rw [upd_same]; rfl⟩ (fun j H3 _ q => SqL.of (q.1 _ _ upd_same)) ?_ ?_
          · rintro j x H3 H4 hj c ⟨e4, hx⟩
            subst e4
            obtain ⟨b, hb, rfl⟩ := map_at hx
            have hbM : b ∈ M := (List.mem_mergeSort).1 (mem_at hb)
            have hbt := c.1 _ _ (s3 _ _ (tM b hbM))
            refine ⟨rfl, ?_⟩
            unfold tYes
            refine iteT ?_
            refine ⟨_, rfl, b.1, _, 1, _, rfl, rfl, SqT.of hbt, rfl, ?_⟩
            refine ⟨_, c.2, ?_, same_put hD2 c.1, ?_⟩
            · rw [refs_len, List.length_take, List.length_mergeSort]
              exact Nat.lt_of_le_of_lt (show _ ≤ 2560 by omega) (by decide)
            · have hb2 : (G.mergeSort leO)[j]? = some b.2 := by rw [← eS, List.getElem?_map, hb]; rfl
              rw [upd_same, List.take_add_one, hb2, refs_app]; rfl
          · intro H3 c
            have e5 : (G.mergeSort leO).take ((M.mergeSort (dataLe false fun b => dO b.2.2)).map fun b => V.ref b.1).length = G.mergeSort leO := by
              rw [List.length_map, List.length_mergeSort, hMl]
              exact List.take_of_length_le (by rw [List.length_mergeSort]; exact Nat.le_refl _)
            have h5 := c.2
            rw [e5] at h5
            have sA := s2.trans (s3.trans c.1)
            exact k H3 D2 G (sm.trans (sp.trans sA)) (sm.free (sp.free (s2.free (s3.free hD2)))) (tl.same sA) eG2 h5
end
end K63W


namespace K63W
open PySem L2 RZ StX PySem.W

abbrev sWithin : Stmt := top 51
abbrev sFacets : Stmt := top 52

/-- are all of l among those of o -/
def inM (l o : List Int) : Bool := l.all fun n => decide (n ∈ o)
theorem inM_filter (l o : List Int) : (l.filter fun n => !decide (n ∈ o)).isEmpty = inM l o := by
  unfold inM
  induction l with
  | nil => rfl
  | cons x l ih =>
    by_cases h : x ∈ o
    · rw [List.filter_cons_of_neg (by simp [h]), ih]; simp [h]
    · rw [List.filter_cons_of_pos (by simp [h])]; simp [h]
/-- the faces that l is a facet of, and the faces without any -/
def upM (Fs : List (List Int)) (l : List Int) : List (List Int) := Fs.filter fun o => decide (o.length = l.length + 1) && inM l o
def facM (Fs : List (List Int)) : List (List Int) := Fs.filter fun l => (upM Fs l).isEmpty

section
variable {P : Program} {w : World} {K : PySem.W.Frag} {mg : Str → Option Value} {base : Heap}
theorem sc51 : FnScope ["_law_one", "_law_other", "_law_vertex"] ["_law_one", "_law_other"] (defScope sWithin) := ⟨rfl, rfl, rfl, by decide +kernel, rfl, by decide +kernel, by decide +kernel⟩
def spWithin : Sp := fun vs H Q _ => ∃ (t u : Addr) (l o : List Int), vs = [.ref t, .ref u] ∧ H t = some (.tup (l.map V.int)) ∧ H u = some (.tup (o.map V.int)) ∧ l.length ≤ 8 ∧ ∀ H', Same H H' → Q (.bl (inM l o)) H'
theorem ok_within {f : Addr} {fd : FuncData} (F : Fun K "_law_within" "_law_within" sWithin f fd) (B : Bl mg) :
    FnOk P w K mg base CX0 1 f fd ["_law_one", "_law_other"] spWithin := by
  refine F.ok sc51 (fun vs H Q E h => ?_) (fun cdv A outer s H vs Q E hr h => ?_)
  · obtain ⟨_, _, _, _, rfl, _⟩ := h
    rfl
  · obtain ⟨t, u, l, o, rfl, ht, hu, h8, k⟩ := h
    refine ⟨_, pss_one (ps_ret (pe_cmpR (op_eqD hr.units) (pe_lc (own := [("_law_vertex", 2)]) (g := gName 2) (tt := tTest (tOp (rIn K true) (tVar 2) (tVar 1))) (te := tVar 2) (by rfl) sc51.nd (pi_tup (pv 0)) (blkOk_by (own := [("_law_vertex", 2)]) (N := ["_law_one", "_law_other", "_law_vertex"]) (sc := defScope sWithin) (by decide +kernel))
        (fun _ _ _ _ _ => pg_name (i := 2) sc51.nd rfl (Or.inl rfl)) (fun _ _ _ _ _ => pts_one (pt_cmpR op_notIn_seq (pv 2) (pv 1) (by rfl))) (fun _ _ _ _ _ => pv 2)) (pe_lst pa_nil) (nomark _))), ?_⟩
    refine ⟨_, rfl, t, rfl, ⟨_, SqT.of ht⟩, fun D hD => ?_⟩
    refine lc_it (walk_tup (K := K) (a := t) (xs := l.map V.int)) (Cmp H D fun j => ((l.take j).filter fun n => !decide (n ∈ o)).map V.int) (Cmp.start hD rfl) (fun j H' _ c => SqT.of (c.same _ _ ht)) ?_ ?_
    · rintro j x H1 H2 hj c ⟨rfl, hx⟩
      obtain ⟨n, hn, rfl⟩ := map_at hx
      have hfl : ((l.take j).filter fun n => !decide (n ∈ o)).length ≤ 8 := by
        have h1 := List.length_filter_le (fun n => !decide (n ∈ o)) (l.take j)
        rw [List.length_take] at h1; omega
      refine ⟨rfl, _, rfl, _, rfl, u, _, rfl, .inr (SqT.of (c.same _ _ hu)), rfl, flat_ints _, _, rfl, ?_⟩
      rw [show inV (.int n) (o.map V.int) = decide (n ∈ o) from inV_ints n o]
      by_cases hm : n ∈ o
      · rw [show (if true = true then !decide (n ∈ o) else decide (n ∈ o)) = false by rw [if_pos rfl, decide_eq_true hm]; rfl]
        exact iteF (c.skip Same.rfl' (by rw [List.take_add_one, hn, List.filter_append]; simp [hm]))
      · rw [show (if true = true then !decide (n ∈ o) else decide (n ∈ o)) = true by rw [if_pos rfl, decide_eq_false hm]; rfl]
        exact iteT ⟨_, rfl, c.put hD Same.rfl' (by rw [List.take_add_one, hn, List.filter_append, List.map_append]; simp [hm]) (by rw [List.length_map]; omega)⟩
    · intro H1 c
      have hl := c.lst
      rw [List.length_map, List.take_length] at hl
      refine ⟨by show 0 ≤ sizeLine; decide, fun e he => ?_⟩
      have s2 := same_upd (o := .lst []) he
      refine ⟨.list ((l.filter fun n => !decide (n ∈ o)).map PyData.int), .list [], .lst (SqL.of (s2 _ _ hl)) (dpInts _), .lst (SqL.of upd_same) .nil, ke_shaped_ints _, shapedLT [], ?_⟩
      rw [eqv_nilL]
      have e1 : ((l.filter fun n => !decide (n ∈ o)).map PyData.int).isEmpty = inM l o := by
        rw [← inM_filter]; cases (l.filter fun n => !decide (n ∈ o)) <;> rfl
      rw [e1]
      exact k _ (c.same.trans s2)

abbrev nmFc : List Str := ["_law_faces_here", "_law_found", "_law_one", "_law_other"]
theorem sc52 : FnScope nmFc ["_law_faces_here"] (defScope sFacets) := ⟨rfl, rfl, rfl, by decide +kernel, rfl, by decide +kernel, by decide +kernel⟩
def spFacets : Sp := fun vs H Q _ => ∃ (a : Addr) (L : TL), vs = [.ref a] ∧ H a = some (.lst (refs L)) ∧ TLat H L ∧ L.length ≤ 2560 ∧ (∀ p ∈ L, 1 ≤ p.2.length ∧ p.2.length ≤ 8) ∧
  ∀ H' t (M : TL), Same H H' → TLat H' M → M.map (·.2) = facM (L.map (·.2)) → H' t = some (.tup (refs (M.mergeSort leT))) → Q (.ref t) H'
theorem ok_facets {f f1 : Addr} {fd fd1 : FuncData} (F : Fun K "_law_facets" "_law_facets" sFacets f fd) (B : Bl mg)
    (G1 : FnOk P w K mg base CX0 1 f1 fd1 ["_law_one", "_law_other"] spWithin) (k1 : Lk K mg "_law_within" f1 fd1 ["_law_one", "_law_other"]) :
    FnOk P w K mg base CX0 2 f fd ["_law_faces_here"] spFacets := by
  refine F.ok sc52 (fun vs H Q E h => ?_) (fun cdv A outer s H vs Q E hr h => ?_)
  · obtain ⟨_, _, rfl, _⟩ := h
    rfl
  · obtain ⟨a, L, rfl, hA, tL, hlen, h18, k⟩ := h
    refine ⟨_, pss_cons (ps_set (i := 1) sc52.nd rfl (Or.inl rfl) (pe_lst pa_nil))
      (pss_cons (ps_for PassesOwn.never rfl (pi_list (pv 0)) (pg_name (i := 2) sc52.nd rfl (Or.inr rfl))
        (pss_one (ps_if (pt_cmpR (op_eqD hr.units) (pe_lc (own := [("_law_other", 3)]) (g := gName 3) (te := tVar 3)
            (tt := tAnd (tTest (tOp rEq (tCB (rLenQ K) (tCons (tVar 3) tNil)) (tOp (rI0 fun i j => .int (i + j)) (tCB (rLenQ K) (tCons (tVar 2) tNil)) (tC (.int 1))))) (tB (tCall spWithin [] E0 (tCons (tVar 2) (tCons (tVar 3) tNil))))) (by rfl) sc52.nd (pi_list (pv 0))
            (blkOk_by (own := [("_law_other", 3)]) (N := nmFc) (sc := defScope sFacets) (by decide +kernel)) (fun _ _ _ _ _ => pg_name (i := 3) sc52.nd rfl (Or.inl rfl))
            (fun _ _ _ _ _ => pts_one (PW.pt (pw_and (pt_cmpR op_eq (pe_callB call_len_seq (by rfl) B.len PySem.boot_len (pa_cons (pv 3) pa_nil)) (pe_op op_add (pe_callB call_len_seq (by rfl) B.len PySem.boot_len (pa_cons (pv 2) pa_nil)) pe_int) (nomark _))
              (pw_and1 (pt_val (pe_call G1 hr rfl k1.g k1.k k1.b .nil pass0 (pa_cons (pv 2) (pa_cons (pv 3) pa_nil)))))))) (fun _ _ _ _ _ => pv 3)) (pe_lst pa_nil) (nomark _))
          (pss_one (ps_expr (pe_bm PySem.F.plainAttrs_list PySem.F.slot_list_append PySem.F.type_list_append mt_append (pv 1) (pa_cons (pv 2) pa_nil)))) pss_nil)))
      (pss_one (ps_ret (pe_callTy call_tuple_of (by rfl) B.tuple (by decide +kernel) (pa_cons (pe_callB (cr_sortedD hr.units) (by rfl) B.sorted (by decide +kernel) (pa_cons (pv 1) pa_nil)) pa_nil))))), ?_⟩
    obtain ⟨Fs, hFs⟩ : ∃ Fs, Fs = L.map (·.2) := ⟨_, rfl⟩
    rw [← hFs] at k
    have gF : ∀ {i : Nat} {b : Addr × List Int}, L[i]? = some b → Fs[i]? = some b.2 := fun {i b} h => by rw [hFs, List.getElem?_map, h]; rfl
    have lF : Fs.length = L.length := by rw [hFs, List.length_map]
    refine ⟨by show 0 ≤ sizeLine; decide, fun q hq => ?_⟩
    have hAq : a ≠ q := ne_of_none hA hq
    refine ⟨_, rfl, a, rfl, ⟨_, SqL.of ((same_upd hq) _ _ hA)⟩, for_list (K := K) (a := a) (xs := refs L)
      (fun i σ H' => ∃ (v2 : Option V) (M : TL), σ = [some (.ref a), some (.ref q), v2, none] ∧ Same H H' ∧ H' q = some (.lst (refs M)) ∧ TLat H' M ∧ M.map (·.2) = (Fs.take i).filter fun l => (upM Fs l).isEmpty)
      ⟨none, [], rfl, same_upd hq, by rw [upd_same]; rfl, (fun p hp => nomatch hp), rfl⟩ (fun i σ H' _ ⟨_, _, _, s, _⟩ => SqL.of (s _ _ hA)) ?_ ?_⟩
    · rintro i x σ H1 hi ⟨v2, M, rfl, s1, hM, tM, eM⟩
      obtain ⟨b, hb, rfl⟩ := map_at hi
      have hbt := s1 _ _ (tL b (mem_at hb))
      have hA1 := s1 _ _ hA
      have hMl : M.length ≤ 2560 := by
        have e1 := congrArg List.length eM
        have e2 := List.length_filter_le (fun l => (upM Fs l).isEmpty) (Fs.take i)
        rw [List.length_map] at e1
        rw [List.length_take] at e2; omega
      refine ⟨_, rfl, a, rfl, ⟨_, SqL.of hA1⟩, fun D hD => ?_⟩
      refine lc_it (walk_list (K := K) (a := a) (xs := refs L)) (fun j H' => Same H1 H' ∧ ∃ N : TL, H' D = some (.lst (refs N)) ∧ TLat H' N ∧ N.map (·.2) = (Fs.take j).filter fun o => decide (o.length = b.2.length + 1) && inM b.2 o)
        ⟨same_upd hD, [], by rw [upd_same]; rfl, (fun p hp => nomatch hp), rfl⟩ (fun j H' _ c => SqL.of (c.1 _ _ hA1)) ?_ ?_
      · rintro j x H2 H3 hj ⟨s2, N, hN, tN, eN⟩ ⟨rfl, hx⟩
        obtain ⟨c, hc, rfl⟩ := map_at hx
        have hct := s2 _ _ (s1 _ _ (tL c (mem_at hc)))
        have hbt3 := s2 _ _ hbt
        have hNl : N.length ≤ 2560 := by
          have e1 := congrArg List.length eN
          have e2 := List.length_filter_le (fun o : List Int => decide (o.length = b.2.length + 1) && inM b.2 o) (Fs.take j)
          rw [List.length_map] at e1
          rw [List.length_take] at e2; omega
        have eT : ∀ bb : Bool, (decide (c.2.length = b.2.length + 1) && inM b.2 c.2) = bb → (Fs.take (j + 1)).filter (fun o => decide (o.length = b.2.length + 1) && inM b.2 o) = (Fs.take j).filter (fun o => decide (o.length = b.2.length + 1) && inM b.2 o) ++ if bb = true then [c.2] else [] := by
          intro bb hbb
          rw [List.take_add_one, gF hc, List.filter_append]
          subst hbb
          cases hh : (decide (c.2.length = b.2.length + 1) && inM b.2 c.2) <;> simp [hh]
        refine ⟨rfl, _, rfl, c.1, _, rfl, .inr (SqT.of hct), _, rfl, b.1, _, rfl, .inr (SqT.of hbt3), _, _, rfl, rfl, rfl, _, rfl, ?_⟩
        rw [List.length_map, List.length_map]
        by_cases h1 : c.2.length = b.2.length + 1
        · rw [show decide (V.int ((c.2.length : Nat) : Int) = V.int (((b.2.length : Nat) : Int) + 1)) = true from decide_eq_true (by rw [h1]; rfl)]
          refine iteT ⟨_, rfl, _, rfl, b.1, c.1, b.2, c.2, rfl, hbt3, hct, (h18 b (mem_at hb)).2, fun H4 s4 => ⟨_, rfl, ?_⟩⟩
          have s24 := s2.trans s4
          cases h2 : inM b.2 c.2 with
          | true =>
            refine iteT ⟨_, rfl, _, s4 _ _ hN, by rw [refs_len]; exact Nat.lt_of_le_of_lt hNl (by decide), same_put hD s24, N ++ [(c.1, c.2)], by rw [upd_same, refs_app]; rfl, ((tN.same s4).app (fun p hp => by rw [List.mem_singleton.1 hp]; exact s4 _ _ hct)).put (s4 _ _ hN), ?_⟩
            rw [eT true (by rw [h2, decide_eq_true h1]; rfl), List.map_append, eN]; rfl
          | false =>
            refine iteF ⟨s24, N, s4 _ _ hN, tN.same s4, ?_⟩
            rw [eT false (by rw [h2, decide_eq_true h1]; rfl), eN]; simp
        · rw [show decide (V.int ((c.2.length : Nat) : Int) = V.int (((b.2.length : Nat) : Int) + 1)) = false from decide_eq_false (fun z => h1 (by have := V.int.inj z; omega))]
          refine iteF (iteF ⟨s2, N, hN, tN, ?_⟩)
          rw [eT false (by rw [decide_eq_false h1]; rfl), eN]; simp
      · rintro H2 ⟨s2, N, hN, tN, eN⟩
        rw [refs_len, ← lF, List.take_length] at eN
        refine ⟨by show 0 ≤ sizeLine; decide, fun e he => ?_⟩
        have s3 := same_upd (o := .lst []) he
        have he3 : upd H2 e (.lst []) e = some (.lst []) := upd_same
        generalize upd H2 e (.lst []) = H3 at s3 he3
        have eD : (N.map fun p => dT p.2) = (upM Fs b.2).map dT := by
          have : (upM Fs b.2) = N.map (·.2) := eN.symm
          rw [this, List.map_map]; rfl
        refine ⟨dLT (upM Fs b.2), .list [], .lst (SqL.of (s3 _ _ hN)) (by rw [← eD]; exact dp_TL (tN.same s3)), .lst (SqL.of he3) .nil, shapedLT _, shapedLT [], _, rfl, ?_⟩
        unfold dLT
        rw [eqv_nilL]
        have s13 := s1.trans (s2.trans s3)
        have hM3 := (s2.trans s3) _ _ hM
        have eQ : (Fs.take (i + 1)).filter (fun l => (upM Fs l).isEmpty) = (Fs.take i).filter (fun l => (upM Fs l).isEmpty) ++ if ((upM Fs b.2).map dT).isEmpty = true then [b.2] else [] := by
          rw [List.take_add_one, gF hb, List.filter_append]
          have : ((upM Fs b.2).map dT).isEmpty = (upM Fs b.2).isEmpty := by cases upM Fs b.2 <;> rfl
          rw [this]
          cases hh : (upM Fs b.2).isEmpty <;> simp [hh]
        cases hE : ((upM Fs b.2).map dT).isEmpty with
        | true =>
          rw [hE] at eQ
          refine iteT ⟨_, rfl, .inl ⟨rfl, _, SqL.of hM3⟩, _, rfl, q, _, _, rfl, rfl, hM3, by rw [refs_len]; exact Nat.lt_of_le_of_lt hMl (by decide), ?_⟩
          refine ⟨_, M ++ [(b.1, b.2)], rfl, same_put hq s13, by rw [upd_same, refs_app]; rfl, ((tM.same (s2.trans s3)).app (fun p hp => by rw [List.mem_singleton.1 hp]; exact (s2.trans s3) _ _ hbt)).put hM3, ?_⟩
          rw [List.map_append, eM]; exact eQ.symm
        | false =>
          rw [hE] at eQ
          refine iteF ⟨_, M, rfl, s13, hM3, tM.same (s2.trans s3), ?_⟩
          rw [eM]; exact (eQ.trans (by simp)).symm
    · rintro σ H1 ⟨v2, M, rfl, s1, hM, tM, eM⟩
      rw [refs_len, ← lF, List.take_length] at eM
      refine ⟨_, rfl, _, M, (fun b => b.1), (fun b => dT b.2), q, rfl, SqL.of hM, fun b hb => dpT (tM b hb), AllAlike.of (fun a b => alikeT _ _), ?_, (fun b _ => by rw [depthT]; decide), fun p hp => ?_⟩
      · refine .inl fun dd hdd => ?_
        obtain ⟨b, hb, rfl⟩ := List.mem_map.1 hdd
        have hbL : b.2 ∈ Fs := by
          have : b.2 ∈ M.map (·.2) := List.mem_map.2 ⟨b, hb, rfl⟩
          rw [eM] at this; exact (List.mem_filter.1 this).1
        rw [hFs] at hbL
        obtain ⟨c, hc, hcb⟩ := List.mem_map.1 hbL
        have h1 := (h18 c hc).1
        rw [hcb] at h1
        cases hb2 : b.2 with
        | nil => rw [hb2] at h1; exact absurd h1 (by decide)
        | cons n ns => exact ⟨_, _, rfl⟩
      · refine ⟨p, _, rfl, .inl ⟨SqL.of upd_same, fun t ht => ?_⟩⟩
        have s6 := same_upd (o := .lst ((M.mergeSort (dataLe false fun b => dT b.2)).map fun b => V.ref b.1)) hp
        have s7 := same_upd (o := .tup ((M.mergeSort (dataLe false fun b => dT b.2)).map fun b => V.ref b.1)) ht
        exact k _ t M (s1.trans (s6.trans s7)) (tM.same (s6.trans s7)) eM upd_same
end
end K63W


namespace K63W
open PySem L2 RZ StX PySem.W

abbrev sLaw : Stmt := top 53

/-! ### what the law asks, in plain Lean -/
/-- the rows' own sets, a column each; the columns' own sets, a row each -/
def lrM (h w : Nat) (T : Nat → Nat → Int) : List (List Int) := ((List.range (if h = 0 then 0 else w)).map fun c => onesM h fun r => T r c).filter fun l => !l.isEmpty
def lcM (h w : Nat) (T : Nat → Nat → Int) : List (List Int) := ((List.range h).map fun r => onesM w (T r)).filter fun l => !l.isEmpty
/-- the tables that are drawn -/
def TabOk (h w : Nat) (T : Nat → Nat → Int) : Prop := (h ≤ 7 ∧ w ≤ 6) ∨ (h = 8 ∧ w = 6 ∧ ∀ r c, r < 8 → c < 6 → T r c = if K63.T8 r c = true then 1 else 0)
structure PlainOk (h w : Nat) (T : Nat → Nat → Int) : Prop where
  mr : MadeOk (sosM (rowsM h w T))
  mc : MadeOk (colsM h w T)
  er : (madeM (sosM (rowsM h w T))).mergeSort leD = (lawF (lrM h w T)).mergeSort leD
  ec : (madeM (colsM h w T)).mergeSort leD = (lawF (lcM h w T)).mergeSort leD
  hol : ∃ r r' : Nat → Nat, (∀ k : Nat, k ≤ 6 → DivOk (madeM (sosM (rowsM h w T))) ((k : Int) - 1) (r k)) ∧ (∀ k : Nat, k ≤ 6 → DivOk (madeM (colsM h w T)) ((k : Int) - 1) (r' k)) ∧
    ∀ k : Nat, k ≤ 5 → ((atM (madeM (sosM (rowsM h w T))) ((k : Int) - 1)).length : Int) - (r k : Int) - (r (k + 1) : Int) = ((atM (madeM (colsM h w T)) ((k : Int) - 1)).length : Int) - (r' k : Int) - (r' (k + 1) : Int)
noncomputable def topsOf (Ls : List (List Int)) : List (List Int) := ((facM ((lawF Ls).mergeSort leD)).mergeSort leS).take 8
def TopsOk (tops : List (List Int)) : Prop := tops.length ≤ 7 ∨ (tops.length = 8 ∧ ∀ r c : Nat, r < 8 → c < 6 → ((c : Int) ∈ tops.getD r [] ↔ K63.T8 r c = true))

theorem parts_ne (ns : List Int) : ∀ l ∈ (partsM ns).drop 1, 1 ≤ l.length ∧ l.length ≤ ns.length := by
  intro l hl
  refine ⟨?_, partsM_le ns l (List.mem_of_mem_drop hl)⟩
  have h : ∀ ns : List Int, ∃ R, partsM ns = [] :: R ∧ ∀ l ∈ R, 1 ≤ l.length := by
    intro ns
    have go : ∀ (B : List Int) (A : List (List Int)), (∃ R, A = [] :: R ∧ ∀ l ∈ R, 1 ≤ l.length) → ∃ R, B.foldl (fun f v => f ++ f.map (· ++ [v])) A = [] :: R ∧ ∀ l ∈ R, 1 ≤ l.length := by
      intro B
      induction B with
      | nil => intro A h; exact h
      | cons v B ih =>
        rintro A ⟨R, rfl, hR⟩
        refine ih _ ⟨R ++ ([] :: R).map (· ++ [v]), rfl, fun l hl => ?_⟩
        rcases List.mem_append.1 hl with h | h
        · exact hR l h
        · obtain ⟨m, _, rfl⟩ := List.mem_map.1 h
          simp
    exact go ns [[]] ⟨[], rfl, fun l hl => nomatch hl⟩
  obtain ⟨R, e, hR⟩ := h ns
  rw [e] at hl
  exact hR l hl
theorem mem_addM {f : List (List Int)} {p l : List Int} : l ∈ addM f p ↔ l ∈ f ∨ l = p := by
  unfold addM
  split
  · rename_i h
    exact ⟨.inl, fun z => z.elim id (fun e => e ▸ h)⟩
  · simp
theorem mem_addsM {ps : List (List Int)} : ∀ {f : List (List Int)} {l : List Int}, l ∈ addsM f ps ↔ l ∈ f ∨ l ∈ ps := by
  induction ps with
  | nil => intro f l; simp [addsM]
  | cons p ps ih =>
    intro f l
    have : addsM f (p :: ps) = addsM (addM f p) ps := rfl
    rw [this, ih, mem_addM, List.mem_cons, or_assoc]
theorem mem_lawF {Ls : List (List Int)} {l : List Int} : l ∈ lawF Ls ↔ ∃ s ∈ Ls, l ∈ (partsM s).drop 1 := by
  have : ∀ (B A : List (List Int)), l ∈ B.foldl (fun f s => addsM f ((partsM s).drop 1)) A ↔ l ∈ A ∨ ∃ s ∈ B, l ∈ (partsM s).drop 1 := by
    intro B
    induction B with
    | nil => intro A; simp
    | cons s B ih => intro A; rw [List.foldl_cons, ih, mem_addsM]; simp [or_assoc]
  have h := this Ls []
  simpa [lawF] using h

theorem shapedT (l : List Int) : SeqAt.shaped (dT l) = true := by
  unfold SeqAt.shaped
  rw [canLayT, depthT]; rfl
theorem TabAt.sx {a : Addr} {H H' : Hp} {t : Addr} {h w : Nat} {T : Nat → Nat → Int} {ad : Nat → Addr} (b : TabAt H t h w T ad) (x : Sx a H H') (ha : ∃ xs, H a = some (.lst xs)) : TabAt H' t h w T ad := by
  obtain ⟨xs, ha⟩ := ha
  exact ⟨x _ _ (ne_of b.top ha (by intro z; cases z)) b.top, fun r hr => x _ _ (ne_of (b.row r hr) ha (by intro z; cases z)) (b.row r hr), b.h8, b.w8, b.bit⟩
/-- two lists of the same tuples of ints -/
theorem al_lists {H : Hp} {q q' : Addr} {L M : TL} (h1 : H q = some (.lst (refs L))) (h2 : H q' = some (.lst (refs M))) (t1 : TLat H L) (t2 : TLat H M) (e : L.map (·.2) = M.map (·.2)) (hl : M.length ≤ 1000) (h8 : ∀ p ∈ M, p.2.length ≤ 1000) : Al H 2 (.ref q) (.ref q') := by
  refine .inr ⟨q, q', _, _, rfl, rfl, .inl ⟨h1, h2⟩, ?_, by rw [refs_len]; exact hl, fun k x y hx hy => ?_⟩
  · have := congrArg List.length e
    rw [List.length_map, List.length_map] at this
    rw [refs_len, refs_len, this]
  · obtain ⟨a, ha, rfl⟩ := map_at hx
    obtain ⟨b, hb, rfl⟩ := map_at hy
    have e1 : (L.map (·.2))[k]? = some a.2 := by rw [List.getElem?_map, ha]; rfl
    have e2 : (M.map (·.2))[k]? = some b.2 := by rw [List.getElem?_map, hb]; rfl
    rw [e, e2] at e1
    have e3 : a.2 = b.2 := (Option.some.inj e1).symm
    refine .inr ⟨a.1, b.1, _, _, rfl, rfl, .inr ⟨t1 a (mem_at ha), t2 b (mem_at hb)⟩, by rw [e3], by rw [List.length_map]; exact h8 b (mem_at hb), fun j x y hx hy => ?_⟩
    rw [e3] at hx
    rw [hx] at hy
    obtain ⟨n, _, rfl⟩ := map_at hx
    exact ⟨n, rfl, (Option.some.inj hy).symm⟩
/-- two lists of six pairs of an int and an empty tuple -/
theorem al_holes {H : Hp} {q q' : Addr} {t t' e e' : Nat → Addr} {v v' : Nat → Int} (h1 : H q = some (.lst (aV 6 t))) (h2 : H q' = some (.lst (aV 6 t'))) (a1 : ∀ k, k < 6 → H (t k) = some (.tup [.int (v k), .ref (e k)]) ∧ H (e k) = some (.tup []))
    (a2 : ∀ k, k < 6 → H (t' k) = some (.tup [.int (v' k), .ref (e' k)]) ∧ H (e' k) = some (.tup [])) (hv : ∀ k, k < 6 → v k = v' k) : Al H 3 (.ref q) (.ref q') := by
  refine .inr ⟨q, q', _, _, rfl, rfl, .inl ⟨h1, h2⟩, by rw [aV_len, aV_len], by rw [aV_len]; decide, fun k x y hx hy => ?_⟩
  have hk : k < 6 := by have := (List.getElem?_eq_some_iff.mp hx).1; rwa [aV_len] at this
  rw [aV_get _ hk] at hx hy
  cases hx; cases hy
  refine .inr ⟨t k, t' k, _, _, rfl, rfl, .inr ⟨(a1 k hk).1, (a2 k hk).1⟩, rfl, by show 2 ≤ 1000; decide, fun j x y hx hy => ?_⟩
  match j, hx, hy with
  | 0, hx, hy => cases hx; cases hy; exact .inl ⟨v k, rfl, by rw [hv k hk]⟩
  | 1, hx, hy => cases hx; cases hy; exact .inr ⟨e k, e' k, [], [], rfl, rfl, .inr ⟨(a1 k hk).2, (a2 k hk).2⟩, rfl, by decide, fun j x y hx hy => by simp at hx⟩
  | j + 2, hx, hy => simp at hx

theorem tseq_with {A B : TS} {D : Ends} {σ : L2.St} {H : Hp} (P : L2.St → Hp → Prop) (hB : ∀ σ H, P σ H → B D σ H) (hA : (∀ σ H, P σ H → B D σ H) → tSeq A B D σ H) : tSeq A B D σ H := hA hB
end K63W


namespace K63W
open PySem L2 RZ StX PySem.W

theorem tyes {σ : L2.St} {H : Hp} {Q : Bool → Hp → Prop} (h : Q true H) : tYes σ H Q := h
section
variable {P : Program} {w : World} {K : PySem.W.Frag} {mg : Str → Option Value} {base : Heap}
abbrev nmLw : List Str := ["_law_script", "_law_row", "_law_high", "_law_wide", "_law_far", "_law_table", "_law_tops", "_law_one", "_law_other", "_law_rows", "_law_columns", "_law_spot", "_law_line", "_law_at", "_law_vertex", "_law_top", "_law_some", "_law_degree"]
theorem scLw : FnScope nmLw ["_law_script"] (defScope sLaw) := ⟨rfl, rfl, rfl, by decide +kernel, rfl, by decide +kernel, by decide +kernel⟩
def spLaw (K : PySem.W.Frag) : Sp := fun vs H Q _ => ∃ (a : Addr) (ns : List Int), vs = [.ref a] ∧ SqL K H a (ns.map V.int) ∧ ∀ H', Q (.bl true) H'
def tHol (K : PySem.W.Frag) (C : Addr) (i : Nat) : TE := tCall (spHoles C) [] E0 (tCons (tVar i) (tCons (tVar 17) tNil))
theorem ok_law {f C fT fP fS fFT fFL fFc fRS fCS fAl fSo fHo : Addr} {fd dT' dP' dS' dFT dFL dFc dRS dCS dAl dSo dHo : FuncData} (F : Fun K "law" "law" sLaw f fd) (B : Bl mg)
    (G1 : FnOk P w K mg base CX0 1 fT dT' ["_law_row", "_law_many"] (spTaken K)) (k1 : Lk K mg "_law_taken" fT dT' ["_law_row", "_law_many"])
    (G2 : FnOk P w K mg base CX0 2 fP dP' ["_law_row", "_law_things"] (spPick K)) (k2 : Lk K mg "_law_pick" fP dP' ["_law_row", "_law_things"])
    (G3 : FnOk P w K mg base CX0 3 fS dS' ["_law_row", "_law_most", "_law_size"] (spSimplices K)) (k3 : Lk K mg "_law_simplices" fS dS' ["_law_row", "_law_most", "_law_size"])
    (G4 : FnOk P w K mg base CX0 1 fFT dFT ["_law_simplices_here"] spFacesT) (G4' : FnOk P w K mg base CX0 1 fFT dFT ["_law_simplices_here"] spFacesL) (k4 : Lk K mg "_law_faces" fFT dFT ["_law_simplices_here"])
    (G5 : FnOk P w K mg base CX0 2 fFc dFc ["_law_faces_here"] spFacets) (k5 : Lk K mg "_law_facets" fFc dFc ["_law_faces_here"])
    (G6 : FnOk P w K mg base CX0 9 fRS dRS ["table"] (spRowShape C)) (k6 : Lk K mg "row_shape" fRS dRS ["table"])
    (G7 : FnOk P w K mg base CX0 8 fCS dCS ["table"] (spColShape C)) (k7 : Lk K mg "column_shape" fCS dCS ["table"])
    (G8 : FnOk P w K mg base CX0 3 fAl dAl ["_law_found", "_law_due"] (spAlike 2)) (G8' : FnOk P w K mg base CX0 4 fAl dAl ["_law_found", "_law_due"] (spAlike 3)) (k8 : Lk K mg "_law_alike" fAl dAl ["_law_found", "_law_due"])
    (G9 : FnOk P w K mg base CX0 2 fSo dSo ["shape"] (spSimplicesOf C)) (k9 : Lk K mg "simplices_of" fSo dSo ["shape"])
    (G10 : FnOk P w K mg base CX0 7 fHo dHo ["shape", "degree"] (spHoles C)) (k10 : Lk K mg "holes" fHo dHo ["shape", "degree"])
    (hP : ∀ h w T, (∀ r c, T r c = 0 ∨ T r c = 1) → TabOk h w T → PlainOk h w T) (hT : ∀ Ls, SimsOk Ls → TopsOk (topsOf Ls)) :
    FnOk P w K mg base CX0 10 f fd ["_law_script"] (spLaw K) := by
  refine F.ok scLw (fun vs H Q E h => ?_) (fun cdv A outer s H vs Q E hr h => ?_)
  · obtain ⟨_, _, rfl, _⟩ := h
    rfl
  · obtain ⟨sc, ns, rfl, hS, k⟩ := h
    have hr1 := hr.mono (show 1 ≤ 9 by decide)
    have hr2 := hr.mono (show 2 ≤ 9 by decide)
    refine ⟨_, pss_cons (ps_set (i := 1) scLw.nd rfl (Or.inr rfl) (pe_lst (pa_cons (pv 0) (pa_cons pe_int (pa_cons pe_int (pa_cons pe_int pa_nil))))))
      (pss_cons (ps_asg (pe_tup (pa_cons (pe_call G1 hr1 rfl k1.g k1.k k1.b .nil pass0 (pa_cons (pv 1) (pa_cons pe_int pa_nil))) (pa_cons (pe_call G1 hr1 rfl k1.g k1.k k1.b .nil pass0 (pa_cons (pv 1) (pa_cons pe_int pa_nil)))
          (pa_cons (pe_call G2 hr2 rfl k2.g k2.k k2.b .nil pass0 (pa_cons (pv 1) (pa_cons (pe_lst (pa_cons pe_int (pa_cons pe_int (pa_cons pe_int pa_nil)))) pa_nil))) pa_nil))))
        (pg_tup rfl (pgs_cons (pg_name (i := 2) scLw.nd rfl (Or.inl rfl)) (pgs_cons (pg_name (i := 3) scLw.nd rfl (Or.inr rfl)) (pgs_cons (pg_name (i := 4) scLw.nd rfl (Or.inr rfl)) pgs_nil)))))
      (pss_cons (ps_set (i := 5) scLw.nd rfl (Or.inr rfl) (pe_callTy call_tuple_of (by rfl) B.tuple (by decide +kernel) (pa_cons
          (pe_lc (own := [("_law_at", 13)]) (g := gName 13) (te := tCB (rTupOf K) (tCons (tLc (iRng1 (tCons (tVar 3) tNil)) (gName 11) tYes (tCB rInt1 (tCons (tOp rEq (tCall (spTaken K) [] E0 (tCons (tVar 1) (tCons (tVar 4) tNil))) (tC (.int 0))) tNil)) [11]) tNil)) (by rfl) scLw.nd (pi_range1 rfl B.range (pa_cons (pv 2) pa_nil))
            (blkOk_by (own := [("_law_at", 13)]) (N := nmLw) (sc := defScope sLaw) (by decide +kernel)) (fun _ _ _ _ _ => pg_name (i := 13) scLw.nd rfl (Or.inl rfl)) (fun _ _ _ _ _ => pts_nil)
            (fun _ _ _ _ _ => pe_callTy call_tuple_of (by rfl) B.tuple (by decide +kernel) (pa_cons
              (pe_lc (own := [("_law_spot", 11)]) (g := gName 11) (te := tCB rInt1 (tCons (tOp rEq (tCall (spTaken K) [] E0 (tCons (tVar 1) (tCons (tVar 4) tNil))) (tC (.int 0))) tNil)) (by rfl) scLw.nd (pi_range1 rfl B.range (pa_cons (pv 3) pa_nil)) (blkOk_by (own := [("_law_spot", 11)]) (N := nmLw) (sc := relabC (lcScope (stVal (bodyAt sLaw 2))) (defScope sLaw)) (by decide +kernel))
                (fun _ _ _ _ _ => pg_name (i := 11) scLw.nd rfl (Or.inl rfl)) (fun _ _ _ _ _ => pts_nil)
                (fun _ _ _ _ _ => pe_callTy call_int1 (by rfl) B.int (by decide +kernel) (pa_cons (pe_cmpR op_eq (pe_call G1 hr1 rfl k1.g k1.k k1.b .nil pass0 (pa_cons (pv 1) (pa_cons (pv 4) pa_nil))) pe_int (nomark _)) pa_nil))) pa_nil))) pa_nil)))
      (pss_cons (ps_if (pt_cmpR op_eq (pe_call G1 hr1 rfl k1.g k1.k k1.b .nil pass0 (pa_cons (pv 1) (pa_cons pe_int pa_nil))) pe_int (nomark _))
        (pss_cons (ps_set (i := 6) scLw.nd rfl (Or.inl rfl) (pe_slice sl_tupA (pe_call G5 hr2 rfl k5.g k5.k k5.b .nil pass0 (pa_cons (pe_call G4 hr1 rfl k4.g k4.k k4.b .nil pass0 (pa_cons
            (pe_call G3 (hr.mono (by decide)) rfl k3.g k3.k k3.b .nil pass0 (pa_cons (pv 1) (pa_cons pe_int (pa_cons pe_int pa_nil)))) pa_nil)) pa_nil)) po_none (po_some pe_int)))
        (pss_one (ps_set (i := 5) scLw.nd rfl (Or.inr rfl) (pe_callTy call_tuple_of (by rfl) B.tuple (by decide +kernel) (pa_cons
          (pe_lc (own := [("_law_top", 15)]) (g := gName 15) (te := tCB (rTupOf K) (tCons (tLc (iRng1 (tCons (tC (.int 6)) tNil)) (gName 14) tYes (tCB rInt1 (tCons (tOp (rIn K false) (tVar 14) (tVar 15)) tNil)) [14]) tNil)) (by rfl) scLw.nd (pi_tup (pv 6))
            (blkOk_by (own := [("_law_top", 15)]) (N := nmLw) (sc := defScope sLaw) (by decide +kernel)) (fun _ _ _ _ _ => pg_name (i := 15) scLw.nd rfl (Or.inr rfl)) (fun _ _ _ _ _ => pts_nil)
            (fun _ _ _ _ _ => pe_callTy call_tuple_of (by rfl) B.tuple (by decide +kernel) (pa_cons
              (pe_lc (own := [("_law_vertex", 14)]) (g := gName 14) (te := tCB rInt1 (tCons (tOp (rIn K false) (tVar 14) (tVar 15)) tNil)) (by rfl) scLw.nd (pi_range1 rfl B.range (pa_cons pe_int pa_nil)) (blkOk_by (own := [("_law_vertex", 14)]) (N := nmLw) (sc := relabC (lcScope (stVal (inIf (bodyAt sLaw 3) 1))) (defScope sLaw)) (by decide +kernel))
                (fun _ _ _ _ _ => pg_name (i := 14) scLw.nd rfl (Or.inl rfl)) (fun _ _ _ _ _ => pts_nil)
                (fun _ _ _ _ _ => pe_callTy call_int1 (by rfl) B.int (by decide +kernel) (pa_cons (pe_cmpR op_in_seq (pv 14) (pv 15) (by rfl)) pa_nil))) pa_nil))) pa_nil))))) pss_nil)
      (pss_cons (ps_asg (pe_tup (pa_cons (pe_call G6 hr rfl k6.g k6.k k6.b .nil pass0 (pa_cons (pv 5) pa_nil)) (pa_cons (pe_call G7 (hr.mono (by decide)) rfl k7.g k7.k k7.b .nil pass0 (pa_cons (pv 5) pa_nil)) (pa_cons (pe_lst pa_nil) (pa_cons (pe_lst pa_nil) pa_nil)))))
        (pg_tup rfl (pgs_cons (pg_name (i := 7) scLw.nd rfl (Or.inr rfl)) (pgs_cons (pg_name (i := 8) scLw.nd rfl (Or.inr rfl)) (pgs_cons (pg_name (i := 9) scLw.nd rfl (Or.inl rfl)) (pgs_cons (pg_name (i := 10) scLw.nd rfl (Or.inl rfl)) pgs_nil))))))
      (pss_cons (ps_for PassesOwn.never rfl (pi_range1 rfl B.range (pa_cons (pe_ifExp (pt_cmpR (op_neD hr.units) (pv 5) (pe_tup pa_nil) (nomark _)) (pe_callB call_len_seq (by rfl) B.len PySem.boot_len (pa_cons (pe_ix ix_tup (pv 5) pe_int (fun _ _ => rfl)) pa_nil)) pe_int) pa_nil)) (pg_name (i := 11) scLw.nd rfl (Or.inr rfl))
        (pss_one (ps_expr (pe_bm PySem.F.plainAttrs_list PySem.F.slot_list_append PySem.F.type_list_append mt_append (pv 9) (pa_cons (pe_callTy call_tuple_of (by rfl) B.tuple (by decide +kernel) (pa_cons
          (pe_lc (own := [("_law_at", 13)]) (g := gName 13) (tt := tTest (tOp rEq (tOp (rIxT K) (tOp (rIxT K) (tVar 5) (tVar 13)) (tVar 11)) (tC (.int 1)))) (te := tVar 13) (by rfl) scLw.nd (pi_range1 rfl B.range (pa_cons (pe_callB call_len_seq (by rfl) B.len PySem.boot_len (pa_cons (pv 5) pa_nil)) pa_nil))
            (blkOk_by (own := [("_law_at", 13)]) (N := nmLw) (sc := defScope sLaw) (by decide +kernel)) (fun _ _ _ _ _ => pg_name (i := 13) scLw.nd rfl (Or.inl rfl))
            (fun _ _ _ _ _ => pts_one (pt_cmpR op_eq (pe_ix ix_tup (pe_ix ix_tup (pv 5) (pv 13) (fun _ _ => rfl)) (pv 11) (fun _ _ => rfl)) pe_int (nomark _))) (fun _ _ _ _ _ => pv 13)) pa_nil)) pa_nil)))))
      (pss_cons (ps_for PassesOwn.never rfl (pi_tup (pv 5)) (pg_name (i := 12) scLw.nd rfl (Or.inr rfl))
        (pss_one (ps_expr (pe_bm PySem.F.plainAttrs_list PySem.F.slot_list_append PySem.F.type_list_append mt_append (pv 10) (pa_cons (pe_callTy call_tuple_of (by rfl) B.tuple (by decide +kernel) (pa_cons
          (pe_lc (own := [("_law_spot", 11)]) (g := gName 11) (tt := tTest (tOp rEq (tOp (rIxT K) (tVar 12) (tVar 11)) (tC (.int 1)))) (te := tVar 11) (by rfl) scLw.nd (pi_range1 rfl B.range (pa_cons (pe_callB call_len_seq (by rfl) B.len PySem.boot_len (pa_cons (pv 12) pa_nil)) pa_nil))
            (blkOk_by (own := [("_law_spot", 11)]) (N := nmLw) (sc := defScope sLaw) (by decide +kernel)) (fun _ _ _ _ _ => pg_name (i := 11) scLw.nd rfl (Or.inl rfl))
            (fun _ _ _ _ _ => pts_one (pt_cmpR op_eq (pe_ix ix_tup (pv 12) (pv 11) (fun _ _ => rfl)) pe_int (nomark _))) (fun _ _ _ _ _ => pv 11)) pa_nil)) pa_nil)))))
      (pss_cons (ps_if (pt_not (pt_val (pe_call G8 (hr.mono (by decide)) rfl k8.g k8.k k8.b .nil pass0 (pa_cons (pe_call G9 hr2 rfl k9.g k9.k k9.b .nil pass0 (pa_cons (pv 7) pa_nil)) (pa_cons (pe_call G4' hr1 rfl k4.g k4.k k4.b .nil pass0 (pa_cons
          (pe_lc (own := [("_law_some", 16)]) (g := gName 16) (tt := tTest (tOp (rNeD K) (tVar 16) (tTup tNil))) (te := tVar 16) (by rfl) scLw.nd (pi_list (pv 9)) (blkOk_by (own := [("_law_some", 16)]) (N := nmLw) (sc := defScope sLaw) (by decide +kernel))
            (fun _ _ _ _ _ => pg_name (i := 16) scLw.nd rfl (Or.inl rfl)) (fun _ _ _ _ _ => pts_one (pt_cmpR (op_neD hr.units) (pv 16) (pe_tup pa_nil) (nomark _))) (fun _ _ _ _ _ => pv 16)) pa_nil)) pa_nil))))) (pss_one (ps_ret pe_bl)) pss_nil)
      (pss_cons (ps_if (pt_not (pt_val (pe_call G8 (hr.mono (by decide)) rfl k8.g k8.k k8.b .nil pass0 (pa_cons (pe_call G9 hr2 rfl k9.g k9.k k9.b .nil pass0 (pa_cons (pv 8) pa_nil)) (pa_cons (pe_call G4' hr1 rfl k4.g k4.k k4.b .nil pass0 (pa_cons
          (pe_lc (own := [("_law_some", 16)]) (g := gName 16) (tt := tTest (tOp (rNeD K) (tVar 16) (tTup tNil))) (te := tVar 16) (by rfl) scLw.nd (pi_list (pv 10)) (blkOk_by (own := [("_law_some", 16)]) (N := nmLw) (sc := defScope sLaw) (by decide +kernel))
            (fun _ _ _ _ _ => pg_name (i := 16) scLw.nd rfl (Or.inl rfl)) (fun _ _ _ _ _ => pts_one (pt_cmpR (op_neD hr.units) (pv 16) (pe_tup pa_nil) (nomark _))) (fun _ _ _ _ _ => pv 16)) pa_nil)) pa_nil))))) (pss_one (ps_ret pe_bl)) pss_nil)
      (pss_one (ps_ret (pe_call G8' (hr.mono (by decide)) rfl k8.g k8.k k8.b .nil pass0 (pa_cons
          (pe_lc (own := [("_law_degree", 17)]) (g := gName 17) (te := tHol K C 7) (by rfl) scLw.nd (pi_range2 rfl B.range (pa_cons (pe_un un_neg pe_int) (pa_cons pe_int pa_nil))) (blkOk_by (own := [("_law_degree", 17)]) (N := nmLw) (sc := defScope sLaw) (by decide +kernel))
            (fun _ _ _ _ _ => pg_name (i := 17) scLw.nd rfl (Or.inl rfl)) (fun _ _ _ _ _ => pts_nil) (fun _ _ _ _ _ => pe_call G10 (hr.mono (by decide)) rfl k10.g k10.k k10.b .nil pass0 (pa_cons (pv 7) (pa_cons (pv 17) pa_nil))))
          (pa_cons (pe_lc (own := [("_law_degree", 17)]) (g := gName 17) (te := tHol K C 8) (by rfl) scLw.nd (pi_range2 rfl B.range (pa_cons (pe_un un_neg pe_int) (pa_cons pe_int pa_nil))) (blkOk_by (own := [("_law_degree", 17)]) (N := nmLw) (sc := defScope sLaw) (by decide +kernel))
            (fun _ _ _ _ _ => pg_name (i := 17) scLw.nd rfl (Or.inl rfl)) (fun _ _ _ _ _ => pts_nil) (fun _ _ _ _ _ => pe_call G10 (hr.mono (by decide)) rfl k10.g k10.k k10.b .nil pass0 (pa_cons (pv 8) (pa_cons (pv 17) pa_nil)))) pa_nil))))))))))))), ?_⟩
    -- the drawing row
    refine ⟨_, rfl, by show 4 ≤ sizeLine; decide, fun p hp => ?_⟩
    have qr : RowAt K (upd H p (.lst [.ref sc, .int 0, .int 3363, .int 0])) p sc ns := ⟨NeK.of hS hp, (same_upd hp).seq hS, 0, 3363, 0, upd_same, by decide, by decide⟩
    generalize upd H p (.lst [.ref sc, .int 0, .int 3363, .int 0]) = H1 at qr
    have d1 := Dr.start qr
    -- sizes
    refine ⟨_, rfl, p, sc, ns, 8, rfl, qr, by decide, by decide, fun H2 hi x2 q2 hi0 hi8 => ?_⟩
    have d2 := d1.step x2 q2
    refine ⟨_, rfl, p, sc, ns, 7, rfl, q2, by decide, by decide, fun H3 wi x3 q3 wi0 wi7 => ?_⟩
    have d3 := d2.step x3 q3
    refine ⟨_, rfl, by show 3 ≤ sizeLine; decide, fun z hz => ?_⟩
    have hz0 := d3.free hz
    have d4 : Dr K p sc ns H1 (upd H3 z (.lst [.int 2, .int 2, .int 3])) := d3.put hz0
    have hz4 : upd H3 z (.lst [.int 2, .int 2, .int 3]) z = some (.lst (([2, 2, 3] : List Int).map V.int)) := upd_same
    generalize upd H3 z (.lst [.int 2, .int 2, .int 3]) = H4 at d4 hz4
    refine ⟨p, sc, z, ns, [2, 2, 3], rfl, d4.row, hz4, (d4.ne hz0).symm, by decide, by decide, fun H5 far x5 q5 hfar => ?_⟩
    have d5 := d4.step x5 q5
    have hf0 : 0 < far := by simp at hfar; rcases hfar with z | z <;> omega
    have hf3 : far < 1073741824 := by simp at hfar; rcases hfar with z | z <;> omega
    obtain ⟨h, rfl⟩ := Int.eq_ofNat_of_zero_le hi0
    obtain ⟨ww, rfl⟩ := Int.eq_ofNat_of_zero_le wi0
    have h8 : h < 8 := by omega
    have w7 : ww < 7 := by omega
    refine ⟨by show 3 ≤ sizeLine; decide, fun t0 ht0 => ?_⟩
    have d6 := d5.same (same_upd (o := .tup [.int (h : Nat), .int (ww : Nat), .int far]) ht0)
    refine ⟨t0, _, rfl, SqT.of upd_same, rfl, _, _, rfl, _, _, rfl, _, _, rfl, rfl, ?_⟩
    generalize upd H5 t0 (.tup [.int (h : Nat), .int (ww : Nat), .int far]) = H6 at d6
    have dB := Dr.start d6.row
    -- the table's bits
    refine ⟨_, rfl, h, rfl, by omega, by omega, fun D hD => ?_⟩
    rw [Int.toNat_natCast]
    have nDp : D ≠ p := (dB.ne hD).symm
    refine lc_it (walk_range (lo := 0) (n := h)) (fun i H' => Dr K p sc ns H6 H' ∧ ∃ (ad : Nat → Addr) (T : Nat → Nat → Int), H' D = some (.lst (aV i ad)) ∧ (∀ r, r < i → H' (ad r) = some (.tup (rV ww (T r)))) ∧ ∀ r c, T r c = 0 ∨ T r c = 1)
      ⟨dB.put hD, fun _ => 0, fun _ _ => 0, by rw [upd_same]; rfl, fun r hr => absurd hr (Nat.not_lt_zero _), fun _ _ => .inl rfl⟩ (fun _ _ _ _ => True.intro) ?_ ?_
    · rintro i x H7 H8 hi ⟨d7, ad, T, hD7, rows7, bits⟩ ⟨rfl, rfl⟩
      show gName 13 (V.int ((0 : Int) + (i : Nat))) [some (.ref sc), some (.ref p), some (.int (h : Nat)), some (.int (ww : Nat)), some (.int far), none, none, none, none, none, none, none, none, none, none, none, none, none] H8 _
      refine ⟨rfl, tyes ?_⟩
      refine iteT ⟨_, rfl, ww, rfl, by omega, by omega, fun D2 hD2 => ?_⟩
      rw [Int.toNat_natCast]
      have hD20 := d7.free hD2
      have nD2p : D2 ≠ p := (d7.ne hD20).symm
      have nDD : D ≠ D2 := ne_of_none hD7 hD2
      refine lc_it (walk_range (lo := 0) (n := ww)) (fun j H' => Dr K p sc ns H6 H' ∧ H' D = some (.lst (aV i ad)) ∧ (∀ r, r < i → H' (ad r) = some (.tup (rV ww (T r)))) ∧ ∃ f : Nat → Int, H' D2 = some (.lst (rV j f)) ∧ ∀ c, f c = 0 ∨ f c = 1)
        ⟨d7.put hD20, by rw [upd_ne nDD]; exact hD7, fun r hr => by rw [upd_ne (ne_of_none (rows7 r hr) hD2)]; exact rows7 r hr, fun _ => 0, by rw [upd_same]; rfl, fun _ => .inl rfl⟩ (fun _ _ _ _ => True.intro) ?_ ?_
      · rintro j x H9 H10 hj ⟨d9, hD9, rows9, f, hf9, bf⟩ ⟨rfl, rfl⟩
        refine ⟨rfl, ?_⟩
        unfold tYes
        refine iteT ⟨_, rfl, _, rfl, p, sc, ns, far, rfl, d9.row, hf0, hf3, fun H11 n x11 q11 n0 n1 => ⟨rfl, .inr ⟨_, rfl, ?_⟩⟩⟩
        have d11 := d9.step x11 q11
        obtain ⟨b, hb, bb⟩ : ∃ b : Int, (if decide (V.int n = V.int 0) = true then (1 : Int) else 0) = b ∧ (b = 0 ∨ b = 1) := ⟨_, rfl, by split <;> simp⟩
        rw [hb]
        have hf11 := x11 _ _ nD2p hf9
        obtain ⟨i0, z0, z1, hrow, _⟩ := d9.r
        refine ⟨_, hf11, by rw [rV_len]; exact Nat.lt_of_le_of_lt (show _ ≤ 7 by omega) (by decide), d11.put hD20, ?_, ?_, fun c => if c = j then b else f c, ?_, ?_⟩
        · rw [upd_ne nDD]; exact x11 _ _ nDp hD9
        · intro r hr
          have h1 := x11 _ _ (ne_of (rows9 r hr) hrow (by intro z; cases z)) (rows9 r hr)
          rw [upd_ne (ne_of h1 hf11 (by intro z; cases z))]; exact h1
        · rw [upd_same, rV_snoc, if_pos rfl]
          exact congrArg (fun z => some (HO.lst (z ++ [V.int b]))) (rV_congr fun c hc => by rw [if_neg (by omega)])
        · intro c
          by_cases e : c = j
          · show (if c = j then b else f c) = 0 ∨ (if c = j then b else f c) = 1
            rw [if_pos e]; exact bb
          · show (if c = j then b else f c) = 0 ∨ (if c = j then b else f c) = 1
            rw [if_neg e]; exact bf c
      · rintro H9 ⟨d9, hD9, rows9, f, hf9, bf⟩
        refine ⟨D2, _, rfl, .inl ⟨SqL.of hf9, fun y hy => ?_⟩⟩
        have s10 := same_upd (o := .tup (rV ww f)) hy
        have d10 := d9.same s10
        have hD10 := s10 _ _ hD9
        refine ⟨_, hD10, by rw [aV_len]; exact Nat.lt_of_le_of_lt (show _ ≤ 8 by omega) (by decide), d10.put hD, fun r => if r = i then y else ad r, fun r => if r = i then f else T r, ?_, ?_, ?_⟩
        · rw [upd_same, aV_snoc, if_pos rfl]
          exact congrArg (fun z => some (HO.lst (z ++ [V.ref y]))) (aV_congr fun c hc => by rw [if_neg (by omega)])
        · intro r hr
          show upd (upd H9 y (.tup (rV ww f))) D (.lst (aV i ad ++ [V.ref y])) (if r = i then y else ad r) = some (.tup (rV ww (if r = i then f else T r)))
          by_cases e : r = i
          · rw [if_pos e, if_pos e, upd_ne (ne_of (upd_same (H := H9) (a := y)) hD10 (by intro z; cases z)), upd_same]
          · rw [if_neg e, if_neg e]
            have h1 := s10 _ _ (rows9 r (by omega))
            rw [upd_ne (ne_of h1 hD10 (by intro z; cases z))]; exact h1
        · intro r c
          show (if r = i then f else T r) c = 0 ∨ (if r = i then f else T r) c = 1
          by_cases e : r = i
          · rw [if_pos e]; exact bf c
          · rw [if_neg e]; exact bits r c
    rintro H7 ⟨d7, ad, T, hD7, rows7, bits⟩
    refine ⟨D, _, rfl, .inl ⟨SqL.of hD7, fun t ht => ?_⟩⟩
    have s8 := same_upd (o := .tup (aV h ad)) ht
    have d8 := d7.same s8
    have tab : TabAt (upd H7 t (.tup (aV h ad))) t h ww T ad := ⟨upd_same, fun r hr => s8 _ _ (rows7 r hr), by omega, by omega, bits⟩
    generalize upd H7 t (.tup (aV h ad)) = H8 at d8 tab
    refine tseq_with (A := tIfS (tTest (tOp rEq (tCall (spTaken K) [] E0 (tCons (tVar 1) (tCons (tC (.int 3)) tNil))) (tC (.int 0)))) _ _) (fun σ H' => ∃ (v0 v1 v2 v3 v4 v6 : Option V) (t : Addr) (h w : Nat) (T : Nat → Nat → Int) (ad : Nat → Addr), σ = [v0, v1, v2, v3, v4, some (.ref t), v6, none, none, none, none, none, none, none, none, none, none, none] ∧ TabAt H' t h w T ad ∧ TabOk h w T) ?_ (fun hB => ?_)
    · clear d8 tab s8 rows7 bits hD7 d7 dB d6 d5 d4 d3 d2 d1
      rintro σ H ⟨v0, v1, v2, v3, v4, v6, t, h, w, T, ad, rfl, tb, tok⟩
      have po := hP h w T tb.bit tok
      have th8 := tb.h8
      have tw8 := tb.w8
      have sg : ∀ i : Nat, (0 : Int) + (i : Nat) = ((i : Nat) : Int) := fun i => by omega
      refine ⟨_, rfl, t, h, w, T, ad, rfl, tb, po.mr, fun H2 p1 s2 hp1 C1 => ⟨_, rfl, t, h, w, T, ad, rfl, tb.same s2, po.mc, fun H3 p2 s3 hp2 C2 => ⟨by show 0 ≤ sizeLine; decide, fun q1 hq1 => ⟨by show 0 ≤ sizeLine; decide, fun q2 hq2 => ⟨by show 4 ≤ sizeLine; decide, fun tt htt => ?_⟩⟩⟩⟩⟩
      have C1' := C1.same s3
      have tb3 := (tb.same s2).same s3
      have nq : q1 ≠ q2 := ne_of_none (upd_same (H := H3) (a := q1)) hq2
      have hq20 : H3 q2 = none := by rw [upd_ne nq.symm] at hq2; exact hq2
      have s6 : Same H3 (upd (upd (upd H3 q1 (.lst [])) q2 (.lst [])) tt (.tup [.ref p1, .ref p2, .ref q1, .ref q2])) := (same_put hq20 (same_upd hq1)).trans (same_upd htt)
      have hQ1 : upd (upd (upd H3 q1 (.lst [])) q2 (.lst [])) tt (.tup [.ref p1, .ref p2, .ref q1, .ref q2]) q1 = some (.lst []) := (same_upd htt) _ _ (by rw [upd_ne nq, upd_same])
      have hQ2 : upd (upd (upd H3 q1 (.lst [])) q2 (.lst [])) tt (.tup [.ref p1, .ref p2, .ref q1, .ref q2]) q2 = some (.lst []) := (same_upd htt) _ _ upd_same
      refine ⟨tt, _, rfl, SqT.of upd_same, rfl, _, _, rfl, _, _, rfl, _, _, rfl, _, _, rfl, rfl, ?_⟩
      generalize upd (upd (upd H3 q1 (.lst [])) q2 (.lst [])) tt (.tup [.ref p1, .ref p2, .ref q1, .ref q2]) = H6 at s6 hQ1 hQ2
      have tb6 := tb3.same s6
      -- the rows' own sets
      refine ⟨_, rfl, by show 0 ≤ sizeLine; decide, fun e he => ?_⟩
      have s7 := same_upd (o := .tup []) he
      have he7 : upd H6 e (.tup []) e = some (.tup []) := upd_same
      generalize upd H6 e (.tup []) = H7 at s7 he7
      have tb7 := tb6.same s7
      refine ⟨_, _, dp_mT tb7.top tb7.row, dp_nilT he7, shapedTT _, shaped_nilT, _, rfl, ?_⟩
      unfold dTT
      rw [eqv_nilT]
      obtain ⟨w', hw', hww⟩ : ∃ w' : Nat, w' = (if h = 0 then 0 else w) ∧ w' ≤ w := ⟨_, rfl, by split <;> omega⟩
      have hwide : (fun (Q : V → Hp → Prop) => Q (.int (w' : Nat)) H7 → if (!(List.map dT (mT h w T)).isEmpty) = true then tCB (rLenQ K) (tCons (tOp (rIxT K) (tVar 5) (tC (.int 0))) tNil) [v0, v1, v2, v3, v4, some (.ref t), v6, some (.ref p1), some (.ref p2), some (.ref q1), some (.ref q2), none, none, none, none, none, none, none] H7 Q else Q (.int 0) H7) = fun _ => True := by
        funext Q
        refine eq_true fun q => ?_
        by_cases e0 : h = 0
        · subst e0
          rw [hw', if_pos rfl] at q
          exact iteF q
        · have ne : (List.map dT (mT h w T)).isEmpty = false := by
            cases e1 : (List.map dT (mT h w T)) with
            | nil => have := congrArg List.length e1; simp [mT] at this; exact absurd this e0
            | cons _ _ => rfl
          rw [ne]
          rw [hw', if_neg e0] at q
          refine iteT ?_
          refine ⟨_, rfl, t, _, 0, _, rfl, rfl, SqT.of tb7.top, atI_nat (aV_get ad (by omega : 0 < h)), ad 0, _, rfl, .inr (SqT.of (tb7.row 0 (by omega))), ?_⟩
          rw [rV_len]; exact q
      refine (of_eq_true (congrFun hwide _)) ?_
      refine ⟨w', rfl, by omega, by omega, ?_⟩
      rw [Int.toNat_natCast]
      refine for_range (lo := 0) (n := w')
        (fun i σ H' => ∃ (v11 : Option V) (R : TL), σ = [v0, v1, v2, v3, v4, some (.ref t), v6, some (.ref p1), some (.ref p2), some (.ref q1), some (.ref q2), v11, none, none, none, none, none, none] ∧ Same H3 H' ∧ H' q2 = some (.lst []) ∧ H' q1 = some (.lst (refs R)) ∧ TLat H' R ∧
          R.map (·.2) = (List.range i).map fun c => onesM h fun r => T r c)
        ⟨none, [], rfl, s6.trans s7, s7 _ _ hQ2, s7 _ _ hQ1, (fun p hp => nomatch hp), rfl⟩ ?_ ?_
      · rintro i σ H8 hi ⟨v11, R, rfl, s8, hQ28, hQ18, tR, eR⟩
        rw [sg]
        have tb8 := tb3.same s8
        have lR : R.length ≤ 8 := by
          have := congrArg List.length eR
          rw [List.length_map, List.length_map, List.length_range] at this; omega
        refine ⟨_, rfl, .inl ⟨rfl, _, SqL.of hQ18⟩, _, rfl, t, _, rfl, .inr (SqT.of tb8.top), _, rfl, by rw [aV_len]; omega, by rw [aV_len]; omega, fun D hD => ?_⟩
        rw [aV_len, Int.toNat_natCast]
        refine lc_it (walk_range (lo := 0) (n := h)) (fun j H' => Same H8 H' ∧ H' D = some (.lst ((onesM j fun r => T r i).map V.int))) ⟨same_upd hD, by rw [upd_same]; rfl⟩ (fun _ _ _ _ => True.intro) ?_ ?_
        · rintro j x H9 H10 hj ⟨s9, hD9⟩ ⟨rfl, rfl⟩
          show gName 13 (V.int ((0 : Int) + (j : Nat))) [v0, v1, v2, v3, v4, some (.ref t), v6, some (.ref p1), some (.ref p2), some (.ref q1), some (.ref q2), some (.int (i : Nat)), none, none, none, none, none, none] H10 _
          rw [sg]
          have tb9 := tb8.same s9
          have ol := onesM_len j fun r => T r i
          refine ⟨rfl, _, rfl, _, rfl, t, _, j, _, rfl, rfl, SqT.of tb9.top, atI_nat (aV_get ad hj), _, rfl, ad j, _, i, _, rfl, rfl, SqT.of (tb9.row j hj), atI_nat (rV_get _ (by omega)), rfl, _, rfl, ?_⟩
          by_cases h1 : T j i = 1
          · rw [show decide (V.int (T j i) = V.int 1) = true from decide_eq_true (by rw [h1])]
            refine iteT ⟨_, rfl, _, hD9, by rw [List.length_map]; exact Nat.lt_of_le_of_lt (show _ ≤ 8 by omega) (by decide), same_put hD s9, ?_⟩
            rw [upd_same, onesM_succ, if_pos h1, List.map_append]; rfl
          · rw [show decide (V.int (T j i) = V.int 1) = false from decide_eq_false (fun z => h1 (V.int.inj z))]
            refine iteF ⟨s9, ?_⟩
            rw [hD9, onesM_succ, if_neg h1, List.append_nil]
        · rintro H9 ⟨s9, hD9⟩
          refine ⟨D, _, rfl, .inl ⟨SqL.of hD9, fun y hy => ?_⟩⟩
          have s10 := same_upd (o := .tup ((onesM h fun r => T r i).map V.int)) hy
          have s910 := s9.trans s10
          refine ⟨q1, _, _, rfl, rfl, s910 _ _ hQ18, by rw [refs_len]; exact Nat.lt_of_le_of_lt (show _ ≤ 8 by omega) (by decide), ?_⟩
          refine ⟨_, R ++ [(y, onesM h fun r => T r i)], rfl, same_put hq1 (s8.trans s910), by rw [upd_ne nq.symm]; exact s910 _ _ hQ28, by rw [upd_same, refs_app]; rfl, ((tR.same s9).fresh hy).put (s910 _ _ hQ18), ?_⟩
          rw [List.map_append, eR, List.range_succ, List.map_append]; rfl
      rintro σ H8 ⟨v11, R, rfl, s8, hQ28, hQ18, tR, eR⟩
      have tb8 := tb3.same s8
      -- the columns' own sets
      refine ⟨_, rfl, t, rfl, ⟨_, SqT.of tb8.top⟩, for_tup (K := K) (a := t) (xs := aV h ad)
        (fun i σ H' => ∃ (v12 : Option V) (R2 : TL), σ = [v0, v1, v2, v3, v4, some (.ref t), v6, some (.ref p1), some (.ref p2), some (.ref q1), some (.ref q2), v11, v12, none, none, none, none, none] ∧ Same H3 H' ∧ H' q1 = some (.lst (refs R)) ∧ TLat H' R ∧ H' q2 = some (.lst (refs R2)) ∧ TLat H' R2 ∧
          R2.map (·.2) = (List.range i).map fun r => onesM w (T r))
        ⟨none, [], rfl, s8, hQ18, tR, hQ28, (fun p hp => nomatch hp), rfl⟩ (fun i σ H' _ ⟨_, _, _, s, _⟩ => SqT.of (s _ _ tb3.top)) ?_ ?_⟩
      · rintro i x σ H9 hx ⟨v12, R2, rfl, s9, hQ19, tR9, hQ29, tR2, eR2⟩
        have hi : i < h := by have := (List.getElem?_eq_some_iff.mp hx).1; rwa [aV_len] at this
        rw [aV_get _ hi] at hx
        cases hx
        have tb9 := tb3.same s9
        have lR : R2.length ≤ 8 := by
          have := congrArg List.length eR2
          rw [List.length_map, List.length_map, List.length_range] at this; omega
        refine ⟨_, rfl, .inl ⟨rfl, _, SqL.of hQ29⟩, _, rfl, ad i, _, rfl, .inr (SqT.of (tb9.row i hi)), _, rfl, by rw [rV_len]; omega, by rw [rV_len]; omega, fun D hD => ?_⟩
        rw [rV_len, Int.toNat_natCast]
        refine lc_it (walk_range (lo := 0) (n := w)) (fun j H' => Same H9 H' ∧ H' D = some (.lst ((onesM j (T i)).map V.int))) ⟨same_upd hD, by rw [upd_same]; rfl⟩ (fun _ _ _ _ => True.intro) ?_ ?_
        · rintro j x H10 H11 hj ⟨s10, hD10⟩ ⟨rfl, rfl⟩
          show gName 11 (V.int ((0 : Int) + (j : Nat))) [v0, v1, v2, v3, v4, some (.ref t), v6, some (.ref p1), some (.ref p2), some (.ref q1), some (.ref q2), none, some (.ref (ad i)), none, none, none, none, none] H11 _
          rw [sg]
          have tb10 := tb9.same s10
          have ol := onesM_len j (T i)
          refine ⟨rfl, _, rfl, _, rfl, ad i, _, j, _, rfl, rfl, SqT.of (tb10.row i hi), atI_nat (rV_get _ hj), rfl, _, rfl, ?_⟩
          by_cases h1 : T i j = 1
          · rw [show decide (V.int (T i j) = V.int 1) = true from decide_eq_true (by rw [h1])]
            refine iteT ⟨_, rfl, _, hD10, by rw [List.length_map]; exact Nat.lt_of_le_of_lt (show _ ≤ 8 by omega) (by decide), same_put hD s10, ?_⟩
            rw [upd_same, onesM_succ, if_pos h1, List.map_append]; rfl
          · rw [show decide (V.int (T i j) = V.int 1) = false from decide_eq_false (fun z => h1 (V.int.inj z))]
            refine iteF ⟨s10, ?_⟩
            rw [hD10, onesM_succ, if_neg h1, List.append_nil]
        · rintro H10 ⟨s10, hD10⟩
          refine ⟨D, _, rfl, .inl ⟨SqL.of hD10, fun y hy => ?_⟩⟩
          have s11 := same_upd (o := .tup ((onesM w (T i)).map V.int)) hy
          have s1011 := s10.trans s11
          refine ⟨q2, _, _, rfl, rfl, s1011 _ _ hQ29, by rw [refs_len]; exact Nat.lt_of_le_of_lt (show _ ≤ 8 by omega) (by decide), ?_⟩
          refine ⟨_, R2 ++ [(y, onesM w (T i))], rfl, same_put hq20 (s9.trans s1011), by rw [upd_ne nq]; exact s1011 _ _ hQ19, (tR9.same s1011).put (s1011 _ _ hQ29), by rw [upd_same, refs_app]; rfl, ((tR2.same s10).fresh hy).put (s1011 _ _ hQ29), ?_⟩
          rw [List.map_append, eR2, List.range_succ, List.map_append]; rfl
      rintro σ H9 ⟨v12, R2, rfl, s9, hQ19, tR9, hQ29, tR2, eR2⟩
      rw [aV_len] at eR2
      have hR8 : R.length ≤ 10 := by
        have := congrArg List.length eR
        rw [List.length_map, List.length_map, List.length_range] at this; omega
      have hR28 : R2.length ≤ 10 := by
        have := congrArg List.length eR2
        rw [List.length_map, List.length_map, List.length_range] at this; omega
      have hRl : ∀ l ∈ R.map (·.2), l.length ≤ 8 := fun l hl => by
        rw [eR] at hl
        obtain ⟨c, _, rfl⟩ := List.mem_map.1 hl
        have := onesM_len h fun r => T r c; omega
      have hR2l : ∀ l ∈ R2.map (·.2), l.length ≤ 8 := fun l hl => by
        rw [eR2] at hl
        obtain ⟨c, _, rfl⟩ := List.mem_map.1 hl
        have := onesM_len w (T c); omega
      have fR : (R.map (·.2)).filter (fun l => !l.isEmpty) = lrM h w T := by rw [eR, hw']; rfl
      have fR2 : (R2.map (·.2)).filter (fun l => !l.isEmpty) = lcM h w T := by rw [eR2]; rfl
      refine ⟨_, rfl, p1, _, rfl, C1'.same s9, po.mr.m400, fun Ka1 z1 L1 sa1 hz1 tL1 eL1 hL1 => ?_⟩
      have hQ1 := sa1 _ _ hQ19
      have tR1 := tR9.same sa1
      refine ⟨_, rfl, q1, rfl, ⟨_, SqL.of hQ1⟩, fun D1 hD1 => ?_⟩
      refine lc_it (walk_list (K := K) (a := q1) (xs := refs R)) (fun j H' => Same Ka1 H' ∧ ∃ N : TL, H' D1 = some (.lst (refs N)) ∧ TLat H' N ∧ N.map (·.2) = ((R.map (·.2)).take j).filter fun l => !l.isEmpty)
        ⟨same_upd hD1, [], by rw [upd_same]; rfl, (fun p hp => nomatch hp), rfl⟩ (fun j H' _ c => SqL.of (c.1 _ _ hQ1)) ?_ ?_
      · rintro j x H10 H11 hj ⟨s10, N, hN, tN, eN⟩ ⟨rfl, hx⟩
        obtain ⟨b, hb, rfl⟩ := map_at hx
        have hbt := s10 _ _ (tR1 b (mem_at hb))
        have hb2 : (R.map (·.2))[j]? = some b.2 := by rw [List.getElem?_map, hb]; rfl
        have hNl : N.length ≤ 10 := by
          have e1 := congrArg List.length eN
          have e2 := List.length_filter_le (fun l : List Int => !l.isEmpty) ((R.map (·.2)).take j)
          rw [List.length_map] at e1
          rw [List.length_take, List.length_map] at e2; omega
        refine ⟨rfl, _, rfl, by show 0 ≤ sizeLine; decide, fun e he => ?_⟩
        have s11 := same_upd (o := .tup []) he
        refine ⟨dT b.2, .tuple [], dpT (s11 _ _ hbt), dp_nilT upd_same, shapedT _, shaped_nilT, _, rfl, ?_⟩
        unfold dT
        rw [eqv_nilT]
        have eT : ((R.map (·.2)).take (j + 1)).filter (fun l => !l.isEmpty) = ((R.map (·.2)).take j).filter (fun l => !l.isEmpty) ++ if b.2.isEmpty = true then [] else [b.2] := by
          rw [List.take_add_one, hb2, List.filter_append]
          cases hh : b.2.isEmpty <;> simp [hh]
        have eI : (b.2.map PyData.int).isEmpty = b.2.isEmpty := by cases b.2 <;> rfl
        rw [eI]
        cases hE : b.2.isEmpty with
        | true =>
          rw [hE] at eT
          exact iteF ⟨s10.trans s11, N, s11 _ _ hN, tN.same s11, by rw [eN, eT]; simp⟩
        | false =>
          rw [hE] at eT
          refine iteT ⟨_, rfl, _, s11 _ _ hN, by rw [refs_len]; exact Nat.lt_of_le_of_lt hNl (by decide), same_put hD1 (s10.trans s11), N ++ [(b.1, b.2)], by rw [upd_same, refs_app]; rfl, ((tN.same s11).app (fun p hp => by rw [List.mem_singleton.1 hp]; exact s11 _ _ hbt)).put (s11 _ _ hN), ?_⟩
          rw [List.map_append, eN, eT]; simp
      rintro Kb1 ⟨sb1, N1, hN1, tN1, eN1⟩
      rw [refs_len, ← List.length_map (f := fun b : Addr × List Int => b.2), List.take_length, fR] at eN1
      have lN1 : N1.length ≤ 10 := by
        have e1 := congrArg List.length eN1
        rw [← fR] at e1
        have e2 := List.length_filter_le (fun l : List Int => !l.isEmpty) (R.map (·.2))
        rw [List.length_map] at e1 e2; omega
      refine ⟨D1, N1, rfl, hN1, tN1, lN1, ?_, fun Kc1 y1 M1 sc1 hy1 tM1 eM1 hM1 => ?_⟩
      · intro b hb
        have hm : b.2 ∈ N1.map (·.2) := List.mem_map.2 ⟨b, hb, rfl⟩
        rw [eN1, ← fR] at hm
        exact hRl _ (List.mem_filter.1 hm).1
      have sbc1 := sb1.trans sc1
      rw [eN1] at eM1
      have eS1 : (L1.mergeSort leO).map (·.2) = (M1.mergeSort leO).map (·.2) := by rw [sort_D, sort_D, eL1, eM1]; exact po.er
      refine ⟨_, _, rfl, al_lists (sbc1 _ _ hL1) hM1 ((tL1.same sbc1).sorted) tM1.sorted eS1 ?_ ?_, fun Kd1 sd1 => ⟨true, rfl, iteF ?_⟩⟩
      · have e1 := congrArg List.length eS1
        rw [List.length_map, List.length_map, List.length_mergeSort, ← List.length_map (f := fun b : Addr × List Int => b.2), eL1] at e1
        have := po.mr.m400; omega
      · intro b hb
        have hm : b.2 ∈ (M1.mergeSort leO).map (·.2) := List.mem_map.2 ⟨b, hb, rfl⟩
        rw [← eS1, sort_D, eL1] at hm
        have := (po.mr.m18 _ ((List.mem_mergeSort).1 hm)).2; omega
      have sz1 := sa1.trans (sbc1.trans sd1)
      refine ⟨_, rfl, p2, _, rfl, (C2.same s9).same sz1, po.mc.m400, fun Ka2 z2 L2 sa2 hz2 tL2 eL2 hL2 => ?_⟩
      have hQ2 := sa2 _ _ (sz1 _ _ hQ29)
      have tR2 := (tR2.same sz1).same sa2
      refine ⟨_, rfl, q2, rfl, ⟨_, SqL.of hQ2⟩, fun D2 hD2 => ?_⟩
      refine lc_it (walk_list (K := K) (a := q2) (xs := refs R2)) (fun j H' => Same Ka2 H' ∧ ∃ N : TL, H' D2 = some (.lst (refs N)) ∧ TLat H' N ∧ N.map (·.2) = ((R2.map (·.2)).take j).filter fun l => !l.isEmpty)
        ⟨same_upd hD2, [], by rw [upd_same]; rfl, (fun p hp => nomatch hp), rfl⟩ (fun j H' _ c => SqL.of (c.1 _ _ hQ2)) ?_ ?_
      · rintro j x H10 H11 hj ⟨s10, N, hN, tN, eN⟩ ⟨rfl, hx⟩
        obtain ⟨b, hb, rfl⟩ := map_at hx
        have hbt := s10 _ _ (tR2 b (mem_at hb))
        have hb2 : (R2.map (·.2))[j]? = some b.2 := by rw [List.getElem?_map, hb]; rfl
        have hNl : N.length ≤ 10 := by
          have e1 := congrArg List.length eN
          have e2 := List.length_filter_le (fun l : List Int => !l.isEmpty) ((R2.map (·.2)).take j)
          rw [List.length_map] at e1
          rw [List.length_take, List.length_map] at e2; omega
        refine ⟨rfl, _, rfl, by show 0 ≤ sizeLine; decide, fun e he => ?_⟩
        have s11 := same_upd (o := .tup []) he
        refine ⟨dT b.2, .tuple [], dpT (s11 _ _ hbt), dp_nilT upd_same, shapedT _, shaped_nilT, _, rfl, ?_⟩
        unfold dT
        rw [eqv_nilT]
        have eT : ((R2.map (·.2)).take (j + 1)).filter (fun l => !l.isEmpty) = ((R2.map (·.2)).take j).filter (fun l => !l.isEmpty) ++ if b.2.isEmpty = true then [] else [b.2] := by
          rw [List.take_add_one, hb2, List.filter_append]
          cases hh : b.2.isEmpty <;> simp [hh]
        have eI : (b.2.map PyData.int).isEmpty = b.2.isEmpty := by cases b.2 <;> rfl
        rw [eI]
        cases hE : b.2.isEmpty with
        | true =>
          rw [hE] at eT
          exact iteF ⟨s10.trans s11, N, s11 _ _ hN, tN.same s11, by rw [eN, eT]; simp⟩
        | false =>
          rw [hE] at eT
          refine iteT ⟨_, rfl, _, s11 _ _ hN, by rw [refs_len]; exact Nat.lt_of_le_of_lt hNl (by decide), same_put hD2 (s10.trans s11), N ++ [(b.1, b.2)], by rw [upd_same, refs_app]; rfl, ((tN.same s11).app (fun p hp => by rw [List.mem_singleton.1 hp]; exact s11 _ _ hbt)).put (s11 _ _ hN), ?_⟩
          rw [List.map_append, eN, eT]; simp
      rintro Kb2 ⟨sb2, N2, hN2, tN2, eN2⟩
      rw [refs_len, ← List.length_map (f := fun b : Addr × List Int => b.2), List.take_length, fR2] at eN2
      have lN2 : N2.length ≤ 10 := by
        have e1 := congrArg List.length eN2
        rw [← fR2] at e1
        have e2 := List.length_filter_le (fun l : List Int => !l.isEmpty) (R2.map (·.2))
        rw [List.length_map] at e1 e2; omega
      refine ⟨D2, N2, rfl, hN2, tN2, lN2, ?_, fun Kc2 y2 M2 sc2 hy2 tM2 eM2 hM2 => ?_⟩
      · intro b hb
        have hm : b.2 ∈ N2.map (·.2) := List.mem_map.2 ⟨b, hb, rfl⟩
        rw [eN2, ← fR2] at hm
        exact hR2l _ (List.mem_filter.1 hm).1
      have sbc2 := sb2.trans sc2
      rw [eN2] at eM2
      have eS2 : (L2.mergeSort leO).map (·.2) = (M2.mergeSort leO).map (·.2) := by rw [sort_D, sort_D, eL2, eM2]; exact po.ec
      refine ⟨_, _, rfl, al_lists (sbc2 _ _ hL2) hM2 ((tL2.same sbc2).sorted) tM2.sorted eS2 ?_ ?_, fun Kd2 sd2 => ⟨true, rfl, iteF ?_⟩⟩
      · have e1 := congrArg List.length eS2
        rw [List.length_map, List.length_map, List.length_mergeSort, ← List.length_map (f := fun b : Addr × List Int => b.2), eL2] at e1
        have := po.mc.m400; omega
      · intro b hb
        have hm : b.2 ∈ (M2.mergeSort leO).map (·.2) := List.mem_map.2 ⟨b, hb, rfl⟩
        rw [← eS2, sort_D, eL2] at hm
        have := (po.mc.m18 _ ((List.mem_mergeSort).1 hm)).2; omega
      have sz2 := sa2.trans (sbc2.trans sd2)
      -- the holes
      have sH := s9.trans (sz1.trans sz2)
      have CA := C1'.same sH
      have CB := C2.same sH
      obtain ⟨r, r', hr1', hr2', hreq⟩ := po.hol
      have n6 : ((5 : Int) - (-1)).toNat = 6 := rfl
      refine ⟨1, rfl, -1, 5, rfl, ⟨by decide, by decide, by decide, by decide⟩, fun E1 hE1 => ?_⟩
      rw [n6]
      refine lc_it (walk_range (lo := -1) (n := 6)) (fun j H' => Same Kd2 H' ∧ ∃ u e : Nat → Addr, H' E1 = some (.lst (aV j u)) ∧ ∀ i, i < j → H' (u i) = some (.tup [.int (((atM (madeM (sosM (rowsM h w T))) ((i : Int) - 1)).length : Int) - (r i : Int) - (r (i + 1) : Int)), .ref (e i)]) ∧ H' (e i) = some (.tup []))
        ⟨same_upd hE1, fun _ => 0, fun _ => 0, by rw [upd_same]; rfl, fun i hi => absurd hi (Nat.not_lt_zero _)⟩ (fun _ _ _ _ => True.intro) ?_ ?_
      · rintro j x H10 H11 hj ⟨s10, u, e, hE, hue⟩ ⟨rfl, rfl⟩
        refine ⟨rfl, tyes (iteT ⟨_, rfl, _, rfl, p1, _, -1 + (j : Nat), r j, r (j + 1), rfl, (CA).same s10, po.mr.m400, by omega, by omega, ?_, ?_, fun H12 t e' s12 ht hT hE' => ?_⟩)⟩
        · rw [show (-1 : Int) + (j : Nat) = ((j : Nat) : Int) - 1 by omega]; exact hr1' j (by omega)
        · rw [show (-1 : Int) + (j : Nat) + 1 = ((j + 1 : Nat) : Int) - 1 by omega]; exact hr1' (j + 1) (by omega)
        · rw [show (-1 : Int) + (j : Nat) = ((j : Nat) : Int) - 1 by omega] at hT
          have hE12 := s12 _ _ hE
          refine ⟨_, hE12, by rw [aV_len]; exact Nat.lt_of_le_of_lt (show _ ≤ 6 by omega) (by decide), same_put hE1 (s10.trans s12), fun i => if i = j then t else u i, fun i => if i = j then e' else e i, ?_, ?_⟩
          · rw [upd_same, aV_snoc, if_pos rfl]
            exact congrArg (fun z => some (HO.lst (z ++ [V.ref t]))) (aV_congr fun c hc => by rw [if_neg (by omega)])
          · intro i hi
            show upd H12 E1 (.lst (aV j u ++ [V.ref t])) (if i = j then t else u i) = some (.tup [_, .ref (if i = j then e' else e i)]) ∧ upd H12 E1 (.lst (aV j u ++ [V.ref t])) (if i = j then e' else e i) = some (.tup [])
            by_cases c : i = j
            · rw [if_pos c, if_pos c, upd_ne (ne_of hT hE12 (by intro z; cases z)), upd_ne (ne_of hE' hE12 (by intro z; cases z)), c]
              exact ⟨hT, hE'⟩
            · rw [if_neg c, if_neg c]
              have h1 := hue i (by omega)
              have h2 := s12 _ _ h1.1
              have h3 := s12 _ _ h1.2
              rw [upd_ne (ne_of h2 hE12 (by intro z; cases z)), upd_ne (ne_of h3 hE12 (by intro z; cases z))]
              exact ⟨h2, h3⟩
      rintro He1 ⟨se1, u1, e1, hU1, hue1⟩
      refine ⟨1, rfl, -1, 5, rfl, ⟨by decide, by decide, by decide, by decide⟩, fun E2 hE2 => ?_⟩
      rw [n6]
      refine lc_it (walk_range (lo := -1) (n := 6)) (fun j H' => Same He1 H' ∧ ∃ u e : Nat → Addr, H' E2 = some (.lst (aV j u)) ∧ ∀ i, i < j → H' (u i) = some (.tup [.int (((atM (madeM (colsM h w T)) ((i : Int) - 1)).length : Int) - (r' i : Int) - (r' (i + 1) : Int)), .ref (e i)]) ∧ H' (e i) = some (.tup []))
        ⟨same_upd hE2, fun _ => 0, fun _ => 0, by rw [upd_same]; rfl, fun i hi => absurd hi (Nat.not_lt_zero _)⟩ (fun _ _ _ _ => True.intro) ?_ ?_
      · rintro j x H10 H11 hj ⟨s10, u, e, hE, hue⟩ ⟨rfl, rfl⟩
        refine ⟨rfl, tyes (iteT ⟨_, rfl, _, rfl, p2, _, -1 + (j : Nat), r' j, r' (j + 1), rfl, (CB.same se1).same s10, po.mc.m400, by omega, by omega, ?_, ?_, fun H12 t e' s12 ht hT hE' => ?_⟩)⟩
        · rw [show (-1 : Int) + (j : Nat) = ((j : Nat) : Int) - 1 by omega]; exact hr2' j (by omega)
        · rw [show (-1 : Int) + (j : Nat) + 1 = ((j + 1 : Nat) : Int) - 1 by omega]; exact hr2' (j + 1) (by omega)
        · rw [show (-1 : Int) + (j : Nat) = ((j : Nat) : Int) - 1 by omega] at hT
          have hE12 := s12 _ _ hE
          refine ⟨_, hE12, by rw [aV_len]; exact Nat.lt_of_le_of_lt (show _ ≤ 6 by omega) (by decide), same_put hE2 (s10.trans s12), fun i => if i = j then t else u i, fun i => if i = j then e' else e i, ?_, ?_⟩
          · rw [upd_same, aV_snoc, if_pos rfl]
            exact congrArg (fun z => some (HO.lst (z ++ [V.ref t]))) (aV_congr fun c hc => by rw [if_neg (by omega)])
          · intro i hi
            show upd H12 E2 (.lst (aV j u ++ [V.ref t])) (if i = j then t else u i) = some (.tup [_, .ref (if i = j then e' else e i)]) ∧ upd H12 E2 (.lst (aV j u ++ [V.ref t])) (if i = j then e' else e i) = some (.tup [])
            by_cases c : i = j
            · rw [if_pos c, if_pos c, upd_ne (ne_of hT hE12 (by intro z; cases z)), upd_ne (ne_of hE' hE12 (by intro z; cases z)), c]
              exact ⟨hT, hE'⟩
            · rw [if_neg c, if_neg c]
              have h1 := hue i (by omega)
              have h2 := s12 _ _ h1.1
              have h3 := s12 _ _ h1.2
              rw [upd_ne (ne_of h2 hE12 (by intro z; cases z)), upd_ne (ne_of h3 hE12 (by intro z; cases z))]
              exact ⟨h2, h3⟩
      rintro He2 ⟨se2, u2, e2, hU2, hue2⟩
      refine ⟨_, _, rfl, al_holes (se2 _ _ hU1) hU2 (fun i hi => ⟨se2 _ _ (hue1 i hi).1, se2 _ _ (hue1 i hi).2⟩) hue2 (fun i hi => hreq i (by omega)), fun Hf sf => k Hf⟩
    · -- the tables of complexes
      obtain ⟨i0, z0, z1, hrow8, _⟩ := d8.r
      refine ⟨_, rfl, p, sc, ns, 3, rfl, d8.row, by decide, by decide, fun H9 n x9 q9 n0 n3 => ⟨rfl, _, rfl, ?_⟩⟩
      by_cases hn : n = 0
      · rw [show decide (V.int n = V.int 0) = true from decide_eq_true (by rw [hn])]
        refine iteT ⟨_, rfl, p, sc, ns, rfl, q9, fun H10 ts L x10 q10 hts tL sok => ?_⟩
        obtain ⟨Ls, hLs⟩ : ∃ Ls, Ls = L.map (·.2) := ⟨_, rfl⟩
        have tok := hT _ sok
        have hl10 : L.length ≤ 10 := by
          have e : (L.map (·.2)).length = L.length := List.length_map _
          rcases sok with z | z
          · rw [z] at e; rw [← e]; decide
          · omega
        have hl8 : ∀ q ∈ L, q.2.length ≤ 8 := fun q hq => by
          have hm : q.2 ∈ L.map (·.2) := List.mem_map.2 ⟨q, hq, rfl⟩
          rcases sok with z | z
          · rw [z] at hm
            have : ∀ l ∈ plane10, l.length ≤ 8 := by decide
            exact this _ hm
          · have := (z.2 _ hm).2.1; omega
        refine ⟨ts, L, rfl, hts, tL, hl10, hl8, fun H11 fs M s11 hfs tM eM hM => ?_⟩
        have hMm : ∀ q ∈ M, 1 ≤ q.2.length ∧ q.2.length ≤ 8 := fun q hq => by
          have hm : q.2 ∈ M.map (·.2) := List.mem_map.2 ⟨q, hq, rfl⟩
          rw [eM] at hm
          obtain ⟨s, hs, hl⟩ := mem_lawF.1 hm
          obtain ⟨b, hb, rfl⟩ := List.mem_map.1 hs
          have h1 := parts_ne _ _ hl
          have h2 := hl8 b hb
          omega
        have hMl : M.length ≤ 2560 := by
          have h1 := lawF_le (L.map (·.2)) (fun l hl => by
            obtain ⟨b, hb, rfl⟩ := List.mem_map.1 hl
            exact hl8 b hb)
          rw [← eM, List.length_map, List.length_map] at h1; omega
        refine ⟨fs, M.mergeSort leO, rfl, hM, tM.sorted, by rw [List.length_mergeSort]; exact hMl, fun q hq => hMm q ((List.mem_mergeSort).1 hq), fun H12 ft M2 s12 tM2 eM2 hM2 => ?_⟩
        refine ⟨8, rfl, sl_any (lo := none) (hi := some 8) hM2 fun H13 tp s13 h13 => ?_⟩
        rw [show cutV (refs (M2.mergeSort leT)) none (some 8) = (refs (M2.mergeSort leT)).take 8 from cut_to _ 8] at h13
        obtain ⟨TP, hTP⟩ : ∃ TP : TL, TP = (M2.mergeSort leT).take 8 := ⟨_, rfl⟩
        have h13' : H13 tp = some (.tup (refs TP)) := by rw [h13, hTP]; unfold refs; rw [List.map_take]
        have tTP : TLat H13 TP := fun q hq => by
          rw [hTP] at hq
          exact s13 _ _ (tM2.sorted q (List.mem_of_mem_take hq))
        have eTP : TP.map (·.2) = topsOf (L.map (·.2)) := by
          rw [hTP, List.map_take, sort_S, eM2, sort_D, eM]; rfl
        have lTP : TP.length ≤ 8 := by rw [hTP, List.length_take]; omega
        obtain ⟨tops, htops⟩ : ∃ tops, tops = topsOf (L.map (·.2)) := ⟨_, rfl⟩
        rw [← htops] at eTP tok
        have gTP : ∀ {i : Nat} {b : Addr × List Int}, TP[i]? = some b → tops.getD i [] = b.2 := fun {i b} hb => by
          rw [← eTP, List.getD_eq_getElem?_getD, List.getElem?_map, hb]; rfl
        refine ⟨_, rfl, tp, rfl, ⟨_, SqT.of h13'⟩, fun D hD => ?_⟩
        refine lc_it (walk_tup (K := K) (a := tp) (xs := refs TP)) (fun i H' => Same H13 H' ∧ ∃ ad : Nat → Addr, H' D = some (.lst (aV i ad)) ∧ ∀ r, r < i → H' (ad r) = some (.tup (rV 6 fun c => if ((c : Nat) : Int) ∈ tops.getD r [] then 1 else 0)))
          ⟨same_upd hD, fun _ => 0, by rw [upd_same]; rfl, fun r hr => absurd hr (Nat.not_lt_zero _)⟩ (fun i H' _ q => SqT.of (q.1 _ _ h13')) ?_ ?_
        · rintro i x H14 H15 hi ⟨s14, ad, hD14, rows14⟩ ⟨rfl, hx⟩
          obtain ⟨b, hb, rfl⟩ := map_at hx
          have hbt := s14 _ _ (tTP b (mem_at hb))
          rw [refs_len] at hi
          refine ⟨rfl, tyes (iteT ⟨6, rfl, by decide, by decide, fun D2 hD2 => ?_⟩)⟩
          refine lc_it (walk_range (lo := 0) (n := 6)) (Cmp H15 D2 fun j => rV j fun c => if ((c : Nat) : Int) ∈ tops.getD i [] then 1 else 0) (Cmp.start hD2 rfl) (fun _ _ _ _ => True.intro) ?_ ?_
          · rintro j y H16 H17 hj c ⟨rfl, rfl⟩
            refine ⟨rfl, tyes (iteT ⟨_, rfl, _, rfl, b.1, _, rfl, .inr (SqT.of (c.same _ _ hbt)), rfl, flat_ints _, .inr ⟨_, rfl, ?_⟩⟩)⟩
            rw [inV_ints, show (0 : Int) + (j : Nat) = ((j : Nat) : Int) by omega]
            refine c.put hD2 Same.rfl' ?_ (by rw [rV_len]; omega)
            rw [rV_snoc, gTP hb]
            by_cases e : ((j : Nat) : Int) ∈ b.2 <;> simp [e]
          · intro H16 c
            refine ⟨D2, _, rfl, .inl ⟨SqL.of c.lst, fun y hy => ?_⟩⟩
            have s17 := same_upd (o := .tup (rV 6 fun c => if ((c : Nat) : Int) ∈ tops.getD i [] then 1 else 0)) hy
            have hD17 := s17 _ _ (c.same _ _ hD14)
            refine ⟨_, hD17, by rw [aV_len]; exact Nat.lt_of_le_of_lt (show _ ≤ 8 by omega) (by decide), same_put hD (s14.trans (c.same.trans s17)), fun r => if r = i then y else ad r, ?_, ?_⟩
            · rw [upd_same, aV_snoc, if_pos rfl]
              exact congrArg (fun z => some (HO.lst (z ++ [V.ref y]))) (aV_congr fun c hc => by rw [if_neg (by omega)])
            · intro r hr
              show upd (upd H16 y (.tup (rV 6 fun c => if ((c : Nat) : Int) ∈ tops.getD i [] then 1 else 0))) D (.lst (aV i ad ++ [V.ref y])) (if r = i then y else ad r) = _
              by_cases e : r = i
              · rw [if_pos e, upd_ne (ne_of (upd_same (H := H16) (a := y)) hD17 (by intro z; cases z)), upd_same, e]
              · rw [if_neg e]
                have h1 := s17 _ _ (c.same _ _ (rows14 r (by omega)))
                rw [upd_ne (ne_of h1 hD17 (by intro z; cases z))]; exact h1
        · rintro H14 ⟨s14, ad, hD14, rows14⟩
          rw [refs_len] at hD14 rows14
          refine ⟨D, _, rfl, .inl ⟨SqL.of hD14, fun t' ht' => ?_⟩⟩
          have s15 := same_upd (o := .tup (aV TP.length ad)) ht'
          refine hB _ _ ⟨_, _, _, _, _, _, t', TP.length, 6, fun r c => if ((c : Nat) : Int) ∈ tops.getD r [] then 1 else 0, ad, rfl, ⟨upd_same, fun r hr => s15 _ _ (rows14 r hr), lTP, by decide, fun r c => by
            show (if ((c : Nat) : Int) ∈ tops.getD r [] then (1 : Int) else 0) = 0 ∨ (if ((c : Nat) : Int) ∈ tops.getD r [] then (1 : Int) else 0) = 1
            split
            · exact .inr rfl
            · exact .inl rfl⟩, ?_⟩
          have lt : tops.length = TP.length := by rw [← eTP, List.length_map]
          rcases tok with z | ⟨z1, z2⟩
          · exact .inl ⟨by omega, by decide⟩
          · refine .inr ⟨by omega, rfl, fun r c hr hc => ?_⟩
            show (if ((c : Nat) : Int) ∈ tops.getD r [] then (1 : Int) else 0) = _
            by_cases e : K63.T8 r c = true
            · rw [if_pos ((z2 r c hr hc).2 e), if_pos e]
            · rw [if_neg (fun y => e ((z2 r c hr hc).1 y)), if_neg e]
      · rw [show decide (V.int n = V.int 0) = false from decide_eq_false (fun z => hn (V.int.inj z))]
        exact iteF (hB _ _ ⟨_, _, _, _, _, _, t, h, ww, T, ad, rfl, tab.sx x9 ⟨_, hrow8⟩, .inl ⟨by omega, by omega⟩⟩)
end
end K63W


namespace K63W
open PySem L2 RZ StX PySem.W
open K63 (pc sg inc ordB KBB FB FBk matB fl)

/-! ### the two orders -/
theorem ltI_lt : ∀ a b : List Int, ltI a b = decide (a < b)
  | [], [] => by simp [ltI, listLt]
  | [], y :: ys => by simp [ltI, listLt]
  | x :: xs, [] => by simp [ltI, listLt]
  | x :: xs, y :: ys => by
    have e : ltI (x :: xs) (y :: ys) = if x = y then ltI xs ys else decide (x < y) := rfl
    rw [e, ltI_lt xs ys]
    by_cases h : x = y
    · subst h; simp [List.cons_lt_cons_iff]
    · simp [List.cons_lt_cons_iff, h]
def ltO (a b : List Int) : Bool := if (a.length : Int) = b.length then ltI a b else decide ((a.length : Int) < b.length)
theorem dataLt_O (a b : List Int) : dataLt (dO a) (dO b) = ltO a b := DatumOrd.lt_eq (((a.length : Int), (⟨a⟩ : Tup Int)) : Int × Tup Int) ((b.length : Int), ⟨b⟩)
theorem leS_eq (a b : List Int) : leS a b = decide (a ≤ b) := by
  show (!dataLt (dT b) (dT a)) = _
  rw [dataLt_T, ltI_lt]
  by_cases h : b < a
  · simp [h, List.not_le.2 h]
  · simp [h, List.not_lt.1 h]
theorem leD_iff (a b : List Int) : leD a b = true ↔ a.length < b.length ∨ (a.length = b.length ∧ a ≤ b) := by
  show (!dataLt (dO b) (dO a)) = true ↔ _
  rw [dataLt_O]
  unfold ltO
  by_cases h : (b.length : Int) = a.length
  · rw [if_pos h, ltI_lt]
    have h' : a.length = b.length := by omega
    have h2 : ¬ a.length < b.length := by omega
    by_cases h3 : b < a
    · have := List.not_le.2 h3
      simp [h3, h', h2]
    · have := List.not_lt.1 h3
      simp [h', this]
  · rw [if_neg h]
    have h' : ¬ a.length = b.length := by omega
    simp [h']; omega
theorem leS_trans (a b c : List Int) (h : leS a b = true) (h2 : leS b c = true) : leS a c = true := by
  rw [leS_eq, decide_eq_true_eq] at *
  exact List.le_trans h h2
theorem leS_total (a b : List Int) : (leS a b || leS b a) = true := by
  rw [leS_eq, leS_eq]
  rcases List.le_total a b with h | h <;> simp [h]
theorem leD_trans (a b c : List Int) (h : leD a b = true) (h2 : leD b c = true) : leD a c = true := by
  rw [leD_iff] at *
  rcases h with h | ⟨h, h'⟩ <;> rcases h2 with h2 | ⟨h2, h2'⟩
  · exact .inl (by omega)
  · exact .inl (by omega)
  · exact .inl (by omega)
  · exact .inr ⟨by omega, List.le_trans h' h2'⟩
theorem leD_total (a b : List Int) : (leD a b || leD b a) = true := by
  rw [Bool.or_eq_true, leD_iff, leD_iff]
  rcases Nat.lt_trichotomy a.length b.length with h | h | h
  · exact .inl (.inl h)
  · rcases List.le_total a b with h2 | h2
    · exact .inl (.inr ⟨h, h2⟩)
    · exact .inr (.inr ⟨h.symm, h2⟩)
  · exact .inr (.inl h)
theorem leS_anti (a b : List Int) (h : leS a b = true) (h2 : leS b a = true) : a = b := by
  rw [leS_eq, decide_eq_true_eq] at *
  exact List.le_antisymm h h2
theorem leD_anti (a b : List Int) (h : leD a b = true) (h2 : leD b a = true) : a = b := by
  rw [leD_iff] at *
  rcases h with h | ⟨h, h'⟩ <;> rcases h2 with h2 | ⟨h2, h2'⟩
  · omega
  · omega
  · omega
  · exact List.le_antisymm h' h2'
/-- a sorted list is the only one with its members -/
theorem sort_is {le : List Int → List Int → Bool} (tr : ∀ a b c, le a b = true → le b c = true → le a c = true) (to : ∀ a b, (le a b || le b a) = true) (an : ∀ a b, le a b = true → le b a = true → a = b)
    {L P : List (List Int)} (hL : L.Nodup) (hP : P.Nodup) (hs : P.Pairwise fun a b => le a b = true) (hm : ∀ l, l ∈ L ↔ l ∈ P) : L.mergeSort le = P := by
  refine List.Perm.eq_of_pairwise (le := fun a b => le a b = true) (fun a b _ _ => an a b) (List.pairwise_mergeSort tr to L) hs ?_
  exact (List.mergeSort_perm L le).trans ((List.perm_ext_iff_of_nodup hL hP).2 hm)
theorem sortD_is {L P : List (List Int)} (hL : L.Nodup) (hP : P.Nodup) (hs : P.Pairwise fun a b => leD a b = true) (hm : ∀ l, l ∈ L ↔ l ∈ P) : L.mergeSort leD = P := sort_is leD_trans leD_total leD_anti hL hP hs hm
theorem sortS_is {L P : List (List Int)} (hL : L.Nodup) (hP : P.Nodup) (hs : P.Pairwise fun a b => leS a b = true) (hm : ∀ l, l ∈ L ↔ l ∈ P) : L.mergeSort leS = P := sort_is leS_trans leS_total leS_anti hL hP hs hm
/-- neighbours in order: all in order -/
def chk (f : Nat → Nat → Bool) : List Nat → Bool
  | [] => true
  | [_] => true
  | a :: b :: l => f a b && chk f (b :: l)
theorem pw_of {f : Nat → Nat → Bool} {le : Nat → Nat → Prop} (tr : ∀ a b c, le a b → le b c → le a c) (hf : ∀ a b, f a b = true → le a b) : ∀ L : List Nat, chk f L = true → L.Pairwise le
  | [], _ => List.Pairwise.nil
  | [a], _ => List.pairwise_singleton _ _
  | a :: b :: l, h => by
    have h' : (f a b && chk f (b :: l)) = true := h
    rw [Bool.and_eq_true] at h'
    have ih := pw_of tr hf (b :: l) h'.2
    refine List.pairwise_cons.2 ⟨fun c hc => ?_, ih⟩
    rcases List.mem_cons.1 hc with e | hc
    · rw [e]; exact hf _ _ h'.1
    · exact tr _ _ _ (hf _ _ h'.1) ((List.pairwise_cons.1 ih).1 c hc)

/-! ### sets of points below 8 as masks -/
def pts (m : Nat) : List Int := ((List.range 8).filter fun i => m.testBit i).map fun i : Nat => (i : Int)
def mk8 (p : Nat → Bool) : Nat := (p 0).toNat + 2 * (p 1).toNat + 4 * (p 2).toNat + 8 * (p 3).toNat + 16 * (p 4).toNat + 32 * (p 5).toNat + 64 * (p 6).toNat + 128 * (p 7).toNat
theorem mk8_all : ∀ b0 b1 b2 b3 b4 b5 b6 b7 : Bool, let m := b0.toNat + 2 * b1.toNat + 4 * b2.toNat + 8 * b3.toNat + 16 * b4.toNat + 32 * b5.toNat + 64 * b6.toNat + 128 * b7.toNat
    m < 256 ∧ m.testBit 0 = b0 ∧ m.testBit 1 = b1 ∧ m.testBit 2 = b2 ∧ m.testBit 3 = b3 ∧ m.testBit 4 = b4 ∧ m.testBit 5 = b5 ∧ m.testBit 6 = b6 ∧ m.testBit 7 = b7 := by decide +kernel
theorem mk8_lt (p : Nat → Bool) : mk8 p < 256 := (mk8_all (p 0) (p 1) (p 2) (p 3) (p 4) (p 5) (p 6) (p 7)).1
theorem mk8_bit (p : Nat → Bool) {i : Nat} (hi : i < 8) : (mk8 p).testBit i = p i := by
  obtain ⟨_, h0, h1, h2, h3, h4, h5, h6, h7⟩ := mk8_all (p 0) (p 1) (p 2) (p 3) (p 4) (p 5) (p 6) (p 7)
  match i, hi with
  | 0, _ => exact h0
  | 1, _ => exact h1
  | 2, _ => exact h2
  | 3, _ => exact h3
  | 4, _ => exact h4
  | 5, _ => exact h5
  | 6, _ => exact h6
  | 7, _ => exact h7
def msk (l : List Int) : Nat := l.foldl (fun a n => a + 2 ^ n.toNat) 0
theorem msk_pts : ∀ m < 256, msk (pts m) = m := by
  have h : ((List.range 256).all fun m => decide (msk (pts m) = m)) = true := by decide +kernel
  intro m hm
  exact of_decide_eq_true (List.all_eq_true.1 h m (List.mem_range.2 hm))
theorem pts_inj {a b : Nat} (ha : a < 256) (hb : b < 256) (e : pts a = pts b) : a = b := by rw [← msk_pts a ha, ← msk_pts b hb, e]
theorem mem_pts {m : Nat} {x : Int} : x ∈ pts m ↔ ∃ i : Nat, i < 8 ∧ m.testBit i = true ∧ x = i := by
  unfold pts
  simp only [List.mem_map, List.mem_filter, List.mem_range]
  exact ⟨fun ⟨i, ⟨h1, h2⟩, h3⟩ => ⟨i, h1, h2, h3.symm⟩, fun ⟨i, h1, h2, h3⟩ => ⟨i, ⟨h1, h2⟩, h3.symm⟩⟩
theorem pts_asc (m : Nat) : (pts m).Pairwise (· < ·) := by
  unfold pts
  rw [List.pairwise_map]
  exact (List.pairwise_lt_range.filter _).imp (fun h => by omega)
theorem asc_nodup {l : List Int} (h : l.Pairwise (· < ·)) : l.Nodup := h.imp (fun h => by omega)
theorem asc_eq {a b : List Int} (ha : a.Pairwise (· < ·)) (hb : b.Pairwise (· < ·)) (h : ∀ x, x ∈ a ↔ x ∈ b) : a = b := by
  refine List.Perm.eq_of_pairwise (le := fun x y : Int => x < y) (fun x y _ _ h1 h2 => by omega) ha hb ?_
  exact (List.perm_ext_iff_of_nodup (asc_nodup ha) (asc_nodup hb)).2 h
/-- an ascending list of points below 8 is a mask's -/
theorem asc_pts {l : List Int} (ha : l.Pairwise (· < ·)) (h : ∀ n ∈ l, 0 ≤ n ∧ n < 8) : l = pts (mk8 fun i => decide ((i : Int) ∈ l)) := by
  refine asc_eq ha (pts_asc _) fun x => ?_
  rw [mem_pts]
  constructor
  · intro hx
    obtain ⟨h1, h2⟩ := h x hx
    refine ⟨x.toNat, by omega, ?_, by omega⟩
    rw [mk8_bit _ (by omega)]
    exact decide_eq_true (by rw [Int.toNat_of_nonneg h1]; exact hx)
  · rintro ⟨i, hi, hb, rfl⟩
    rw [mk8_bit _ hi] at hb
    exact of_decide_eq_true hb
theorem rng_pts {n : Nat} (hn : n ≤ 8) (p : Nat → Bool) : ((List.range n).filter p).map (fun i : Nat => (i : Int)) = pts (mk8 fun i => decide (i < n) && p i) := by
  refine asc_eq ?_ (pts_asc _) fun x => ?_
  · rw [List.pairwise_map]
    exact (List.pairwise_lt_range.filter _).imp (fun h => by omega)
  · rw [mem_pts]
    simp only [List.mem_map, List.mem_filter, List.mem_range]
    constructor
    · rintro ⟨i, ⟨h1, h2⟩, rfl⟩
      exact ⟨i, by omega, by rw [mk8_bit _ (by omega)]; simp [h1, h2], rfl⟩
    · rintro ⟨i, hi, hb, rfl⟩
      rw [mk8_bit _ hi, Bool.and_eq_true, decide_eq_true_eq] at hb
      exact ⟨i, hb, rfl⟩
theorem pts_nil {m : Nat} (hm : m < 256) : pts m = [] ↔ m = 0 := by
  have h0 : pts 0 = [] := by decide
  constructor
  · intro h; exact pts_inj hm (by decide) (h.trans h0.symm)
  · rintro rfl; exact h0
theorem pts_len : ∀ m < 256, (pts m).length = pc 8 m ∧ pc 8 m ≤ 8 := by
  have h : ((List.range 256).all fun m => decide ((pts m).length = pc 8 m ∧ pc 8 m ≤ 8)) = true := by decide +kernel
  intro m hm
  exact of_decide_eq_true (List.all_eq_true.1 h m (List.mem_range.2 hm))
/-- s is a part of m -/
def sub8 (s m : Nat) : Prop := s &&& m = s
theorem sub8_iff {s m : Nat} (hs : s < 256) : sub8 s m ↔ ∀ i, i < 8 → s.testBit i = true → m.testBit i = true := by
  unfold sub8
  constructor
  · intro h i _ hb
    rw [← h, Nat.testBit_and, Bool.and_eq_true] at hb
    exact hb.2
  · intro h
    refine Nat.eq_of_testBit_eq fun i => ?_
    rw [Nat.testBit_and]
    by_cases hi : i < 8
    · cases hb : s.testBit i
      · rfl
      · rw [h i hi hb]; rfl
    · have : s.testBit i = false := Nat.testBit_lt_two_pow (Nat.lt_of_lt_of_le hs (by
        have : 2 ^ 8 ≤ 2 ^ i := Nat.pow_le_pow_right (by decide) (by omega)
        simpa using this))
      rw [this]; rfl
theorem sub8_trans {a b c : Nat} (h : sub8 a b) (h2 : sub8 b c) : sub8 a c := by
  unfold sub8 at *
  rw [← h, Nat.and_assoc, h2]
theorem sub8_le {a b : Nat} (h : sub8 a b) : a ≤ b := by
  unfold sub8 at h
  rw [← h]; exact Nat.and_le_right
theorem parts_all : ∀ m < 256, (partsM (pts m)).drop 1 = ((List.range 256).filter fun s => decide (0 < s) && decide (s &&& m = s)).map pts := by
  have h : ((List.range 256).all fun m => decide ((partsM (pts m)).drop 1 = ((List.range 256).filter fun s => decide (0 < s) && decide (s &&& m = s)).map pts)) = true := by decide +kernel
  intro m hm
  exact of_decide_eq_true (List.all_eq_true.1 h m (List.mem_range.2 hm))
theorem mem_parts {m : Nat} (hm : m < 256) {l : List Int} : l ∈ (partsM (pts m)).drop 1 ↔ ∃ s, 0 < s ∧ sub8 s m ∧ l = pts s := by
  rw [parts_all m hm]
  simp only [List.mem_map, List.mem_filter, List.mem_range, Bool.and_eq_true, decide_eq_true_eq]
  constructor
  · rintro ⟨s, ⟨h1, h2, h3⟩, rfl⟩; exact ⟨s, h2, h3, rfl⟩
  · rintro ⟨s, h2, h3, rfl⟩; exact ⟨s, ⟨Nat.lt_of_le_of_lt (sub8_le h3) hm, h2, h3⟩, rfl⟩
end K63W


namespace K63W
open PySem L2 RZ StX PySem.W
open K63 (pc sg inc ordB KBB FB FBk matB fl)

theorem addM_nd {f : List (List Int)} {p : List Int} (h : f.Nodup) : (addM f p).Nodup := by
  unfold addM
  split
  · exact h
  · rename_i hp
    exact List.nodup_append.2 ⟨h, by simp, fun a ha b hb e => hp (by rw [List.mem_singleton.1 hb] at e; exact e ▸ ha)⟩
theorem addsM_nd {ps : List (List Int)} : ∀ {f : List (List Int)}, f.Nodup → (addsM f ps).Nodup := by
  induction ps with
  | nil => intro f h; exact h
  | cons p ps ih => intro f h; exact ih (addM_nd h)
theorem genM_nd (Ls : List (List Int)) : (genM Ls).Nodup := by
  have : ∀ (B A : List (List Int)), A.Nodup → (B.foldl (fun f s => if s ∈ f then f else addsM f ((partsM s).drop 1)) A).Nodup := by
    intro B
    induction B with
    | nil => intro A h; exact h
    | cons s B ih =>
      intro A h
      rw [List.foldl_cons]
      refine ih _ ?_
      by_cases hs : s ∈ A
      · rw [if_pos hs]; exact h
      · rw [if_neg hs]; exact addsM_nd h
  exact this Ls [] List.nodup_nil
theorem lawF_nd (Ls : List (List Int)) : (lawF Ls).Nodup := by
  have : ∀ (B A : List (List Int)), A.Nodup → (B.foldl (fun f s => addsM f ((partsM s).drop 1)) A).Nodup := by
    intro B
    induction B with
    | nil => intro A h; exact h
    | cons s B ih => intro A h; exact ih _ (addsM_nd h)
  exact this Ls [] List.nodup_nil
/-- l is a face of one of these masks -/
def FaceOf (Ms : List Nat) (l : List Int) : Prop := ∃ m ∈ Ms, ∃ s, 0 < s ∧ sub8 s m ∧ l = pts s
theorem mem_genM {Ms : List Nat} (h : ∀ m ∈ Ms, m < 256) {l : List Int} : l ∈ genM (Ms.map pts) ↔ FaceOf Ms l := by
  have go : ∀ (B A : List Nat) (F : List (List Int)), (∀ m ∈ A, m < 256) → (∀ m ∈ B, m < 256) → (∀ l, l ∈ F ↔ FaceOf A l) →
      ∀ l, l ∈ (B.map pts).foldl (fun f s => if s ∈ f then f else addsM f ((partsM s).drop 1)) F ↔ FaceOf (A ++ B) l := by
    intro B
    induction B with
    | nil => intro A F _ _ hF l; rw [List.append_nil]; exact hF l
    | cons b B ih =>
      intro A F hA hB hF l
      rw [List.map_cons, List.foldl_cons, show A ++ b :: B = (A ++ [b]) ++ B by simp]
      have hb := hB b (by simp)
      refine ih (A ++ [b]) _ (fun m hm => ?_) (fun m hm => hB m (by simp [hm])) (fun l => ?_) l
      · rcases List.mem_append.1 hm with z | z
        · exact hA m z
        · rw [List.mem_singleton.1 z]; exact hb
      · have hs : FaceOf (A ++ [b]) l ↔ FaceOf A l ∨ ∃ s, 0 < s ∧ sub8 s b ∧ l = pts s := by
          unfold FaceOf
          constructor
          · rintro ⟨m, hm, r⟩
            rcases List.mem_append.1 hm with z | z
            · exact .inl ⟨m, z, r⟩
            · rw [List.mem_singleton.1 z] at r; exact .inr r
          · rintro (⟨m, hm, r⟩ | r)
            · exact ⟨m, by simp [hm], r⟩
            · exact ⟨b, by simp, r⟩
        rw [hs]
        by_cases hin : pts b ∈ F
        · rw [if_pos hin, hF]
          refine ⟨.inl, fun z => z.elim id ?_⟩
          rintro ⟨s, h0, h1, rfl⟩
          obtain ⟨m, hm, s', h0', h1', e⟩ := (hF _).1 hin
          have e2 := pts_inj hb (Nat.lt_of_le_of_lt (sub8_le h1') (hA m hm)) e
          subst e2
          exact ⟨m, hm, s, h0, sub8_trans h1 h1', rfl⟩
        · rw [if_neg hin, mem_addsM, hF, mem_parts hb]
  have := go Ms [] [] (fun (_ : Nat) z => nomatch z) h (fun l => ⟨(fun z => nomatch z), (fun ⟨_, z, _⟩ => nomatch z)⟩) l
  rw [List.nil_append] at this
  exact this
theorem mem_lawFm {Ms : List Nat} (h : ∀ m ∈ Ms, m < 256) {l : List Int} : l ∈ lawF (Ms.map pts) ↔ FaceOf Ms l := by
  rw [mem_lawF]
  constructor
  · rintro ⟨s, hs, hl⟩
    obtain ⟨m, hm, rfl⟩ := List.mem_map.1 hs
    exact ⟨m, hm, (mem_parts (h m hm)).1 hl⟩
  · rintro ⟨m, hm, r⟩
    exact ⟨pts m, List.mem_map.2 ⟨m, hm, rfl⟩, (mem_parts (h m hm)).2 r⟩

/-! ### the facets, and the complex made of them -/
theorem mem_innerM {Ls : List (List Int)} {l : List Int} : l ∈ innerM Ls ↔ ∃ s ∈ Ls, l ∈ delM s := by
  have : ∀ (B A : List (List Int)), l ∈ B.foldl (fun f s => addsM f (delM s)) A ↔ l ∈ A ∨ ∃ s ∈ B, l ∈ delM s := by
    intro B
    induction B with
    | nil => intro A; simp
    | cons s B ih => intro A; rw [List.foldl_cons, ih, mem_addsM]; simp [or_assoc]
  have h := this Ls []
  simpa [innerM] using h
/-- the boundary of a mask -/
theorem bd_all : ∀ m < 256, bdM (pts m) = ((List.range 8).filter fun i => m.testBit i).map fun i => (pts (m - 2 ^ i), sg i m) := by
  have h : ((List.range 256).all fun m => decide (bdM (pts m) = ((List.range 8).filter fun i => m.testBit i).map fun i => (pts (m - 2 ^ i), sg i m))) = true := by decide +kernel
  intro m hm
  exact of_decide_eq_true (List.all_eq_true.1 h m (List.mem_range.2 hm))
/-- taking a point off -/
theorem off_all : ∀ m < 256, ∀ i < 8, m.testBit i = true → (m - 2 ^ i < m ∧ (m - 2 ^ i).testBit i = false ∧ sg i (m - 2 ^ i) = sg i m ∧ m - 2 ^ i + 2 ^ i = m ∧ pc 8 (m - 2 ^ i) + 1 = pc 8 m ∧ (m - 2 ^ i) &&& m = m - 2 ^ i) := by
  have h : ((List.range 256).all fun m => (List.range 8).all fun i => !m.testBit i || decide (m - 2 ^ i < m ∧ (m - 2 ^ i).testBit i = false ∧ sg i (m - 2 ^ i) = sg i m ∧ m - 2 ^ i + 2 ^ i = m ∧ pc 8 (m - 2 ^ i) + 1 = pc 8 m ∧ (m - 2 ^ i) &&& m = m - 2 ^ i)) = true := by decide +kernel
  intro m hm i hi hb
  have := List.all_eq_true.1 (List.all_eq_true.1 h m (List.mem_range.2 hm)) i (List.mem_range.2 hi)
  rw [hb] at this
  simpa using this
/-- putting a point in -/
theorem on_all : ∀ m < 256, ∀ i < 8, m.testBit i = false → (m + 2 ^ i < 256 ∧ (m + 2 ^ i).testBit i = true ∧ m + 2 ^ i - 2 ^ i = m ∧ pc 8 (m + 2 ^ i) = pc 8 m + 1 ∧ m &&& (m + 2 ^ i) = m) := by
  have h : ((List.range 256).all fun m => (List.range 8).all fun i => m.testBit i || decide (m + 2 ^ i < 256 ∧ (m + 2 ^ i).testBit i = true ∧ m + 2 ^ i - 2 ^ i = m ∧ pc 8 (m + 2 ^ i) = pc 8 m + 1 ∧ m &&& (m + 2 ^ i) = m)) = true := by decide +kernel
  intro m hm i hi hb
  have := List.all_eq_true.1 (List.all_eq_true.1 h m (List.mem_range.2 hm)) i (List.mem_range.2 hi)
  rw [hb] at this
  simpa using this
theorem mem_del {m : Nat} (hm : m < 256) {l : List Int} : l ∈ delM (pts m) ↔ ∃ i, i < 8 ∧ m.testBit i = true ∧ l = pts (m - 2 ^ i) := by
  rw [← bdM_keys, bd_all m hm, List.map_map]
  simp only [List.mem_map, List.mem_filter, List.mem_range, Function.comp]
  exact ⟨fun ⟨i, ⟨h1, h2⟩, h3⟩ => ⟨i, h1, h2, h3.symm⟩, fun ⟨i, h1, h2, h3⟩ => ⟨i, ⟨h1, h2⟩, h3.symm⟩⟩
/-- every face lies in a facet -/
theorem in_top {Ms : List Nat} (h : ∀ m ∈ Ms, m < 256) : ∀ n s, s + n = 256 → 0 < s → (∃ m ∈ Ms, sub8 s m) → ∃ t, 0 < t ∧ sub8 s t ∧ (∃ m ∈ Ms, sub8 t m) ∧ pts t ∉ innerM (genM (Ms.map pts)) := by
  intro n
  induction n using Nat.strongRecOn with
  | _ n ih =>
    intro s hn h0 hs
    by_cases hi : pts s ∈ innerM (genM (Ms.map pts))
    · obtain ⟨u, hu, hd⟩ := mem_innerM.1 hi
      obtain ⟨m, hm, u, hu0, hum, rfl⟩ := (mem_genM h).1 hu
      have hu8 := Nat.lt_of_le_of_lt (sub8_le hum) (h m hm)
      obtain ⟨i, hi8, hb, e⟩ := (mem_del hu8).1 hd
      have of := off_all u hu8 i hi8 hb
      obtain ⟨m', hm', hsm⟩ := hs
      have e2 := pts_inj (Nat.lt_of_le_of_lt (sub8_le hsm) (h m' hm')) (by omega) e
      have hsu : sub8 s u := by rw [e2]; exact of.2.2.2.2.2
      obtain ⟨t, t0, tu, tr⟩ := ih (256 - u) (by omega) u (by omega) hu0 ⟨m, hm, hum⟩
      exact ⟨t, t0, sub8_trans hsu tu, tr⟩
    · exact ⟨s, h0, by unfold sub8; exact Nat.and_self s, hs, hi⟩
theorem tops_map {Ms : List Nat} (h : ∀ m ∈ Ms, m < 256) : ∃ Ts : List Nat, (∀ t ∈ Ts, t < 256) ∧ topsM (genM (Ms.map pts)) = Ts.map pts ∧ ∀ t, t ∈ Ts ↔ 0 < t ∧ (∃ m ∈ Ms, sub8 t m) ∧ pts t ∉ innerM (genM (Ms.map pts)) := by
  have hm : ∀ l ∈ topsM (genM (Ms.map pts)), ∃ t, 0 < t ∧ t < 256 ∧ (∃ m ∈ Ms, sub8 t m) ∧ l = pts t ∧ pts t ∉ innerM (genM (Ms.map pts)) := by
    intro l hl
    have hl := List.mem_mergeSort.1 hl
    obtain ⟨h1, h2⟩ := List.mem_filter.1 hl
    obtain ⟨m, hm, t, t0, tm, rfl⟩ := (mem_genM h).1 h1
    exact ⟨t, t0, Nat.lt_of_le_of_lt (sub8_le tm) (h m hm), ⟨m, hm, tm⟩, rfl, by simpa using h2⟩
  refine ⟨(topsM (genM (Ms.map pts))).map msk, ?_, ?_, ?_⟩
  · intro t ht
    obtain ⟨l, hl, rfl⟩ := List.mem_map.1 ht
    obtain ⟨t, _, t8, _, rfl, _⟩ := hm l hl
    rw [msk_pts t t8]; exact t8
  · rw [List.map_map]
    conv => lhs; rw [← List.map_id (topsM (genM (Ms.map pts)))]
    refine List.map_congr_left fun l hl => ?_
    obtain ⟨t, _, t8, _, rfl, _⟩ := hm l hl
    show pts t = pts (msk (pts t))
    rw [msk_pts t t8]
  · intro t
    constructor
    · intro ht
      obtain ⟨l, hl, rfl⟩ := List.mem_map.1 ht
      obtain ⟨t, t0, t8, tm, rfl, tn⟩ := hm l hl
      rw [msk_pts t t8]; exact ⟨t0, tm, tn⟩
    · rintro ⟨t0, ⟨m, hm', tm⟩, tn⟩
      refine List.mem_map.2 ⟨pts t, ?_, msk_pts t (Nat.lt_of_le_of_lt (sub8_le tm) (h m hm'))⟩
      refine List.mem_mergeSort.2 (List.mem_filter.2 ⟨(mem_genM h).2 ⟨m, hm', t, t0, tm, rfl⟩, by simpa using tn⟩)
theorem mem_madeM {Ms : List Nat} (h : ∀ m ∈ Ms, m < 256) {l : List Int} : l ∈ madeM (Ms.map pts) ↔ FaceOf Ms l := by
  obtain ⟨Ts, h8, e, hT⟩ := tops_map h
  unfold madeM
  rw [e, mem_genM h8]
  constructor
  · rintro ⟨t, ht, s, s0, st, rfl⟩
    obtain ⟨_, ⟨m, hm, tm⟩, _⟩ := (hT t).1 ht
    exact ⟨m, hm, s, s0, sub8_trans st tm, rfl⟩
  · rintro ⟨m, hm, s, s0, sm, rfl⟩
    have hs8 := Nat.lt_of_le_of_lt (sub8_le sm) (h m hm)
    obtain ⟨t, t0, st, tm, tn⟩ := in_top h (256 - s) s (by omega) s0 ⟨m, hm, sm⟩
    exact ⟨t, (hT t).2 ⟨t0, tm, tn⟩, s, s0, st, rfl⟩
theorem madeM_nd (Ls : List (List Int)) : (madeM Ls).Nodup := genM_nd _
end K63W


namespace K63W
open PySem L2 RZ StX PySem.W
open K63 (pc sg inc ordB KBB FB FBk matB fl ls)

theorem ordB_all : ∀ s, s ∈ ordB ↔ 0 < s ∧ s < 256 := by
  have h : ((List.range 256).all fun s => decide (s = 0) || ordB.contains s) = true := by decide +kernel
  intro s
  constructor
  · exact K63.ordB_lt s
  · rintro ⟨h0, h8⟩
    have := List.all_eq_true.1 h s (List.mem_range.2 h8)
    have h0' : ¬ s = 0 := by omega
    simpa [h0'] using this
def leO2 (a b : List Int) : Bool := decide (a.length < b.length) || (decide (a.length = b.length) && (decide (a = b) || ltI a b))
theorem leO2_le {a b : List Int} (h : leO2 a b = true) : leD a b = true := by
  unfold leO2 at h
  rw [leD_iff]
  simp only [Bool.or_eq_true, Bool.and_eq_true, decide_eq_true_eq, ltI_lt] at h
  rcases h with h | ⟨h, h2⟩
  · exact .inl h
  · refine .inr ⟨h, ?_⟩
    rcases h2 with h2 | h2
    · rw [h2]; exact List.le_refl b
    · exact List.le_of_lt h2
theorem ordB_sorted : ordB.Pairwise fun a b => leD (pts a) (pts b) = true :=
  pw_of (f := fun a b => leO2 (pts a) (pts b)) (le := fun a b => leD (pts a) (pts b) = true) (fun a b c => leD_trans _ _ _) (fun a b => leO2_le) ordB (by decide +kernel)
theorem ordB_nodup : ordB.Nodup := by
  have h : ordB.Nodup := by
    rw [List.nodup_iff_pairwise_ne]
    have : (ordB.map fun m => ((pts m).length, pts m)).length = 255 := by decide +kernel
    exact (by decide +kernel : ordB.Pairwise (· ≠ ·))
  exact h
theorem map_pts_nodup {L : List Nat} (h : L.Nodup) (h8 : ∀ m ∈ L, m < 256) : (L.map pts).Nodup := K63.nodup_map_inj h fun x hx y hy e => pts_inj (h8 x hx) (h8 y hy) e
theorem FB_mem {S : Nat → Nat → Bool} {s : Nat} : s ∈ FB S ↔ (0 < s ∧ s < 256) ∧ KBB S s = true := by
  unfold FB
  rw [List.mem_filter, ordB_all]
theorem FB_nodup (S : Nat → Nat → Bool) : (FB S).Nodup := ordB_nodup.sublist (List.filter_sublist)
theorem FB_sorted (S : Nat → Nat → Bool) : (FB S).Pairwise fun a b => leD (pts a) (pts b) = true := ordB_sorted.filter _
theorem FBk_sub (S : Nat → Nat → Bool) (k : Nat) : (FBk S (k + 1)).Sublist (FB S) := List.filter_sublist
theorem FBk_mem {S : Nat → Nat → Bool} {k s : Nat} : s ∈ FBk S (k + 1) ↔ s ∈ FB S ∧ pc 8 s = k + 1 := by
  show s ∈ (FB S).filter _ ↔ _
  rw [List.mem_filter, beq_iff_eq]
theorem FBk_lt {S : Nat → Nat → Bool} {k s : Nat} (h : s ∈ FBk S k) : s < 256 ∧ pc 8 s = k := by
  cases k with
  | zero => have : s ∈ [0] := h
            rw [List.mem_singleton.1 this]; exact ⟨by decide, by decide⟩
  | succ k => obtain ⟨h1, h2⟩ := FBk_mem.1 h
              exact ⟨(FB_mem.1 h1).1.2, h2⟩
theorem FBk_nodup (S : Nat → Nat → Bool) (k : Nat) : (FBk S k).Nodup := by
  cases k with
  | zero => exact (by decide : [0].Nodup)
  | succ k => exact (FB_nodup S).sublist (FBk_sub S k)
theorem FBk_len (S : Nat → Nat → Bool) (k : Nat) : (FBk S k).length ≤ 70 := by
  have h : ((List.range 9).all fun k => decide (((List.range 256).filter fun m => decide (pc 8 m = k)).length ≤ 70)) = true := by decide +kernel
  by_cases hk : k < 9
  · refine Nat.le_trans (K63.nodup_len (FBk_nodup S k) fun s hs => ?_) (of_decide_eq_true (List.all_eq_true.1 h k (List.mem_range.2 hk)))
    obtain ⟨h1, h2⟩ := FBk_lt hs
    exact List.mem_filter.2 ⟨List.mem_range.2 h1, decide_eq_true h2⟩
  · have : FBk S k = [] := by
      rw [List.eq_nil_iff_forall_not_mem]
      intro s hs
      obtain ⟨h1, h2⟩ := FBk_lt hs
      have := (pts_len s h1).2
      omega
    rw [this]; decide

/-- these masks' faces are those of the table -/
structure GenBy (Ms : List Nat) (S : Nat → Nat → Bool) : Prop where
  lt : ∀ m ∈ Ms, m < 256
  iff : ∀ s, 0 < s → s < 256 → ((∃ m ∈ Ms, sub8 s m) ↔ KBB S s = true)
section
variable {Ms : List Nat} {S : Nat → Nat → Bool}
theorem GenBy.face (g : GenBy Ms S) {l : List Int} : FaceOf Ms l ↔ ∃ s ∈ FB S, l = pts s := by
  constructor
  · rintro ⟨m, hm, s, s0, sm, rfl⟩
    have s8 := Nat.lt_of_le_of_lt (sub8_le sm) (g.lt m hm)
    exact ⟨s, FB_mem.2 ⟨⟨s0, s8⟩, (g.iff s s0 s8).1 ⟨m, hm, sm⟩⟩, rfl⟩
  · rintro ⟨s, hs, rfl⟩
    obtain ⟨⟨s0, s8⟩, hk⟩ := FB_mem.1 hs
    obtain ⟨m, hm, sm⟩ := (g.iff s s0 s8).2 hk
    exact ⟨m, hm, s, s0, sm, rfl⟩
theorem GenBy.sort (g : GenBy Ms S) {L : List (List Int)} (hn : L.Nodup) (hL : ∀ l, l ∈ L ↔ FaceOf Ms l) : L.mergeSort leD = (FB S).map pts := by
  refine sortD_is hn (map_pts_nodup (FB_nodup S) fun m hm => (FB_mem.1 hm).1.2) ?_ fun l => ?_
  · rw [List.pairwise_map]; exact FB_sorted S
  · rw [hL, g.face, List.mem_map]
    exact ⟨fun ⟨s, h1, h2⟩ => ⟨s, h1, h2.symm⟩, fun ⟨s, h1, h2⟩ => ⟨s, h1, h2.symm⟩⟩
theorem GenBy.made (g : GenBy Ms S) : (madeM (Ms.map pts)).mergeSort leD = (FB S).map pts := g.sort (madeM_nd _) fun l => mem_madeM g.lt
theorem GenBy.law (g : GenBy Ms S) : (lawF (Ms.map pts)).mergeSort leD = (FB S).map pts := g.sort (lawF_nd _) fun l => mem_lawFm g.lt
theorem GenBy.at (g : GenBy Ms S) (k : Nat) : atM (madeM (Ms.map pts)) ((k : Int) - 1) = (FBk S k).map pts := by
  unfold atM
  cases k with
  | zero => exact (if_pos (by decide)).trans (show [[]] = [pts 0] from by decide)
  | succ k =>
    rw [if_neg (by omega)]
    refine sortD_is ((madeM_nd _).sublist List.filter_sublist) (map_pts_nodup (FBk_nodup S _) fun m hm => (FBk_lt hm).1) ?_ fun l => ?_
    · rw [List.pairwise_map]; exact (FB_sorted S).sublist (FBk_sub S k)
    · rw [List.mem_filter, mem_madeM g.lt, g.face, List.mem_map, decide_eq_true_eq]
      constructor
      · rintro ⟨⟨s, hs, rfl⟩, hl⟩
        have := (pts_len s (FB_mem.1 hs).1.2).1
        exact ⟨s, FBk_mem.2 ⟨hs, by omega⟩, rfl⟩
      · rintro ⟨s, hs, rfl⟩
        obtain ⟨h1, h2⟩ := FBk_mem.1 hs
        have := (pts_len s (FB_mem.1 h1).1.2).1
        exact ⟨⟨s, h1, rfl⟩, by omega⟩
theorem face_lt {l : List Int} (h8 : ∀ m ∈ Ms, m < 256) (h : FaceOf Ms l) : ∃ s, 0 < s ∧ s < 256 ∧ l = pts s := by
  obtain ⟨m, hm, s, s0, sm, rfl⟩ := h
  exact ⟨s, s0, Nat.lt_of_le_of_lt (sub8_le sm) (h8 m hm), rfl⟩
theorem face_simp {s : Nat} (s0 : 0 < s) (s8 : s < 256) : Simp (pts s) := by
  have h := pts_len s s8
  refine ⟨?_, by omega, ?_, pts_asc s⟩
  · rcases Nat.eq_zero_or_pos (pts s).length with e | e
    · have := (pts_nil s8).1 (List.length_eq_zero_iff.1 e); omega
    · exact e
  · intro n hn
    obtain ⟨i, hi, _, rfl⟩ := mem_pts.1 hn
    omega
theorem faces_le {L : List (List Int)} (h8 : ∀ m ∈ Ms, m < 256) (hn : L.Nodup) (hL : ∀ l, l ∈ L ↔ FaceOf Ms l) : L.length ≤ 256 := by
  have h1 : (L.map msk).Nodup := by
    rw [List.nodup_iff_pairwise_ne, List.pairwise_map]
    refine List.Pairwise.imp_of_mem ?_ hn
    intro a b ha hb hab e
    obtain ⟨s, _, s8, rfl⟩ := face_lt h8 ((hL a).1 ha)
    obtain ⟨t, _, t8, rfl⟩ := face_lt h8 ((hL b).1 hb)
    rw [msk_pts s s8, msk_pts t t8] at e
    exact hab (by rw [e])
  have h2 := K63.nodup_len (L := List.range 256) h1 fun m hm => by
    obtain ⟨l, hl, rfl⟩ := List.mem_map.1 hm
    obtain ⟨s, _, s8, rfl⟩ := face_lt h8 ((hL l).1 hl)
    rw [msk_pts s s8]; exact List.mem_range.2 s8
  rwa [List.length_map, List.length_range] at h2
theorem GenBy.ok (g : GenBy Ms S) : MadeOk (Ms.map pts) := by
  refine ⟨fun l hl => ?_, ?_, fun l hl => ?_, ?_, fun l hl => ?_⟩
  · obtain ⟨m, hm, rfl⟩ := List.mem_map.1 hl
    have := pts_len m (g.lt m hm); omega
  · have := faces_le g.lt (genM_nd (Ms.map pts)) (fun l => mem_genM g.lt); omega
  · obtain ⟨s, s0, s8, rfl⟩ := face_lt g.lt ((mem_genM g.lt).1 hl)
    exact face_simp s0 s8
  · have := faces_le g.lt (madeM_nd (Ms.map pts)) (fun l => mem_madeM g.lt); omega
  · obtain ⟨s, s0, s8, rfl⟩ := face_lt g.lt ((mem_madeM g.lt).1 hl)
    have := face_simp s0 s8
    exact ⟨this.1, this.2.1⟩
end

/-! ### the boundary matrix -/
theorem inc_eq : ∀ {t s : Nat}, t < 256 → s < 256 → lkI (bdM (pts s)) (pts t) = inc 8 t s := by
  intro t s ht hs
  have nd : ((bdM (pts s)).map (·.1)).Nodup := by rw [bdM_keys]; exact delM_nodup (asc_nodup (pts_asc s))
  by_cases h : ∃ i, i < 8 ∧ s.testBit i = true ∧ s - 2 ^ i = t
  · obtain ⟨i, hi, hb, rfl⟩ := h
    have of := off_all s hs i hi hb
    rw [lkI_some nd (n := sg i s)]
    · unfold K63.inc
      rw [K63.ls_single (u := i) List.nodup_range (List.mem_range.2 hi)]
      · rw [of.2.1]
        rw [if_neg (by decide), if_pos of.2.2.2.1, of.2.2.1]
      · intro a ha hne
        by_cases h1 : (s - 2 ^ i).testBit a = true
        · rw [if_pos h1]
        · rw [if_neg h1, if_neg]
          intro e
          have h2 : 2 ^ a = 2 ^ i := by have := of.2.2.2.1; omega
          exact hne (Nat.pow_right_inj (by decide : 1 < 2) |>.1 h2)
    · rw [bd_all s hs]
      exact List.mem_map.2 ⟨i, List.mem_filter.2 ⟨List.mem_range.2 hi, hb⟩, rfl⟩
  · rw [lkI_none]
    · unfold K63.inc
      symm
      refine K63.ls_zero fun i hi => ?_
      have hi := List.mem_range.1 hi
      by_cases h1 : t.testBit i = true
      · rw [if_pos h1]
      · rw [if_neg h1, if_neg]
        intro e
        have on := on_all t ht i hi (by simpa using h1)
        exact h ⟨i, hi, by rw [← e]; exact on.2.1, by rw [← e]; exact on.2.2.1⟩
    · rw [bdM_keys]
      intro hm
      obtain ⟨i, hi, hb, e⟩ := (mem_del hs).1 hm
      have of := off_all s hs i hi hb
      exact h ⟨i, hi, hb, (pts_inj ht (by omega) e).symm⟩
theorem getD_pts {L : List Nat} {i : Nat} (hi : i < L.length) : (L.map pts).getD i [] = pts (L.getD i 0) ∧ L.getD i 0 ∈ L := by
  rw [List.getD_eq_getElem?_getD, List.getD_eq_getElem?_getD, List.getElem?_map, List.getElem?_eq_getElem hi]
  exact ⟨rfl, List.getElem_mem hi⟩
theorem incM_eq {S : Nat → Nat → Bool} {k i j : Nat} (hi : i < (FBk S k).length) (hj : j < (FBk S (k + 1)).length) : incM ((FBk S k).map pts) ((FBk S (k + 1)).map pts) i j = matB (FBk S) k i j := by
  unfold incM matB
  obtain ⟨e1, m1⟩ := getD_pts hi
  obtain ⟨e2, m2⟩ := getD_pts hj
  rw [e1, e2]
  exact inc_eq (FBk_lt m1).1 (FBk_lt m2).1
theorem KBB_sub {S : Nat → Nat → Bool} {t s : Nat} (ht : t < 256) (h : sub8 t s) (hk : KBB S s = true) : KBB S t = true := by
  unfold KBB at *
  obtain ⟨j, hj, ha⟩ := List.any_eq_true.1 hk
  refine List.any_eq_true.2 ⟨j, hj, List.all_eq_true.2 fun i hi => ?_⟩
  have h1 := List.all_eq_true.1 ha i hi
  by_cases hb : t.testBit i = true
  · have h2 := (sub8_iff ht).1 h i (List.mem_range.1 hi) hb
    rw [h2] at h1
    rw [hb]; exact h1
  · simp [hb]
theorem del_FBk {S : Nat → Nat → Bool} {k s i : Nat} (hs : s ∈ FBk S (k + 1)) (hi : i < 8) (hb : s.testBit i = true) : s - 2 ^ i ∈ FBk S k := by
  obtain ⟨h1, h2⟩ := FBk_mem.1 hs
  obtain ⟨⟨s0, s8⟩, hk⟩ := FB_mem.1 h1
  have of := off_all s s8 i hi hb
  cases k with
  | zero =>
    have h3 : pc 8 (s - 2 ^ i) = 0 := by omega
    have h4 := (pts_len (s - 2 ^ i) (by omega)).1
    rw [h3] at h4
    have := (pts_nil (by omega : s - 2 ^ i < 256)).1 (List.length_eq_zero_iff.1 h4)
    rw [this]
    exact (List.mem_singleton.2 rfl : (0 : Nat) ∈ [0])
  | succ k =>
    refine FBk_mem.2 ⟨FB_mem.2 ⟨⟨?_, by omega⟩, KBB_sub (by omega) of.2.2.2.2.2 hk⟩, by omega⟩
    rcases Nat.eq_zero_or_pos (s - 2 ^ i) with e | e
    · rw [e] at of
      have : pc 8 0 = 0 := by decide
      omega
    · exact e
theorem rok (S : Nat → Nat → Bool) (k : Nat) : ROk ((FBk S k).map pts) ((FBk S (k + 1)).map pts) := by
  refine ⟨map_pts_nodup (FBk_nodup S k) fun m hm => (FBk_lt hm).1, ?_, ?_, ?_, ?_⟩
  · intro u hu
    obtain ⟨s, hs, rfl⟩ := List.mem_map.1 hu
    have := pts_len s (FBk_lt hs).1
    exact ⟨asc_nodup (pts_asc s), by omega⟩
  · intro u hu a ha
    obtain ⟨s, hs, rfl⟩ := List.mem_map.1 hu
    obtain ⟨i, hi, hb, rfl⟩ := (mem_del (FBk_lt hs).1).1 ha
    exact List.mem_map.2 ⟨_, del_FBk hs hi hb, rfl⟩
  · rw [List.length_map]; have := FBk_len S k; omega
  · rw [List.length_map]; have := FBk_len S (k + 1); omega
theorem low0 {S : Nat → Nat → Bool} {k : Nat} (h : (FBk S k).length = 0) : (FBk S (k + 1)).length = 0 := by
  rw [List.length_eq_zero_iff, List.eq_nil_iff_forall_not_mem]
  intro s hs
  have hs8 := (FBk_lt hs).1
  have h1 := (pts_len s hs8).1
  have h2 := (FBk_lt hs).2
  cases e : pts s with
  | nil => rw [e] at h1; simp at h1; omega
  | cons x xs =>
    have hx : x ∈ pts s := by rw [e]; simp
    obtain ⟨i, hi, hb, _⟩ := mem_pts.1 hx
    have := del_FBk hs hi hb
    rw [List.length_eq_zero_iff.1 h] at this
    cases this
/-- the degrees of one complex -/
theorem GenBy.div {Ms : List Nat} {S : Nat → Nat → Bool} (g : GenBy Ms S) {r : Nat → Nat} (hr : ∀ k, k ≤ 5 → r k ≤ 24 ∧ K63.Runs (FBk S k).length (FBk S (k + 1)).length 0 (matB (FBk S) k) (r k)) :
    ∀ k : Nat, k ≤ 6 → DivOk (madeM (Ms.map pts)) ((k : Int) - 1) (if k = 0 then 0 else r (k - 1)) := by
  intro k hk
  cases k with
  | zero => exact .inl ⟨by decide, rfl⟩
  | succ k =>
    obtain ⟨h1, h2⟩ := hr k (by omega)
    refine .inr ⟨by omega, ?_⟩
    rw [g.at (k + 1), show (((k + 1 : Nat) : Int) - 1 - 1) = (k : Int) - 1 by omega, g.at k, List.length_map, List.length_map, if_neg (by omega), Nat.add_sub_cancel]
    exact ⟨rok S k, low0, h2.congr fun i hi j hj => (incM_eq hi hj).symm, h1⟩
end K63W


namespace K63W
open PySem L2 RZ StX PySem.W
open K63 (pc sg inc ordB KBB FB FBk matB fl ls)

/-- the table as Bools, false outside -/
def tbB (h w : Nat) (T : Nat → Nat → Int) : Nat → Nat → Bool := fun i j => decide (i < h) && (decide (j < w) && decide (T i j = 1))
/-- these lists are the columns of the table, but the empty ones -/
def ColsOf (Ls : List (List Int)) (S : Nat → Nat → Bool) : Prop := ∀ l, l ∈ Ls ↔ ∃ j, j < 8 ∧ l = pts (mk8 fun i => S i j) ∧ l ≠ []
theorem gen_of {Ls : List (List Int)} {S : Nat → Nat → Bool} (h : ColsOf Ls S) : ∃ Ms, Ls = Ms.map pts ∧ GenBy Ms S := by
  have hl : ∀ l ∈ Ls, ∃ j, j < 8 ∧ l = pts (mk8 fun i => S i j) := fun l hl => let ⟨j, h1, h2, _⟩ := (h l).1 hl; ⟨j, h1, h2⟩
  have hm : ∀ m ∈ Ls.map msk, ∃ j, j < 8 ∧ m = mk8 fun i => S i j := by
    intro m hm
    obtain ⟨l, hl', rfl⟩ := List.mem_map.1 hm
    obtain ⟨j, hj, rfl⟩ := hl l hl'
    exact ⟨j, hj, msk_pts _ (mk8_lt _)⟩
  refine ⟨Ls.map msk, ?_, ⟨fun m h1 => ?_, fun s s0 s8 => ?_⟩⟩
  · rw [List.map_map]
    conv => lhs; rw [← List.map_id Ls]
    refine List.map_congr_left fun l hl' => ?_
    obtain ⟨j, hj, rfl⟩ := hl l hl'
    show _ = pts (msk (pts _))
    rw [msk_pts _ (mk8_lt _)]; rfl
  · obtain ⟨j, _, rfl⟩ := hm m h1
    exact mk8_lt _
  · unfold KBB
    constructor
    · rintro ⟨m, h1, hs⟩
      obtain ⟨j, hj, rfl⟩ := hm m h1
      refine List.any_eq_true.2 ⟨j, List.mem_range.2 hj, List.all_eq_true.2 fun i hi => ?_⟩
      by_cases hb : s.testBit i = true
      · have := (sub8_iff s8).1 hs i (List.mem_range.1 hi) hb
        rw [mk8_bit _ (List.mem_range.1 hi)] at this
        rw [this]; simp
      · simp [hb]
    · intro hk
      obtain ⟨j, hj, ha⟩ := List.any_eq_true.1 hk
      have hs : sub8 s (mk8 fun i => S i j) := by
        refine (sub8_iff s8).2 fun i hi hb => ?_
        have := List.all_eq_true.1 ha i (List.mem_range.2 hi)
        rw [mk8_bit _ hi]
        simpa [hb] using this
      refine ⟨_, List.mem_map.2 ⟨_, (h _).2 ⟨j, List.mem_range.1 hj, rfl, fun e => ?_⟩, msk_pts _ (mk8_lt _)⟩, hs⟩
      have := (pts_nil (mk8_lt _)).1 e
      have := sub8_le hs
      omega
theorem mk8_zero {p : Nat → Bool} (h : ∀ i, p i = false) : pts (mk8 p) = [] := by
  have : p = fun _ => false := funext h
  rw [this]; decide
theorem ones_pts {n : Nat} (hn : n ≤ 8) (f : Nat → Int) : onesM n f = pts (mk8 fun i => decide (i < n) && decide (f i = 1)) := rng_pts hn fun i => decide (f i = 1)
section
variable {h w : Nat} {T : Nat → Nat → Int}
theorem row_pts (w8 : w ≤ 8) {r : Nat} (hr : r < h) : onesM w (T r) = pts (mk8 fun j => fl (tbB h w T) j r) := by
  rw [ones_pts w8]
  refine congrArg (fun p => pts (mk8 p)) (funext fun j => ?_)
  unfold K63.fl tbB
  simp [hr]
theorem col_pts (h8 : h ≤ 8) {c : Nat} (hc : c < w) : (onesM h fun r => T r c) = pts (mk8 fun i => tbB h w T i c) := by
  rw [ones_pts h8]
  refine congrArg (fun p => pts (mk8 p)) (funext fun i => ?_)
  unfold tbB
  simp [hc]
theorem lcM_cols (h8 : h ≤ 8) (w8 : w ≤ 8) : ColsOf (lcM h w T) (fl (tbB h w T)) := by
  intro l
  unfold lcM
  rw [List.mem_filter, List.mem_map]
  constructor
  · rintro ⟨⟨r, hr, rfl⟩, hne⟩
    have hr := List.mem_range.1 hr
    exact ⟨r, by omega, row_pts w8 hr, fun e => by rw [e] at hne; cases hne⟩
  · rintro ⟨j, hj, rfl, hne⟩
    by_cases hr : j < h
    · refine ⟨⟨j, List.mem_range.2 hr, row_pts w8 hr⟩, ?_⟩
      cases e : pts (mk8 fun i => fl (tbB h w T) i j) with
      | nil => exact absurd e hne
      | cons _ _ => rfl
    · refine absurd (mk8_zero fun i => ?_) hne
      unfold K63.fl tbB; simp [hr]
theorem lrM_cols (h8 : h ≤ 8) (w8 : w ≤ 8) : ColsOf (lrM h w T) (tbB h w T) := by
  intro l
  unfold lrM
  rw [List.mem_filter, List.mem_map]
  constructor
  · rintro ⟨⟨c, hc, rfl⟩, hne⟩
    have hc : c < w := by have := List.mem_range.1 hc; split at this <;> omega
    exact ⟨c, by omega, col_pts h8 hc, fun e => by rw [e] at hne; cases hne⟩
  · rintro ⟨j, hj, rfl, hne⟩
    by_cases hh : h = 0
    · refine absurd (mk8_zero fun i => ?_) hne
      unfold tbB; simp [hh]
    · by_cases hc : j < w
      · refine ⟨⟨j, List.mem_range.2 (by rw [if_neg hh]; exact hc), col_pts h8 hc⟩, ?_⟩
        cases e : pts (mk8 fun i => tbB h w T i j) with
        | nil => exact absurd e hne
        | cons _ _ => rfl
      · refine absurd (mk8_zero fun i => ?_) hne
        unfold tbB; simp [hc]
theorem mem_ones {n : Nat} {f : Nat → Int} {x : Int} : x ∈ onesM n f ↔ ∃ j : Nat, j < n ∧ f j = 1 ∧ x = j := by
  unfold onesM
  simp only [List.mem_map, List.mem_filter, List.mem_range, decide_eq_true_eq]
  exact ⟨fun ⟨i, ⟨h1, h2⟩, h3⟩ => ⟨i, h1, h2, h3.symm⟩, fun ⟨i, h1, h2, h3⟩ => ⟨i, ⟨h1, h2⟩, h3.symm⟩⟩
theorem hasOne_iff {n : Nat} {f : Nat → Int} : hasOne n f = true ↔ onesM n f ≠ [] := by
  unfold hasOne
  rw [decide_eq_true_eq, List.mem_map]
  constructor
  · rintro ⟨j, hj, h1⟩ e
    have : (j : Int) ∈ onesM n f := mem_ones.2 ⟨j, List.mem_range.1 hj, h1, rfl⟩
    rw [e] at this; cases this
  · intro hne
    cases e : onesM n f with
    | nil => exact absurd e hne
    | cons x xs =>
      obtain ⟨j, hj, h1, _⟩ := mem_ones.1 (show x ∈ onesM n f by rw [e]; simp)
      exact ⟨j, List.mem_range.2 hj, h1⟩
theorem colsM_cols (h8 : h ≤ 8) (w8 : w ≤ 8) : ColsOf (colsM h w T) (fl (tbB h w T)) := by
  intro l
  rw [← lcM_cols h8 w8 l]
  unfold colsM lcM
  rw [List.mem_filter, List.mem_map, List.mem_map]
  have ne : ∀ l : List Int, (!l.isEmpty) = true ↔ l ≠ [] := fun l => by cases l <;> simp
  constructor
  · rintro ⟨r, hr, rfl⟩
    obtain ⟨h1, h2⟩ := List.mem_filter.1 hr
    exact ⟨⟨r, h1, rfl⟩, (ne _).2 (hasOne_iff.1 h2)⟩
  · rintro ⟨⟨r, hr, rfl⟩, hne⟩
    exact ⟨r, List.mem_filter.2 ⟨hr, hasOne_iff.2 ((ne _).1 hne)⟩, rfl⟩
theorem mem_addsI {ps : List Int} : ∀ {f : List Int} {x : Int}, x ∈ addsI f ps ↔ x ∈ f ∨ x ∈ ps := by
  induction ps with
  | nil => intro f x; simp [addsI]
  | cons p ps ih =>
    intro f x
    have e : addsI f (p :: ps) = addsI (addI f p) ps := rfl
    have e2 : x ∈ addI f p ↔ x ∈ f ∨ x = p := by
      unfold addI
      split
      · rename_i hp; exact ⟨.inl, fun z => z.elim id (fun e => e ▸ hp)⟩
      · simp
    rw [e, ih, e2, List.mem_cons, or_assoc]
theorem mem_things {Rs : List (List Int)} {x : Int} : x ∈ thingsM Rs ↔ ∃ l ∈ Rs, x ∈ l := by
  have : ∀ (B : List (List Int)) (A : List Int), x ∈ B.foldl addsI A ↔ x ∈ A ∨ ∃ l ∈ B, x ∈ l := by
    intro B
    induction B with
    | nil => intro A; simp
    | cons s B ih => intro A; rw [List.foldl_cons, ih, mem_addsI]; simp [or_assoc]
  have h := this Rs []
  simpa [thingsM] using h
theorem colP_pts (h8 : h ≤ 8) {j : Nat} (hj : j < w) : colP (rowsM h w T) (j : Int) (rowsM h w T).length = pts (mk8 fun i => tbB h w T i j) := by
  have hl : (rowsM h w T).length = h := by unfold rowsM; simp
  rw [hl]
  unfold colP
  rw [rng_pts h8]
  refine congrArg (fun p => pts (mk8 p)) (funext fun i => ?_)
  unfold tbB
  by_cases hi : i < h
  · have e : (rowsM h w T).getD i [] = onesM w (T i) := by
      unfold rowsM
      rw [List.getD_eq_getElem?_getD, List.getElem?_map, List.getElem?_range hi]; rfl
    rw [e]
    have e2 : decide ((j : Int) ∈ onesM w (T i)) = decide (T i j = 1) := by
      by_cases h1 : T i j = 1
      · rw [decide_eq_true h1, decide_eq_true]
        exact mem_ones.2 ⟨j, hj, h1, rfl⟩
      · rw [decide_eq_false h1, decide_eq_false]
        intro hm
        obtain ⟨j', _, h2, e⟩ := mem_ones.1 hm
        have : j = j' := by omega
        subst this; exact h1 h2
    rw [e2]; simp [hj]
  · simp [hi]
theorem sosM_cols (h8 : h ≤ 8) (w8 : w ≤ 8) : ColsOf (sosM (rowsM h w T)) (tbB h w T) := by
  intro l
  unfold sosM
  rw [List.mem_map]
  have hth : ∀ t : Int, t ∈ thingsM (rowsM h w T) ↔ ∃ r, r < h ∧ ∃ j : Nat, j < w ∧ T r j = 1 ∧ t = j := by
    intro t
    rw [mem_things]
    constructor
    · rintro ⟨m, hm, ht⟩
      obtain ⟨r, hr, rfl⟩ := List.mem_map.1 hm
      exact ⟨r, List.mem_range.1 hr, mem_ones.1 ht⟩
    · rintro ⟨r, hr, ht⟩
      exact ⟨_, List.mem_map.2 ⟨r, List.mem_range.2 hr, rfl⟩, mem_ones.2 ht⟩
  constructor
  · rintro ⟨t, ht, rfl⟩
    obtain ⟨r, hr, j, hj, h1, rfl⟩ := (hth t).1 ht
    refine ⟨j, by omega, colP_pts h8 hj, ?_⟩
    rw [colP_pts h8 hj]
    intro e
    have : (r : Int) ∈ pts (mk8 fun i => tbB h w T i j) := mem_pts.2 ⟨r, by omega, by rw [mk8_bit _ (by omega)]; unfold tbB; simp [hr, hj, h1], rfl⟩
    rw [e] at this; cases this
  · rintro ⟨j, hj, rfl, hne⟩
    cases e : pts (mk8 fun i => tbB h w T i j) with
    | nil => exact absurd e hne
    | cons x xs =>
      obtain ⟨r, hr, hb, _⟩ := mem_pts.1 (show x ∈ pts (mk8 fun i => tbB h w T i j) by rw [e]; simp)
      rw [mk8_bit _ hr] at hb
      unfold tbB at hb
      simp only [Bool.and_eq_true, decide_eq_true_eq] at hb
      refine ⟨j, (hth _).2 ⟨r, hb.1, j, hb.2.1, hb.2.2, rfl⟩, ?_⟩
      rw [← e]; exact colP_pts h8 hb.2.1
end
theorem good_tab {h w : Nat} {T : Nat → Nat → Int} (ht : TabOk h w T) : h ≤ 8 ∧ w ≤ 8 ∧ K63.Good (tbB h w T) := by
  rcases ht with ⟨h7, w6⟩ | ⟨rfl, rfl, hT⟩
  · refine ⟨by omega, by omega, K63.Good_of (fun j => ?_) (fun i => ?_) (fun i => ?_)⟩
    · unfold tbB; rw [decide_eq_false (by omega)]; rfl
    · unfold tbB; rw [decide_eq_false (show ¬ 7 < w by omega), Bool.false_and, Bool.and_false]
    · unfold tbB; rw [decide_eq_false (show ¬ 6 < w by omega), Bool.false_and, Bool.and_false]
  · refine ⟨by omega, by omega, ?_⟩
    have e : tbB 8 6 T = K63.T8 := by
      funext i j
      unfold tbB
      by_cases hi : i < 8
      · by_cases hj : j < 6
        · rw [hT i j hi hj]
          cases K63.T8 i j <;> simp [hi, hj]
        · rw [decide_eq_false hj, Bool.false_and, Bool.and_false]
          symm
          unfold K63.T8
          match i, hi with
          | 0, _ | 1, _ | 2, _ | 3, _ | 4, _ | 5, _ | 6, _ | 7, _ =>
            show (List.getD _ j 0 == 1) = false
            rw [List.getD_eq_getElem?_getD, List.getElem?_eq_none (by show 6 ≤ j; omega)]; rfl
      · rw [decide_eq_false hi, Bool.false_and]
        symm
        unfold K63.T8
        rw [List.getD_eq_getElem?_getD (l := ([[1, 1, 1, 0, 0, 0], [1, 1, 0, 1, 0, 0], [1, 0, 1, 0, 1, 0], [1, 0, 0, 1, 0, 1], [1, 0, 0, 0, 1, 1], [0, 1, 1, 0, 0, 1], [0, 1, 0, 1, 1, 0], [0, 1, 0, 0, 1, 1]] : List (List Nat))), List.getElem?_eq_none (by show 8 ≤ i; omega)]; rfl
    rw [e]; exact K63.Good8
theorem plain_ok (h w : Nat) (T : Nat → Nat → Int) (ht : TabOk h w T) : PlainOk h w T := by
  obtain ⟨h8, w8, r, r', g1, g2, g3, g4⟩ := good_tab ht
  obtain ⟨M1, e1, G1⟩ := gen_of (sosM_cols (T := T) h8 w8)
  obtain ⟨M2, e2, G2⟩ := gen_of (colsM_cols (T := T) h8 w8)
  obtain ⟨M3, e3, G3⟩ := gen_of (lrM_cols (T := T) h8 w8)
  obtain ⟨M4, e4, G4⟩ := gen_of (lcM_cols (T := T) h8 w8)
  refine ⟨?_, ?_, ?_, ?_, fun k => if k = 0 then 0 else r (k - 1), fun k => if k = 0 then 0 else r' (k - 1), ?_, ?_, ?_⟩
  · rw [e1]; exact G1.ok
  · rw [e2]; exact G2.ok
  · rw [e1, e3, G1.made, G3.law]
  · rw [e2, e4, G2.made, G4.law]
  · rw [e1]; exact G1.div g1
  · rw [e2]; exact G2.div g2
  · intro k hk
    rw [e1, e2, G1.at, G2.at, List.length_map, List.length_map]
    cases k with
    | zero =>
      show ((FBk _ 0).length : Int) - ((0 : Nat) : Int) - (r 0 : Int) = ((FBk _ 0).length : Int) - ((0 : Nat) : Int) - (r' 0 : Int)
      omega
    | succ k =>
      have := g4 k (by omega)
      show ((FBk _ (k + 1)).length : Int) - (r k : Int) - (r (k + 1) : Int) = ((FBk _ (k + 1)).length : Int) - (r' k : Int) - (r' (k + 1) : Int)
      omega
end K63W


namespace K63W
open PySem L2 RZ StX PySem.W
open K63 (pc sg inc ordB KBB FB FBk matB fl ls)

theorem bit_other : ∀ a < 256, ∀ i < 8, ∀ j < 8, a.testBit i = false → j ≠ i → (a + 2 ^ i).testBit j = a.testBit j := by
  have h : ((List.range 256).all fun a => (List.range 8).all fun i => (List.range 8).all fun j => a.testBit i || decide (j = i) || decide ((a + 2 ^ i).testBit j = a.testBit j)) = true := by decide +kernel
  intro a ha i hi j hj hc hne
  have := List.all_eq_true.1 (List.all_eq_true.1 (List.all_eq_true.1 h a (List.mem_range.2 ha)) i (List.mem_range.2 hi)) j (List.mem_range.2 hj)
  rw [hc] at this
  simpa [hne] using this
theorem sx_pts {l : List Int} (h : Sx6 l) : ∃ m, m < 256 ∧ l = pts m := ⟨_, mk8_lt _, asc_pts h.2.2.2 fun n hn => ⟨(h.2.2.1 n hn).1, by have := (h.2.2.1 n hn).2; omega⟩⟩
/-- a face that is in no bigger one is one of the simplices drawn -/
theorem fac_in {Ls : List (List Int)} (h : ∀ l ∈ Ls, Sx6 l) : ∀ l ∈ facM ((lawF Ls).mergeSort leD), l ∈ Ls := by
  intro l hl
  unfold facM at hl
  obtain ⟨h1, h2⟩ := List.mem_filter.1 hl
  obtain ⟨s, hs, hp⟩ := mem_lawF.1 (List.mem_mergeSort.1 h1)
  obtain ⟨m, hm, rfl⟩ := sx_pts (h s hs)
  obtain ⟨a, a0, am, rfl⟩ := (mem_parts hm).1 hp
  have ha := Nat.lt_of_le_of_lt (sub8_le am) hm
  by_cases e : ∃ i, i < 8 ∧ m.testBit i = true ∧ a.testBit i = false
  · obtain ⟨i, hi, hb, hc⟩ := e
    have on := on_all a ha i hi hc
    have sub : sub8 (a + 2 ^ i) m := by
      refine (sub8_iff on.1).2 fun j hj hb2 => ?_
      by_cases e2 : j = i
      · rw [e2]; exact hb
      · by_cases h3 : a.testBit j = true
        · exact (sub8_iff ha).1 am j hj h3
        · have h5 : (a + 2 ^ i).testBit j = a.testBit j := bit_other a ha i hi j hj hc e2
          rw [h5] at hb2; exact absurd hb2 h3
    have hin : pts (a + 2 ^ i) ∈ upM ((lawF Ls).mergeSort leD) (pts a) := by
      refine List.mem_filter.2 ⟨List.mem_mergeSort.2 (mem_lawF.2 ⟨_, hs, (mem_parts hm).2 ⟨a + 2 ^ i, Nat.lt_of_lt_of_le a0 (Nat.le_add_right _ _), sub, rfl⟩⟩), ?_⟩
      rw [Bool.and_eq_true, decide_eq_true_eq]
      refine ⟨?_, ?_⟩
      · have := (pts_len a ha).1
        have := (pts_len _ on.1).1
        have := on.2.2.2.1
        omega
      · unfold inM
        refine List.all_eq_true.2 fun x hx => decide_eq_true ?_
        obtain ⟨j, hj, hb3, rfl⟩ := mem_pts.1 hx
        exact mem_pts.2 ⟨j, hj, (sub8_iff ha).1 on.2.2.2.2 j hj hb3, rfl⟩
    have : (upM ((lawF Ls).mergeSort leD) (pts a)) = [] := by
      cases e3 : upM ((lawF Ls).mergeSort leD) (pts a) with
      | nil => rfl
      | cons _ _ => rw [e3] at h2; cases h2
    rw [this] at hin; cases hin
  · have : pts a = pts m := by
      refine asc_eq (pts_asc a) (pts_asc m) fun x => ?_
      rw [mem_pts, mem_pts]
      constructor
      · rintro ⟨i, hi, hb, rfl⟩; exact ⟨i, hi, (sub8_iff ha).1 am i hi hb, rfl⟩
      · rintro ⟨i, hi, hb, rfl⟩
        refine ⟨i, hi, ?_, rfl⟩
        cases hc : a.testBit i
        · exact absurd ⟨i, hi, hb, hc⟩ e
        · rfl
    rw [this]; exact hs
theorem len_nodup {A B : List (List Int)} (hA : A.Nodup) (hs : ∀ l ∈ A, l ∈ B) : A.length ≤ B.length := by
  induction A generalizing B with
  | nil => exact Nat.zero_le _
  | cons a A ih =>
    obtain ⟨h1, h2⟩ := List.nodup_cons.1 hA
    have ha := hs a (by simp)
    have := ih (B := B.erase a) h2 fun l hl => (List.mem_erase_of_ne (fun e : l = a => h1 (by rw [← e]; exact hl))).2 (hs l (by simp [hl]))
    rw [List.length_erase_of_mem ha] at this
    have := List.length_pos_of_mem ha
    rw [List.length_cons]; omega
theorem facM_nd {Fs : List (List Int)} (h : Fs.Nodup) : (facM Fs).Nodup := h.sublist List.filter_sublist
theorem sort_nd {Fs : List (List Int)} {le : List Int → List Int → Bool} (h : Fs.Nodup) : (Fs.mergeSort le).Nodup := (List.mergeSort_perm Fs le).nodup_iff.2 h

/-! the plane of six points -/
def planeF : List Nat := ordB.filter fun s => [7, 11, 21, 41, 49, 38, 26, 50, 28, 44].any fun m => s &&& m == s
theorem plane_pts : plane10 = [7, 11, 21, 41, 49, 38, 26, 50, 28, 44].map pts := by decide +kernel
theorem plane_fac : facM (planeF.map pts) = plane10 := by decide +kernel
theorem plane_sorted : (lawF plane10).mergeSort leD = planeF.map pts := by
  refine sortD_is (lawF_nd _) (map_pts_nodup (ordB_nodup.sublist List.filter_sublist) fun m hm => ((ordB_all m).1 (List.mem_filter.1 hm).1).2) ?_ fun l => ?_
  · rw [List.pairwise_map]; exact ordB_sorted.filter _
  · rw [plane_pts, mem_lawFm (by decide), List.mem_map]
    unfold planeF
    constructor
    · rintro ⟨m, hm, s, s0, sm, rfl⟩
      have m8 : ∀ m ∈ [7, 11, 21, 41, 49, 38, 26, 50, 28, 44], m < 256 := by decide
      refine ⟨s, List.mem_filter.2 ⟨(ordB_all s).2 ⟨s0, Nat.lt_of_le_of_lt (sub8_le sm) (m8 m hm)⟩, List.any_eq_true.2 ⟨m, hm, beq_iff_eq.2 sm⟩⟩, rfl⟩
    · rintro ⟨s, hs, rfl⟩
      obtain ⟨h1, h2⟩ := List.mem_filter.1 hs
      obtain ⟨m, hm, h3⟩ := List.any_eq_true.1 h2
      exact ⟨m, hm, s, ((ordB_all s).1 h1).1, beq_iff_eq.1 h3, rfl⟩
theorem plane_S : plane10.mergeSort leS = plane10 := by
  refine sortS_is (by decide +kernel) (by decide +kernel) ?_ fun l => Iff.rfl
  have h : plane10.Pairwise fun a b => (decide (a = b) || ltI a b) = true := by decide +kernel
  refine h.imp fun {a b} h => ?_
  rw [leS_eq, decide_eq_true_eq]
  rw [Bool.or_eq_true, decide_eq_true_eq, ltI_lt, decide_eq_true_eq] at h
  rcases h with h | h
  · rw [h]; exact List.le_refl b
  · exact List.le_of_lt h
theorem tops_ok (Ls : List (List Int)) (h : SimsOk Ls) : TopsOk (topsOf Ls) := by
  rcases h with rfl | ⟨h7, hs⟩
  · unfold topsOf
    rw [plane_sorted, plane_fac, plane_S]
    refine .inr ⟨by decide, ?_⟩
    have h : ((List.range 8).all fun r => (List.range 6).all fun c => decide (((c : Int) ∈ (plane10.take 8).getD r []) ↔ K63.T8 r c = true)) = true := by decide +kernel
    intro r c hr hc
    exact of_decide_eq_true (List.all_eq_true.1 (List.all_eq_true.1 h r (List.mem_range.2 hr)) c (List.mem_range.2 hc))
  · refine .inl ?_
    unfold topsOf
    rw [List.length_take, List.length_mergeSort]
    have := len_nodup (facM_nd (sort_nd (le := leD) (lawF_nd Ls))) (fac_in hs)
    omega
end K63W


namespace K63W
open PySem L2 RZ StX PySem.W

/-- a def of the module, a method of a class -/
structure Df (K : PySem.W.Frag) (mg : Str → Option Value) (x : Str) (st : Stmt) (ps : List Str) (f : Addr) (fd : FuncData) : Prop where
  F : Fun K x x st f fd
  L : Lk K mg x f fd ps
structure Dm (K : PySem.W.Frag) (C : Addr) (m qual : Str) (st : Stmt) (ps : List Str) (f : Addr) (fd : FuncData) : Prop where
  F : Fun K m qual st f fd
  M : Lm K C m f fd ps
structure Di (K : PySem.W.Frag) (C : Addr) (qual : Str) (st : Stmt) (ps : List Str) (f : Addr) (fd : FuncData) : Prop where
  F : Fun K "__init__" qual st f fd
  M : Mk K C f
  b : Binds K fd ps []
/-- the module's own ints -/
structure Nm (mg : Str → Option Value) : Prop where
  v : ∃ t, mg "MOST_VERTEX" = some (.int 30 t)
  l : ∃ t, mg "MOST_LENGTH" = some (.int 8 t)
  f : ∃ t, mg "MOST_FACES" = some (.int 400 t)
  s : ∃ t, mg "MOST_SIDE" = some (.int 8 t)
/-- all that the top has written -/
structure Top (K : PySem.W.Frag) (mg : Str → Option Value) (C S f : Addr) (fd : FuncData) : Prop where
  B : Bl mg
  N : Nm mg
  T : CTxt K mg C
  U : STxt K mg S
  ci : ∃ f fd, Di K C "Complex.__init__" sCInit ["self", "simplices"] f fd
  si : ∃ f fd, Di K S "Square.__init__" (sSq 0) ["self", "rows"] f fd
  s1 : ∃ f fd, Dm K S "swap_rows" "Square.swap_rows" (sSq 1) ["self", "one", "other"] f fd
  s2 : ∃ f fd, Dm K S "swap_columns" "Square.swap_columns" (sSq 2) ["self", "one", "other"] f fd
  s3 : ∃ f fd, Dm K S "add_row" "Square.add_row" (sSq 3) ["self", "to", "many", "source"] f fd
  s4 : ∃ f fd, Dm K S "add_column" "Square.add_column" (sSq 4) ["self", "to", "many", "source"] f fd
  s5 : ∃ f fd, Dm K S "least" "Square.least" (sSq 5) ["self", "at"] f fd
  s6 : ∃ f fd, Dm K S "is_clean" "Square.is_clean" (sSq 6) ["self", "at"] f fd
  s7 : ∃ f fd, Dm K S "odd_row" "Square.odd_row" (sSq 7) ["self", "at"] f fd
  s8 : ∃ f fd, Dm K S "settle" "Square.settle" (sSq 8) ["self", "at"] f fd
  s9 : ∃ f fd, Dm K S "run" "Square.run" (sSq 9) ["self"] f fd
  t1 : ∃ f fd, Df K mg "is_integer" sIsInteger ["value"] f fd
  t2 : ∃ f fd, Df K mg "is_in" sIsIn ["value", "least", "most"] f fd
  t3 : ∃ f fd, Df K mg "is_list" sIsList ["value", "least", "most"] f fd
  t15 : ∃ f fd, Df K mg "is_ascending" sIsAsc ["value", "least", "most"] f fd
  t16 : ∃ f fd, Df K mg "is_simplex" sIsSimplex ["value"] f fd
  t17 : ∃ f fd, Df K mg "parts_of" sPartsOf ["simplex"] f fd
  t18 : ∃ f fd, Df K mg "generated" sGenerated ["simplices"] f fd
  t19 : ∃ f fd, Df K mg "in_order" sInOrder ["simplices"] f fd
  t20 : ∃ f fd, Df K mg "maximal" sMaximal ["faces"] f fd
  t22 : ∃ f fd, Df K mg "need_complex" sNeedComplex ["value"] f fd
  t23 : ∃ f fd, Df K mg "made" sMade ["simplices"] f fd
  t24 : ∃ f fd, Df K mg "simplices_of" sSimplicesOf ["shape"] f fd
  t26 : ∃ f fd, Df K mg "tidy" sTidy ["numbers"] f fd
  t27 : ∃ f fd, Df K mg "boundary_in" sBoundaryIn ["chain"] f fd
  t28 : ∃ f fd, Df K mg "simplices_at" sSimplicesAt ["shape", "degree"] f fd
  t29 : ∃ f fd, Df K mg "rows_at" sRowsAt ["shape", "degree"] f fd
  t30 : ∃ f fd, Df K mg "need_degree" sNeedDegree ["degree", "least"] f fd
  t33 : ∃ f fd, Df K mg "divisors" sDivisors ["rows"] f fd
  t35 : ∃ f fd, Df K mg "count_at" sCountAt ["shape", "degree"] f fd
  t36 : ∃ f fd, Df K mg "all_divisors" sAllDivisors ["shape", "degree"] f fd
  t37 : ∃ f fd, Df K mg "holes" sHoles ["shape", "degree"] f fd
  t40 : ∃ f fd, Df K mg "shape_of_sets" sShapeOf ["sets"] f fd
  t41 : ∃ f fd, Df K mg "need_table" sNeedTable ["table"] f fd
  t42 : ∃ f fd, Df K mg "row_shape" sRowShape ["table"] f fd
  t43 : ∃ f fd, Df K mg "column_shape" sColShape ["table"] f fd
  t45 : ∃ f fd, Df K mg "_law_taken" sTaken ["_law_row", "_law_many"] f fd
  t46 : ∃ f fd, Df K mg "_law_pick" sPick ["_law_row", "_law_things"] f fd
  t47 : ∃ f fd, Df K mg "_law_alike" sAlike ["_law_found", "_law_due"] f fd
  t48 : ∃ f fd, Df K mg "_law_simplex" sSimplex ["_law_row", "_law_most", "_law_size"] f fd
  t49 : ∃ f fd, Df K mg "_law_simplices" sSimplices ["_law_row", "_law_most", "_law_size"] f fd
  t50 : ∃ f fd, Df K mg "_law_faces" sFaces ["_law_simplices_here"] f fd
  t51 : ∃ f fd, Df K mg "_law_within" sWithin ["_law_one", "_law_other"] f fd
  t52 : ∃ f fd, Df K mg "_law_facets" sFacets ["_law_faces_here"] f fd
  law : Fun K "law" "law" sLaw f fd

theorem Top.ok {P : Program} {w : World} {K : PySem.W.Frag} {mg : Str → Option Value} {base : Heap} {C S f : Addr} {fd : FuncData} (X : Top K mg C S f fd) : FnOk P w K mg base CX0 10 f fd ["_law_script"] (spLaw K) := by
  have B := X.B
  have T := X.T
  have U := X.U
  obtain ⟨tV, mV⟩ := X.N.v
  obtain ⟨tL, mL⟩ := X.N.l
  obtain ⟨tF, mF⟩ := X.N.f
  obtain ⟨tS, mS⟩ := X.N.s
  obtain ⟨_, _, D1⟩ := X.t1
  obtain ⟨_, _, D2⟩ := X.t2
  obtain ⟨_, _, D3⟩ := X.t3
  obtain ⟨_, _, D15⟩ := X.t15
  obtain ⟨_, _, D16⟩ := X.t16
  obtain ⟨_, _, D17⟩ := X.t17
  obtain ⟨_, _, D18⟩ := X.t18
  obtain ⟨_, _, D19⟩ := X.t19
  obtain ⟨_, _, D20⟩ := X.t20
  obtain ⟨_, _, D22⟩ := X.t22
  obtain ⟨_, _, D23⟩ := X.t23
  obtain ⟨_, _, D24⟩ := X.t24
  obtain ⟨_, _, D26⟩ := X.t26
  obtain ⟨_, _, D27⟩ := X.t27
  obtain ⟨_, _, D28⟩ := X.t28
  obtain ⟨_, _, D29⟩ := X.t29
  obtain ⟨_, _, D30⟩ := X.t30
  obtain ⟨_, _, D33⟩ := X.t33
  obtain ⟨_, _, D35⟩ := X.t35
  obtain ⟨_, _, D36⟩ := X.t36
  obtain ⟨_, _, D37⟩ := X.t37
  obtain ⟨_, _, D40⟩ := X.t40
  obtain ⟨_, _, D41⟩ := X.t41
  obtain ⟨_, _, D42⟩ := X.t42
  obtain ⟨_, _, D43⟩ := X.t43
  obtain ⟨_, _, D45⟩ := X.t45
  obtain ⟨_, _, D46⟩ := X.t46
  obtain ⟨_, _, D47⟩ := X.t47
  obtain ⟨_, _, D48⟩ := X.t48
  obtain ⟨_, _, D49⟩ := X.t49
  obtain ⟨_, _, D50⟩ := X.t50
  obtain ⟨_, _, D51⟩ := X.t51
  obtain ⟨_, _, D52⟩ := X.t52
  obtain ⟨_, _, DCI⟩ := X.ci
  obtain ⟨_, _, DSI⟩ := X.si
  obtain ⟨_, _, S1⟩ := X.s1
  obtain ⟨_, _, S2⟩ := X.s2
  obtain ⟨_, _, S3⟩ := X.s3
  obtain ⟨_, _, S4⟩ := X.s4
  obtain ⟨_, _, S5⟩ := X.s5
  obtain ⟨_, _, S6⟩ := X.s6
  obtain ⟨_, _, S7⟩ := X.s7
  obtain ⟨_, _, S8⟩ := X.s8
  obtain ⟨_, _, S9⟩ := X.s9
  have g2 := ok_isIn (P := P) (w := w) (base := base) D2.F B D1.F D1.L.b D1.L.g D1.L.k
  have g3 := ok_isList (P := P) (w := w) (base := base) D3.F B
  have g15 := ok_isAsc (P := P) (w := w) (base := base) D15.F B g3 D3.L.b D3.L.g D3.L.k g2 D2.L.b D2.L.g D2.L.k mV
  have g16 := ok_isSimplex (P := P) (w := w) (base := base) D16.F g15 D15.L.b D15.L.g D15.L.k mL
  have g17 := ok_partsOf (P := P) (w := w) (mg := mg) (base := base) D17.F
  have g18L := ok_generatedL (P := P) (w := w) (base := base) D18.F B g17 D17.L.b D17.L.g D17.L.k mF
  have g18T := ok_generatedT (P := P) (w := w) (base := base) D18.F B g17 D17.L.b D17.L.g D17.L.k mF
  have g19L := ok_inOrderL (P := P) (w := w) (base := base) D19.F B
  have g19D := ok_inOrderD (P := P) (w := w) (base := base) D19.F B
  have g20 := ok_maximal (P := P) (w := w) (base := base) D20.F B
  have gCI := ok_cInit (P := P) (w := w) (base := base) DCI.F B T g3 D3.L g16 D16.L g18T D18.L g20 D20.L mF
  have g22 := ok_needComplex (P := P) (w := w) (base := base) D22.F B T
  have g24 := ok_simplicesOf (P := P) (w := w) (base := base) D24.F T g22 D22.L g19D D19.L
  have g23 := ok_made (P := P) (w := w) (base := base) D23.F T DCI.M g18L D18.L g20 D20.L gCI DCI.b
  have g28 := ok_simplicesAt (P := P) (w := w) (base := base) D28.F B T g19L D19.L
  have g30 := ok_needDegree (P := P) (w := w) (base := base) D30.F g2 D2.L
  have g35 := ok_countAt (P := P) (w := w) (base := base) D35.F B g28 D28.L
  have q1 := ok_swapRows (P := P) (w := w) (base := base) S1.F U
  have q2 := ok_swapCols (P := P) (w := w) (base := base) S2.F U
  have q4 := ok_addCol (P := P) (w := w) (base := base) S4.F U
  have q3 := ok_addRow (P := P) (w := w) (base := base) S3.F B U
  have q0 := ok_sqInit (P := P) (w := w) (base := base) DSI.F B U
  have q5 := ok_least (P := P) (w := w) (base := base) S5.F B U
  have q6 := ok_isClean (P := P) (w := w) (base := base) S6.F B U q3 S3.M q4 S4.M
  have q7 := ok_oddRow (P := P) (w := w) (base := base) S7.F B U
  have q8 := ok_settle (P := P) (w := w) (base := base) (f6 := f) (fd6 := fd) S8.F B U q5 S5.M q1 S1.M q2 S2.M q6 S6.M q7 S7.M
  have q9 := ok_run (P := P) (w := w) (base := base) S9.F B U q8 S8.M
  have g33 := ok_divisors (P := P) (w := w) (base := base) D33.F B U DSI.M q0 DSI.b q9 S9.M
  have g26 := ok_tidy (P := P) (w := w) (base := base) D26.F B
  have g27 := ok_boundaryIn (P := P) (w := w) (base := base) D27.F B g26 D26.L
  have g29 := ok_rowsAt (P := P) (w := w) (base := base) D29.F B T g28 D28.L g27 D27.L
  have g36 := ok_allDiv (P := P) (w := w) (base := base) D36.F B g29 D29.L g33 D33.L
  have g37 := ok_holes (P := P) (w := w) (base := base) D37.F B g22 D22.L g30 D30.L g36 D36.L g35 D35.L
  have g40 := ok_shapeOf (P := P) (w := w) (base := base) D40.F B g23 D23.L
  have g41 := ok_needTable (P := P) (w := w) (base := base) D41.F B g3 D3.L g2 D2.L mS
  have g42 := ok_rowShape (P := P) (w := w) (base := base) D42.F B g41 D41.L g40 D40.L
  have g43 := ok_colShape (P := P) (w := w) (base := base) D43.F B g41 D41.L g23 D23.L
  have g45 := ok_taken (P := P) (w := w) (base := base) D45.F B
  have g46 := ok_pick (P := P) (w := w) (base := base) D46.F B g45 D45.L
  have a0 := ok_alike0 (P := P) (w := w) (base := base) D47.F B
  have a1 := ok_alikeS (P := P) (w := w) (base := base) D47.F B a0 D47.L
  have a2 := ok_alikeS (P := P) (w := w) (base := base) D47.F B a1 D47.L
  have a3 := ok_alikeS (P := P) (w := w) (base := base) D47.F B a2 D47.L
  have g48 := ok_simplex (P := P) (w := w) (base := base) D48.F B g45 D45.L
  have g49 := ok_simplices (P := P) (w := w) (base := base) D49.F B g45 D45.L g48 D48.L
  have g50T := ok_facesT (P := P) (w := w) (base := base) D50.F B
  have g50L := ok_facesL (P := P) (w := w) (base := base) D50.F B
  have g51 := ok_within (P := P) (w := w) (base := base) D51.F B
  have g52 := ok_facets (P := P) (w := w) (base := base) D52.F B g51 D51.L
  exact ok_law (fFL := f) (dFL := fd) X.law B g45 D45.L g46 D46.L g49 D49.L g50T g50L D50.L g52 D52.L g42 D42.L g43 D43.L a2 a3 D47.L g24 D24.L g37 D37.L (fun h w T _ ht => plain_ok h w T ht) tops_ok
end K63W


namespace K63W
open PySem L2 RZ StX PySem.W

theorem bd_t1 {K : PySem.W.Frag} {f : Addr} {fd : FuncData} (F : Fun K "is_integer" "is_integer" sIsInteger f fd) : Binds K fd ["value"] [] := F.binds (ps := ["value"]) fun _ _ _ _ _ _ us hl => match us, hl with | [_], _ => rfl
theorem bd_t2 {K : PySem.W.Frag} {f : Addr} {fd : FuncData} (F : Fun K "is_in" "is_in" sIsIn f fd) : Binds K fd ["value", "least", "most"] [] := F.binds (ps := ["value", "least", "most"]) fun _ _ _ _ _ _ us hl => match us, hl with | [_, _, _], _ => rfl
theorem bd_t3 {K : PySem.W.Frag} {f : Addr} {fd : FuncData} (F : Fun K "is_list" "is_list" sIsList f fd) : Binds K fd ["value", "least", "most"] [] := F.binds (ps := ["value", "least", "most"]) fun _ _ _ _ _ _ us hl => match us, hl with | [_, _, _], _ => rfl
theorem bd_t15 {K : PySem.W.Frag} {f : Addr} {fd : FuncData} (F : Fun K "is_ascending" "is_ascending" sIsAsc f fd) : Binds K fd ["value", "least", "most"] [] := F.binds (ps := ["value", "least", "most"]) fun _ _ _ _ _ _ us hl => match us, hl with | [_, _, _], _ => rfl
theorem bd_t16 {K : PySem.W.Frag} {f : Addr} {fd : FuncData} (F : Fun K "is_simplex" "is_simplex" sIsSimplex f fd) : Binds K fd ["value"] [] := F.binds (ps := ["value"]) fun _ _ _ _ _ _ us hl => match us, hl with | [_], _ => rfl
theorem bd_t17 {K : PySem.W.Frag} {f : Addr} {fd : FuncData} (F : Fun K "parts_of" "parts_of" sPartsOf f fd) : Binds K fd ["simplex"] [] := F.binds (ps := ["simplex"]) fun _ _ _ _ _ _ us hl => match us, hl with | [_], _ => rfl
theorem bd_t18 {K : PySem.W.Frag} {f : Addr} {fd : FuncData} (F : Fun K "generated" "generated" sGenerated f fd) : Binds K fd ["simplices"] [] := F.binds (ps := ["simplices"]) fun _ _ _ _ _ _ us hl => match us, hl with | [_], _ => rfl
theorem bd_t19 {K : PySem.W.Frag} {f : Addr} {fd : FuncData} (F : Fun K "in_order" "in_order" sInOrder f fd) : Binds K fd ["simplices"] [] := F.binds (ps := ["simplices"]) fun _ _ _ _ _ _ us hl => match us, hl with | [_], _ => rfl
theorem bd_t20 {K : PySem.W.Frag} {f : Addr} {fd : FuncData} (F : Fun K "maximal" "maximal" sMaximal f fd) : Binds K fd ["faces"] [] := F.binds (ps := ["faces"]) fun _ _ _ _ _ _ us hl => match us, hl with | [_], _ => rfl
theorem bd_t22 {K : PySem.W.Frag} {f : Addr} {fd : FuncData} (F : Fun K "need_complex" "need_complex" sNeedComplex f fd) : Binds K fd ["value"] [] := F.binds (ps := ["value"]) fun _ _ _ _ _ _ us hl => match us, hl with | [_], _ => rfl
theorem bd_t23 {K : PySem.W.Frag} {f : Addr} {fd : FuncData} (F : Fun K "made" "made" sMade f fd) : Binds K fd ["simplices"] [] := F.binds (ps := ["simplices"]) fun _ _ _ _ _ _ us hl => match us, hl with | [_], _ => rfl
theorem bd_t24 {K : PySem.W.Frag} {f : Addr} {fd : FuncData} (F : Fun K "simplices_of" "simplices_of" sSimplicesOf f fd) : Binds K fd ["shape"] [] := F.binds (ps := ["shape"]) fun _ _ _ _ _ _ us hl => match us, hl with | [_], _ => rfl
theorem bd_t26 {K : PySem.W.Frag} {f : Addr} {fd : FuncData} (F : Fun K "tidy" "tidy" sTidy f fd) : Binds K fd ["numbers"] [] := F.binds (ps := ["numbers"]) fun _ _ _ _ _ _ us hl => match us, hl with | [_], _ => rfl
theorem bd_t27 {K : PySem.W.Frag} {f : Addr} {fd : FuncData} (F : Fun K "boundary_in" "boundary_in" sBoundaryIn f fd) : Binds K fd ["chain"] [] := F.binds (ps := ["chain"]) fun _ _ _ _ _ _ us hl => match us, hl with | [_], _ => rfl
theorem bd_t28 {K : PySem.W.Frag} {f : Addr} {fd : FuncData} (F : Fun K "simplices_at" "simplices_at" sSimplicesAt f fd) : Binds K fd ["shape", "degree"] [] := F.binds (ps := ["shape", "degree"]) fun _ _ _ _ _ _ us hl => match us, hl with | [_, _], _ => rfl
theorem bd_t29 {K : PySem.W.Frag} {f : Addr} {fd : FuncData} (F : Fun K "rows_at" "rows_at" sRowsAt f fd) : Binds K fd ["shape", "degree"] [] := F.binds (ps := ["shape", "degree"]) fun _ _ _ _ _ _ us hl => match us, hl with | [_, _], _ => rfl
theorem bd_t30 {K : PySem.W.Frag} {f : Addr} {fd : FuncData} (F : Fun K "need_degree" "need_degree" sNeedDegree f fd) : Binds K fd ["degree", "least"] [] := F.binds (ps := ["degree", "least"]) fun _ _ _ _ _ _ us hl => match us, hl with | [_, _], _ => rfl
theorem bd_t33 {K : PySem.W.Frag} {f : Addr} {fd : FuncData} (F : Fun K "divisors" "divisors" sDivisors f fd) : Binds K fd ["rows"] [] := F.binds (ps := ["rows"]) fun _ _ _ _ _ _ us hl => match us, hl with | [_], _ => rfl
theorem bd_t35 {K : PySem.W.Frag} {f : Addr} {fd : FuncData} (F : Fun K "count_at" "count_at" sCountAt f fd) : Binds K fd ["shape", "degree"] [] := F.binds (ps := ["shape", "degree"]) fun _ _ _ _ _ _ us hl => match us, hl with | [_, _], _ => rfl
theorem bd_t36 {K : PySem.W.Frag} {f : Addr} {fd : FuncData} (F : Fun K "all_divisors" "all_divisors" sAllDivisors f fd) : Binds K fd ["shape", "degree"] [] := F.binds (ps := ["shape", "degree"]) fun _ _ _ _ _ _ us hl => match us, hl with | [_, _], _ => rfl
theorem bd_t37 {K : PySem.W.Frag} {f : Addr} {fd : FuncData} (F : Fun K "holes" "holes" sHoles f fd) : Binds K fd ["shape", "degree"] [] := F.binds (ps := ["shape", "degree"]) fun _ _ _ _ _ _ us hl => match us, hl with | [_, _], _ => rfl
theorem bd_t40 {K : PySem.W.Frag} {f : Addr} {fd : FuncData} (F : Fun K "shape_of_sets" "shape_of_sets" sShapeOf f fd) : Binds K fd ["sets"] [] := F.binds (ps := ["sets"]) fun _ _ _ _ _ _ us hl => match us, hl with | [_], _ => rfl
theorem bd_t41 {K : PySem.W.Frag} {f : Addr} {fd : FuncData} (F : Fun K "need_table" "need_table" sNeedTable f fd) : Binds K fd ["table"] [] := F.binds (ps := ["table"]) fun _ _ _ _ _ _ us hl => match us, hl with | [_], _ => rfl
theorem bd_t42 {K : PySem.W.Frag} {f : Addr} {fd : FuncData} (F : Fun K "row_shape" "row_shape" sRowShape f fd) : Binds K fd ["table"] [] := F.binds (ps := ["table"]) fun _ _ _ _ _ _ us hl => match us, hl with | [_], _ => rfl
theorem bd_t43 {K : PySem.W.Frag} {f : Addr} {fd : FuncData} (F : Fun K "column_shape" "column_shape" sColShape f fd) : Binds K fd ["table"] [] := F.binds (ps := ["table"]) fun _ _ _ _ _ _ us hl => match us, hl with | [_], _ => rfl
theorem bd_t45 {K : PySem.W.Frag} {f : Addr} {fd : FuncData} (F : Fun K "_law_taken" "_law_taken" sTaken f fd) : Binds K fd ["_law_row", "_law_many"] [] := F.binds (ps := ["_law_row", "_law_many"]) fun _ _ _ _ _ _ us hl => match us, hl with | [_, _], _ => rfl
theorem bd_t46 {K : PySem.W.Frag} {f : Addr} {fd : FuncData} (F : Fun K "_law_pick" "_law_pick" sPick f fd) : Binds K fd ["_law_row", "_law_things"] [] := F.binds (ps := ["_law_row", "_law_things"]) fun _ _ _ _ _ _ us hl => match us, hl with | [_, _], _ => rfl
theorem bd_t47 {K : PySem.W.Frag} {f : Addr} {fd : FuncData} (F : Fun K "_law_alike" "_law_alike" sAlike f fd) : Binds K fd ["_law_found", "_law_due"] [] := F.binds (ps := ["_law_found", "_law_due"]) fun _ _ _ _ _ _ us hl => match us, hl with | [_, _], _ => rfl
theorem bd_t48 {K : PySem.W.Frag} {f : Addr} {fd : FuncData} (F : Fun K "_law_simplex" "_law_simplex" sSimplex f fd) : Binds K fd ["_law_row", "_law_most", "_law_size"] [] := F.binds (ps := ["_law_row", "_law_most", "_law_size"]) fun _ _ _ _ _ _ us hl => match us, hl with | [_, _, _], _ => rfl
theorem bd_t49 {K : PySem.W.Frag} {f : Addr} {fd : FuncData} (F : Fun K "_law_simplices" "_law_simplices" sSimplices f fd) : Binds K fd ["_law_row", "_law_most", "_law_size"] [] := F.binds (ps := ["_law_row", "_law_most", "_law_size"]) fun _ _ _ _ _ _ us hl => match us, hl with | [_, _, _], _ => rfl
theorem bd_t50 {K : PySem.W.Frag} {f : Addr} {fd : FuncData} (F : Fun K "_law_faces" "_law_faces" sFaces f fd) : Binds K fd ["_law_simplices_here"] [] := F.binds (ps := ["_law_simplices_here"]) fun _ _ _ _ _ _ us hl => match us, hl with | [_], _ => rfl
theorem bd_t51 {K : PySem.W.Frag} {f : Addr} {fd : FuncData} (F : Fun K "_law_within" "_law_within" sWithin f fd) : Binds K fd ["_law_one", "_law_other"] [] := F.binds (ps := ["_law_one", "_law_other"]) fun _ _ _ _ _ _ us hl => match us, hl with | [_, _], _ => rfl
theorem bd_t52 {K : PySem.W.Frag} {f : Addr} {fd : FuncData} (F : Fun K "_law_facets" "_law_facets" sFacets f fd) : Binds K fd ["_law_faces_here"] [] := F.binds (ps := ["_law_faces_here"]) fun _ _ _ _ _ _ us hl => match us, hl with | [_], _ => rfl
theorem bd_s1 {K : PySem.W.Frag} {f : Addr} {fd : FuncData} (F : Fun K "swap_rows" "Square.swap_rows" (sSq 1) f fd) : Binds K fd ["self", "one", "other"] [] := F.binds (ps := ["self", "one", "other"]) fun _ _ _ _ _ _ us hl => match us, hl with | [_, _, _], _ => rfl
theorem bd_s2 {K : PySem.W.Frag} {f : Addr} {fd : FuncData} (F : Fun K "swap_columns" "Square.swap_columns" (sSq 2) f fd) : Binds K fd ["self", "one", "other"] [] := F.binds (ps := ["self", "one", "other"]) fun _ _ _ _ _ _ us hl => match us, hl with | [_, _, _], _ => rfl
theorem bd_s3 {K : PySem.W.Frag} {f : Addr} {fd : FuncData} (F : Fun K "add_row" "Square.add_row" (sSq 3) f fd) : Binds K fd ["self", "to", "many", "source"] [] := F.binds (ps := ["self", "to", "many", "source"]) fun _ _ _ _ _ _ us hl => match us, hl with | [_, _, _, _], _ => rfl
theorem bd_s4 {K : PySem.W.Frag} {f : Addr} {fd : FuncData} (F : Fun K "add_column" "Square.add_column" (sSq 4) f fd) : Binds K fd ["self", "to", "many", "source"] [] := F.binds (ps := ["self", "to", "many", "source"]) fun _ _ _ _ _ _ us hl => match us, hl with | [_, _, _, _], _ => rfl
theorem bd_s5 {K : PySem.W.Frag} {f : Addr} {fd : FuncData} (F : Fun K "least" "Square.least" (sSq 5) f fd) : Binds K fd ["self", "at"] [] := F.binds (ps := ["self", "at"]) fun _ _ _ _ _ _ us hl => match us, hl with | [_, _], _ => rfl
theorem bd_s6 {K : PySem.W.Frag} {f : Addr} {fd : FuncData} (F : Fun K "is_clean" "Square.is_clean" (sSq 6) f fd) : Binds K fd ["self", "at"] [] := F.binds (ps := ["self", "at"]) fun _ _ _ _ _ _ us hl => match us, hl with | [_, _], _ => rfl
theorem bd_s7 {K : PySem.W.Frag} {f : Addr} {fd : FuncData} (F : Fun K "odd_row" "Square.odd_row" (sSq 7) f fd) : Binds K fd ["self", "at"] [] := F.binds (ps := ["self", "at"]) fun _ _ _ _ _ _ us hl => match us, hl with | [_, _], _ => rfl
theorem bd_s8 {K : PySem.W.Frag} {f : Addr} {fd : FuncData} (F : Fun K "settle" "Square.settle" (sSq 8) f fd) : Binds K fd ["self", "at"] [] := F.binds (ps := ["self", "at"]) fun _ _ _ _ _ _ us hl => match us, hl with | [_, _], _ => rfl
theorem bd_s9 {K : PySem.W.Frag} {f : Addr} {fd : FuncData} (F : Fun K "run" "Square.run" (sSq 9) f fd) : Binds K fd ["self"] [] := F.binds (ps := ["self"]) fun _ _ _ _ _ _ us hl => match us, hl with | [_], _ => rfl
theorem bd_ci {K : PySem.W.Frag} {f : Addr} {fd : FuncData} (F : Fun K "__init__" "Complex.__init__" sCInit f fd) : Binds K fd ["self", "simplices"] [] := F.binds (ps := ["self", "simplices"]) fun _ _ _ _ _ _ us hl => match us, hl with | [_, _], _ => rfl
theorem bd_si {K : PySem.W.Frag} {f : Addr} {fd : FuncData} (F : Fun K "__init__" "Square.__init__" (sSq 0) f fd) : Binds K fd ["self", "rows"] [] := F.binds (ps := ["self", "rows"]) fun _ _ _ _ _ _ us hl => match us, hl with | [_, _], _ => rfl

section
variable {K : PySem.W.Frag} {h : Heap} {mg : Str → Option Value} {f C : Addr} {oc : Value} {od an : Option Addr} {osl : Array (Option Value)} {kV doc pm cdv ct : Value} {x qual : Str} {st : Stmt} {ps : List Str}
theorem df_mk (X : K.In h) (G : h.Ns mainGlobals mg) (b : ∀ {f : Addr} {fd : FuncData}, Fun K x x st f fd → Binds K fd ps []) (a : PySem.W.nsIn K mainGlobals x = some (some (.ref f)))
    (l : K.lookup f = some ⟨oc, od, .func (PySem.W.fnOf x x (defArgs st) (defBody st) (defScope st) .none kV doc pm an cdv ct), osl⟩) (c : PySem.W.codeIn K cdv x = true) (k : PySem.W.keepIn K (.ref f) = true) : ∃ f fd, Df K mg x st ps f fd :=
  ⟨f, _, fun_mk l c k, b (fun_mk l c k), PySem.W.mg_of X G a, k⟩
theorem dm_mk (b : ∀ {f : Addr} {fd : FuncData}, Fun K x qual st f fd → Binds K fd ps []) (a : PySem.W.findIn K (.ref C) x = some (some (.ref f))) (i : PySem.W.isFn K (.ref f) = true)
    (l : K.lookup f = some ⟨oc, od, .func (PySem.W.fnOf x qual (defArgs st) (defBody st) (defScope st) .none kV doc pm an cdv ct), osl⟩) (c : PySem.W.codeIn K cdv qual = true) (k : PySem.W.keepIn K (.ref f) = true) : ∃ f fd, Dm K C x qual st ps f fd :=
  ⟨f, _, fun_mk l c k, ⟨a, i, k⟩, b (fun_mk l c k)⟩
theorem di_mk (b : ∀ {f : Addr} {fd : FuncData}, Fun K "__init__" qual st f fd → Binds K fd ps []) (mk : PySem.W.makesIn K C = true) (kc : PySem.W.keepIn K (.ref C) = true) (a : PySem.W.findIn K (.ref C) "__init__" = some (some (.ref f))) (i : PySem.W.isFn K (.ref f) = true)
    (l : K.lookup f = some ⟨oc, od, .func (PySem.W.fnOf "__init__" qual (defArgs st) (defBody st) (defScope st) .none kV doc pm an cdv ct), osl⟩) (c : PySem.W.codeIn K cdv qual = true) (k : PySem.W.keepIn K (.ref f) = true) : ∃ f fd, Di K C qual st ps f fd :=
  ⟨f, _, fun_mk l c k, ⟨mk, a, i, kc⟩, b (fun_mk l c k)⟩
/-- the law's own end -/
theorem Top.law_end {l : PySem.W.OpenLaw} {w : World} {C S fa : Addr} (hfa : mg "law" = some (.ref fa)) (X : K.In h) (G : h.Ns mainGlobals mg) (a : PySem.W.nsIn K mainGlobals "law" = some (some (.ref f)))
    (lk : K.lookup f = some ⟨oc, od, .func (PySem.W.fnOf "law" "law" (defArgs sLaw) (defBody sLaw) (defScope sLaw) .none kV doc pm an cdv ct), osl⟩) (c : PySem.W.codeIn K cdv "law" = true) (k : PySem.W.keepIn K (.ref f) = true)
    (Y : Fun K "law" "law" sLaw f (PySem.W.fnOf "law" "law" (defArgs sLaw) (defBody sLaw) (defScope sLaw) .none kV doc pm an cdv ct) → Top K mg C S f (PySem.W.fnOf "law" "law" (defArgs sLaw) (defBody sLaw) (defScope sLaw) .none kV doc pm an cdv ct)) :
    ∃ fd : FuncData, (∀ (s : Shared) (v : Value), BindsTo s fd ⟨[v], []⟩ [("_law_script", v)]) ∧ ∀ base : Heap, K.In base → base.Ns mainGlobals mg → FnOk l.prog w K mg base CX0 10 fa fd ["_law_script"] (spLaw K) := by
  have e := hfa.symm.trans (PySem.W.mg_of X G a)
  cases e
  exact ⟨_, fun s v => .of_eq rfl, fun base _ _ => (Y (fun_mk lk c k)).ok⟩
end
end K63W


namespace K63W
open PySem L2 RZ StX PySem.W
theorem kit_self (K : PySem.W.Frag) (C : Addr) : PySem.W.kitOne K (.ref C) (.ref C) = some true := by
  unfold PySem.W.kitOne
  exact if_pos (beq_self_eq_true (Value.ref C))
section
variable {K : PySem.W.Frag} {h : Heap} {mg : Str → Option Value} {f C S : Addr} {oc : Value} {od an : Option Addr} {osl : Array (Option Value)} {kV doc pm cdv ct : Value}
theorem int_mk {x : Str} {i : Int} {t : Tok} (X : K.In h) (G : h.Ns mainGlobals mg) (e : PySem.W.nsIn K mainGlobals x = some (some (.int i t))) : ∃ t, mg x = some (.int i t) := ⟨t, PySem.W.mg_of X G e⟩
/-- what the head tells, gathered -/
theorem all_mk {l : PySem.W.OpenLaw} {w : World} {fa : Addr} (X : K.In h) (G : h.Ns mainGlobals mg) (hfa : mg "law" = some (.ref fa)) (a : PySem.W.nsIn K mainGlobals "law" = some (some (.ref f)))
    (lk : K.lookup f = some ⟨oc, od, .func (PySem.W.fnOf "law" "law" (defArgs sLaw) (defBody sLaw) (defScope sLaw) .none kV doc pm an cdv ct), osl⟩) (c : PySem.W.codeIn K cdv "law" = true) (k : PySem.W.keepIn K (.ref f) = true)
    (aC : PySem.W.nsIn K mainGlobals "Complex" = some (some (.ref C))) (aS : PySem.W.nsIn K mainGlobals "Square" = some (some (.ref S)))
    (Y : mg "Complex" = some (.ref C) → mg "Square" = some (.ref S) → Fun K "law" "law" sLaw f (PySem.W.fnOf "law" "law" (defArgs sLaw) (defBody sLaw) (defScope sLaw) .none kV doc pm an cdv ct) →
      Top K mg C S f (PySem.W.fnOf "law" "law" (defArgs sLaw) (defBody sLaw) (defScope sLaw) .none kV doc pm an cdv ct)) :
    ∃ fd : FuncData, (∀ (s : Shared) (v : Value), BindsTo s fd ⟨[v], []⟩ [("_law_script", v)]) ∧ ∀ base : Heap, K.In base → base.Ns mainGlobals mg → FnOk l.prog w K mg base CX0 10 fa fd ["_law_script"] (spLaw K) :=
  Top.law_end hfa X G a lk c k (Y (PySem.W.mg_of X G aC) (PySem.W.mg_of X G aS))
end
end K63W
open PySem PySem.W PyProof.Rows
set_option maxHeartbeats 0 in
theorem PySem.Challenge.cw_shapeholes_k63_whole_rows_and_columns_of_holds : PySem.Challenge.rw_shapeholes_k63_whole_rows_and_columns_of.Holds := by
  w_on; o_law; k_head; (case hw => w_witness2)
  k_fill
  refine L2.walk_of (l := PySem.Challenge.rw_shapeholes_k63_whole_rows_and_columns_of) (n := 63) (k := 10) (x := "_law_script") (CX := fun _ => L2.CX0) (sp := fun w => K63W.spLaw _) rfl (by decide) rfl ⟨rfl, by decide, by decide⟩ (fun w h Y => PySem.W.kIn_of Y) ?F (fun _ _ a ns hl _ hS => ⟨a, ns, rfl, hS, fun _ => rfl⟩) (fun _ _ _ _ _ h => h)
  case F =>
    intro w mg fa h KX G hmg
    refine' K63W.all_mk KX G hmg ?a ?lk ?c ?k ?aC ?aS ?Y
    (case a => k_is); (case lk => k_is); (case c => k_is); (case k => k_is); (case aC => k_is); (case aS => k_is)
    case Y =>
      intro mC mS FL
      refine' ⟨⟨PySem.W.mg_none_of KX G ?z_isinstance, PySem.W.mg_none_of KX G ?z_int, PySem.W.mg_none_of KX G ?z_bool, PySem.W.mg_none_of KX G ?z_tuple, PySem.W.mg_none_of KX G ?z_list, PySem.W.mg_none_of KX G ?z_str, PySem.W.mg_none_of KX G ?z_len, PySem.W.mg_none_of KX G ?z_all, PySem.W.mg_none_of KX G ?z_any, PySem.W.mg_none_of KX G ?z_zip, PySem.W.mg_none_of KX G ?z_range, PySem.W.mg_none_of KX G ?z_enumerate, PySem.W.mg_none_of KX G ?z_sorted, PySem.W.mg_none_of KX G ?z_min, PySem.W.mg_none_of KX G ?z_abs⟩, ⟨K63W.int_mk KX G ?n1, K63W.int_mk KX G ?n2, K63W.int_mk KX G ?n3, K63W.int_mk KX G ?n4⟩, ⟨⟨⟨?pg, ?hd, ?po, ?sa⟩, ?ha, ?hn, ?ht, ?hm, K63W.kit_self _ _⟩, ?nF, ?nT, mC⟩, ⟨⟨?pgs, ?hds, ?pos, ?sas⟩, ?nR, ?nH, ?nW, ?nL, ?nTs, mS⟩, ?ci, ?si, ?s1, ?s2, ?s3, ?s4, ?s5, ?s6, ?s7, ?s8, ?s9, ?t1, ?t2, ?t3, ?t15, ?t16, ?t17, ?t18, ?t19, ?t20, ?t22, ?t23, ?t24, ?t26, ?t27, ?t28, ?t29, ?t30, ?t33, ?t35, ?t36, ?t37, ?t40, ?t41, ?t42, ?t43, ?t45, ?t46, ?t47, ?t48, ?t49, ?t50, ?t51, ?t52, FL⟩
      (case z_isinstance => k_is)
      (case z_int => k_is)
      (case z_bool => k_is)
      (case z_tuple => k_is)
      (case z_list => k_is)
      (case z_str => k_is)
      (case z_len => k_is)
      (case z_all => k_is)
      (case z_any => k_is)
      (case z_zip => k_is)
      (case z_range => k_is)
      (case z_enumerate => k_is)
      (case z_sorted => k_is)
      (case z_min => k_is)
      (case z_abs => k_is)
      (case n1 => first | k_is | (trace_state; exact rfl))
      (case n2 => first | k_is | (trace_state; exact rfl))
      (case n3 => first | k_is | (trace_state; exact rfl))
      (case n4 => first | k_is | (trace_state; exact rfl))
      (case pg => k_is)
      (case hd => k_is)
      (case po => k_is)
      (case sa => k_is)
      (case ha => k_is)
      (case hn => k_is)
      (case ht => k_is)
      (case hm => k_is)
      (case pgs => k_is)
      (case hds => k_is)
      (case pos => k_is)
      (case sas => k_is)
      (case nF => unfold L2.NoAttr; k_is)
      (case nT => unfold L2.NoAttr; k_is)
      (case nR => unfold L2.NoAttr; k_is)
      (case nH => unfold L2.NoAttr; k_is)
      (case nW => unfold L2.NoAttr; k_is)
      (case nL => unfold L2.NoAttr; k_is)
      (case nTs => unfold L2.NoAttr; k_is)
      case ci => refine' K63W.di_mk K63W.bd_ci ?mk ?kc ?a ?i ?l ?c ?k; (case mk => k_is); (case kc => k_is); (case a => k_is); (case i => k_is); (case l => k_is); (case c => k_is); (case k => k_is)
      case si => refine' K63W.di_mk K63W.bd_si ?mk ?kc ?a ?i ?l ?c ?k; (case mk => k_is); (case kc => k_is); (case a => k_is); (case i => k_is); (case l => k_is); (case c => k_is); (case k => k_is)
      case s1 => refine' K63W.dm_mk K63W.bd_s1 ?a ?i ?l ?c ?k; (case a => k_is); (case i => k_is); (case l => k_is); (case c => k_is); (case k => k_is)
      case s2 => refine' K63W.dm_mk K63W.bd_s2 ?a ?i ?l ?c ?k; (case a => k_is); (case i => k_is); (case l => k_is); (case c => k_is); (case k => k_is)
      case s3 => refine' K63W.dm_mk K63W.bd_s3 ?a ?i ?l ?c ?k; (case a => k_is); (case i => k_is); (case l => k_is); (case c => k_is); (case k => k_is)
      case s4 => refine' K63W.dm_mk K63W.bd_s4 ?a ?i ?l ?c ?k; (case a => k_is); (case i => k_is); (case l => k_is); (case c => k_is); (case k => k_is)
      case s5 => refine' K63W.dm_mk K63W.bd_s5 ?a ?i ?l ?c ?k; (case a => k_is); (case i => k_is); (case l => k_is); (case c => k_is); (case k => k_is)
      case s6 => refine' K63W.dm_mk K63W.bd_s6 ?a ?i ?l ?c ?k; (case a => k_is); (case i => k_is); (case l => k_is); (case c => k_is); (case k => k_is)
      case s7 => refine' K63W.dm_mk K63W.bd_s7 ?a ?i ?l ?c ?k; (case a => k_is); (case i => k_is); (case l => k_is); (case c => k_is); (case k => k_is)
      case s8 => refine' K63W.dm_mk K63W.bd_s8 ?a ?i ?l ?c ?k; (case a => k_is); (case i => k_is); (case l => k_is); (case c => k_is); (case k => k_is)
      case s9 => refine' K63W.dm_mk K63W.bd_s9 ?a ?i ?l ?c ?k; (case a => k_is); (case i => k_is); (case l => k_is); (case c => k_is); (case k => k_is)
      case t1 => refine' K63W.df_mk KX G K63W.bd_t1 ?a ?l ?c ?k; (case a => k_is); (case l => k_is); (case c => k_is); (case k => k_is)
      case t2 => refine' K63W.df_mk KX G K63W.bd_t2 ?a ?l ?c ?k; (case a => k_is); (case l => k_is); (case c => k_is); (case k => k_is)
      case t3 => refine' K63W.df_mk KX G K63W.bd_t3 ?a ?l ?c ?k; (case a => k_is); (case l => k_is); (case c => k_is); (case k => k_is)
      case t15 => refine' K63W.df_mk KX G K63W.bd_t15 ?a ?l ?c ?k; (case a => k_is); (case l => k_is); (case c => k_is); (case k => k_is)
      case t16 => refine' K63W.df_mk KX G K63W.bd_t16 ?a ?l ?c ?k; (case a => k_is); (case l => k_is); (case c => k_is); (case k => k_is)
      case t17 => refine' K63W.df_mk KX G K63W.bd_t17 ?a ?l ?c ?k; (case a => k_is); (case l => k_is); (case c => k_is); (case k => k_is)
      case t18 => refine' K63W.df_mk KX G K63W.bd_t18 ?a ?l ?c ?k; (case a => k_is); (case l => k_is); (case c => k_is); (case k => k_is)
      case t19 => refine' K63W.df_mk KX G K63W.bd_t19 ?a ?l ?c ?k; (case a => k_is); (case l => k_is); (case c => k_is); (case k => k_is)
      case t20 => refine' K63W.df_mk KX G K63W.bd_t20 ?a ?l ?c ?k; (case a => k_is); (case l => k_is); (case c => k_is); (case k => k_is)
      case t22 => refine' K63W.df_mk KX G K63W.bd_t22 ?a ?l ?c ?k; (case a => k_is); (case l => k_is); (case c => k_is); (case k => k_is)
      case t23 => refine' K63W.df_mk KX G K63W.bd_t23 ?a ?l ?c ?k; (case a => k_is); (case l => k_is); (case c => k_is); (case k => k_is)
      case t24 => refine' K63W.df_mk KX G K63W.bd_t24 ?a ?l ?c ?k; (case a => k_is); (case l => k_is); (case c => k_is); (case k => k_is)
      case t26 => refine' K63W.df_mk KX G K63W.bd_t26 ?a ?l ?c ?k; (case a => k_is); (case l => k_is); (case c => k_is); (case k => k_is)
      case t27 => refine' K63W.df_mk KX G K63W.bd_t27 ?a ?l ?c ?k; (case a => k_is); (case l => k_is); (case c => k_is); (case k => k_is)
      case t28 => refine' K63W.df_mk KX G K63W.bd_t28 ?a ?l ?c ?k; (case a => k_is); (case l => k_is); (case c => k_is); (case k => k_is)
      case t29 => refine' K63W.df_mk KX G K63W.bd_t29 ?a ?l ?c ?k; (case a => k_is); (case l => k_is); (case c => k_is); (case k => k_is)
      case t30 => refine' K63W.df_mk KX G K63W.bd_t30 ?a ?l ?c ?k; (case a => k_is); (case l => k_is); (case c => k_is); (case k => k_is)
      case t33 => refine' K63W.df_mk KX G K63W.bd_t33 ?a ?l ?c ?k; (case a => k_is); (case l => k_is); (case c => k_is); (case k => k_is)
      case t35 => refine' K63W.df_mk KX G K63W.bd_t35 ?a ?l ?c ?k; (case a => k_is); (case l => k_is); (case c => k_is); (case k => k_is)
      case t36 => refine' K63W.df_mk KX G K63W.bd_t36 ?a ?l ?c ?k; (case a => k_is); (case l => k_is); (case c => k_is); (case k => k_is)
      case t37 => refine' K63W.df_mk KX G K63W.bd_t37 ?a ?l ?c ?k; (case a => k_is); (case l => k_is); (case c => k_is); (case k => k_is)
      case t40 => refine' K63W.df_mk KX G K63W.bd_t40 ?a ?l ?c ?k; (case a => k_is); (case l => k_is); (case c => k_is); (case k => k_is)
      case t41 => refine' K63W.df_mk KX G K63W.bd_t41 ?a ?l ?c ?k; (case a => k_is); (case l => k_is); (case c => k_is); (case k => k_is)
      case t42 => refine' K63W.df_mk KX G K63W.bd_t42 ?a ?l ?c ?k; (case a => k_is); (case l => k_is); (case c => k_is); (case k => k_is)
      case t43 => refine' K63W.df_mk KX G K63W.bd_t43 ?a ?l ?c ?k; (case a => k_is); (case l => k_is); (case c => k_is); (case k => k_is)
      case t45 => refine' K63W.df_mk KX G K63W.bd_t45 ?a ?l ?c ?k; (case a => k_is); (case l => k_is); (case c => k_is); (case k => k_is)
      case t46 => refine' K63W.df_mk KX G K63W.bd_t46 ?a ?l ?c ?k; (case a => k_is); (case l => k_is); (case c => k_is); (case k => k_is)
      case t47 => refine' K63W.df_mk KX G K63W.bd_t47 ?a ?l ?c ?k; (case a => k_is); (case l => k_is); (case c => k_is); (case k => k_is)
      case t48 => refine' K63W.df_mk KX G K63W.bd_t48 ?a ?l ?c ?k; (case a => k_is); (case l => k_is); (case c => k_is); (case k => k_is)
      case t49 => refine' K63W.df_mk KX G K63W.bd_t49 ?a ?l ?c ?k; (case a => k_is); (case l => k_is); (case c => k_is); (case k => k_is)
      case t50 => refine' K63W.df_mk KX G K63W.bd_t50 ?a ?l ?c ?k; (case a => k_is); (case l => k_is); (case c => k_is); (case k => k_is)
      case t51 => refine' K63W.df_mk KX G K63W.bd_t51 ?a ?l ?c ?k; (case a => k_is); (case l => k_is); (case c => k_is); (case k => k_is)
      case t52 => refine' K63W.df_mk KX G K63W.bd_t52 ?a ?l ?c ?k; (case a => k_is); (case l => k_is); (case c => k_is); (case k => k_is)


