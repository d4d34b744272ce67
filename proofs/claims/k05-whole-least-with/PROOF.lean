import PyProof.Rows.All
import Wide.All
import OpenK.AllK
import Wide.FinOn
import HandS.ForMost
import HandS.IsInst
import HandS.Style
import HandS.SortRule
import HandS.WideBits
import HandS.EndBits
import KE.IntBitsLaws
import KE.DataEq
import KE.GoesMore
import KE.GoesEnum
import HandS.Zip
import KE.KEqDeep
import PySem.Challenge.RW_neighboursums_k05_whole_least_with
set_option Elab.async false
/-! The mathematics of rows: plain Lean. -/
namespace NB
/-- f, .., l make n -/
def IsRow (n f l : Int) : Prop := f ≤ l ∧ (f + l) * (l - f + 1) = 2 * n
/-- by the first, then by the second -/
def Lt (p q : Int × Int) : Prop := p.1 < q.1 ∨ (p.1 = q.1 ∧ p.2 < q.2)
instance (p q : Int × Int) : Decidable (Lt p q) := by unfold Lt; infer_instance
theorem Lt.irrefl {p : Int × Int} (h : Lt p p) : False := by unfold Lt at h; omega
theorem Lt.asymm {p q : Int × Int} (h : Lt p q) (h' : Lt q p) : False := by unfold Lt at h h'; omega
theorem uniq : ∀ {l m : List (Int × Int)}, l.Pairwise Lt → m.Pairwise Lt → (∀ x, x ∈ l ↔ x ∈ m) → l = m
  | [], [], _, _, _ => rfl
  | [], y :: m, _, _, h => absurd ((h y).mpr List.mem_cons_self) (by simp)
  | x :: l, [], _, _, h => absurd ((h x).mp List.mem_cons_self) (by simp)
  | x :: l, y :: m, hl, hm, h => by
    rw [List.pairwise_cons] at hl hm
    have e : x = y := by
      rcases List.mem_cons.mp ((h x).mp List.mem_cons_self) with e | h1
      · exact e
      rcases List.mem_cons.mp ((h y).mpr List.mem_cons_self) with e | h2
      · exact e.symm
      exact (Lt.asymm (hm.1 x h1) (hl.1 y h2)).elim
    subst e
    have := uniq hl.2 hm.2 (fun z => by
      constructor
      · intro hz
        rcases List.mem_cons.mp ((h z).mp (List.mem_cons_of_mem _ hz)) with e | h1
        · subst e; exact (Lt.irrefl (hl.1 _ hz)).elim
        · exact h1
      · intro hz
        rcases List.mem_cons.mp ((h z).mpr (List.mem_cons_of_mem _ hz)) with e | h1
        · subst e; exact (Lt.irrefl (hm.1 _ hz)).elim
        · exact h1)
    rw [this]

/-- all rows of n, in order; the high ones -/
structure Rows (n : Int) (ps : List (Int × Int)) : Prop where
  srt : ps.Pairwise Lt
  mem : ∀ f l, (f, l) ∈ ps ↔ IsRow n f l
structure HRows (n : Int) (ps : List (Int × Int)) : Prop where
  srt : ps.Pairwise Lt
  mem : ∀ f l, (f, l) ∈ ps ↔ IsRow n f l ∧ 0 < f
theorem Rows.uniq {n : Int} {ps qs : List (Int × Int)} (a : Rows n ps) (b : Rows n qs) : ps = qs :=
  NB.uniq a.srt b.srt fun ⟨f, l⟩ => (a.mem f l).trans (b.mem f l).symm
theorem HRows.uniq {n : Int} {ps qs : List (Int × Int)} (a : HRows n ps) (b : HRows n qs) : ps = qs :=
  NB.uniq a.srt b.srt fun ⟨f, l⟩ => (a.mem f l).trans (b.mem f l).symm
theorem Rows.high {n : Int} {ps : List (Int × Int)} (a : Rows n ps) : HRows n (ps.filter fun p => decide (0 < p.1)) := by
  refine ⟨a.srt.filter _, fun f l => ?_⟩
  rw [List.mem_filter, a.mem]
  simp

theorem two_tri (L : Int) : 2 * (L * (L - 1) / 2) = L * (L - 1) := by
  have : L = 2 * (L / 2) ∨ L = 2 * (L / 2) + 1 := by omega
  generalize L / 2 = k at this
  rcases this with e | e
  · subst e
    rw [Int.mul_assoc, Int.mul_ediv_cancel_left _ (by decide)]
  · subst e
    have : (2 * k + 1) * (2 * k + 1 - 1) = 2 * (k * (2 * k + 1)) := by
      rw [Int.add_sub_cancel, Int.mul_comm, Int.mul_assoc]
    rw [this, Int.mul_ediv_cancel_left _ (by decide)]
theorem two_tri' (L : Int) : 2 * (L * (L + 1) / 2) = L * (L + 1) := by
  have h := two_tri (L + 1)
  rw [Int.add_sub_cancel] at h
  rw [Int.mul_comm L]
  exact h
/-- a row's equation by its length -/
theorem isRow_len {n f L : Int} (hL : 0 < L) : IsRow n f (f + L - 1) ↔ L * f = n - L * (L - 1) / 2 := by
  have t := two_tri L
  have e : (f + (f + L - 1)) * (f + L - 1 - f + 1) = 2 * (L * f) + L * (L - 1) := by
    have e1 : f + L - 1 - f + 1 = L := by omega
    have e2 : f + (f + L - 1) = 2 * f + (L - 1) := by omega
    rw [e1, e2, Int.add_mul, Int.mul_assoc, Int.mul_comm f L, Int.mul_comm (L - 1) L]
  unfold IsRow
  rw [e]
  constructor
  · rintro ⟨_, h⟩; omega
  · intro h; exact ⟨by omega, by omega⟩

/-- row_of: the row of a length -/
def rowOf (n L : Int) : Option (Int × Int) :=
  if (n - L * (L - 1) / 2) % L = 0 then some ((n - L * (L - 1) / 2) / L, (n - L * (L - 1) / 2) / L + L - 1) else none
theorem rowOf_iff {n L f l : Int} (hL : 0 < L) : rowOf n L = some (f, l) ↔ l = f + L - 1 ∧ IsRow n f l := by
  unfold rowOf
  generalize hx : n - L * (L - 1) / 2 = x
  constructor
  · intro h
    split at h
    · rename_i h0
      injection h with h
      injection h with h1 h2
      subst h1 h2
      refine ⟨rfl, (isRow_len hL).mpr ?_⟩
      rw [hx, Int.mul_ediv_cancel' (Int.dvd_of_emod_eq_zero h0)]
    · cases h
  · rintro ⟨e, h⟩
    subst e
    have h := (isRow_len hL).mp h
    rw [hx] at h
    rw [if_pos (by rw [← h]; exact Int.mul_emod_right _ _), ← h, Int.mul_ediv_cancel_left _ (by omega)]
theorem rowOf_none {n L : Int} (hL : 0 < L) : rowOf n L = none ↔ ∀ f, ¬ IsRow n f (f + L - 1) := by
  constructor
  · intro h f hr
    have := (rowOf_iff hL).mpr ⟨rfl, hr⟩
    rw [h] at this; cases this
  · intro h
    cases e : rowOf n L with
    | none => rfl
    | some p =>
      obtain ⟨f, l⟩ := p
      obtain ⟨e1, e2⟩ := (rowOf_iff hL).mp e
      rw [e1] at e2
      exact (h f e2).elim
/-- as the law reckons it -/
def dueOf (n L : Int) : Option (Int × Int) :=
  if (2 * n - L * (L - 1)) % (2 * L) = 0 then some ((2 * n - L * (L - 1)) / L / 2, (2 * n - L * (L - 1)) / L / 2 + L - 1) else none
theorem dueOf_eq {n L : Int} (hL : 0 < L) : dueOf n L = rowOf n L := by
  unfold dueOf rowOf
  have t := two_tri L
  generalize hx : L * (L - 1) / 2 = x at *
  have e : 2 * n - L * (L - 1) = 2 * (n - x) := by omega
  rw [e]
  have e2 : 2 * (n - x) % (2 * L) = 2 * ((n - x) % L) := Int.mul_emod_mul_of_pos _ _ (by decide)
  rw [e2]
  by_cases h : (n - x) % L = 0
  · rw [if_pos h, if_pos (by omega)]
    have e3 : 2 * (n - x) / L / 2 = (n - x) / L := by
      obtain ⟨k, hk⟩ := Int.dvd_of_emod_eq_zero h
      rw [hk, show 2 * (L * k) = L * (2 * k) by rw [Int.mul_left_comm], Int.mul_ediv_cancel_left _ (by omega), Int.mul_ediv_cancel_left _ (by decide), Int.mul_ediv_cancel_left _ (by omega)]
    rw [e3]
  · rw [if_neg h, if_neg (by omega)]

/-! ### what the law reckons: by the lengths from 1 on -/
def acc (n : Int) : Nat → List (Int × Int)
  | 0 => []
  | k + 1 => match rowOf n (k + 1 : Nat) with
    | some p => acc n k ++ [p]
    | none => acc n k
theorem acc_some {n : Int} {k : Nat} {p : Int × Int} (h : rowOf n (k + 1 : Nat) = some p) : acc n (k + 1) = acc n k ++ [p] := by
  rw [acc, h]
theorem acc_none {n : Int} {k : Nat} (h : rowOf n (k + 1 : Nat) = none) : acc n (k + 1) = acc n k := by
  rw [acc, h]
theorem acc_mem {n : Int} : ∀ {K : Nat} {f l : Int}, (f, l) ∈ acc n K ↔ ∃ L : Nat, 1 ≤ L ∧ L ≤ K ∧ rowOf n L = some (f, l)
  | 0, f, l => by
    constructor
    · intro h; cases h
    · rintro ⟨L, h1, h2, _⟩; omega
  | k + 1, f, l => by
    have ih := acc_mem (n := n) (K := k) (f := f) (l := l)
    have step : (∃ L : Nat, 1 ≤ L ∧ L ≤ k + 1 ∧ rowOf n L = some (f, l)) ↔ (∃ L : Nat, 1 ≤ L ∧ L ≤ k ∧ rowOf n L = some (f, l)) ∨ rowOf n (k + 1 : Nat) = some (f, l) := by
      constructor
      · rintro ⟨L, h1, h2, h3⟩
        by_cases e : L = k + 1
        · subst e; exact .inr h3
        · exact .inl ⟨L, h1, by omega, h3⟩
      · rintro (⟨L, h1, h2, h3⟩ | h)
        · exact ⟨L, h1, by omega, h3⟩
        · exact ⟨k + 1, by omega, by omega, h⟩
    rw [step, ← ih]
    cases e : rowOf n (k + 1 : Nat) with
    | none => rw [acc_none e]; simp
    | some p => rw [acc_some e, List.mem_append, List.mem_singleton]; simp [eq_comm]
theorem acc_len {n : Int} : ∀ {K : Nat}, (acc n K).length ≤ K
  | 0 => Nat.le_refl _
  | k + 1 => by
    have ih := acc_len (n := n) (K := k)
    unfold acc
    split
    · rw [List.length_append]; simp only [List.length_cons, List.length_nil]; omega
    · omega
theorem tri_mono {a b : Int} (h0 : 0 ≤ a) (h : a ≤ b) : a * (a + 1) / 2 ≤ b * (b + 1) / 2 := by
  have h1 : a * (a + 1) ≤ b * (b + 1) := Int.mul_le_mul h (by omega) (by omega) (by omega)
  have := two_tri' a
  have := two_tri' b
  omega
theorem tri_step (L : Int) : L * (L - 1) / 2 + L = L * (L + 1) / 2 := by
  have h1 := two_tri L
  have h2 := two_tri' L
  have e1 : L * (L - 1) = L * L - L := by rw [Int.mul_sub, Int.mul_one]
  have e2 : L * (L + 1) = L * L + L := by rw [Int.mul_add, Int.mul_one]
  omega
/-- a row's length says whether it is high -/
theorem row_high {n f L : Int} (hL : 0 < L) (h : IsRow n f (f + L - 1)) : 0 < f ↔ L * (L + 1) / 2 ≤ n := by
  have e := (isRow_len hL).mp h
  have t := tri_step L
  constructor
  · intro hf
    have : L * 1 ≤ L * f := Int.mul_le_mul_of_nonneg_left (by omega) (by omega)
    omega
  · intro hn
    refine Decidable.byContradiction fun hc => ?_
    have : L * f ≤ L * 0 := Int.mul_le_mul_of_nonneg_left (by omega) (by omega)
    omega
/-- longer rows begin earlier -/
theorem row_anti {n f g L M : Int} (hL : 0 < L) (h : L < M) (hg : 0 < g) (a : IsRow n f (f + L - 1)) (b : IsRow n g (g + M - 1)) : g < f := by
  have e1 := (isRow_len hL).mp a
  have e2 := (isRow_len (show 0 < M by omega)).mp b
  refine Decidable.byContradiction fun hc => ?_
  have h1 : L * f ≤ L * g := Int.mul_le_mul_of_nonneg_left (by omega) (by omega)
  have h2 : L * g < M * g := Int.mul_lt_mul_of_pos_right h hg
  have h3 : L * (L - 1) ≤ M * (M - 1) := Int.mul_le_mul (by omega) (by omega) (by omega) (by omega)
  have := two_tri L
  have := two_tri M
  omega
theorem acc_high {n : Int} : ∀ {K : Nat}, (K : Int) * ((K : Int) + 1) / 2 ≤ n → ∀ p ∈ acc n K, 0 < p.1 := by
  intro K hK ⟨f, l⟩ hp
  obtain ⟨L, h1, h2, h3⟩ := acc_mem.mp hp
  obtain ⟨e, hr⟩ := (rowOf_iff (by omega)).mp h3
  subst e
  exact (row_high (by omega) hr).mpr (Int.le_trans (tri_mono (by omega) (by omega)) hK)
theorem acc_srt {n : Int} : ∀ {K : Nat}, (K : Int) * ((K : Int) + 1) / 2 ≤ n → (acc n K).reverse.Pairwise Lt
  | 0, _ => List.Pairwise.nil
  | k + 1, hK => by
    have hk : (k : Int) * ((k : Int) + 1) / 2 ≤ n := Int.le_trans (tri_mono (by omega) (by omega)) hK
    have ih := acc_srt (n := n) (K := k) hk
    unfold acc
    split
    · rename_i p hp
      obtain ⟨g, m⟩ := p
      rw [List.reverse_append]
      show List.Pairwise Lt ((g, m) :: (acc n k).reverse)
      rw [List.pairwise_cons]
      refine ⟨fun ⟨f, l⟩ hm => ?_, ih⟩
      obtain ⟨L, h1, h2, h3⟩ := acc_mem.mp (List.mem_reverse.mp hm)
      obtain ⟨e1, r1⟩ := (rowOf_iff (by omega)).mp h3
      obtain ⟨e2, r2⟩ := (rowOf_iff (by omega)).mp hp
      subst e1
      subst e2
      have hg : 0 < g := (row_high (by omega) r2).mpr hK
      exact .inl (row_anti (L := L) (M := ((k + 1 : Nat) : Int)) (by omega) (by omega) hg r1 r2)
    · exact ih
/-- behind the loop: the high rows -/
theorem acc_rows {n : Int} {K : Nat} (h1 : (K : Int) * ((K : Int) + 1) / 2 ≤ n) (h2 : n < ((K : Int) + 1) * ((K : Int) + 1 + 1) / 2) : HRows n (acc n K).reverse := by
  refine ⟨acc_srt h1, fun f l => ?_⟩
  rw [List.mem_reverse]
  constructor
  · intro h
    have hf := acc_high h1 _ h
    obtain ⟨L, a1, a2, a3⟩ := acc_mem.mp h
    exact ⟨((rowOf_iff (by omega)).mp a3).2, hf⟩
  · rintro ⟨hr, hf⟩
    have hle := hr.1
    obtain ⟨L, eL⟩ := Int.eq_ofNat_of_zero_le (show 0 ≤ l - f + 1 by omega)
    have el : l = f + (L : Int) - 1 := by omega
    have hL : 0 < (L : Int) := by omega
    have hr' : IsRow n f (f + (L : Int) - 1) := el ▸ hr
    have hn := (row_high hL hr').mp hf
    refine acc_mem.mpr ⟨L, by omega, ?_, (rowOf_iff hL).mpr ⟨el, hr⟩⟩
    refine Decidable.byContradiction fun hc => ?_
    have := tri_mono (a := (K : Int) + 1) (b := (L : Int)) (by omega) (by omega)
    omega
/-- the rows below nought -/
theorem low_iff {n f l : Int} (hn : 0 < n) : IsRow n f l ∧ ¬ 0 < f ↔ IsRow n (1 - f) l ∧ 0 < 1 - f := by
  have e : ∀ f l : Int, (1 - f + l) * (l - (1 - f) + 1) = (f + l) * (l - f + 1) := fun f l => by
    rw [show l - (1 - f) + 1 = f + l by omega, show 1 - f + l = l - f + 1 by omega, Int.mul_comm]
  unfold IsRow
  rw [e]
  constructor
  · rintro ⟨⟨h1, h2⟩, h3⟩
    refine ⟨⟨?_, h2⟩, by omega⟩
    refine Decidable.byContradiction fun hc => ?_
    have : (f + l) * (l - f + 1) ≤ 0 := Int.mul_nonpos_of_nonpos_of_nonneg (by omega) (by omega)
    omega
  · rintro ⟨⟨h1, h2⟩, h3⟩
    exact ⟨⟨by omega, h2⟩, by omega⟩
/-- all rows: the high ones, and each's fellow -/
theorem Rows.of_high {n : Int} (hn : 0 < n) {ps qs : List (Int × Int)} (h : HRows n ps) (hs : qs.Pairwise Lt) (hm : ∀ x, x ∈ qs ↔ x ∈ ps ++ ps.map fun p : Int × Int => ((1 - p.1, p.2) : Int × Int)) : Rows n qs := by
  refine ⟨hs, fun f l => ?_⟩
  rw [hm, List.mem_append, h.mem, List.mem_map]
  have key : (∃ a, a ∈ ps ∧ (1 - a.1, a.2) = (f, l)) ↔ IsRow n f l ∧ ¬ 0 < f := by
    rw [low_iff hn]
    constructor
    · rintro ⟨⟨g, m⟩, h1, h2⟩
      injection h2 with h2 h3
      have e1 : 1 - f = g := by simp only at h2; omega
      simp only at h3
      subst h3
      rw [e1]
      exact (h.mem _ _).mp h1
    · rintro h1
      refine ⟨(1 - f, l), (h.mem _ _).mpr h1, ?_⟩
      rw [show 1 - (1 - f) = f by omega]
  rw [key]
  constructor
  · rintro (⟨a, _⟩ | ⟨a, _⟩) <;> exact a
  · intro a
    by_cases hf : 0 < f
    · exact .inl ⟨a, hf⟩
    · exact .inr ⟨a, hf⟩
/-- the two kinds are apart: their lists one behind the other are without doubles -/
theorem whole_nodup {n : Int} {ps : List (Int × Int)} (h : HRows n ps) : (ps ++ ps.map fun p : Int × Int => ((1 - p.1, p.2) : Int × Int)).Nodup := by
  have nd : ps.Nodup := h.srt.imp fun {a b} hab e => by subst e; exact Lt.irrefl hab
  rw [List.nodup_append]
  refine ⟨nd, ?_, ?_⟩
  · refine List.pairwise_map.mpr (nd.imp fun {a b} hab e => hab ?_)
    obtain ⟨a1, a2⟩ := a
    obtain ⟨b1, b2⟩ := b
    injection e with e1 e2
    simp only at e1 e2
    rw [e2, show a1 = b1 by omega]
  · rintro ⟨f, l⟩ ha ⟨g, m⟩ hb e
    obtain ⟨⟨c, d⟩, h1, h2⟩ := List.mem_map.mp hb
    have x1 := ((h.mem _ _).mp ha).2
    have x2 := ((h.mem _ _).mp h1).2
    injection h2 with h2 h3
    injection e with e1 e2
    simp only at h2
    omega
end NB

set_option Elab.async false
/-! parts_of. -/
namespace NB
def low (n : Int) : Nat → List Int
  | 0 => []
  | k + 1 => if n % ((k + 1 : Nat) : Int) = 0 then low n k ++ [((k + 1 : Nat) : Int)] else low n k
def high (n : Int) : Nat → List Int
  | 0 => []
  | k + 1 => if n % ((k + 1 : Nat) : Int) = 0 ∧ ((k + 1 : Nat) : Int) * ((k + 1 : Nat) : Int) < n then high n k ++ [n / ((k + 1 : Nat) : Int)] else high n k
theorem low_len {n : Int} : ∀ {k : Nat}, (low n k).length ≤ k
  | 0 => Nat.le_refl _
  | k + 1 => by
    have ih := low_len (n := n) (k := k)
    unfold low
    split
    · rw [List.length_append]; simp only [List.length_cons, List.length_nil]; omega
    · omega
theorem high_len {n : Int} : ∀ {k : Nat}, (high n k).length ≤ k
  | 0 => Nat.le_refl _
  | k + 1 => by
    have ih := high_len (n := n) (k := k)
    unfold high
    split
    · rw [List.length_append]; simp only [List.length_cons, List.length_nil]; omega
    · omega
theorem low_mem {n d : Int} : ∀ {k : Nat}, d ∈ low n k ↔ 0 < d ∧ d ≤ k ∧ n % d = 0
  | 0 => by
    constructor
    · intro h; cases h
    · rintro ⟨h1, h2, _⟩; omega
  | k + 1 => by
    have ih := low_mem (n := n) (d := d) (k := k)
    unfold low
    split
    · rename_i h
      rw [List.mem_append, List.mem_singleton, ih]
      constructor
      · rintro (⟨a, b, c⟩ | e)
        · exact ⟨a, by omega, c⟩
        · subst e; exact ⟨by omega, by omega, h⟩
      · rintro ⟨a, b, c⟩
        by_cases e : d = ((k + 1 : Nat) : Int)
        · exact .inr e
        · exact .inl ⟨a, by omega, c⟩
    · rename_i h
      rw [ih]
      constructor
      · rintro ⟨a, b, c⟩; exact ⟨a, by omega, c⟩
      · rintro ⟨a, b, c⟩
        refine ⟨a, ?_, c⟩
        by_cases e : d = ((k + 1 : Nat) : Int)
        · subst e; exact absurd c h
        · omega
theorem high_mem {n e : Int} : ∀ {k : Nat}, e ∈ high n k ↔ ∃ d : Int, 0 < d ∧ d ≤ k ∧ n % d = 0 ∧ d * d < n ∧ e = n / d
  | 0 => by
    constructor
    · intro h; cases h
    · rintro ⟨d, h1, h2, _⟩; omega
  | k + 1 => by
    have ih := high_mem (n := n) (e := e) (k := k)
    unfold high
    split
    · rename_i h
      rw [List.mem_append, List.mem_singleton, ih]
      constructor
      · rintro (⟨d, a, b, c⟩ | e)
        · exact ⟨d, a, by omega, c⟩
        · exact ⟨_, by omega, Int.le_refl _, h.1, h.2, e⟩
      · rintro ⟨d, a, b, c1, c2, c3⟩
        by_cases x : d = ((k + 1 : Nat) : Int)
        · subst x; exact .inr c3
        · exact .inl ⟨d, a, by omega, c1, c2, c3⟩
    · rename_i h
      rw [ih]
      constructor
      · rintro ⟨d, a, b, c⟩; exact ⟨d, a, by omega, c⟩
      · rintro ⟨d, a, b, c1, c2, c3⟩
        refine ⟨d, a, ?_, c1, c2, c3⟩
        by_cases x : d = ((k + 1 : Nat) : Int)
        · subst x; exact absurd ⟨c1, c2⟩ h
        · omega
theorem low_nodup {n : Int} : ∀ {k : Nat}, (low n k).Nodup
  | 0 => List.nodup_nil
  | k + 1 => by
    have ih := low_nodup (n := n) (k := k)
    unfold low
    split
    · rw [List.nodup_append]
      refine ⟨ih, by simp, fun a ha b hb e => ?_⟩
      have := (low_mem.mp ha).2.1
      rw [List.mem_singleton] at hb
      omega
    · exact ih
/-- the great part beside d is beyond k -/
theorem great {n d : Int} {k : Nat} (h1 : 0 < d) (h2 : d ≤ k) (h3 : n % d = 0) (h4 : d * d < n) (hk : (k : Int) * k ≤ n) : (k : Int) < n / d := by
  refine Decidable.byContradiction fun hc => ?_
  have e : d * (n / d) = n := Int.mul_ediv_cancel' (Int.dvd_of_emod_eq_zero h3)
  have hlt : d < n / d := by
    refine Decidable.byContradiction fun hx => ?_
    have : d * (n / d) ≤ d * d := Int.mul_le_mul_of_nonneg_left (by omega) (by omega)
    omega
  -- n = d * (n/d) < k * k when d < n/d ≤ k
  have h5 : d * (n / d) < (n / d) * (n / d) := Int.mul_lt_mul_of_pos_right hlt (by omega)
  have h6 : (n / d) * (n / d) ≤ (k : Int) * k := Int.mul_le_mul (by omega) (by omega) (by omega) (by omega)
  omega
theorem div_inj {n d e : Int} (hn : 0 < n) (h1 : 0 < d) (h2 : 0 < e) (h3 : n % d = 0) (h4 : n % e = 0) (h : n / d = n / e) : d = e := by
  have a := Int.mul_ediv_cancel' (Int.dvd_of_emod_eq_zero h3)
  have b := Int.mul_ediv_cancel' (Int.dvd_of_emod_eq_zero h4)
  rw [h] at a
  have hp : n / e ≠ 0 := by
    intro z
    rw [z] at b
    omega
  exact Int.eq_of_mul_eq_mul_right hp (a.trans b.symm)
theorem high_nodup {n : Int} (hn : 0 < n) : ∀ {k : Nat}, (high n k).Nodup
  | 0 => List.nodup_nil
  | k + 1 => by
    have ih := high_nodup hn (k := k)
    unfold high
    split
    · rename_i h
      rw [List.nodup_append]
      refine ⟨ih, by simp, fun a ha b hb e => ?_⟩
      obtain ⟨d, a1, a2, a3, a4, a5⟩ := high_mem.mp ha
      rw [List.mem_singleton] at hb
      have := div_inj hn a1 (by omega) a3 h.1 (a5.symm.trans (e.trans hb))
      omega
    · exact ih
def parts (n : Int) (k : Nat) : List Int := low n k ++ (high n k).reverse
theorem parts_mem {n d : Int} {k : Nat} (hn : 0 < n) (h2 : n < ((k : Int) + 1) * ((k : Int) + 1)) : d ∈ parts n k ↔ 0 < d ∧ n % d = 0 := by
  unfold parts
  rw [List.mem_append, List.mem_reverse, low_mem, high_mem]
  constructor
  · rintro (⟨a, _, c⟩ | ⟨e, a, b, c, x, rfl⟩)
    · exact ⟨a, c⟩
    · have q := Int.mul_ediv_cancel' (Int.dvd_of_emod_eq_zero c)
      refine ⟨Int.pos_of_mul_pos_right (a := e) (by omega) (by omega), ?_⟩
      have q' : n = (n / e) * e := by rw [Int.mul_comm]; exact q.symm
      generalize n / e = m at q'
      rw [q']
      exact Int.mul_emod_right _ _
  · rintro ⟨a, c⟩
    by_cases hd : d ≤ k
    · exact .inl ⟨a, hd, c⟩
    · refine .inr ?_
      have q := Int.mul_ediv_cancel' (Int.dvd_of_emod_eq_zero c)
      have hp : 0 < n / d := Int.pos_of_mul_pos_right (a := d) (by omega) (by omega)
      -- e = n / d is below d
      have hlt : n / d < (k : Int) + 1 := by
        refine Decidable.byContradiction fun hx => ?_
        have : ((k : Int) + 1) * ((k : Int) + 1) ≤ d * (n / d) := Int.mul_le_mul (by omega) (by omega) (by omega) (by omega)
        omega
      have e2 : n / (n / d) = d := by
        refine Int.ediv_eq_of_eq_mul_right (by omega) ?_
        rw [Int.mul_comm]; exact q.symm
      refine ⟨n / d, hp, by omega, ?_, ?_, e2.symm⟩
      · have q' : n = (n / d) * d := by rw [Int.mul_comm]; exact q.symm
        generalize n / d = m at q'
        rw [q']
        exact Int.mul_emod_right _ _
      · have : (n / d) * (n / d) < d * (n / d) := Int.mul_lt_mul_of_pos_right (by omega) hp
        omega
theorem parts_nodup {n : Int} {k : Nat} (hn : 0 < n) (hk : (k : Int) * k ≤ n) : (parts n k).Nodup := by
  unfold parts
  rw [List.nodup_append]
  refine ⟨low_nodup, (List.reverse_perm _).nodup_iff.mpr (high_nodup hn), fun a ha b hb e => ?_⟩
  have h1 := (low_mem.mp ha).2.1
  obtain ⟨d, a1, a2, a3, a4, a5⟩ := high_mem.mp (List.mem_reverse.mp hb)
  have h := great a1 a2 a3 a4 hk
  omega
theorem parts_len {n : Int} {k : Nat} : (parts n k).length ≤ 2 * k := by
  unfold parts
  rw [List.length_append, List.length_reverse]
  have := low_len (n := n) (k := k)
  have := high_len (n := n) (k := k)
  omega
/-- what a list of all parts of a number is -/
structure Parts (n : Int) (ds : List Int) : Prop where
  nd : ds.Nodup
  mem : ∀ d, d ∈ ds ↔ 0 < d ∧ n % d = 0
theorem parts_ok {n : Int} {k : Nat} (hn : 0 < n) (h1 : (k : Int) * k ≤ n) (h2 : n < ((k : Int) + 1) * ((k : Int) + 1)) : Parts n (parts n k) := ⟨parts_nodup hn h1, fun _ => parts_mem hn h2⟩
/-- the rows by the parts of twice the number -/
theorem found_mem {n : Int} {ds : List Int} (h : Parts (2 * n) ds) {f l : Int} : (f, l) ∈ ds.filterMap (rowOf n) ↔ IsRow n f l := by
  rw [List.mem_filterMap]
  constructor
  · rintro ⟨L, hL, e⟩
    exact ((rowOf_iff ((h.mem L).mp hL).1).mp e).2
  · intro hr
    have hle := hr.1
    refine ⟨l - f + 1, (h.mem _).mpr ⟨by omega, ?_⟩, (rowOf_iff (by omega)).mpr ⟨by omega, hr⟩⟩
    rw [← hr.2]
    exact Int.mul_emod_left _ _
theorem nodup_filterMap {α β : Type} {f : α → Option β} {l : List α} (h : l.Nodup) (inj : ∀ a ∈ l, ∀ b ∈ l, ∀ x, f a = some x → f b = some x → a = b) : (l.filterMap f).Nodup := by
  induction l with
  | nil => exact List.nodup_nil
  | cons a r ih =>
    rw [List.nodup_cons] at h
    have ih' := ih h.2 fun x hx y hy => inj x (List.mem_cons_of_mem _ hx) y (List.mem_cons_of_mem _ hy)
    rw [List.filterMap_cons]
    split
    · exact ih'
    · rename_i x hx
      rw [List.nodup_cons]
      refine ⟨fun hm => ?_, ih'⟩
      obtain ⟨b, hb, e⟩ := List.mem_filterMap.mp hm
      have := inj a List.mem_cons_self b (List.mem_cons_of_mem _ hb) x hx e
      subst this
      exact h.1 hb
theorem found_nodup {n : Int} {ds : List Int} (h : Parts (2 * n) ds) : (ds.filterMap (rowOf n)).Nodup := by
  refine nodup_filterMap h.nd fun a ha b hb ⟨f, l⟩ e1 e2 => ?_
  have a1 := ((rowOf_iff ((h.mem a).mp ha).1).mp e1).1
  have b1 := ((rowOf_iff ((h.mem b).mp hb).1).mp e2).1
  omega
/-- sorted: each pair not behind the next; the same pairs, none twice -/
theorem strict_of {qs : List (Int × Int)} (h : qs.Pairwise fun p q => ¬ Lt q p) (nd : qs.Nodup) : qs.Pairwise Lt := by
  refine (h.and nd).imp fun {p q} ⟨a, b⟩ => ?_
  obtain ⟨p1, p2⟩ := p
  obtain ⟨q1, q2⟩ := q
  unfold Lt at *
  simp only at *
  by_cases e1 : p1 = q1
  · by_cases e2 : p2 = q2
    · subst e1 e2; exact (b rfl).elim
    · omega
  · omega
theorem rows_ok {n : Int} {ds : List Int} (h : Parts (2 * n) ds) {qs : List (Int × Int)} (hs : qs.Pairwise fun p q => ¬ Lt q p) (hp : qs.Perm (ds.filterMap (rowOf n))) : Rows n qs :=
  ⟨strict_of hs (hp.nodup_iff.mpr (found_nodup h)), fun _ _ => hp.mem_iff.trans (found_mem h)⟩
theorem whole_ok {n : Int} (hn : 0 < n) {ps qs : List (Int × Int)} (h : HRows n ps) (hs : qs.Pairwise fun p q => ¬ Lt q p) (hp : qs.Perm (ps ++ ps.map fun p : Int × Int => ((1 - p.1, p.2) : Int × Int))) : Rows n qs :=
  Rows.of_high hn h (strict_of hs (hp.nodup_iff.mpr (whole_nodup h))) fun _ => hp.mem_iff
end NB

set_option Elab.async false
/-! Powers of 2 and odd parts. -/
namespace NB
theorem two_pos (k : Nat) : (1 : Int) ≤ 2 ^ k := by
  have := Int.pow_pos (n := 2) (m := k) (by decide)
  omega
theorem pow_succ2 (k : Nat) : (2 : Int) ^ (k + 1) = 2 * 2 ^ k := by rw [Int.pow_succ, Int.mul_comm]
theorem pow_mono2 {a b : Nat} (h : a ≤ b) : (2 : Int) ^ a ≤ 2 ^ b := by
  induction b with
  | zero => have : a = 0 := by omega
            subst this; exact Int.le_refl _
  | succ b ih =>
    by_cases e : a = b + 1
    · subst e; exact Int.le_refl _
    · have := ih (by omega)
      have := two_pos b
      rw [pow_succ2]
      omega
theorem pow_inj2 {a b : Nat} (h : (2 : Int) ^ a = 2 ^ b) : a = b := by
  have key : ∀ {a b : Nat}, a < b → (2 : Int) ^ a < 2 ^ b := fun {a b} hab => by
    have h1 := pow_mono2 (show a + 1 ≤ b from hab)
    have := two_pos a
    rw [pow_succ2] at h1
    omega
  rcases Nat.lt_trichotomy a b with h1 | h1 | h1
  · have := key h1; omega
  · exact h1
  · have := key h1; omega
theorem pow_small {k : Nat} {o n : Int} (ho : 1 ≤ o) (h : n = 2 ^ k * o) (hn : n ≤ 1000000) : k < 20 := by
  refine Decidable.byContradiction fun hc => ?_
  have h1 := pow_mono2 (show 20 ≤ k by omega)
  have h2 : (2 : Int) ^ 20 = 1048576 := by decide
  have h3 : (2 : Int) ^ k * 1 ≤ 2 ^ k * o := Int.mul_le_mul_of_nonneg_left ho (by omega)
  omega
/-- every number has its odd part -/
theorem split_odd : ∀ {N : Nat} {n : Int}, n ≤ N → 1 ≤ n → ∃ (e : Nat) (o : Int), n = 2 ^ e * o ∧ o % 2 = 1 ∧ 1 ≤ o
  | 0, n, h1, h2 => by omega
  | N + 1, n, h1, h2 => by
    by_cases h : n % 2 = 1
    · exact ⟨0, n, by simp, h, h2⟩
    · obtain ⟨e, o, h3, h4, h5⟩ := split_odd (N := N) (n := n / 2) (by omega) (by omega)
      refine ⟨e + 1, o, ?_, h4, h5⟩
      rw [pow_succ2, Int.mul_assoc, ← h3]
      omega
theorem odd_uniq : ∀ {e e' : Nat} {o o' : Int}, o % 2 = 1 → o' % 2 = 1 → (2 : Int) ^ e * o = 2 ^ e' * o' → e = e' ∧ o = o'
  | 0, 0, o, o', _, _, h => by simp at h; exact ⟨rfl, h⟩
  | 0, e' + 1, o, o', h1, _, h => by
    rw [pow_succ2, Int.mul_assoc] at h
    simp at h
    omega
  | e + 1, 0, o, o', _, h2, h => by
    rw [pow_succ2, Int.mul_assoc] at h
    simp at h
    omega
  | e + 1, e' + 1, o, o', h1, h2, h => by
    rw [pow_succ2, pow_succ2, Int.mul_assoc, Int.mul_assoc] at h
    obtain ⟨a, b⟩ := odd_uniq (e := e) (e' := e') h1 h2 (by omega)
    exact ⟨by omega, b⟩
theorem odd_mul {a b : Int} (h1 : a % 2 = 1) (h2 : b % 2 = 1) : a * b % 2 = 1 := by
  rw [Int.mul_emod, h1, h2]
  decide
/-- an odd number that goes into a power of 2 is 1 -/
theorem odd_dvd : ∀ {k : Nat} {a b : Int}, 0 < a → a % 2 = 1 → a * b = 2 ^ k → a = 1
  | 0, a, b, h0, _, h => by
    have : a ∣ 1 := ⟨b, by simpa using h.symm⟩
    have := Int.le_of_dvd (by decide) this
    omega
  | k + 1, a, b, h0, h1, h => by
    have hb : b % 2 = 0 := by
      refine Decidable.byContradiction fun hc => ?_
      have := odd_mul h1 (show b % 2 = 1 by omega)
      rw [h, pow_succ2] at this
      omega
    obtain ⟨c, rfl⟩ : ∃ c, b = 2 * c := ⟨b / 2, by omega⟩
    rw [pow_succ2, Int.mul_left_comm] at h
    exact odd_dvd (k := k) h0 h1 (show a * c = 2 ^ k by omega)
/-- a power of 2 has no high row of two or more -/
theorem pow_no_row {e : Nat} {f l : Int} (h : IsRow (2 ^ e) f l) (hf : 0 < f) (hl : f < l) : False := by
  obtain ⟨_, h⟩ := h
  rw [← pow_succ2] at h
  by_cases hp : (f + l) % 2 = 1
  · have := odd_dvd (k := e + 1) (by omega) hp h
    omega
  · have h' : (l - f + 1) * (f + l) = 2 ^ (e + 1) := by rw [Int.mul_comm]; exact h
    have := odd_dvd (k := e + 1) (by omega) (show (l - f + 1) % 2 = 1 by omega) h'
    omega
/-- the length that judged takes -/
def jlen (e : Nat) (o : Int) : Int := if 2 * 2 ^ e < o then 2 * 2 ^ e else o
theorem jrow {e : Nat} {o n : Int} (ho : o % 2 = 1) (h3 : 3 ≤ o) (hn : n = 2 ^ e * o) : ∃ f l, rowOf n (jlen e o) = some (f, l) ∧ IsRow n f l ∧ 0 < f ∧ f < l := by
  have hm := two_pos e
  unfold jlen
  generalize hM : (2 : Int) ^ e = m at *
  by_cases hc : 2 * m < o
  · rw [if_pos hc]
    -- f = (o + 1) / 2 - m
    have hr : IsRow n ((o + 1) / 2 - m) ((o + 1) / 2 - m + 2 * m - 1) := by
      refine (isRow_len (by omega)).mpr ?_
      have t := two_tri (2 * m)
      have e1 : 2 * m * (2 * m - 1) = 2 * (m * (2 * m - 1)) := by rw [Int.mul_assoc]
      have e2 : 2 * m * ((o + 1) / 2 - m) = m * (o + 1 - 2 * m) := by
        rw [Int.mul_right_comm, Int.mul_comm _ m, Int.mul_comm 2]
        congr 1
        omega
      have e3 : m * (o + 1 - 2 * m) = m * o - m * (2 * m - 1) := by
        rw [← Int.mul_sub]
        congr 1
        omega
      omega
    exact ⟨_, _, (rowOf_iff (by omega)).mpr ⟨rfl, hr⟩, hr, by omega, by omega⟩
  · rw [if_neg hc]
    have hr : IsRow n (m - (o - 1) / 2) (m - (o - 1) / 2 + o - 1) := by
      refine (isRow_len (by omega)).mpr ?_
      have t := two_tri o
      have e2 : o * (m - (o - 1) / 2) = m * o - o * ((o - 1) / 2) := by rw [Int.mul_sub, Int.mul_comm o m]
      have e3 : o * (o - 1) = 2 * (o * ((o - 1) / 2)) := by
        rw [Int.mul_left_comm]
        congr 1
        omega
      omega
    exact ⟨_, _, (rowOf_iff (by omega)).mpr ⟨rfl, hr⟩, hr, by omega, by omega⟩
theorem HRows.pow {e : Nat} {ps : List (Int × Int)} (h : HRows (2 ^ e) ps) : ps = [(2 ^ e, 2 ^ e)] := by
  refine h.uniq ⟨List.pairwise_singleton .., fun f l => ?_⟩
  rw [List.mem_singleton]
  have hp := two_pos e
  constructor
  · intro x
    injection x with x1 x2
    subst x1 x2
    exact ⟨⟨Int.le_refl _, by rw [Int.sub_self, Int.zero_add, Int.mul_one]; omega⟩, by omega⟩
  · rintro ⟨hr, hf⟩
    by_cases hl : f < l
    · exact (pow_no_row hr hf hl).elim
    · obtain ⟨h1, h2⟩ := hr
      have : f = l := by omega
      subst this
      rw [Int.sub_self, Int.zero_add, Int.mul_one] at h2
      rw [show f = 2 ^ e by omega]
theorem HRows.two {n f l : Int} {ps : List (Int × Int)} (hn : 1 ≤ n) (h : HRows n ps) (hr : IsRow n f l) (hf : 0 < f) (hl : f < l) : 1 < ps.length := by
  have m1 := (h.mem f l).mpr ⟨hr, hf⟩
  have m2 : (n, n) ∈ ps := (h.mem n n).mpr ⟨⟨Int.le_refl _, by rw [Int.sub_self, Int.zero_add, Int.mul_one]; omega⟩, by omega⟩
  match ps, m1, m2 with
  | [], m1, _ => cases m1
  | [p], m1, m2 =>
    rw [List.mem_singleton] at m1 m2
    subst m1
    injection m2 with a b
    omega
  | _ :: _ :: _, _, _ => simp
end NB

set_option Elab.async false
set_option maxRecDepth 100000
/-! The least number with so many rows: the program's search, the law's, and the numbers up to 729. -/
namespace NB
/-- one turn of least_from's loop: often is i + 1 -/
def lstep (rest : Int → Int → Option Int) (p many : Int) (best : Option Int) (i : Nat) : Option Int :=
  if many % (1 + (i : Int) + 1) = 0 then
    match rest (many / (1 + (i : Int) + 1)) (1 + (i : Int)) with
    | none => best
    | some r => some (match best with
      | none => r * p ^ (i + 1)
      | some b => if r * p ^ (i + 1) < b then r * p ^ (i + 1) else b)
  else best
def leastF : List Int → Int → Int → Option Int
  | [], many, _ => if many = 1 then some 1 else none
  | p :: ps, many, most => if many = 1 then some 1 else (List.range most.toNat).foldl (lstep (leastF ps) p many) none
def prs : List Int := [3, 5, 7, 11, 13, 17]
def tgt : Nat → Nat
  | 1 => 1 | 2 => 3 | 3 => 9 | 4 => 15 | 5 => 81 | 6 => 45 | 7 => 729 | 8 => 105 | 9 => 225 | 10 => 405 | _ => 0
/-- the ways to part a count; fuel: its halvings -/
def waysF : Nat → Int → Int → List (List Int)
  | 0, many, _ => if many = 1 then [[]] else []
  | k + 1, many, most => (if many = 1 then [[]] else []) ++ (List.range ((if most < many then most else many) + 1 - 2).toNat).flatMap fun (i : Nat) =>
      if many % (2 + (i : Int)) = 0 then (waysF k (many / (2 + (i : Int))) (2 + (i : Int))).map fun r => (2 + (i : Int)) :: r else []
def prodF (way : List Int) : Int := (prs.zip way).foldl (fun a pf => a * pf.1 ^ (pf.2 - 1).toNat) 1
def prodsF (many : Int) : List Int := (waysF 6 many many).map prodF
/-- the program's is the least of the law's -/
theorem least_ok : ∀ m : Nat, m < 61 → 1 ≤ m → ∃ r, leastF prs m m = some r ∧ r ∈ prodsF m ∧ ∀ x ∈ prodsF m, r ≤ x := by
  have key : ∀ m : Nat, m < 61 → 1 ≤ m → (match leastF prs m m with
    | some r => decide (r ∈ prodsF m) && (prodsF m).all fun x => decide (r ≤ x)
    | none => false) = true := by decide +kernel
  intro m h1 h2
  have h := key m h1 h2
  cases e : leastF prs m m with
  | none => rw [e] at h; cases h
  | some r =>
    rw [e] at h
    simp only [Bool.and_eq_true, List.all_eq_true, decide_eq_true_eq] at h
    exact ⟨r, rfl, h.1, h.2⟩
theorem least_tgt : ∀ c : Nat, c < 11 → 1 ≤ c → leastF prs c c = some (tgt c : Int) := by decide +kernel
theorem tgt_ok : ∀ c : Nat, c < 11 → 1 ≤ c → 1 ≤ tgt c ∧ tgt c ≤ 729 := by decide
def kOf : Nat → Nat → Nat
  | 0, _ => 0
  | f + 1, n => let k := kOf f n; if (k + 1) * (k + 2) / 2 ≤ n then k + 1 else k
theorem kOf_ok : ∀ n : Nat, n < 730 → 1 ≤ n → ((kOf 40 n : Nat) : Int) * ((kOf 40 n : Nat) + 1) / 2 ≤ n ∧ (n : Int) < ((kOf 40 n : Nat) + 1) * ((kOf 40 n : Nat) + 1 + 1) / 2 := by decide +kernel
def cnt (n : Nat) : Nat := (acc n (kOf 40 n)).length
theorem cnt_few : ∀ n : Nat, n < 730 → 1 ≤ n → 10 < cnt n ∨ (1 ≤ cnt n ∧ tgt (cnt n) ≤ n) := by decide +kernel
theorem cnt_tgt : ∀ c : Nat, c < 11 → 1 ≤ c → cnt (tgt c) = c := by decide +kernel
theorem cnt_of {n : Nat} {ps : List (Int × Int)} (h1 : 1 ≤ n) (h2 : n < 730) (h : HRows n ps) : ps.length = cnt n := by
  obtain ⟨a, b⟩ := kOf_ok n h2 h1
  rw [h.uniq (acc_rows a b), List.length_reverse]
  rfl
/-- how many ways at most -/
def sB (many : Int) (k : Nat) : Nat := ((List.range k).map fun (i : Nat) => if many % (2 + (i : Int)) = 0 then (many / (2 + (i : Int))).toNat * (many / (2 + (i : Int))).toNat else 0).sum
theorem sB_succ (many : Int) (k : Nat) : sB many (k + 1) = sB many k + if many % (2 + (k : Int)) = 0 then (many / (2 + (k : Int))).toNat * (many / (2 + (k : Int))).toNat else 0 := by
  unfold sB
  rw [List.range_succ, List.map_append, List.sum_append]
  simp
theorem sB_mono (many : Int) : ∀ {k j : Nat}, k ≤ j → sB many k ≤ sB many j
  | k, 0, h => by
    have : k = 0 := by omega
    subst this
    exact Nat.le_refl _
  | k, j + 1, h => by
    by_cases e : k = j + 1
    · subst e; exact Nat.le_refl _
    · have := sB_mono many (show k ≤ j by omega)
      rw [sB_succ]
      omega
theorem sB_table : ∀ m : Nat, m < 61 → 2 ≤ m → sB (m : Int) 60 ≤ m * m := by decide +kernel
theorem flat_len {many : Int} {F : Nat → List (List Int)} : ∀ {k : Nat}, (∀ i, i < k → many % (2 + (i : Int)) = 0 → (F i).length ≤ (many / (2 + (i : Int))).toNat * (many / (2 + (i : Int))).toNat) →
    ((List.range k).flatMap fun (i : Nat) => if many % (2 + (i : Int)) = 0 then F i else []).length ≤ sB many k
  | 0, _ => Nat.le_refl _
  | k + 1, h => by
    have ih := flat_len (many := many) (F := F) (k := k) fun i hi => h i (by omega)
    rw [List.range_succ, List.flatMap_append, List.length_append, sB_succ]
    have h2 := h k (by omega)
    by_cases e : many % (2 + (k : Int)) = 0
    · rw [if_pos e]
      have h3 := h2 e
      simp only [List.flatMap_cons, List.flatMap_nil, List.append_nil, if_pos e]
      omega
    · rw [if_neg e]
      simp only [List.flatMap_cons, List.flatMap_nil, List.append_nil, if_neg e]
      simp only [List.length_nil]
      omega
theorem waysF_len : ∀ {n : Nat} {many most : Int}, 1 ≤ many → many ≤ 60 → (waysF n many most).length ≤ many.toNat * many.toNat
  | 0, many, most, h1, h2 => by
    unfold waysF
    split
    · rename_i e
      subst e
      decide
    · exact Nat.zero_le _
  | n + 1, many, most, h1, h2 => by
    unfold waysF
    rw [List.length_append]
    have key : ∀ k : Nat, k ≤ 60 → ((List.range k).flatMap fun (i : Nat) => if many % (2 + (i : Int)) = 0 then (waysF n (many / (2 + (i : Int))) (2 + (i : Int))).map fun r => (2 + (i : Int)) :: r else []).length ≤ sB many k := fun k hk => by
      refine flat_len fun i hi hd => ?_
      rw [List.length_map]
      have hq := Int.mul_ediv_cancel' (Int.dvd_of_emod_eq_zero hd)
      refine waysF_len ?_ ?_
      · exact Int.pos_of_mul_pos_right (a := 2 + (i : Int)) (by omega) (by omega)
      · have := Int.ediv_le_self (2 + (i : Int)) (show 0 ≤ many by omega)
        omega
    by_cases e : many = 1
    · subst e
      rw [if_pos rfl]
      have e2 : ((if most < 1 then most else 1) + 1 - 2 : Int).toNat = 0 := by split <;> omega
      rw [e2]
      exact Nat.le_refl 1
    · rw [if_neg e]
      obtain ⟨m, rfl⟩ := Int.eq_ofNat_of_zero_le (show 0 ≤ many by omega)
      have h3 := key ((if most < (m : Int) then most else (m : Int)) + 1 - 2).toNat (by split <;> omega)
      have h4 := sB_mono (m : Int) (show ((if most < (m : Int) then most else (m : Int)) + 1 - 2).toNat ≤ 60 by split <;> omega)
      have h5 := sB_table m (by omega) (by omega)
      rw [Int.toNat_natCast]
      simp only [List.length_nil]
      omega
theorem waysF_mem : ∀ {n : Nat} {many most : Int}, 1 ≤ many → many ≤ 60 → ∀ w ∈ waysF n many most, ∀ f ∈ w, 2 ≤ f ∧ f ≤ 60
  | 0, many, most, h1, h2, w, hw, f, hf => by
    unfold waysF at hw
    split at hw
    · rw [List.mem_singleton] at hw
      subst hw
      cases hf
    · cases hw
  | n + 1, many, most, h1, h2, w, hw, f, hf => by
    unfold waysF at hw
    rcases List.mem_append.mp hw with hw | hw
    · split at hw
      · rw [List.mem_singleton] at hw
        subst hw
        cases hf
      · cases hw
    · obtain ⟨i, hi, hw⟩ := List.mem_flatMap.mp hw
      have hi := List.mem_range.mp hi
      have hk : (i : Int) < 59 := by
        have : ((if most < many then most else many) + 1 - 2).toNat ≤ 59 := by split <;> omega
        omega
      split at hw
      · rename_i hd
        obtain ⟨r, hr, rfl⟩ := List.mem_map.mp hw
        rcases List.mem_cons.mp hf with rfl | hf
        · omega
        · have hq := Int.mul_ediv_cancel' (Int.dvd_of_emod_eq_zero hd)
          have := Int.ediv_le_self (2 + (i : Int)) (show 0 ≤ many by omega)
          exact waysF_mem (n := n) (Int.pos_of_mul_pos_right (a := 2 + (i : Int)) (by omega) (by omega)) (by omega) r hr f hf
      · cases hw
/-- the search as a loop -/
def foldF (ps : List Int) (many : Int) (k : Nat) : Option Int := match ps with
  | [] => none
  | p :: r => (List.range k).foldl (lstep (leastF r) p many) none
theorem leastF_eq (ps : List Int) (many most : Int) : leastF ps many most = if many = 1 then some 1 else foldF ps many most.toNat := by
  cases ps <;> rfl
theorem foldF_succ (p : Int) (r : List Int) (many : Int) (k : Nat) : foldF (p :: r) many (k + 1) = lstep (leastF r) p many (foldF (p :: r) many k) k := by
  unfold foldF
  simp only
  rw [List.range_succ, List.foldl_append]
  rfl
theorem waysF_wlen : ∀ {n : Nat} {many most : Int}, ∀ w ∈ waysF n many most, w.length ≤ n
  | 0, many, most, w, hw => by
    unfold waysF at hw
    split at hw
    · rw [List.mem_singleton] at hw
      subst hw
      exact Nat.le_refl _
    · cases hw
  | n + 1, many, most, w, hw => by
    unfold waysF at hw
    rcases List.mem_append.mp hw with hw | hw
    · split at hw
      · rw [List.mem_singleton] at hw
        subst hw
        exact Nat.zero_le _
      · cases hw
    · obtain ⟨i, _, hw⟩ := List.mem_flatMap.mp hw
      split at hw
      · obtain ⟨r, hr, rfl⟩ := List.mem_map.mp hw
        have := waysF_wlen (n := n) r hr
        rw [List.length_cons]
        omega
      · cases hw
end NB

set_option Elab.async false
set_option maxRecDepth 100000
set_option maxHeartbeats 4000000
/-! Words of our own over the hand layer. -/
namespace NB
open PySem L2
abbrev ib (i : Int) : Nat := Builtin.Int.intBits i
/-- a def of the top, as callers know it -/
def Callee (P : Program) (w : World) (K : PySem.W.Frag) (mg : Str → Option Value) (base : Heap) (k : Nat) (x : Str) (ps : List Str) (sp : Sp) : Prop :=
  ∃ f fd, mg x = some (.ref f) ∧ PySem.W.keepIn K (.ref f) = true ∧ Binds K fd ps [] ∧ FnOk P w K mg base CX0 k f fd ps sp
/-- the built-ins' names are no names of the module -/
structure Bt (mg : Str → Option Value) : Prop where
  isinstance_ : mg "isinstance" = none
  int_ : mg "int" = none
  bool_ : mg "bool" = none
  list_ : mg "list" = none
  tuple_ : mg "tuple" = none
  len_ : mg "len" = none
  max_ : mg "max" = none
  min_ : mg "min" = none
  sorted_ : mg "sorted" = none
  range_ : mg "range" = none
  sum_ : mg "sum" = none
  all_ : mg "all" = none
  zip_ : mg "zip" = none
  set_ : mg "set" = none
/-! ### pairs -/
/-- at t a pair of two ints -/
def IsP (H : Hp) (x : V) (p : Int × Int) : Prop := ∃ t, x = .ref t ∧ H t = some (.tup [.int p.1, .int p.2])
abbrev PL (H : Hp) (xs : List V) (ps : List (Int × Int)) : Prop := Paired (IsP H) xs ps
theorem IsP.same {H H' : Hp} (e : Same H H') {x : V} {p : Int × Int} (h : IsP H x p) : IsP H' x p := let ⟨t, a, b⟩ := h; ⟨t, a, e _ _ b⟩
theorem PL.same {H H' : Hp} (e : Same H H') {xs : List V} {ps : List (Int × Int)} (h : PL H xs ps) : PL H' xs ps := Paired.mapP h fun _ _ => IsP.same e
theorem PL.append {H : Hp} : ∀ {xs ys : List V} {ps qs : List (Int × Int)}, PL H xs ps → PL H ys qs → PL H (xs ++ ys) (ps ++ qs)
  | _, _, _, _, .nil, h => h
  | _, _, _, _, .cons a t, h => .cons a (PL.append t h)
theorem PL.reverse {H : Hp} : ∀ {xs : List V} {ps : List (Int × Int)}, PL H xs ps → PL H xs.reverse ps.reverse
  | _, _, .nil => .nil
  | _, _, .cons a t => by
    rw [List.reverse_cons, List.reverse_cons]
    exact PL.append (PL.reverse t) (.cons a .nil)
theorem PL.get {H : Hp} : ∀ {xs : List V} {ps : List (Int × Int)} {i : Nat} {x : V}, PL H xs ps → xs[i]? = some x → ∃ p, ps[i]? = some p ∧ IsP H x p
  | _, _, i, _, .nil, e => by simp at e
  | _, _, 0, _, .cons a t, e => by simp at e; subst e; exact ⟨_, rfl, a⟩
  | _, _, i + 1, x, .cons a t, e => by
    obtain ⟨p, h1, h2⟩ := PL.get (i := i) (x := x) t (by simpa using e)
    exact ⟨p, by simpa using h1, h2⟩
/-- at a a list of pairs, a thing of the program's own -/
def LP (H : Hp) (a : Addr) (ps : List (Int × Int)) : Prop := ∃ xs, H a = some (.lst xs) ∧ PL H xs ps
theorem LP.same {H H' : Hp} (e : Same H H') {a : Addr} {ps : List (Int × Int)} (h : LP H a ps) : LP H' a ps := let ⟨xs, h1, h2⟩ := h; ⟨xs, e _ _ h1, h2.same e⟩
theorem Same.new {H : Hp} {p : Addr} {o : HO} (h : H p = none) : Same H (upd H p o) := fun a u e => by
  rw [upd_ne (ne_of_none e h)]
  exact e
/-- an object that H does not know may change -/
theorem Same.mut {H H' : Hp} {p : Addr} {o : HO} (e : Same H H') (h : H p = none) : Same H (upd H' p o) := fun a u ha => by
  rw [upd_ne (ne_of_none ha h)]
  exact e a u ha
theorem ne_new {H : Hp} {p q : Addr} (h : H p = none) (h' : H q ≠ none) : q ≠ p := fun e => h' (e ▸ h)
/-! ### sorted, of pairs -/
def keyOf (H : Hp) : V → Int × Int
  | .ref t => match H t with
    | some (.tup [.int a, .int b]) => (a, b)
    | _ => (0, 0)
  | _ => (0, 0)
theorem IsP.key {H : Hp} {x : V} {p : Int × Int} (h : IsP H x p) : keyOf H x = p := by
  obtain ⟨t, rfl, h⟩ := h
  unfold keyOf
  simp only [h]
theorem PL.keys {H : Hp} : ∀ {xs : List V} {ps : List (Int × Int)}, PL H xs ps → xs.map (keyOf H) = ps
  | _, _, .nil => rfl
  | _, _, .cons a t => by rw [List.map_cons, a.key, PL.keys t]
theorem PL.mem {H : Hp} : ∀ {xs : List V} {ps : List (Int × Int)}, PL H xs ps → ∀ x ∈ xs, IsP H x (keyOf H x)
  | _, _, .nil, _, h => nomatch h
  | _, _, .cons a t, x, h => by
    rcases List.mem_cons.mp h with e | h
    · subst e; rw [a.key]; exact a
    · exact PL.mem t x h
theorem PL.of_keys {H : Hp} : ∀ {ys : List V}, (∀ x ∈ ys, IsP H x (keyOf H x)) → PL H ys (ys.map (keyOf H))
  | [], _ => .nil
  | y :: r, h => .cons (h y List.mem_cons_self) (PL.of_keys fun x hx => h x (List.mem_cons_of_mem _ hx))
theorem srt_facts {H : Hp} {xs ys : List V} {ps : List (Int × Int)} (hp : PL H xs ps) (h1 : SrtO.Srtd (ltP (keyOf H)) ys) (h2 : SrtO.Stb (ltP (keyOf H)) ys xs) :
    ∃ qs, PL H ys qs ∧ (qs.Pairwise fun p q => ¬ Lt q p) ∧ qs.Perm ps := by
  have hm : ∀ x ∈ ys, IsP H x (keyOf H x) := fun x hx => hp.mem x (h2.perm.mem_iff.mp hx)
  refine ⟨ys.map (keyOf H), PL.of_keys hm, ?_, ?_⟩
  · refine List.pairwise_map.mpr (List.Pairwise.imp (fun {x y} h => ?_) h1)
    have h' := SrtO.lexB_no.mp h
    unfold Lt
    omega
  · rw [← hp.keys]
    exact h2.perm.map _
theorem rd_sorted {K : PySem.W.Frag} {H : Hp} {a : Addr} {xs : List V} {ps : List (Int × Int)} {Q : VK} (hs : SqL K H a xs) (hp : PL H xs ps)
    (q : ∀ ys qs p, PL H ys qs → (qs.Pairwise fun p q => ¬ Lt q p) → qs.Perm ps → H p = none → Q (.ref p) (upd H p (.lst ys))) : rSortedPO K [.ref a] H Q := by
  refine ⟨a, xs, keyOf H, rfl, hs, fun x hx => hp.mem x hx, fun ys p h1 h2 hn => ?_⟩
  obtain ⟨qs, a, b, c⟩ := srt_facts hp h1 h2
  exact q ys qs p a b c hn
/-! ### data -/
def dat (ps : List (Int × Int)) : List PyData := ps.map fun p => PyData.tuple [.int p.1, .int p.2]
theorem PL.dat {K : PySem.W.Frag} {H : Hp} : ∀ {xs : List V} {ps : List (Int × Int)}, PL H xs ps → DpAll K H xs (NB.dat ps)
  | _, _, .nil => .nil
  | _, _, .cons a t => by
    obtain ⟨t1, e, h⟩ := a
    subst e
    exact .cons (.tup (SqT.of h) (.cons (.int _) (.cons (.int _) .nil))) (PL.dat t)
theorem LP.dat {K : PySem.W.Frag} {H : Hp} {a : Addr} {ps : List (Int × Int)} (h : LP H a ps) : Dp K H (.ref a) (.list (NB.dat ps)) :=
  let ⟨_, h1, h2⟩ := h
  .lst (SqL.of h1) h2.dat
theorem eqv_dat : ∀ ps qs : List (Int × Int), PyData.eqvAll (dat ps) (dat qs) = decide (ps = qs)
  | [], [] => by simp [dat, PyData.eqvAll]
  | [], q :: r => by simp [dat, PyData.eqvAll]
  | p :: r, [] => by simp [dat, PyData.eqvAll]
  | (a, b) :: r, (c, d) :: r' => by
    have ih := eqv_dat r r'
    unfold dat at *
    rw [List.map_cons, List.map_cons, PyData.eqvAll, ih, PyData.eqv, PyData.eqvAll, PyData.eqvAll, PyData.eqvAll, PyData.eqv, PyData.eqv]
    by_cases e1 : a = c <;> by_cases e2 : b = d <;> by_cases e3 : r = r' <;> simp [e1, e2, e3]
theorem lay_dat : ∀ ps : List (Int × Int), PyData.canLayAll0 (dat ps) = true
  | [] => rfl
  | (a, b) :: r => by
    have ih := lay_dat r
    unfold dat at *
    rw [List.map_cons, PyData.canLayAll0, ih]
    rfl
theorem dep_dat : ∀ ps : List (Int × Int), PyData.depthAll (dat ps) ≤ 2
  | [] => by decide
  | (a, b) :: r => by
    have ih := dep_dat r
    unfold dat at *
    rw [List.map_cons]
    simp only [PyData.depthAll, PyData.depth] at *
    omega
theorem shaped_dat (ps : List (Int × Int)) : SeqAt.shaped (.list (dat ps)) = true := by
  have h1 := lay_dat ps
  have h2 := dep_dat ps
  unfold SeqAt.shaped
  rw [Bool.and_eq_true]
  refine ⟨?_, ?_⟩
  · simp only [PyData.canLay0]; exact h1
  · refine decide_eq_true ?_
    simp only [PyData.depth]
    omega
theorem rd_eq {K : PySem.W.Frag} {H : Hp} {a b : Addr} {ps qs : List (Int × Int)} {Q : VK} (h1 : LP H a ps) (h2 : LP H b qs) (q : Q (.bl (decide (ps = qs))) H) : rEqD K (.ref a) (.ref b) H Q :=
  ⟨_, _, h1.dat, h2.dat, shaped_dat ps, shaped_dat qs, by rw [PyData.eqv, eqv_dat]; exact q⟩
theorem rd_ne {K : PySem.W.Frag} {H : Hp} {a b : Addr} {ps qs : List (Int × Int)} {Q : VK} (h1 : LP H a ps) (h2 : LP H b qs) (q : Q (.bl (!decide (ps = qs))) H) : rNeD K (.ref a) (.ref b) H Q :=
  ⟨_, _, h1.dat, h2.dat, shaped_dat ps, shaped_dat qs, by rw [PyData.eqv, eqv_dat]; exact q⟩
theorem IsP.dat {K : PySem.W.Frag} {H : Hp} {x : V} {p : Int × Int} (h : IsP H x p) : Dp K H x (.tuple [.int p.1, .int p.2]) := by
  obtain ⟨t, e, h⟩ := h
  subst e
  exact .tup (SqT.of h) (.cons (.int _) (.cons (.int _) .nil))
theorem shaped_p (p : Int × Int) : SeqAt.shaped (.tuple [.int p.1, .int p.2]) = true := by
  obtain ⟨a, b⟩ := p
  simp [SeqAt.shaped, PyData.canLay0, PyData.canLayAll0, PyData.depth, PyData.depthAll]
theorem eqv_p (p q : Int × Int) : PyData.eqv (.tuple [.int p.1, .int p.2]) (.tuple [.int q.1, .int q.2]) = decide (p = q) := by
  obtain ⟨a, b⟩ := p
  obtain ⟨c, d⟩ := q
  rw [PyData.eqv, PyData.eqvAll, PyData.eqvAll, PyData.eqvAll, PyData.eqv, PyData.eqv]
  by_cases e1 : a = c <;> by_cases e2 : b = d <;> simp [e1, e2]
theorem rd_eqP {K : PySem.W.Frag} {H : Hp} {x y : V} {p q : Int × Int} {Q : VK} (h1 : IsP H x p) (h2 : IsP H y q) (h : Q (.bl (decide (p = q))) H) : rEqD K x y H Q :=
  ⟨_, _, h1.dat, h2.dat, shaped_p p, shaped_p q, by rw [eqv_p]; exact h⟩
theorem rd_neP {K : PySem.W.Frag} {H : Hp} {x y : V} {p q : Int × Int} {Q : VK} (h1 : IsP H x p) (h2 : IsP H y q) (h : Q (.bl (!decide (p = q))) H) : rNeD K x y H Q :=
  ⟨_, _, h1.dat, h2.dat, shaped_p p, shaped_p q, by rw [eqv_p]; exact h⟩
/-- a pair or None -/
def IsO (H : Hp) (x : V) : Option (Int × Int) → Prop
  | none => x = .non
  | some p => IsP H x p
def datO : Option (Int × Int) → PyData
  | none => .none
  | some p => .tuple [.int p.1, .int p.2]
theorem IsO.same {H H' : Hp} (e : Same H H') {x : V} : ∀ {o : Option (Int × Int)}, IsO H x o → IsO H' x o
  | none, h => h
  | some _, h => IsP.same e h
theorem IsO.dat {K : PySem.W.Frag} {H : Hp} {x : V} : ∀ {o : Option (Int × Int)}, IsO H x o → Dp K H x (datO o)
  | none, h => by
    cases (show x = .non from h)
    exact .non
  | some _, h => IsP.dat h
theorem shaped_o : ∀ o : Option (Int × Int), SeqAt.shaped (datO o) = true
  | none => by decide
  | some p => shaped_p p
theorem eqv_o : ∀ o u : Option (Int × Int), PyData.eqv (datO o) (datO u) = decide (o = u)
  | none, none => rfl
  | none, some p => by simp [datO, PyData.eqv]
  | some p, none => by simp [datO, PyData.eqv]
  | some p, some q => by
    show PyData.eqv (.tuple [.int p.1, .int p.2]) (.tuple [.int q.1, .int q.2]) = _
    rw [eqv_p]
    simp
theorem rd_eqO {K : PySem.W.Frag} {H : Hp} {x y : V} {p q : Option (Int × Int)} {Q : VK} (h1 : IsO H x p) (h2 : IsO H y q) (h : Q (.bl (decide (p = q))) H) : rEqD K x y H Q :=
  ⟨_, _, h1.dat, h2.dat, shaped_o p, shaped_o q, by rw [eqv_o]; exact h⟩
theorem rd_neO {K : PySem.W.Frag} {H : Hp} {x y : V} {p q : Option (Int × Int)} {Q : VK} (h1 : IsO H x p) (h2 : IsO H y q) (h : Q (.bl (!decide (p = q))) H) : rNeD K x y H Q :=
  ⟨_, _, h1.dat, h2.dat, shaped_o p, shaped_o q, by rw [eqv_o]; exact h⟩
/-! ### isinstance of an int -/
theorem rd_isi_int {K : PySem.W.Frag} {H : Hp} {i : Int} {T : String} {b : Bool} {Q : VK} (h : kitB "int" T = some b) (q : Q (.bl b) H) : rIsi K [.int i, .ty T] H Q :=
  ⟨_, _, _, _, b, rfl, .ty T, .base (.int i), kit_ty h, q⟩
theorem rd_isi_lst {K : PySem.W.Frag} {H : Hp} {a : Addr} {xs : List V} {T : String} {b : Bool} {Q : VK} (e : H a = some (.lst xs)) (h : kitB "list" T = some b) (q : Q (.bl b) H) : rIsi K [.ref a, .ty T] H Q :=
  ⟨_, _, _, _, b, rfl, .ty T, .base (.lst e), kit_ty h, q⟩
theorem rd_isi_tup {K : PySem.W.Frag} {H : Hp} {a : Addr} {xs : List V} {T : String} {b : Bool} {Q : VK} (e : H a = some (.tup xs)) (h : kitB "tuple" T = some b) (q : Q (.bl b) H) : rIsi K [.ref a, .ty T] H Q :=
  ⟨_, _, _, _, b, rfl, .ty T, .base (.tup e), kit_ty h, q⟩
theorem ib_of {i : Int} {m : Nat} (h : i.natAbs < 2 ^ m) : ib i ≤ m := PySem.intBits_le_iff.mpr h
theorem itB {b : Bool} {A B : Prop} (hb : b = true) (h : A) : if b = true then A else B := by rw [if_pos hb]; exact h
theorem itN {b : Bool} {A B : Prop} (hb : b = false) (h : B) : if b = true then A else B := by rw [hb]; exact h
theorem iteNN {c A B : Prop} [Decidable c] (hc : ¬ c) (h : A) : if (!decide c) = true then A else B := by
  rw [decide_eq_false hc]
  exact h
theorem iteD {c A B : Prop} [Decidable c] (hc : c) (h : A) : if decide c = true then A else B := by
  rw [decide_eq_true hc]
  exact h
theorem iteDN {c A B : Prop} [Decidable c] (hc : ¬ c) (h : B) : if decide c = true then A else B := by
  rw [decide_eq_false hc]
  exact h
/-! ### a while, turns counted -/
theorem while_nat {c : TT} {tb : TS} {D : Ends} {σ : L2.St} {H : Hp} (M : Nat) (Pv : Nat → L2.St → Hp → Prop) (h0 : Pv 0 σ H)
    (hs : ∀ k m σ H, k + m = M → Pv k σ H → c σ H fun b H1 => if b = true then ∃ N : L2.St → Hp → Prop, (∀ σ' H', N σ' H' → ∃ m', m' < m ∧ ∃ k, k + m' = M ∧ Pv k σ' H') ∧ tb { D with nx := N, ct := N, bk := D.nx } σ H1 else D.nx σ H1) : tWhile c tb D σ H := by
  refine ⟨fun m σ H => ∃ k, k + m = M ∧ Pv k σ H, ⟨M, 0, Nat.zero_add _, h0⟩, ?_⟩
  rintro m σ H ⟨k, e, p⟩
  exact hs k m σ H e p
/-- one turn more -/
theorem turn_nat {M k m : Nat} (Pv : Nat → L2.St → Hp → Prop) (e : k + m = M) (h : k < M) : ∀ σ' H', Pv (k + 1) σ' H' → ∃ m', m' < m ∧ ∃ k, k + m' = M ∧ Pv k σ' H' := fun _ _ p => ⟨m - 1, by omega, k + 1, by omega, p⟩
theorem small1000' {n : Nat} (h : n ≤ 100000) : n < sizeLine := Nat.lt_of_le_of_lt h (by decide)
theorem tif_o {t : TT} {ta tb : TE} {σ : L2.St} {H : Hp} {Q : VK} {o : Option (Int × Int)} (b : Bool) (ht : ∀ Qt : Bool → Hp → Prop, Qt b H → t σ H Qt)
    (h1 : b = true → ∀ Qe : VK, (∀ x H', Same H H' → IsO H' x o → Qe x H') → ta σ H Qe) (h2 : b = false → ∀ Qe : VK, (∀ x H', Same H H' → IsO H' x o → Qe x H') → tb σ H Qe)
    (hq : ∀ x H', Same H H' → IsO H' x o → Q x H') : tIf t ta tb σ H Q := by
  refine ht _ ?_
  cases b with
  | true => exact h1 rfl Q hq
  | false => exact h2 rfl Q hq
/-! ### promises -/
/-- is_whole of an int -/
def spWhole : Sp := fun vs H Q _ => ∃ i : Int, vs = [.int i] ∧ Q (.bl true) H
def spCheck : Sp := fun vs H Q _ => ∃ i : Int, vs = [.int i] ∧ 1 ≤ i ∧ i ≤ 1000000 ∧ Q .non H
def spParts : Sp := fun vs H Q _ => ∃ n : Int, vs = [.int n] ∧ 0 < n ∧ n ≤ 2000000 ∧ ∀ (ds : List Int) p H', Parts n ds → ds.length ≤ 3000 → Same H H' → H p = none → H' p = some (.lst (ds.map V.int)) → Q (.ref p) H'
def spRow : Sp := fun vs H Q _ => ∃ n L : Int, vs = [.int n, .int L] ∧ 1 ≤ n ∧ n ≤ 1000000 ∧ 1 ≤ L ∧ ib L ≤ 2000000 ∧ ∀ x H', Same H H' → IsO H' x (rowOf n L) → Q x H'
def spRows : Sp := fun vs H Q _ => ∃ n : Int, vs = [.int n] ∧ 1 ≤ n ∧ n ≤ 1000000 ∧ ∀ ps p H', Rows n ps → ps.length ≤ 3000 → Same H H' → H p = none → LP H' p ps → Q (.ref p) H'
def spHigh : Sp := fun vs H Q _ => ∃ n : Int, vs = [.int n] ∧ 1 ≤ n ∧ n ≤ 1000000 ∧ ∀ ps p H', HRows n ps → ps.length ≤ 3000 → Same H H' → H p = none → LP H' p ps → Q (.ref p) H'
/-! ### the law's helpers -/
def Bits (ns : List Int) : Prop := ∀ z ∈ ns, ib z ≤ 1048576
def spCellAt (K : PySem.W.Frag) : Sp := fun vs H Q _ => ∃ (a : Addr) (ns : List Int) (k : Int), vs = [.ref a, .int k] ∧ SqL K H a (ns.map V.int) ∧ Bits ns ∧ 0 ≤ k ∧ k < 2 ^ 62 ∧ ∀ c, ib c ≤ 1048576 → Q (.int c) H
def spDraw : Sp := fun vs H Q _ => ∃ c k m : Int, vs = [.int c, .int k, .int m] ∧ 0 ≤ k ∧ 0 < m ∧ ∀ r H', 0 ≤ r → r < m → Same H H' → Q (.int r) H'
def spValue : Sp := fun vs H Q _ => ∃ c t : Int, vs = [.int c, .int t] ∧ ib c ≤ 1048576 ∧ 0 ≤ t ∧ t ≤ 100 ∧ ∀ v H', 0 ≤ v → ib v ≤ 1048577 → Same H H' → Q (.int v) H'
def spNumber (K : PySem.W.Frag) : Sp := fun vs H Q _ => ∃ (a : Addr) (ns : List Int) (k : Int), vs = [.ref a, .int k] ∧ SqL K H a (ns.map V.int) ∧ Bits ns ∧ 0 ≤ k ∧ k < 2 ^ 62 ∧ ∀ n H', 1 ≤ n → n ≤ 1000000 → Same H H' → Q (.int n) H'
def primes : List Int := [1000003, 1000033, 1000037, 1000039, 1000081, 1000099, 1000117, 1000121, 1000133, 1000151, 1000159, 1000171, 1000183, 1000187, 1000193, 1000199]
theorem prime_at {i : Int} (h0 : 0 ≤ i) (h : i < 16) : ∃ p : Int, 0 < p ∧ atI (primes.map V.int) i = some (.int p) := by
  obtain ⟨j, rfl⟩ := Int.eq_ofNat_of_zero_le h0
  have hj : j < primes.length := by show j < 16; omega
  have hp : ∀ p ∈ primes, 0 < p := by decide
  refine ⟨primes[j], hp _ (List.getElem_mem hj), atI_nat ?_⟩
  rw [List.getElem?_map, List.getElem?_eq_getElem hj]
  rfl
theorem at_int {ns : List Int} {k : Int} (h0 : 0 ≤ k) (h : k < ns.length) : ∃ z ∈ ns, atI (ns.map V.int) k = some (.int z) := by
  obtain ⟨j, rfl⟩ := Int.eq_ofNat_of_zero_le h0
  have hj : j < ns.length := by omega
  refine ⟨ns[j], List.getElem_mem hj, atI_nat ?_⟩
  rw [List.getElem?_map, List.getElem?_eq_getElem hj]
  rfl
theorem ib_add {x y : Int} {m n : Nat} (hx : ib x ≤ m) (hy : ib y ≤ n) : ib (x + y) ≤ max m n + 1 := PySem.intBits_add_le hx hy
theorem ib_sub {x y : Int} {m n : Nat} (hx : ib x ≤ m) (hy : ib y ≤ n) : ib (x - y) ≤ max m n + 1 := PySem.intBits_sub_le hx hy
theorem ib_mul {x y : Int} {m n : Nat} (hx : ib x ≤ m) (hy : ib y ≤ n) : ib (x * y) ≤ m + n := PySem.intBits_mul_le hx hy
theorem mulx {x y : Int} {m n : Nat} (hx : ib x ≤ m) (hy : ib y ≤ n) (h : m + n ≤ 134217728) : CMulX x y := by
  show (ib x : Int) + (ib y : Int) ≤ 134217728
  omega
theorem cut_int (ns : List Int) (lo hi : Option Int) : ∃ ns' : List Int, cutV (ns.map V.int) lo hi = ns'.map V.int ∧ (∀ z ∈ ns', z ∈ ns) ∧ ns'.length ≤ ns.length := by
  refine ⟨(ns.drop (HT.sIx (ns.map V.int).length 0 lo)).take (HT.sIx (ns.map V.int).length (ns.map V.int).length hi - HT.sIx (ns.map V.int).length 0 lo), ?_, fun z hz => List.mem_of_mem_drop (List.mem_of_mem_take hz), ?_⟩
  · unfold cutV
    rw [List.map_take, List.map_drop]
  · rw [List.length_take, List.length_drop]
    omega
/-- the law's own loop: range(0, max(1, l), 1 + l // d) -/
theorem rg3 {l d : Nat} (hl : l ≤ 63) (hd : d = 3 ∨ d = 4 ∨ d = 6) : ∃ n : Nat, n ≤ 64 ∧ RgC 0 (if (l : Int) > 1 then (l : Int) else 1) (1 + (l : Int) / (d : Int)) n := by
  have key : ∀ d : Nat, d = 3 ∨ d = 4 ∨ d = 6 → ∀ l : Nat, l < 64 → (1 + (l : Int) / (d : Int)) ≠ 0 ∧ (1 + (l : Int) / (d : Int)).natAbs < 1073741824 ∧ Builtin.Range.small 0 (if (l : Int) > 1 then (l : Int) else 1) (1 + (l : Int) / (d : Int)) = true ∧ (Builtin.Range.rangeSize 0 (if (l : Int) > 1 then (l : Int) else 1) (1 + (l : Int) / (d : Int))).toNat ≤ 64 ∧ Builtin.Range.rangeSize 0 (if (l : Int) > 1 then (l : Int) else 1) (1 + (l : Int) / (d : Int)) = ((Builtin.Range.rangeSize 0 (if (l : Int) > 1 then (l : Int) else 1) (1 + (l : Int) / (d : Int))).toNat : Int) := by
    rintro d (rfl | rfl | rfl) <;> decide +kernel
  obtain ⟨h1, h2, h3, h4, h5⟩ := key d hd l (by omega)
  exact ⟨_, h4, h1, h2, h3, h5⟩
theorem by_ok {l d i n : Nat} (hl : l ≤ 63) (hd : d = 3 ∨ d = 4 ∨ d = 6) (hi : i < n) (hn : n ≤ 64) : 0 ≤ (0 : Int) + (i : Int) * (1 + (l : Int) / (d : Int)) ∧ (0 : Int) + (i : Int) * (1 + (l : Int) / (d : Int)) < 2 ^ 62 := by
  have hc : 0 ≤ (1 + (l : Int) / (d : Int)) ∧ (1 + (l : Int) / (d : Int)) ≤ 100 := by rcases hd with rfl | rfl | rfl <;> omega
  have h1 : (i : Int) * (1 + (l : Int) / (d : Int)) ≤ 64 * 100 := Int.mul_le_mul (by omega) hc.2 hc.1 (by decide)
  have h2 : 0 ≤ (i : Int) * (1 + (l : Int) / (d : Int)) := Int.mul_nonneg (by omega) hc.1
  omega
/-- a law's: a list of at most 63 ints is handed in, True comes out -/
def spLaw (K : PySem.W.Frag) : Sp := fun vs H Q _ => ∃ (a : Addr) (ns : List Int), vs = [.ref a] ∧ SqL K H a (ns.map V.int) ∧ ns.length ≤ 63 ∧ Bits ns ∧ ∀ H', Q (.bl true) H'
/-- a row's sum and length are small -/
theorem isRow_small {n f l : Int} (h1 : 1 ≤ n) (h2 : n ≤ 1000000) (h : IsRow n f l) : 0 < f + l ∧ f + l ≤ 2000000 ∧ 0 < l - f + 1 ∧ l - f + 1 ≤ 2000000 := by
  obtain ⟨a, b⟩ := h
  have hL : 0 < l - f + 1 := by omega
  have hs : 0 < f + l := Int.pos_of_mul_pos_left (b := l - f + 1) (by omega) (by omega)
  have d1 : f + l ≤ 2 * n := Int.le_of_dvd (show 0 < 2 * n by omega) ⟨_, b.symm⟩
  have d2 : l - f + 1 ≤ 2 * n := Int.le_of_dvd (show 0 < 2 * n by omega) ⟨f + l, by rw [Int.mul_comm (l - f + 1)]; exact b.symm⟩
  omega
theorem hr15 : HRows 15 [(1, 5), (4, 6), (7, 8), (15, 15)] := acc_rows (n := 15) (K := 5) (by decide) (by decide)
theorem hr2 : HRows 2 [(2, 2)] := acc_rows (n := 2) (K := 1) (by decide) (by decide)
theorem r2 : Rows 2 [(-1, 2), (2, 2)] := Rows.of_high (by decide) hr2 (by decide) fun x => by
  show x ∈ [((-1, 2) : Int × Int), (2, 2)] ↔ x ∈ [((2, 2) : Int × Int), (-1, 2)]
  rw [List.mem_cons, List.mem_cons, List.mem_cons, List.mem_cons]
  simp only [List.not_mem_nil, or_false]
  exact or_comm
end NB

set_option Elab.async false
set_option maxRecDepth 100000
set_option maxHeartbeats 4000000
/-! Comprehensions over a list of pairs; rows or None. -/
namespace NB
open PySem L2
abbrev gPair (K : PySem.W.Frag) (i j : Nat) : TG := gTup K 2 (gCons (gName i) (gCons (gName j) gNil))
/-- [an int of f, l for f, l in pairs] -/
theorem lc_ints {K : PySem.W.Frag} {a : Addr} {xs : List V} {ps : List (Int × Int)} {te : TE} {vs : List Nat} {σ : L2.St} {H1 : Hp} {D : Addr} {Qd : Hp → Prop} {i j : Nat} (g : H1 a = some (.lst xs)) (gx : PL H1 xs ps) (nD : H1 D = none) (F : Int × Int → Int) (hz : ps.length ≤ 90000)
    (hw : ∀ v u : V, wipe (((wipe σ vs).set i (some v)).set j (some u)) vs = wipe σ vs)
    (he : ∀ p ∈ ps, ∀ (H' : Hp) (Qc : VK), Qc (.int (F p)) H' → te (((wipe σ vs).set i (some (.int p.1))).set j (some (.int p.2))) H' Qc)
    (hd : ∀ H', Same H1 H' → H' D = some (.lst ((ps.map F).map V.int)) → Qd H') :
    ∃ W : Nat → Nat → Hp → Prop, (∃ m, W 0 m (upd H1 D (.lst []))) ∧ ∀ k m H, W k m H →
      ((Itl K a).stop k H ∧ Qd H) ∨ ((Itl K a).go k H ∧ ∃ Nx : Hp → Prop, (∀ H', Nx H' → ∃ m', m' < m ∧ W (k + 1) m' H') ∧ ∀ x H', (Itl K a).yld k H x H' → gPair K i j x (wipe σ vs) H' fun σ2 H2 => wipe σ2 vs = wipe σ vs ∧ tYes σ2 H2 fun b H3 =>
        if b = true then te σ2 H3 fun y H4 => ∃ acc, H4 D = some (.lst acc) ∧ acc.length < sizeLine ∧ Nx (upd H4 D (.lst (acc ++ [y]))) else Nx H3) := by
  have naD : a ≠ D := ne_of_none g nD
  refine lc_list (xs := xs) (fun k H' => Same H1 H' ∧ H' D = some (.lst (((ps.take k).map F).map V.int))) ⟨Same.new nD, upd_same⟩ ?_ ?_ ?_
  · rintro k H' _ ⟨hS, _⟩
    exact SqL.of (hS _ _ g)
  · rintro k x H' hx ⟨hS, gD⟩
    obtain ⟨⟨f, l⟩, hpk, t, rfl, ht⟩ := gx.get hx
    have hk : k < xs.length := (List.getElem?_eq_some_iff.mp hx).1
    have hll := gx.length
    have htk : ps.take (k + 1) = ps.take k ++ [(f, l)] := by rw [List.take_add_one, hpk]; rfl
    refine ⟨t, _, rfl, SqT.of (hS _ _ ht), rfl, _, _, rfl, _, _, rfl, rfl, hw _ _, ?_⟩
    refine he (f, l) (List.mem_of_getElem? hpk) H' _ ⟨_, gD, small1000' ?_, Same.mut hS nD, ?_⟩
    · rw [List.length_map, List.length_map, List.length_take]
      omega
    · rw [upd_same, htk, List.map_append, List.map_append]
      rfl
  · rintro H' ⟨hS, gD⟩
    rw [gx.length, List.take_length] at gD
    exact hd H' hS gD
/-- [a pair of f, l for f, l in pairs] -/
theorem lc_prs {K : PySem.W.Frag} {a : Addr} {xs : List V} {ps : List (Int × Int)} {te : TE} {vs : List Nat} {σ : L2.St} {H1 : Hp} {D : Addr} {Qd : Hp → Prop} {i j : Nat} (g : H1 a = some (.lst xs)) (gx : PL H1 xs ps) (nD : H1 D = none) (F : Int × Int → Int × Int) (hz : ps.length ≤ 90000)
    (hw : ∀ v u : V, wipe (((wipe σ vs).set i (some v)).set j (some u)) vs = wipe σ vs)
    (he : ∀ p ∈ ps, ∀ (H' : Hp) (Qc : VK), (∀ t, H' t = none → Qc (.ref t) (upd H' t (.tup [.int (F p).1, .int (F p).2]))) → te (((wipe σ vs).set i (some (.int p.1))).set j (some (.int p.2))) H' Qc)
    (hd : ∀ H', Same H1 H' → LP H' D (ps.map F) → Qd H') :
    ∃ W : Nat → Nat → Hp → Prop, (∃ m, W 0 m (upd H1 D (.lst []))) ∧ ∀ k m H, W k m H →
      ((Itl K a).stop k H ∧ Qd H) ∨ ((Itl K a).go k H ∧ ∃ Nx : Hp → Prop, (∀ H', Nx H' → ∃ m', m' < m ∧ W (k + 1) m' H') ∧ ∀ x H', (Itl K a).yld k H x H' → gPair K i j x (wipe σ vs) H' fun σ2 H2 => wipe σ2 vs = wipe σ vs ∧ tYes σ2 H2 fun b H3 =>
        if b = true then te σ2 H3 fun y H4 => ∃ acc, H4 D = some (.lst acc) ∧ acc.length < sizeLine ∧ Nx (upd H4 D (.lst (acc ++ [y]))) else Nx H3) := by
  have naD : a ≠ D := ne_of_none g nD
  refine lc_list (xs := xs) (fun k H' => Same H1 H' ∧ ∃ acc, H' D = some (.lst acc) ∧ PL H' acc ((ps.take k).map F)) ⟨Same.new nD, _, upd_same, .nil⟩ ?_ ?_ ?_
  · rintro k H' _ ⟨hS, _⟩
    exact SqL.of (hS _ _ g)
  · rintro k x H' hx ⟨hS, acc, gD, ga⟩
    obtain ⟨⟨f, l⟩, hpk, t, rfl, ht⟩ := gx.get hx
    have hk : k < xs.length := (List.getElem?_eq_some_iff.mp hx).1
    have hll := gx.length
    have htk : ps.take (k + 1) = ps.take k ++ [(f, l)] := by rw [List.take_add_one, hpk]; rfl
    refine ⟨t, _, rfl, SqT.of (hS _ _ ht), rfl, _, _, rfl, _, _, rfl, rfl, hw _ _, ?_⟩
    refine he (f, l) (List.mem_of_getElem? hpk) H' _ fun u nu => ?_
    have gD' : upd H' u (.tup [.int (F (f, l)).1, .int (F (f, l)).2]) D = some (.lst acc) := by rw [upd_ne (ne_of_none gD nu)]; exact gD
    have same : ∀ o x q, IsP (upd H' u (.tup [.int (F (f, l)).1, .int (F (f, l)).2])) x q → IsP (upd (upd H' u (.tup [.int (F (f, l)).1, .int (F (f, l)).2])) D (.lst o)) x q := fun o x q ⟨t, e, h⟩ => ⟨t, e, by rw [upd_ne (ne_of h gD' (fun z => nomatch z))]; exact h⟩
    refine ⟨acc, gD', small1000' ?_, Same.mut (hS.trans (Same.new nu)) nD, _, upd_same, ?_⟩
    · have := ga.length
      rw [List.length_map, List.length_take] at this
      omega
    · rw [htk, List.map_append]
      exact PL.append (Paired.mapP (ga.same (Same.new nu)) (same _)) (.cons (same _ _ _ ⟨u, rfl, upd_same⟩) .nil)
  · rintro H' ⟨hS, acc, gD, ga⟩
    rw [gx.length, List.take_length] at ga
    exact hd H' hS ⟨acc, gD, ga⟩
/-- the longest high row: the first -/
def spLongest : Sp := fun vs H Q _ => ∃ n : Int, vs = [.int n] ∧ 1 ≤ n ∧ n ≤ 1000000 ∧ ∀ p ps x H', HRows n (p :: ps) → Same H H' → IsP H' x p → Q x H'
theorem HRows.one {n : Int} (hn : 1 ≤ n) {ps : List (Int × Int)} (h : HRows n ps) : (n, n) ∈ ps := (h.mem n n).mpr ⟨⟨Int.le_refl _, by rw [Int.sub_self, Int.zero_add, Int.mul_one]; omega⟩, by omega⟩
theorem HRows.ne {n : Int} (hn : 1 ≤ n) {ps : List (Int × Int)} (h : HRows n ps) : ∃ p qs, ps = p :: qs := by
  have := h.one hn
  cases ps with
  | nil => cases this
  | cons p qs => exact ⟨p, qs, rfl⟩
/-- an expression's value by what is known of it -/
theorem to_any {te : TE} {σ : L2.St} {H : Hp} {Q : VK} (P : V → Hp → Prop) (h : ∀ Qe : VK, (∀ x H', P x H' → Qe x H') → te σ H Qe) (q : ∀ x H', P x H' → Q x H') : te σ H Q := h Q q
end NB

set_option Elab.async false
set_option maxRecDepth 100000
set_option maxHeartbeats 4000000
/-! zip of a tuple and a list, walked. -/
namespace NB
open PySem L2
/-- zip of the tuple at a and the list at b -/
def MixIt (K : PySem.W.Frag) (a b : Addr) : It where
  go := fun k H => ∃ (us ws : List V) (x y : V), SqT K H a us ∧ SqL K H b ws ∧ us[k]? = some x ∧ ws[k]? = some y
  yld := fun k H v H' => ∃ (t : Addr) (x y : V), H t = none ∧ v = V.ref t ∧ H' = upd H t (HO.tup [x, y]) ∧ (∀ us : List V, SqT K H a us → us[k]? = some x) ∧ (∀ ws : List V, SqL K H b ws → ws[k]? = some y)
  stop := fun k H => ∃ (us ws : List V), SqT K H a us ∧ SqL K H b ws ∧ k ≤ us.length ∧ k ≤ ws.length ∧ (k = us.length ∨ k = ws.length)
theorem mixTurn {P : Program} {w : World} {K : PySem.W.Frag} {elts : List Expr} {kk : Nat} {tpos : Pos} {a b z TI TO i1 i2 : Addr} (S : ZipSep2 z TI TO i1 i2 [i1, a] [i2, b]) (na : a ≠ i1) (nb : b ≠ i2) :
    Turn P w K (.Tuple elts kk tpos) (MixIt K a b) [z, TI, TO, i1, i2] z (fun k h => IsZip h z TI TO .none ∧ IsTupOf2 h TI (.ref i1) (.ref i2) ∧ (∃ p q, IsTupOf2 h TO p q) ∧ h.IsTupleIter i1 a k ∧ h.IsListIter i2 b k) := by
  have i1z : i1 ≠ z := S.zi1.symm
  have i2z : i2 ≠ z := S.zi2.symm
  constructor
  case mem => exact List.mem_cons_self
  case obj =>
    rintro k h ⟨gz, gI, ⟨p, q, gO⟩, ⟨oa, ea, _, da⟩, ⟨ob, eb, _, db⟩⟩ c hc
    simp only [List.mem_cons, List.not_mem_nil, or_false] at hc
    rcases hc with e | e | e | e | e <;> subst e
    · exact ⟨_, gz, fun _ x => nomatch x⟩
    · exact ⟨_, gI, fun _ x => nomatch x⟩
    · exact ⟨_, gO, fun _ x => nomatch x⟩
    · exact ⟨oa, ea, fun _ x => by rw [da] at x; cases x⟩
    · exact ⟨ob, eb, fun _ x => by rw [db] at x; cases x⟩
  case keep =>
    rintro k h h' ⟨gz, gI, ⟨p, q, gO⟩, ga, gb⟩ kp
    refine ⟨kp z (by simp) _ gz, kp TI (by simp) _ gI, ⟨p, q, kp TO (by simp) _ gO⟩, ?_, ?_⟩
    · exact ga.at fun o e => kp i1 (by simp) o e
    · exact gb.at fun o e => kp i2 (by simp) o e
  case self =>
    rintro A k s Q E ⟨gz, _⟩ hQ
    exact wpAny_pyIter_zip gz hQ
  case item =>
    intro X hP hw hK hc k pins s σ H E I hf st hg
    subst hP hw hK
    obtain ⟨gz, gI, ⟨p, q, gO⟩, ga, gb⟩ := st
    obtain ⟨us, ws, x, y, qa, qb, hx, hy⟩ := hg
    obtain ⟨ua, ra, pa, _⟩ := I.tuple qa
    obtain ⟨ub, rb, pb, _⟩ := I.list qb
    obtain ⟨xa, hxa, rxa⟩ := ra.get hx
    obtain ⟨xb, hxb, rxb⟩ := rb.get hy
    have hh : X.A.in1.handled = none := I.ok.hd hc
    have k1 : k < ua.toArray.size := by
      have := (List.getElem?_eq_some_iff.mp hxa).1
      simpa using this
    have k2 : k < ub.toArray.size := by
      have := (List.getElem?_eq_some_iff.mp hxb).1
      simpa using this
    refine wpAny_pyNext_zipD2_item S (Draws.tuple hh i1 a na ua.toArray) (Draws.list hh i2 b nb ub.toArray) gz gI gO ⟨ga, pa⟩ ⟨gb, pb.isList⟩ k1 k2 ?_
    intro v1 v2 h1 tk y1 y2 z1 O1 s1 s2 T1 sz1 kp
    have ev1 : v1 = xa := by
      have e := y1
      rw [show ua.toArray[k]? = some xa by simpa using hxa] at e
      exact (Option.some.inj e).symm
    have ev2 : v2 = xb := by
      have e := y2
      rw [show ub.toArray[k]? = some xb by simpa using hxb] at e
      exact (Option.some.inj e).symm
    subst ev1 ev2
    refine ⟨_, rfl, wpAny_letOwnedTupleGo_zip (s := { s with heap := h1, toks := tk }) z1 fun h2 z2 sb => ?_⟩
    have szz : z < s.heap.objs.size := Heap.lt_size gz
    have gT : h2.get? s.heap.objs.size = some { cls := .type "tuple", data := .seq #[v1, v2] } := (sb.2 _ (Nat.ne_of_gt szz)).trans T1
    have ok : ObjOk X.prog X.w (upd H s.heap.objs.size (.tup [x, y])) h2 s.heap.objs.size (.tup [x, y]) := by
      refine ⟨by show 2 ≤ sizeLine; decide, [v1, v2], Paired.cons rxa (Paired.cons rxb Paired.nil), ?_⟩
      exact ⟨_, gT, rfl, _, rfl⟩
    have kp2 : ∀ c o, c ∉ [z, TI, TO, i1, i2] → s.heap.get? c = some o → h2.get? c = some o := fun c o hn e => by
      simp only [List.mem_cons, List.not_mem_nil, or_false, not_or] at hn
      obtain ⟨c1, c2, c3, c4, c5⟩ := hn
      exact (sb.2 c c1).trans (kp c o c1 c3 c4 c5 e)
    have I2 : Inv X pins σ (upd H s.heap.objs.size (.tup [x, y])) { s with heap := h2, toks := tk } := Inv.turnedNew I kp2 hf (Nat.le_refl _) ok
    refine ⟨V.ref s.heap.objs.size, _, I2, rfl, ?_, ?_, ?_⟩
    · refine ⟨_, x, y, I.hok.fresh (Nat.le_refl _), rfl, rfl, fun us' h => ?_, fun ws' h => ?_⟩
      · rw [I.tuple_inj h qa]
        exact hx
      · rw [I.list_inj h qb]
        exact hy
    · refine ⟨z2, ?_, ⟨v1, v2, ?_⟩, ?_, ?_⟩
      · exact (sb.2 TI S.TIz).trans (kp TI _ S.TIz S.TITO S.TIi1 S.TIi2 gI)
      · exact (sb.2 TO S.TOz).trans O1
      · exact s1.1.at fun o e => (sb.2 i1 i1z).trans e
      · exact s2.1.at fun o e => (sb.2 i2 i2z).trans e
    · intro c hm
      have hlt : c < s.heap.objs.size := by
        simp only [List.mem_cons, List.not_mem_nil, or_false] at hm
        rcases hm with e | e | e | e | e <;> subst e
        · exact szz
        · exact Heap.lt_size gI
        · exact Heap.lt_size gO
        · obtain ⟨_, e, _⟩ := ga
          exact Heap.lt_size e
        · obtain ⟨_, e, _⟩ := gb
          exact Heap.lt_size e
      rw [upd_ne (Nat.ne_of_lt hlt)]
      exact (hf c hm).1
  case done =>
    intro X hP hw hK hc k pins s σ H E I hf st hg
    subst hP hw hK
    obtain ⟨gz, gI, ⟨p, q, gO⟩, ga, gb⟩ := st
    obtain ⟨us, ws, qa, qb, k1, k2, hend⟩ := hg
    obtain ⟨ua, ra, pa, _⟩ := I.tuple qa
    obtain ⟨ub, rb, pb, _⟩ := I.list qb
    have l1 := ra.length
    have l2 := rb.length
    have hh : X.A.in1.handled = none := I.ok.hd hc
    refine wpAny_pyNext_zipD2_end S (Draws.tuple hh i1 a na ua.toArray) (Draws.list hh i2 b nb ub.toArray) gz gI gO ⟨ga, pa⟩ ⟨gb, pb.isList⟩ (by simp; omega) (by simp; omega) (by simp; omega) fun h1 tk kp => ⟨rfl, ?_⟩
    refine Inv.turnedL (ch := [z, TI, TO, i1, i2]) I (fun c o hn e => ?_) hf
    simp only [List.mem_cons, List.not_mem_nil, or_false, not_or] at hn
    obtain ⟨c1, c2, c3, c4, c5⟩ := hn
    exact kp c o c1 c3 c4 c5 e
def iMix (K : PySem.W.Frag) (ta : TA) : TI := fun σ H R => ta σ H fun vs H1 => ∃ (a b : Addr) (us ws : List V), vs = [.ref a, .ref b] ∧ SqT K H1 a us ∧ SqL K H1 b ws ∧ R (MixIt K a b) H1
/-- for .. in zip(tuple, list) -/
theorem pi_mix {X : Cx} {e1 e2 : Expr} {ta : TA} {p pos tpos : Pos} {elts : List Expr} {kk : Nat} (hg : Gl X "zip") (hm : X.mg "zip" = none) (ha : PA X [e1, e2] ta)
    (h1 : starEach [e1, e2] X.env = (false, eval e1 X.env) :: starEach [e2] X.env := by rfl) (h2 : (backTo pos (starEach [e2] X.env)).any (·.1) = false := by rfl) :
    PI X (.Tuple elts kk tpos) (.Call (.Name "zip" p) [e1, e2] [] pos) (iMix X.K ta) := by
  constructor
  intro pins s σ H R I h
  refine PyProof.Rows.Call_ (ld_blt I hg hm PyProof.Rows.boot_zip (PyProof.Rows.callWith_type1 (thn (ha.run pos pins s σ H _ I h) ?_) h1 h2))
  rintro vals s1 ⟨vs, H1, I1, r1, a, b, us, ws, rfl, qa, qb, hR⟩
  cases r1 with
  | cons ra rr =>
    cases rr with
    | cons rb rr =>
      cases rr
      cases ra
      cases rb
      obtain ⟨ua, rua, pa, _⟩ := I1.tuple qa
      obtain ⟨ub, rub, pb, _⟩ := I1.list qb
      obtain ⟨oa, hoa, _⟩ := id pa
      have la : a < s1.heap.objs.size := Heap.lt_size hoa
      have lb : b < s1.heap.objs.size := pb.lt
      refine zip_begins2 (begins_tuple a ua.toArray) (begins_list b ub.toArray) pa pb.isList fun h' gz gI gO g1 g2 _ kp => wpAny_pyIter_zip gz ?_
      have I2 : Inv X pins σ H1 { s1 with heap := h' } := Inv.kept (t' := s1.toks) I1 kp
      have S : ZipSep2 (s1.heap.objs.size + 4) (s1.heap.objs.size + 2) (s1.heap.objs.size + 3) s1.heap.objs.size (s1.heap.objs.size + 1) [s1.heap.objs.size, a] [s1.heap.objs.size + 1, b] :=
        zip_sep2 (fun c hc => by rw [List.mem_singleton.mp hc]; exact la) (fun c hc => by rw [List.mem_singleton.mp hc]; exact lb)
      refine ⟨s1.heap.objs.size + 4, [s1.heap.objs.size + 4, s1.heap.objs.size + 2, s1.heap.objs.size + 3, s1.heap.objs.size, s1.heap.objs.size + 1], _, _, H1, rfl, I2, mixTurn S (Nat.ne_of_lt la) (Nat.ne_of_lt (Nat.lt_succ_of_lt lb)), ⟨gz, gI, ⟨_, _, gO⟩, ⟨_, g1, rfl, rfl⟩, ⟨_, g2, rfl, rfl⟩⟩, fun c hc => ?_, hR⟩
      have hle : s1.heap.objs.size ≤ c := by
        simp only [List.mem_cons, List.not_mem_nil, or_false] at hc
        rcases hc with e | e | e | e | e <;> subst e <;> first | exact Nat.le_add_right _ _ | exact Nat.le_refl _
      exact I1.fpOk hle (I1.hok.fresh hle)
/-- its loop, both as long as the shorter -/
theorem for_mix {K : PySem.W.Frag} {a b : Addr} {us ws : List V} {g : TG} {tb : TS} {D : Ends} {σ : L2.St} {H : Hp} (Pv : Nat → L2.St → Hp → Prop) (h0 : Pv 0 σ H) (hq : ∀ k σ H, Pv k σ H → SqT K H a us ∧ SqL K H b ws)
    (hs : ∀ (k : Nat) (x y : V) (t : Addr) (σ : L2.St) (H : Hp), us[k]? = some x → ws[k]? = some y → Pv k σ H → H t = none → g (.ref t) σ (upd H t (.tup [x, y])) fun σ2 H2 => tb { D with nx := Pv (k + 1), ct := Pv (k + 1), bk := D.nx } σ2 H2)
    (hd : ∀ k σ H, k ≤ us.length → k ≤ ws.length → (k = us.length ∨ k = ws.length) → Pv k σ H → D.nx σ H) :
    ∃ W : Nat → Nat → L2.St → Hp → Prop, (∃ m, W 0 m σ H) ∧ ∀ k m σ H, W k m σ H →
      ((MixIt K a b).stop k H ∧ D.nx σ H) ∨ ((MixIt K a b).go k H ∧ ∃ N : L2.St → Hp → Prop, (∀ σ' H', N σ' H' → ∃ m', m' < m ∧ W (k + 1) m' σ' H') ∧ ∀ v H', (MixIt K a b).yld k H v H' → g v σ H' fun σ2 H2 => tb { D with nx := N, ct := N, bk := D.nx } σ2 H2) := by
  refine ⟨fun k m σ H => k + m = us.length ∧ k ≤ ws.length ∧ Pv k σ H, ⟨us.length, Nat.zero_add _, Nat.zero_le _, h0⟩, ?_⟩
  rintro k m σ H ⟨e, hk, pv⟩
  obtain ⟨qa, qb⟩ := hq k σ H pv
  by_cases hc : k < us.length ∧ k < ws.length
  · refine Or.inr ⟨⟨us, ws, us[k]'hc.1, ws[k]'hc.2, qa, qb, List.getElem?_eq_getElem _, List.getElem?_eq_getElem _⟩, Pv (k + 1), fun σ' H' p' => ⟨m - 1, by omega, by omega, by omega, p'⟩, ?_⟩
    rintro v H' ⟨t, x, y, ht, rfl, rfl, f1, f2⟩
    exact hs k x y t σ H (f1 us qa) (f2 ws qb) pv ht
  · exact Or.inl ⟨⟨us, ws, qa, qb, by omega, hk, by omega⟩, hd k σ H (by omega) hk (by omega) pv⟩
end NB

set_option Elab.async false
set_option maxRecDepth 100000
set_option maxHeartbeats 4000000
/-! Words for the least numbers: lists of ints compared, lists of lists, promises. -/
namespace NB
open PySem L2
theorem ints_dat {K : PySem.W.Frag} {H : Hp} : ∀ ns : List Int, DpAll K H (ns.map V.int) (ns.map PyData.int)
  | [] => .nil
  | n :: r => .cons (.int n) (ints_dat r)
theorem shaped_ints (ns : List Int) : SeqAt.shaped (.list (ns.map PyData.int)) = true := by
  have h1 : ∀ ns : List Int, PyData.canLayAll0 (ns.map PyData.int) = true := fun ns => by
    induction ns with
    | nil => rfl
    | cons n r ih => rw [List.map_cons, PyData.canLayAll0, ih]; rfl
  have h2 : ∀ ns : List Int, PyData.depthAll (ns.map PyData.int) ≤ 2 := fun ns => by
    induction ns with
    | nil => decide
    | cons n r ih =>
      rw [List.map_cons]
      simp only [PyData.depthAll, PyData.depth] at *
      omega
  unfold SeqAt.shaped
  rw [Bool.and_eq_true]
  have h3 := h2 ns
  refine ⟨?_, decide_eq_true ?_⟩
  · simp only [PyData.canLay0]
    exact h1 ns
  · simp only [PyData.depth]
    omega
theorem rd_eqI {K : PySem.W.Frag} {H : Hp} {a b : Addr} {ns ms : List Int} {Q : VK} (h1 : SqL K H a (ns.map V.int)) (h2 : SqL K H b (ms.map V.int)) (q : Q (.bl (decide (ns = ms))) H) : rEqD K (.ref a) (.ref b) H Q :=
  ⟨_, _, .lst h1 (ints_dat ns), .lst h2 (ints_dat ms), shaped_ints ns, shaped_ints ms, by rw [PyData.eqv, PySem.W.ked_eqvAll]; exact q⟩
theorem rd_neI {K : PySem.W.Frag} {H : Hp} {a b : Addr} {ns ms : List Int} {Q : VK} (h1 : SqL K H a (ns.map V.int)) (h2 : SqL K H b (ms.map V.int)) (q : Q (.bl (!decide (ns = ms))) H) : rNeD K (.ref a) (.ref b) H Q :=
  ⟨_, _, .lst h1 (ints_dat ns), .lst h2 (ints_dat ms), shaped_ints ns, shaped_ints ms, by rw [PyData.eqv, PySem.W.ked_eqvAll]; exact q⟩
theorem cut_tail (p : Int) (ps : List Int) : cutV ((p :: ps).map V.int) (some 1) none = ps.map V.int := by
  unfold cutV
  rw [show HT.sIx ((p :: ps).map V.int).length 0 (some 1) = 1 by
    rw [show (1 : Int) = ((1 : Nat) : Int) from rfl, HT.sIx_nat]
    rw [List.length_map, List.length_cons]
    omega, HT.sIx_none]
  rw [List.map_cons, List.drop_one, List.tail_cons]
  exact List.take_of_length_le (by simp)
def oV : Option Int → V
  | none => .non
  | some r => .int r
/-- lists of ints, new against H0, in the list at p -/
def LW (H0 H : Hp) (p : Addr) (ws : List (List Int)) : Prop := ∃ xs, H p = some (.lst xs) ∧ Paired (fun x (w : List Int) => ∃ t, x = V.ref t ∧ H0 t = none ∧ t ≠ p ∧ H t = some (.lst (w.map V.int))) xs ws
theorem LW.same {H0 H H' : Hp} {p : Addr} {ws : List (List Int)} (e : Same H H') (h : LW H0 H p ws) : LW H0 H' p ws := by
  obtain ⟨xs, g, r⟩ := h
  exact ⟨xs, e _ _ g, Paired.mapP r fun _ _ ⟨t, a, b, c, d⟩ => ⟨t, a, b, c, e _ _ d⟩⟩
def spLeastFrom (K : PySem.W.Frag) (n : Nat) : Sp := fun vs H Q _ => ∃ (many most : Int) (a : Addr) (ps : List Int), vs = [.int many, .ref a, .int most] ∧ SqL K H a (ps.map V.int) ∧ ps.length ≤ n ∧ (∀ p ∈ ps, 1 ≤ p ∧ p ≤ 17) ∧ 1 ≤ many ∧ many ≤ 60 ∧ 0 ≤ most ∧ most ≤ 60 ∧
  ∀ H', Same H H' → Q (oV (leastF ps many most)) H'
def spLeastWith : Sp := fun vs H Q _ => ∃ m : Nat, vs = [.int (m : Int)] ∧ 1 ≤ m ∧ m < 61 ∧ ∀ r H', leastF prs m m = some r → Same H H' → Q (.int r) H'
def spWays (n : Nat) : Sp := fun vs H Q _ => ∃ many most : Int, vs = [.int many, .int most] ∧ 1 ≤ many ∧ many ≤ 60 ∧ many < 2 ^ (n + 1) ∧ 1 ≤ most ∧ most ≤ 60 ∧ ∀ p H', Same H H' → H p = none → LW H H' p (waysF n many most) → Q (.ref p) H'
def spLLeast : Sp := fun vs H Q _ => ∃ m : Nat, vs = [.int (m : Int)] ∧ 1 ≤ m ∧ m < 61 ∧ ∀ r H', r ∈ prodsF m → (∀ x ∈ prodsF m, r ≤ x) → Same H H' → Q (.int r) H'
theorem paired_get {α β : Type} {R : α → β → Prop} : ∀ {l : List α} {m : List β} {i : Nat} {x : α}, Paired R l m → l[i]? = some x → ∃ y, m[i]? = some y ∧ R x y
  | _, _, i, _, .nil, e => by simp at e
  | _, _, 0, _, .cons a t, e => by simp at e; subst e; exact ⟨_, rfl, a⟩
  | _, _, i + 1, x, .cons a t, e => by
    obtain ⟨p, h1, h2⟩ := paired_get (i := i) (x := x) t (by simpa using e)
    exact ⟨p, by simpa using h1, h2⟩
theorem Vals_app {α β : Type} {R : α → β → Prop} : ∀ {xs ys : List α} {ps qs : List β}, Paired R xs ps → Paired R ys qs → Paired R (xs ++ ys) (ps ++ qs)
  | _, _, _, _, .nil, h => h
  | _, _, _, _, .cons a t, h => .cons a (Vals_app t h)
end NB

set_option Elab.async false
set_option maxRecDepth 100000
namespace NB
open PySem L2
def topS (i : Nat) : Stmt := PySem.Challenge.pw_neighboursums_k05_whole_least_with.main.body.getD i (.Pass ⟨0, 0, 0, 0⟩)
end NB

set_option Elab.async false
set_option maxRecDepth 100000
set_option maxHeartbeats 4000000
set_option linter.unusedVariables false
namespace NB
open PySem L2
section
variable {P : Program} {w : World} {K : PySem.W.Frag} {mg : Str → Option Value} {base : Heap}
/-! ### the law's helpers -/
abbrev s__law_cell_at : Stmt := topS 10
theorem sc__law_cell_at : FnScope ["_law_script", "_law_k"] ["_law_script", "_law_k"] (defScope s__law_cell_at) := ⟨rfl, rfl, rfl, by decide +kernel, rfl, by decide +kernel, by decide +kernel⟩
theorem ok__law_cell_at {f : Addr} {fd : FuncData} (F : Fun K "_law_cell_at" "_law_cell_at" s__law_cell_at f fd) (B : Bt mg) : FnOk P w K mg base CX0 1 f fd ["_law_script", "_law_k"] (spCellAt K) := by
  refine F.ok sc__law_cell_at (fun vs H Q E h => ?_) (fun cdv A outer s H vs Q E hr h => ?_)
  · obtain ⟨_, _, _, rfl, _⟩ := h
    rfl
  · obtain ⟨a, ns, k, rfl, hS, hb, h0, hk, q⟩ := h
    refine ⟨_, (pss_cons (ps_if (pt_cmpR op_lt (pv 1) (pe_callB call_len_seq (by rfl) B.len_ (by decide +kernel) (pa_cons (pv 0) pa_nil)) (nomark _)) (pss_one (ps_ret (pe_ix (r := rIxL K) ix_list (pv 0) (pv 1) (fun _ _ => rfl)))) pss_nil)
      (pss_one (ps_ret pe_int))), ?_⟩
    refine ⟨_, rfl, _, rfl, a, _, rfl, .inl hS, _, _, rfl, rfl, _, rfl, ?_⟩
    refine ite2 (fun hc => ?_) fun hc => ?_
    · have hc : k < ns.length := by
        have := of_decide_eq_true hc
        rwa [List.length_map] at this
      obtain ⟨z, hz, e⟩ := at_int h0 hc
      exact ⟨_, rfl, _, rfl, a, _, _, _, rfl, rfl, hS, e, q z (hb z hz)⟩
    · exact q 0 (by decide)
abbrev s__law_draw : Stmt := topS 11
theorem sc__law_draw : FnScope ["_law_cell", "_law_k", "_law_many", "_law_primes"] ["_law_cell", "_law_k", "_law_many"] (defScope s__law_draw) := ⟨rfl, rfl, rfl, by decide +kernel, rfl, by decide +kernel, by decide +kernel⟩
theorem ok__law_draw {f : Addr} {fd : FuncData} (F : Fun K "_law_draw" "_law_draw" s__law_draw f fd) : FnOk P w K mg base CX0 1 f fd ["_law_cell", "_law_k", "_law_many"] spDraw := by
  refine F.ok sc__law_draw (fun vs H Q E h => ?_) (fun cdv A outer s H vs Q E hr h => ?_)
  · obtain ⟨_, _, _, rfl, _⟩ := h
    rfl
  · obtain ⟨c, k, m, rfl, h0, hm, q⟩ := h
    refine ⟨_, (pss_cons (ps_set (i := 3) sc__law_draw.nd rfl (Or.inl rfl) (pe_tup (pa_cons pe_int (pa_cons pe_int (pa_cons pe_int (pa_cons pe_int (pa_cons pe_int (pa_cons pe_int (pa_cons pe_int (pa_cons pe_int (pa_cons pe_int (pa_cons pe_int (pa_cons pe_int (pa_cons pe_int (pa_cons pe_int (pa_cons pe_int (pa_cons pe_int (pa_cons pe_int pa_nil))))))))))))))))))
      (pss_one (ps_ret (pe_op op_mod (pe_op op_mod (pe_op op_add (pe_op op_mul (pv 0) pe_int) (pe_op op_mul (pv 1) pe_int)) (pe_ix (r := rIxT K) ix_tup (pv 3) (pe_op op_mod (pv 1) pe_int) (fun _ _ => rfl))) (pv 2))))), ?_⟩
    refine ⟨(by show 16 ≤ sizeLine; decide), fun p np => ?_⟩
    obtain ⟨r, hr0, er⟩ := prime_at (i := k % 16) (by omega) (by omega)
    refine ⟨_, rfl, _, _, rfl, rfl, .inr ⟨by decide, by decide⟩, _, rfl, _, _, rfl, rfl, .inr ⟨by decide, by decide⟩, _, _, rfl, rfl, _, rfl, _, rfl, _, _, rfl, rfl, (by show (0 : Int) < 16; decide), p, _, _, _, rfl, rfl, SqT.of upd_same, er, _, _, rfl, rfl, hr0, _, rfl, _, _, rfl, rfl, hm, ?_⟩
    exact q _ _ (Int.emod_nonneg _ (by omega)) (Int.emod_lt_of_pos _ hm) (Same.new np)
abbrev s__law_value : Stmt := topS 12
theorem sc__law_value : FnScope ["_law_cell", "_law_turn", "_law_mixed"] ["_law_cell", "_law_turn"] (defScope s__law_value) := ⟨rfl, rfl, rfl, by decide +kernel, rfl, by decide +kernel, by decide +kernel⟩
theorem ok__law_value {f : Addr} {fd : FuncData} (F : Fun K "_law_value" "_law_value" s__law_value f fd) (C__law_draw : Callee P w K mg base 1 "_law_draw" ["_law_cell", "_law_k", "_law_many"] spDraw) : FnOk P w K mg base CX0 2 f fd ["_law_cell", "_law_turn"] spValue := by
  refine F.ok sc__law_value (fun vs H Q E h => ?_) (fun cdv A outer s H vs Q E hr h => ?_)
  · obtain ⟨_, _, rfl, _⟩ := h
    rfl
  · obtain ⟨c, t, rfl, hb, h0, ht, q⟩ := h
    obtain ⟨f__law_draw, fd__law_draw, m__law_draw, k__law_draw, b__law_draw, G__law_draw⟩ := C__law_draw
    refine ⟨_, (pss_cons (ps_if (pt_cmpR op_ge (pv 0) (pe_op op_pow pe_int pe_int) (nomark _)) (pss_one (ps_ret (pe_op op_shr (pe_op op_sub (pv 0) (pe_op op_pow pe_int pe_int)) (pe_op op_mul pe_int (pv 1))))) pss_nil)
      (pss_cons (ps_set (i := 2) sc__law_value.nd rfl (Or.inl rfl) (pe_call G__law_draw (hr.mono (by decide)) rfl m__law_draw k__law_draw b__law_draw .nil pass0 (pa_cons (pe_op op_mulX (pe_op op_add (pv 0) (pe_op op_mul pe_int (pv 1))) (pe_op op_add (pe_op op_add (pv 0) (pe_op op_mul pe_int (pv 1))) pe_int)) (pa_cons (pe_op op_add (pe_op op_mod (pv 1) pe_int) pe_int) (pa_cons pe_int pa_nil)))))
      (pss_one (ps_ret (pe_op op_add (pe_op op_mul (pv 2) pe_int) (pe_call G__law_draw (hr.mono (by decide)) rfl m__law_draw k__law_draw b__law_draw .nil pass0 (pa_cons (pe_op op_add (pe_op op_mulX (pe_op op_add (pv 0) (pe_op op_mul pe_int (pv 1))) (pe_op op_add (pv 0) pe_int)) (pe_op op_mul pe_int (pv 1))) (pa_cons (pe_op op_add (pe_op op_mod (pv 1) pe_int) pe_int) (pa_cons pe_int pa_nil))))))))), ?_⟩
    refine ⟨_, rfl, _, _, rfl, rfl, ⟨by decide, by decide, by decide⟩, _, _, rfl, rfl, _, rfl, ?_⟩
    refine ite2 (fun hc => ?_) fun hc => ?_
    · have e18 : (10 : Int) ^ Int.toNat 18 = 1000000000000000000 := by decide
      have hc : (10 : Int) ^ Int.toNat 18 ≤ c := of_decide_eq_true hc
      refine ⟨_, rfl, _, _, rfl, rfl, ⟨by decide, by decide, by decide⟩, _, _, rfl, rfl, _, rfl, _, _, rfl, rfl, .inl ⟨by decide, by decide⟩, _, _, rfl, rfl, (show 0 ≤ 3 * t by omega), ?_⟩
      have hp : (0 : Int) < 2 ^ (3 * t).toNat := PySem.W.kbt_pos _
      have hz : 0 ≤ c - (10 : Int) ^ Int.toNat 18 := by omega
      have hz2 : c - (10 : Int) ^ Int.toNat 18 ≤ c := by rw [e18]; omega
      refine q ((c - (10 : Int) ^ Int.toNat 18) / 2 ^ (3 * t).toNat) _ (Int.ediv_nonneg hz (by omega)) ?_ (Same.refl _)
      generalize c - (10 : Int) ^ Int.toNat 18 = d at hz hz2
      have hq := Int.ediv_nonneg hz (show (0 : Int) ≤ 2 ^ (3 * t).toNat by omega)
      have hq2 := Int.ediv_le_self (2 ^ (3 * t).toNat) hz
      exact Nat.le_trans (PySem.intBits_le_of_natAbs (y := c) (by omega) hb) (by decide)
    · have l0 : ib (977 * t) ≤ 64 := ib_of (by omega)
      have l1 : ib (31 * t) ≤ 64 := ib_of (by omega)
      have b1 := ib_add hb l0
      have b2 := ib_add hb l1
      have b3 := ib_add b2 (show ib 5 ≤ 64 by decide)
      have b4 := ib_add hb (show ib 7 ≤ 64 by decide)
      refine ⟨_, rfl, _, rfl, _, _, rfl, rfl, .inl ⟨by decide, by decide⟩, _, _, rfl, rfl, _, rfl, _, rfl, _, _, rfl, rfl, .inl ⟨by decide, by decide⟩, _, _, rfl, rfl, _, _, rfl, rfl, _, _, rfl, rfl, mulx b1 b3 (by decide), _, rfl, _, _, rfl, rfl, (by show (0 : Int) < 9; decide), _, _, rfl, rfl, _, _, _, rfl, (show 0 ≤ t % 9 + 1 by omega), by decide, fun r H1 r0 r1 s1 => ?_⟩
      refine ⟨_, rfl, _, _, rfl, rfl, .inr ⟨by decide, by decide⟩, _, rfl, _, rfl, _, _, rfl, rfl, .inl ⟨by decide, by decide⟩, _, _, rfl, rfl, _, rfl, _, _, rfl, rfl, _, _, rfl, rfl, mulx b2 b4 (by decide), _, rfl, _, _, rfl, rfl, .inl ⟨by decide, by decide⟩, _, _, rfl, rfl, _, rfl, _, _, rfl, rfl, (by show (0 : Int) < 7; decide), _, _, rfl, rfl, _, _, _, rfl, (show 0 ≤ t % 7 + 2 by omega), by decide, fun r' H2 r0' r1' s2 => ?_⟩
      refine ⟨_, _, rfl, rfl, ?_⟩
      exact q _ _ (show 0 ≤ r * 1000003 + r' by omega) (Nat.le_trans (ib_of (m := 64) (by omega)) (by decide)) (s1.trans s2)
end
end NB

set_option Elab.async false
set_option maxRecDepth 100000
set_option maxHeartbeats 4000000
set_option linter.unusedVariables false
namespace NB
open PySem L2
section
variable {P : Program} {w : World} {K : PySem.W.Frag} {mg : Str → Option Value} {base : Heap}
abbrev s__law_high : Stmt := topS 14
theorem sc__law_high : FnScope ["_law_number", "_law_found", "_law_length", "_law_left"] ["_law_number"] (defScope s__law_high) := ⟨rfl, rfl, rfl, by decide +kernel, rfl, by decide +kernel, by decide +kernel⟩
theorem ok__law_high {f : Addr} {fd : FuncData} (F : Fun K "_law_high" "_law_high" s__law_high f fd) : FnOk P w K mg base CX0 1 f fd ["_law_number"] spHigh := by
  refine F.ok sc__law_high (fun vs H Q E h => ?_) (fun cdv A outer s H vs Q E hr h => ?_)
  · obtain ⟨n, rfl, _⟩ := h
    rfl
  · obtain ⟨n, rfl, hn, hn2, q⟩ := h
    refine ⟨_, (pss_cons (ps_par (i := 1) (j := 2) rfl sc__law_high.nd rfl rfl (by decide) rfl rfl (pa_cons (pe_lst pa_nil) (pa_cons pe_int pa_nil)) (by rfl))
      (pss_cons (ps_while PassesOwn.never (pt_cmpR op_le (pe_op op_fdiv (pe_op op_mul (pv 2) (pe_op op_add (pv 2) pe_int)) pe_int) (pv 0) (nomark _))
        (pss_cons (ps_set (i := 3) sc__law_high.nd rfl (Or.inl rfl) (pe_op op_sub (pv 0) (pe_op op_fdiv (pe_op op_mul (pv 2) (pe_op op_sub (pv 2) pe_int)) pe_int)))
        (pss_cons (ps_if (pt_cmpR op_eq (pe_op op_mod (pv 3) (pv 2)) pe_int (nomark _)) (pss_one (ps_expr (pe_bm PySem.F.plainAttrs_list PySem.F.slot_list_append PySem.F.type_list_append mt_append (pv 1) (pa_cons (pe_tup (pa_cons (pe_op op_fdivW (pv 3) (pv 2)) (pa_cons (pe_op op_sub (pe_op op_add (pe_op op_fdivW (pv 3) (pv 2)) (pv 2)) pe_int) pa_nil))) pa_nil)))) pss_nil)
        (pss_one (ps_set (i := 2) sc__law_high.nd rfl (Or.inl rfl) (pe_op op_add (pv 2) pe_int))))))
      (pss_one (ps_ret (pe_revL (pv 1)))))), ?_⟩
    refine ⟨(by show 0 ≤ sizeLine; decide), fun p1 np1 => ⟨_, _, rfl, ?_⟩⟩
    refine while_nat 1500 (fun k σ H' => ∃ x xs, σ = [some (.int n), some (.ref p1), some (.int ((k + 1 : Nat) : Int)), x] ∧ (k : Int) * ((k : Int) + 1) / 2 ≤ n ∧ Same H H' ∧ H' p1 = some (.lst xs) ∧ PL H' xs (acc n k) ∧ xs.length ≤ k) ⟨_, [], rfl, by show (0 : Int) ≤ n; omega, Same.new np1, upd_same, .nil, Nat.le_refl _⟩ ?_
    rintro k m σ H' e ⟨x, xs, rfl, hk, hS, h1, hp, hlen⟩
    have kb : k < 1500 := by
      refine Decidable.byContradiction fun hc => ?_
      have := tri_mono (a := 1500) (b := (k : Int)) (by decide) (by omega)
      omega
    have ec : ((k + 1 : Nat) : Int) = (k : Int) + 1 := by omega
    refine ⟨_, rfl, _, rfl, _, _, rfl, rfl, _, _, rfl, rfl, .inl ⟨by omega, by omega⟩, _, _, rfl, rfl, ⟨by decide, by decide⟩, _, rfl, _, _, rfl, rfl, _, rfl, ?_⟩
    refine ite2 (fun ht => ?_) fun ht => ?_
    · have ht := of_decide_eq_true ht
      refine ⟨_, turn_nat _ e kb, ?_⟩
      refine ⟨_, rfl, _, rfl, _, rfl, _, _, rfl, rfl, _, _, rfl, rfl, .inl ⟨by omega, by omega⟩, _, _, rfl, rfl, ⟨by decide, by decide⟩, _, _, rfl, rfl, ?_⟩
      refine ⟨_, rfl, _, rfl, _, _, rfl, rfl, (show (0 : Int) < ((k + 1 : Nat) : Int) by omega), rfl, _, rfl, ?_⟩
      by_cases hd : (n - ((k + 1 : Nat) : Int) * (((k + 1 : Nat) : Int) - 1) / 2) % ((k + 1 : Nat) : Int) = 0
      · refine iteD (congrArg V.int hd) ?_
        have wd : CDivW (n - ((k + 1 : Nat) : Int) * (((k + 1 : Nat) : Int) - 1) / 2) ((k + 1 : Nat) : Int) := wide_div (b := 64) (by omega) (by omega) (by decide) (by decide)
        refine ⟨_, rfl, .inl ⟨rfl, _, SqL.of h1⟩, _, rfl, _, rfl, _, _, rfl, rfl, wd, _, rfl, _, rfl, _, _, rfl, rfl, wd, _, rfl, _, _, rfl, rfl, _, _, rfl, rfl, (by show 2 ≤ sizeLine; decide), fun p np => ?_⟩
        have n1p : p1 ≠ p := ne_of_none h1 np
        refine ⟨p1, _, _, rfl, rfl, by rw [upd_ne n1p]; exact h1, small1000' (by omega), ?_⟩
        refine ⟨_, rfl, _, _, rfl, rfl, ?_⟩
        have g1 : (upd H' p (.tup [.int ((n - ((k + 1 : Nat) : Int) * (((k + 1 : Nat) : Int) - 1) / 2) / ((k + 1 : Nat) : Int)), .int ((n - ((k + 1 : Nat) : Int) * (((k + 1 : Nat) : Int) - 1) / 2) / ((k + 1 : Nat) : Int) + ((k + 1 : Nat) : Int) - 1)])) p1 = some (.lst xs) := by rw [upd_ne n1p]; exact h1
        have er : rowOf n ((k + 1 : Nat) : Int) = some ((n - ((k + 1 : Nat) : Int) * (((k + 1 : Nat) : Int) - 1) / 2) / ((k + 1 : Nat) : Int), (n - ((k + 1 : Nat) : Int) * (((k + 1 : Nat) : Int) - 1) / 2) / ((k + 1 : Nat) : Int) + ((k + 1 : Nat) : Int) - 1) := by unfold rowOf; rw [if_pos hd]
        refine ⟨_, _, rfl, ?_, Same.mut (hS.trans (Same.new np)) np1, upd_same, ?_, ?_⟩
        · rw [ec] at ht ⊢
          exact ht
        · rw [acc_some er]
          have same : ∀ (H2 : Hp) o x q, H2 p1 = some (.lst xs) → IsP H2 x q → IsP (upd H2 p1 (.lst o)) x q := fun H2 o x q z ⟨t, e, h⟩ => ⟨t, e, by rw [upd_ne (ne_of h z (fun z => nomatch z))]; exact h⟩
          exact PL.append (Paired.mapP (hp.same (Same.new np)) fun x q => same _ _ x q g1) (.cons (same _ _ _ _ g1 ⟨p, rfl, upd_same⟩) .nil)
        · rw [List.length_append]
          simp only [List.length_cons, List.length_nil]
          omega
      · refine iteDN (fun z => hd (V.int.inj z)) ?_
        have er : rowOf n ((k + 1 : Nat) : Int) = none := by unfold rowOf; rw [if_neg hd]
        refine ⟨_, rfl, _, _, rfl, rfl, ?_⟩
        refine ⟨_, xs, rfl, ?_, hS, h1, ?_, by omega⟩
        · rw [ec] at ht ⊢
          exact ht
        · rw [acc_none er]
          exact hp
    · have ht : ¬ (((k + 1 : Nat) : Int) * (((k + 1 : Nat) : Int) + 1) / 2 ≤ n) := fun z => ht (decide_eq_true z)
      rw [ec] at ht
      refine ⟨_, rfl, p1, xs, rfl, SqL.of h1, fun p np => ?_⟩
      refine q _ p _ (acc_rows hk (by omega)) ?_ (hS.trans (Same.new np)) (hS.free np) ⟨_, upd_same, (hp.same (Same.new np)).reverse⟩
      rw [List.length_reverse, ← hp.length]
      omega
end
end NB

set_option Elab.async false
set_option maxRecDepth 100000
set_option maxHeartbeats 4000000
set_option linter.unusedVariables false
namespace NB
open PySem L2
section
variable {P : Program} {w : World} {K : PySem.W.Frag} {mg : Str → Option Value} {base : Heap}
abbrev s__law_whole : Stmt := topS 13
theorem sc__law_whole : FnScope ["_law_number"] ["_law_number"] (defScope s__law_whole) := ⟨rfl, rfl, rfl, by decide +kernel, rfl, by decide +kernel, by decide +kernel⟩
theorem ok__law_whole {f : Addr} {fd : FuncData} (F : Fun K "_law_whole" "_law_whole" s__law_whole f fd) (B : Bt mg) : FnOk P w K mg base CX0 1 f fd ["_law_number"] spWhole := by
  refine F.ok sc__law_whole (fun vs H Q E h => ?_) (fun cdv A outer s H vs Q E hr h => ?_)
  · obtain ⟨i, rfl, _⟩ := h
    rfl
  · obtain ⟨i, rfl, q⟩ := h
    refine ⟨_, (pss_one (ps_ret (pe_and (pe_callB call_isi (by rfl) B.isinstance_ (by decide +kernel) (pa_cons (pv 0) (pa_cons (pe_bltn (v := .ty "int") (by rfl) B.int_ (by decide +kernel) rfl) pa_nil))) (pe_one (pe_not (pe_callB call_isi (by rfl) B.isinstance_ (by decide +kernel) (pa_cons (pv 0) (pa_cons (pe_bltn (v := .ty "bool") (by rfl) B.bool_ (by decide +kernel) rfl) pa_nil)))))))), ?_⟩
    refine ⟨_, rfl, _, _, _, _, true, rfl, .ty "int", .base (.int i), kit_ty (by decide +kernel), true, rfl, iteT ?_⟩
    exact ⟨_, rfl, _, _, _, _, false, rfl, .ty "bool", .base (.int i), kit_ty (by decide +kernel), false, rfl, q⟩
end
end NB

set_option Elab.async false
set_option maxRecDepth 100000
set_option maxHeartbeats 4000000
set_option linter.unusedVariables false
namespace NB
open PySem L2
section
variable {P : Program} {w : World} {K : PySem.W.Frag} {mg : Str → Option Value} {base : Heap}
/-! ### is_whole, check_number -/
abbrev s_is_whole : Stmt := topS 4
theorem sc_is_whole : FnScope ["thing"] ["thing"] (defScope s_is_whole) := ⟨rfl, rfl, rfl, by decide +kernel, rfl, by decide +kernel, by decide +kernel⟩
theorem ok_is_whole {f : Addr} {fd : FuncData} (F : Fun K "is_whole" "is_whole" s_is_whole f fd) (B : Bt mg) : FnOk P w K mg base CX0 1 f fd ["thing"] spWhole := by
  refine F.ok sc_is_whole (fun vs H Q E h => ?_) (fun cdv A outer s H vs Q E hr h => ?_)
  · obtain ⟨i, rfl, _⟩ := h
    rfl
  · obtain ⟨i, rfl, q⟩ := h
    refine ⟨_, (pss_one (ps_ret (pe_and (pe_callB call_isi (by rfl) B.isinstance_ (by decide +kernel) (pa_cons (pv 0) (pa_cons (pe_bltn (v := .ty "int") (by rfl) B.int_ (by decide +kernel) rfl) pa_nil))) (pe_one (pe_not (pe_callB call_isi (by rfl) B.isinstance_ (by decide +kernel) (pa_cons (pv 0) (pa_cons (pe_bltn (v := .ty "bool") (by rfl) B.bool_ (by decide +kernel) rfl) pa_nil)))))))), ?_⟩
    refine ⟨_, rfl, _, _, _, _, true, rfl, .ty "int", .base (.int i), kit_ty (by decide +kernel), true, rfl, iteT ?_⟩
    exact ⟨_, rfl, _, _, _, _, false, rfl, .ty "bool", .base (.int i), kit_ty (by decide +kernel), false, rfl, q⟩
end
end NB

set_option Elab.async false
set_option maxRecDepth 100000
set_option maxHeartbeats 4000000
set_option linter.unusedVariables false
namespace NB
open PySem L2
section
variable {P : Program} {w : World} {K : PySem.W.Frag} {mg : Str → Option Value} {base : Heap}
/-! ### the program's search -/
abbrev s_least_from : Stmt := topS 7
theorem sc_least_from : FnScope ["many", "primes", "most", "best", "often", "rest", "found", "turn"] ["many", "primes", "most"] (defScope s_least_from) := ⟨rfl, rfl, rfl, by decide +kernel, rfl, by decide +kernel, by decide +kernel⟩
theorem ok_least_none {f : Addr} {fd : FuncData} (F : Fun K "least_from" "least_from" s_least_from f fd) : FnOk P w K mg base CX0 1 f fd ["many", "primes", "most"] (fun _ _ _ _ => False) :=
  F.ok sc_least_from (fun vs H Q E h => h.elim) (fun cdv A outer s H vs Q E hr h => h.elim)
theorem ok_least_step {f : Addr} {fd : FuncData} (F : Fun K "least_from" "least_from" s_least_from f fd) (B : Bt mg) (m_least_from : mg "least_from" = some (.ref f)) (b_least_from : Binds K fd ["many", "primes", "most"] []) {j : Nat} {spG : Sp} (G_least_from : FnOk P w K mg base CX0 j f fd ["many", "primes", "most"] spG) (n : Nat)
    (hG : ∀ vs H Q E, 1 ≤ n → spLeastFrom K (n - 1) vs H Q E → spG vs H Q E) : FnOk P w K mg base CX0 (j + 1) f fd ["many", "primes", "most"] (spLeastFrom K n) := by
  have k_least_from := F.kp
  refine F.ok sc_least_from (fun vs H Q E h => ?_) (fun cdv A outer s H vs Q E hr h => ?_)
  · obtain ⟨_, _, _, _, rfl, _⟩ := h
    rfl
  · obtain ⟨many, most, a, ps, rfl, hS, hlen, hps, m1, m2, t1, t2, q⟩ := h
    refine ⟨_, (pss_cons (ps_if (pt_cmpR op_eq (pv 0) pe_int (nomark _)) (pss_one (ps_ret pe_int)) pss_nil)
      (pss_cons (ps_set (i := 3) sc_least_from.nd rfl (Or.inl rfl) pe_non)
      (pss_cons (ps_for PassesOwn.never rfl (pi_range2 rfl B.range_ (pa_cons pe_int (pa_cons (pe_op op_add (pv 2) pe_int) pa_nil))) (pg_name (i := 4) sc_least_from.nd rfl (.inl rfl))
        (pss_one (ps_if (PW.pt (pw_and (pt_cmpR op_eq (pe_op op_mod (pv 0) (pe_op op_add (pv 4) pe_int)) pe_int (nomark _)) (pw_and1 (pt_cmpR (r := rNeD K) (op_neD hr.units) (pv 1) (pe_lst pa_nil) (nomark _))))) (pss_cons (ps_set (i := 5) sc_least_from.nd rfl (Or.inl rfl) (pe_call G_least_from (hr.mono (Nat.le_refl _)) rfl m_least_from k_least_from b_least_from .nil pass0 (pa_cons (pe_op op_fdivW (pv 0) (pe_op op_add (pv 4) pe_int)) (pa_cons (pe_slice sl_list (pv 1) (po_some pe_int) po_none) (pa_cons (pv 4) pa_nil)))))
          (pss_one (ps_if (pt_cmpR op_notN (pv 5) pe_non (nomark _)) (pss_cons (ps_set (i := 6) sc_least_from.nd rfl (Or.inl rfl) (pv 5))
            (pss_cons (ps_for PassesOwn.never rfl (pi_range1 rfl B.range_ (pa_cons (pv 4) pa_nil)) (pg_name (i := 7) sc_least_from.nd rfl (.inl rfl))
              (pss_one (ps_set (i := 6) sc_least_from.nd rfl (Or.inl rfl) (pe_op op_mul (pv 6) (pe_ix (r := rIxL K) ix_list (pv 1) pe_int (fun _ _ => rfl))))))
            (pss_one (ps_set (i := 3) sc_least_from.nd rfl (Or.inl rfl) (pe_ifExp (pt_cmpR op_isN (pv 3) pe_non (nomark _)) (pv 6) (pe_callB (call_min2 rfl) (by rfl) B.min_ (by decide +kernel) (pa_cons (pv 3) (pa_cons (pv 6) pa_nil)))))))) pss_nil))) pss_nil)))
      (pss_one (ps_ret (pv 3)))))), ?_⟩
    rw [leastF_eq] at q
    refine ⟨_, rfl, rfl, _, rfl, ?_⟩
    by_cases hm : many = 1
    · refine iteD (congrArg V.int hm) ?_
      rw [if_pos hm] at q
      exact q _ (Same.refl _)
    · refine iteDN (fun x => hm (V.int.inj x)) ?_
      rw [if_neg hm] at q
      have en : (most + 1 - 1).toNat = most.toNat := by congr 1; omega
      refine ⟨_, rfl, _, _, rfl, rfl, 1, most + 1, rfl, ⟨by decide, by decide, by omega, by omega⟩, ?_⟩
      rw [en]
      refine for_range (fun i σ H' => ∃ x4 x5 x6 x7, σ = [some (.int many), some (.ref a), some (.int most), some (oV (foldF ps many i)), x4, x5, x6, x7] ∧ Same H H') ⟨_, _, _, _, by cases ps <;> rfl, Same.refl _⟩ ?_ ?_
      · rintro i σ H1 hi ⟨x4, x5, x6, x7, rfl, s1⟩
        have hi60 : (i : Int) < 60 := by omega
        refine ⟨_, rfl, _, rfl, _, _, rfl, rfl, _, _, rfl, rfl, (show (0 : Int) < 1 + (i : Int) + 1 by omega), rfl, _, rfl, ?_⟩
        have nothing : many % (1 + (i : Int) + 1) ≠ 0 ∨ ps = [] → foldF ps many (i + 1) = foldF ps many i := by
          rintro (h | h)
          · cases ps with
            | nil => rfl
            | cons p r => rw [foldF_succ, lstep, if_neg h]
          · subst h; rfl
        have fin : ∀ (o : Option Int) (x4 x5 x6 x7 : Option V) (H' : Hp), foldF ps many (i + 1) = o → Same H H' → ∃ y4 y5 y6 y7, [some (V.int many), some (V.ref a), some (V.int most), some (oV o), x4, x5, x6, x7] = [some (V.int many), some (V.ref a), some (V.int most), some (oV (foldF ps many (i + 1))), y4, y5, y6, y7] ∧ Same H H' := fun o x4 x5 x6 x7 H' e s => by
          subst e
          exact ⟨_, _, _, _, rfl, s⟩
        by_cases hd : many % (1 + (i : Int) + 1) = 0
        · refine iteD (congrArg V.int hd) ?_
          refine ⟨_, rfl, (by show 0 ≤ sizeLine; decide), fun l nl => ?_⟩
          refine rd_neI (ms := []) (Same.seq (Same.new nl) (Same.seq s1 hS)) (SqL.of upd_same) ⟨_, rfl, ?_⟩
          have s2 := s1.trans (Same.new (o := .lst []) nl)
          generalize upd H1 l (.lst []) = H2 at s2
          cases ps with
          | nil =>
            refine iteNS rfl ?_
            exact fin _ _ _ _ _ _ (nothing (.inr rfl)) s2
          | cons p r =>
            refine iteNN (by simp) ?_
            obtain ⟨hp1, hp2⟩ := hps p List.mem_cons_self
            have hq := Int.mul_ediv_cancel' (Int.dvd_of_emod_eq_zero hd)
            have hq1 : 1 ≤ many / (1 + (i : Int) + 1) := Int.pos_of_mul_pos_right (a := 1 + (i : Int) + 1) (by omega) (by omega)
            have hq2 : many / (1 + (i : Int) + 1) ≤ 60 := Int.le_trans (Int.ediv_le_self (1 + (i : Int) + 1) (by omega)) m2
            have hS2 := Same.seq s2 hS
            refine ⟨_, rfl, _, rfl, _, _, rfl, rfl, _, _, rfl, rfl, wide_div (b := 64) (by omega) (by omega) (by decide) (by decide), _, rfl, 1, rfl, a, _, rfl, hS2, fun p2 np2 => ?_⟩
            rw [cut_tail]
            rw [List.length_cons] at hlen
            refine ⟨_, rfl, hG _ _ _ _ (by omega) ⟨_, _, p2, r, rfl, SqL.of upd_same, by omega, fun x hx => hps x (List.mem_cons_of_mem _ hx), hq1, hq2, by omega, by omega, fun H3 s3 => ?_⟩⟩
            have s03 : Same H H3 := (s2.trans (Same.new np2)).trans s3
            have hS3 := Same.seq s03 hS
            cases hrest : leastF r (many / (1 + (i : Int) + 1)) (1 + (i : Int)) with
            | none =>
              refine ⟨_, rfl, rfl, _, rfl, iteNS rfl ?_⟩
              exact fin (foldF (p :: r) many i) _ _ _ _ _ (by rw [foldF_succ, lstep, if_pos hd, hrest]) s03
            | some rr =>
              refine ⟨_, rfl, rfl, _, rfl, itB rfl ?_⟩
              refine ⟨_, rfl, ?_⟩
              have ei : (1 + (i : Int)).toNat = i + 1 := by omega
              refine ⟨_, rfl, _, rfl, by omega, by omega, ?_⟩
              rw [ei]
              refine for_range (fun j σ H' => ∃ x7, σ = [some (.int many), some (.ref a), some (.int most), some (oV (foldF (p :: r) many i)), some (.int (1 + (i : Int))), some (.int rr), some (.int (rr * p ^ j)), x7] ∧ H' = H3) ⟨_, by rw [Int.pow_zero, Int.mul_one]; rfl, rfl⟩ ?_ ?_
              · rintro j σ H' hj ⟨x7, rfl, rfl⟩
                refine ⟨_, rfl, _, rfl, a, _, 0, _, rfl, rfl, hS3, atI_nat (j := 0) rfl, _, _, rfl, rfl, .inr ⟨by omega, by omega⟩, ?_⟩
                have e2 : rr * p ^ j * p = rr * p ^ (j + 1) := by rw [Int.pow_succ, Int.mul_assoc]
                exact ⟨some (V.int (0 + (j : Int))), congrArg (fun z => [some (V.int many), some (V.ref a), some (V.int most), some (oV (foldF (p :: r) many i)), some (V.int (1 + (i : Int))), some (V.int rr), some (V.int z), some (V.int (0 + (j : Int)))]) e2, rfl⟩
              · rintro σ H' ⟨x7, rfl, rfl⟩
                refine ⟨_, rfl, rfl, _, rfl, ?_⟩
                cases hbest : foldF (p :: r) many i with
                | none =>
                  refine iteD rfl ?_
                  refine ⟨_, rfl, ?_⟩
                  exact fin (some (rr * p ^ (i + 1))) _ _ _ _ _ (by rw [foldF_succ, lstep, if_pos hd, hrest, hbest]) s03
                | some b =>
                  refine iteDN (fun x => nomatch x) ?_
                  refine ⟨_, rfl, _, rfl, _, _, rfl, ?_⟩
                  exact fin (some (if rr * p ^ (i + 1) < b then rr * p ^ (i + 1) else b)) _ _ _ _ _ (by rw [foldF_succ, lstep, if_pos hd, hrest, hbest]) s03
        · refine iteDN (fun x => hd (V.int.inj x)) ?_
          refine iteF ?_
          exact fin _ _ _ _ _ _ (nothing (.inl hd)) s1
      · rintro σ H1 ⟨x4, x5, x6, x7, rfl, s1⟩
        exact ⟨_, rfl, q _ s1⟩
theorem ok_least_from {f : Addr} {fd : FuncData} (F : Fun K "least_from" "least_from" s_least_from f fd) (B : Bt mg) (m_least_from : mg "least_from" = some (.ref f)) (b_least_from : Binds K fd ["many", "primes", "most"] []) : ∀ n : Nat, FnOk P w K mg base CX0 (n + 2) f fd ["many", "primes", "most"] (spLeastFrom K n)
  | 0 => ok_least_step F B m_least_from b_least_from (ok_least_none F) 0 (fun _ _ _ _ h _ => absurd h (by decide))
  | n + 1 => ok_least_step F B m_least_from b_least_from (ok_least_from F B m_least_from b_least_from n) (n + 1) (fun _ _ _ _ _ h => h)
abbrev s_least_with : Stmt := topS 8
theorem sc_least_with : FnScope ["many"] ["many"] (defScope s_least_with) := ⟨rfl, rfl, rfl, by decide +kernel, rfl, by decide +kernel, by decide +kernel⟩
theorem ok_least_with {f : Addr} {fd : FuncData} (F : Fun K "least_with" "least_with" s_least_with f fd) (B : Bt mg) {t : Tok} (m_MOST : mg "MOST" = some (.int 60 t)) (C_is_whole : Callee P w K mg base 1 "is_whole" ["thing"] spWhole) (C_least_from : Callee P w K mg base 8 "least_from" ["many", "primes", "most"] (spLeastFrom K 6)) : FnOk P w K mg base CX0 9 f fd ["many"] spLeastWith := by
  refine F.ok sc_least_with (fun vs H Q E h => ?_) (fun cdv A outer s H vs Q E hr h => ?_)
  · obtain ⟨_, rfl, _⟩ := h
    rfl
  · obtain ⟨m, rfl, h1, h2, q⟩ := h
    obtain ⟨f_is_whole, fd_is_whole, m_is_whole, k_is_whole, b_is_whole, G_is_whole⟩ := C_is_whole
    obtain ⟨f_least_from, fd_least_from, m_least_from, k_least_from, b_least_from, G_least_from⟩ := C_least_from
    refine ⟨_, (pss_cons (ps_if (PW.pt (pw_or (pt_not (pt_val (pe_call G_is_whole (hr.mono (by decide)) rfl m_is_whole k_is_whole b_is_whole .nil pass0 (pa_cons (pv 0) pa_nil)))) (pw_or1 (pt_not (pt_chain op_le op_le pe_int (pv 0) (pe_glob (v := .int 60) rfl m_MOST ⟨_, rfl⟩)))))) (pss_one ps_never) pss_nil)
      (pss_one (ps_ret (pe_call G_least_from (hr.mono (by decide)) rfl m_least_from k_least_from b_least_from .nil pass0 (pa_cons (pv 0) (pa_cons (pe_lst (pa_cons pe_int (pa_cons pe_int (pa_cons pe_int (pa_cons pe_int (pa_cons pe_int (pa_cons pe_int pa_nil))))))) (pa_cons (pv 0) pa_nil))))))), ?_⟩
    refine ⟨_, rfl, _, rfl, _, rfl, iteF ?_⟩
    refine ⟨_, rfl, _, _, rfl, rfl, _, rfl, iteD (show (1 : Int) ≤ (m : Int) by omega) ?_⟩
    refine ⟨_, _, rfl, rfl, _, rfl, ?_⟩
    rw [decide_eq_true (show (m : Int) ≤ 60 by omega)]
    refine iteF ?_
    refine ⟨_, rfl, (by show 6 ≤ sizeLine; decide), fun p np => ⟨_, rfl, ?_⟩⟩
    refine ⟨_, _, p, prs, rfl, SqL.of upd_same, by decide, by decide, by omega, by omega, by omega, by omega, fun H' s' => ?_⟩
    obtain ⟨r, hr, _⟩ := least_ok m h2 h1
    rw [hr]
    exact q r H' hr ((Same.new np).trans s')
end
end NB

set_option Elab.async false
set_option maxRecDepth 100000
set_option maxHeartbeats 4000000
set_option linter.unusedVariables false
namespace NB
open PySem L2
section
variable {P : Program} {w : World} {K : PySem.W.Frag} {mg : Str → Option Value} {base : Heap}
/-! ### the law's ways -/
/-- what happens at i -/
def wayAt (n : Nat) (many : Int) (i : Nat) : List (List Int) := if many % (2 + (i : Int)) = 0 then (waysF n (many / (2 + (i : Int))) (2 + (i : Int))).map fun r => (2 + (i : Int)) :: r else []
def ways0 (many : Int) : List (List Int) := if many = 1 then [[]] else []
def upTo (n : Nat) (many : Int) (k : Nat) : List (List Int) := ways0 many ++ (List.range k).flatMap (wayAt n many)
theorem upTo_succ (n : Nat) (many : Int) (k : Nat) : upTo n many (k + 1) = upTo n many k ++ wayAt n many k := by
  unfold upTo
  rw [List.range_succ, List.flatMap_append, List.append_assoc]
  simp
theorem waysF_succ (n : Nat) (many most : Int) : waysF (n + 1) many most = upTo n many ((if most < many then most else many) + 1 - 2).toNat := rfl
theorem upTo_len {n : Nat} {many : Int} {k : Nat} (h1 : 1 ≤ many) (h2 : many ≤ 60) (hk : k ≤ 60) : (upTo n many k).length ≤ 3601 := by
  unfold upTo
  rw [List.length_append]
  have h3 : ((List.range k).flatMap (wayAt n many)).length ≤ sB many k := flat_len (many := many) (F := fun (i : Nat) => (waysF n (many / (2 + (i : Int))) (2 + (i : Int))).map fun r => (2 + (i : Int)) :: r) fun i hi hd => by
    rw [List.length_map]
    have hq := Int.mul_ediv_cancel' (Int.dvd_of_emod_eq_zero hd)
    have := Int.ediv_le_self (2 + (i : Int)) (show 0 ≤ many by omega)
    exact waysF_len (Int.pos_of_mul_pos_right (a := 2 + (i : Int)) (by omega) (by omega)) (by omega)
  have h4 := sB_mono many hk
  obtain ⟨m, rfl⟩ := Int.eq_ofNat_of_zero_le (show 0 ≤ many by omega)
  have h6 : (ways0 (m : Int)).length ≤ 1 := by unfold ways0; split <;> simp
  by_cases e : m = 1
  · subst e
    have : sB ((1 : Nat) : Int) 60 = 0 := by decide +kernel
    omega
  · have h5 := sB_table m (by omega) (by omega)
    have h7 : m * m ≤ 60 * 60 := Nat.mul_le_mul (by omega) (by omega)
    omega
abbrev s__law_ways : Stmt := topS 15
theorem sc__law_ways : FnScope ["_law_many", "_law_most", "_law_found", "_law_factor", "_law_rest"] ["_law_many", "_law_most"] (defScope s__law_ways) := ⟨rfl, rfl, rfl, by decide +kernel, rfl, by decide +kernel, by decide +kernel⟩
theorem ok_ways_none {f : Addr} {fd : FuncData} (F : Fun K "_law_ways" "_law_ways" s__law_ways f fd) : FnOk P w K mg base CX0 1 f fd ["_law_many", "_law_most"] (fun _ _ _ _ => False) :=
  F.ok sc__law_ways (fun vs H Q E h => h.elim) (fun cdv A outer s H vs Q E hr h => h.elim)
theorem ok_ways_step {f : Addr} {fd : FuncData} (F : Fun K "_law_ways" "_law_ways" s__law_ways f fd) (B : Bt mg) (m__law_ways : mg "_law_ways" = some (.ref f)) (b__law_ways : Binds K fd ["_law_many", "_law_most"] []) {j : Nat} {spG : Sp} (G__law_ways : FnOk P w K mg base CX0 j f fd ["_law_many", "_law_most"] spG) (n : Nat) (hn50 : n ≤ 50)
    (hG : ∀ vs H Q E, 1 ≤ n → spWays (n - 1) vs H Q E → spG vs H Q E) : FnOk P w K mg base CX0 (j + 1) f fd ["_law_many", "_law_most"] (spWays n) := by
  have k__law_ways := F.kp
  refine F.ok sc__law_ways (fun vs H Q E h => ?_) (fun cdv A outer s H vs Q E hr h => ?_)
  · obtain ⟨_, _, rfl, _⟩ := h
    rfl
  · obtain ⟨many, most, rfl, m1, m2, m3, t1, t2, q⟩ := h
    have eW : waysF n many most = upTo (n - 1) many ((if most < many then most else many) + 1 - 2).toNat := by
      cases n with
      | zero =>
        have : many = 1 := by
          have : (2 : Int) ^ (0 + 1) = 2 := by decide
          omega
        subst this
        have e2 : ((if most < 1 then most else 1) + 1 - 2 : Int).toNat = 0 := by split <;> omega
        rw [e2]
        rfl
      | succ n => exact waysF_succ n many most
    rw [eW] at q
    refine ⟨_, (pss_cons (ps_set (i := 2) sc__law_ways.nd rfl (Or.inl rfl) (pe_ifExp (pt_cmpR op_eq (pv 0) pe_int (nomark _)) (pe_lst (pa_cons (pe_lst pa_nil) pa_nil)) (pe_lst pa_nil)))
      (pss_cons (ps_for PassesOwn.never rfl (pi_range2 rfl B.range_ (pa_cons pe_int (pa_cons (pe_op op_add (pe_callB (call_min2 rfl) (by rfl) B.min_ (by decide +kernel) (pa_cons (pv 0) (pa_cons (pv 1) pa_nil))) pe_int) pa_nil))) (pg_name (i := 3) sc__law_ways.nd rfl (.inl rfl))
        (pss_one (ps_if (pt_cmpR op_eq (pe_op op_mod (pv 0) (pv 3)) pe_int (nomark _)) (pss_one (ps_for PassesOwn.never rfl (pi_list (pe_call G__law_ways (hr.mono (Nat.le_refl _)) rfl m__law_ways k__law_ways b__law_ways .nil pass0 (pa_cons (pe_op op_fdivW (pv 0) (pv 3)) (pa_cons (pv 3) pa_nil)))) (pg_name (i := 4) sc__law_ways.nd rfl (.inl rfl))
            (pss_one (ps_expr (pe_bm PySem.F.plainAttrs_list PySem.F.slot_list_append PySem.F.type_list_append mt_append (pv 2) (pa_cons (pe_op op_cat (pe_lst (pa_cons (pv 3) pa_nil)) (pv 4)) pa_nil)))))) pss_nil)))
      (pss_one (ps_ret (pv 2))))), ?_⟩
    dsimp only [tSeq, tAsg]
    refine to_any (P := fun x H' => ∃ p, x = .ref p ∧ Same H H' ∧ H p = none ∧ LW H H' p (ways0 many)) ?_ ?_
    · intro Qe qe
      refine ⟨_, rfl, rfl, _, rfl, ?_⟩
      by_cases hm : many = 1
      · refine iteD (congrArg V.int hm) ?_
        refine ⟨(by show 0 ≤ sizeLine; decide), fun t nt => ⟨(by show 1 ≤ sizeLine; decide), fun p np => ?_⟩⟩
        have ntp : t ≠ p := ne_of_none upd_same np
        refine qe _ _ ⟨p, rfl, (Same.new nt).trans (Same.new np), (Same.new (o := .lst []) nt).free np, _, upd_same, ?_⟩
        unfold ways0
        rw [if_pos hm]
        exact .cons ⟨t, rfl, nt, ntp, by rw [upd_ne ntp]; exact upd_same⟩ .nil
      · refine iteDN (fun x => hm (V.int.inj x)) ?_
        refine ⟨(by show 0 ≤ sizeLine; decide), fun p np => ?_⟩
        refine qe _ _ ⟨p, rfl, Same.new np, np, _, upd_same, ?_⟩
        unfold ways0
        rw [if_neg hm]
        exact .nil
    rintro _ H1 ⟨p, rfl, s1, np, hW⟩
    have hmin : (if most < many then most else many) ≤ 60 := by split <;> omega
    have hmin1 : 1 ≤ (if most < many then most else many) := by split <;> omega
    refine ⟨_, rfl, _, rfl, _, _, rfl, _, _, rfl, rfl, 2, _, rfl, ⟨by decide, by decide, ?_, ?_⟩, ?_⟩
    · generalize (if most < many then most else many) = z at *
      omega
    · generalize (if most < many then most else many) = z at *
      omega
    generalize hz : ((if most < many then most else many) + 1 - 2).toNat = z at q
    have hz60 : z ≤ 60 := by omega
    refine for_range (n := z) (fun i σ H' => ∃ x3 x4, σ = [some (.int many), some (.int most), some (.ref p), x3, x4] ∧ Same H H' ∧ LW H H' p (upTo (n - 1) many i)) ⟨_, _, rfl, s1, by unfold upTo; simpa using hW⟩ ?_ ?_
    · rintro i σ H2 hi ⟨x3, x4, rfl, s2, hW2⟩
      refine ⟨_, rfl, _, rfl, _, _, rfl, rfl, (show (0 : Int) < 2 + (i : Int) by omega), rfl, _, rfl, ?_⟩
      by_cases hd : many % (2 + (i : Int)) = 0
      · refine iteD (congrArg V.int hd) ?_
        have hq := Int.mul_ediv_cancel' (Int.dvd_of_emod_eq_zero hd)
        have hq1 : 1 ≤ many / (2 + (i : Int)) := Int.pos_of_mul_pos_right (a := 2 + (i : Int)) (by omega) (by omega)
        have hle : many / (2 + (i : Int)) ≤ many := Int.ediv_le_self _ (by omega)
        have h2q : 2 * (many / (2 + (i : Int))) ≤ many := by
          have : 2 * (many / (2 + (i : Int))) ≤ (2 + (i : Int)) * (many / (2 + (i : Int))) := Int.mul_le_mul_of_nonneg_right (by omega) (by omega)
          omega
        have hn1 : 1 ≤ n := by
          refine Decidable.byContradiction fun hc => ?_
          have : n = 0 := by omega
          subst this
          have : (2 : Int) ^ (0 + 1) = 2 := by decide
          omega
        have hpw : (2 : Int) ^ (n + 1) = 2 * 2 ^ (n - 1 + 1) := by
          have : n + 1 = (n - 1 + 1) + 1 := by omega
          rw [this, Int.pow_succ, Int.mul_comm]
        refine ⟨_, rfl, _, rfl, _, _, rfl, rfl, wide_div (b := 64) (by omega) (by omega) (by decide) (by decide), _, rfl, hG _ _ _ _ hn1 ⟨_, _, rfl, hq1, by omega, by omega, by omega, by omega, fun p2 H3 s3 np2 hW3 => ?_⟩⟩
        obtain ⟨xs, g2, r2⟩ := hW2
        obtain ⟨xs3, g3, r3⟩ := hW3
        have hpp : p ≠ p2 := ne_of_none g2 np2
        have ewa : wayAt (n - 1) many i = (waysF (n - 1) (many / (2 + (i : Int))) (2 + (i : Int))).map fun r => (2 + (i : Int)) :: r := by unfold wayAt; rw [if_pos hd]
        have el3 := r3.length
        have hlen3 : (waysF (n - 1) (many / (2 + (i : Int))) (2 + (i : Int))).length ≤ 3600 := by
          have := waysF_len (n := n - 1) (most := 2 + (i : Int)) hq1 (show many / (2 + (i : Int)) ≤ 60 by omega)
          have h7 : (many / (2 + (i : Int))).toNat * (many / (2 + (i : Int))).toNat ≤ 60 * 60 := Nat.mul_le_mul (by omega) (by omega)
          omega
        have hlen2 : (upTo (n - 1) many i).length ≤ 3601 := upTo_len m1 m2 (by omega)
        have hwl : ∀ w ∈ waysF (n - 1) (many / (2 + (i : Int))) (2 + (i : Int)), w.length ≤ n - 1 := waysF_wlen
        generalize waysF (n - 1) (many / (2 + (i : Int))) (2 + (i : Int)) = ws at *
        refine ⟨p2, rfl, ⟨_, SqL.of g3⟩, for_list (xs := xs3) (fun j σ H' => ∃ x4, σ = [some (.int many), some (.int most), some (.ref p), some (.int (2 + (i : Int))), x4] ∧ Same H H' ∧ (∀ b o, H3 b = some o → b ≠ p → H' b = some o) ∧ LW H H' p (upTo (n - 1) many i ++ (ws.take j).map fun r => (2 + (i : Int)) :: r)) ?h0 ?hl ?hs ?hd⟩
        case h0 =>
          refine ⟨_, rfl, s2.trans s3, fun b o e _ => e, xs, s3 _ _ g2, ?_⟩
          rw [List.take_zero, List.map_nil, List.append_nil]
          exact Paired.mapP r2 fun _ _ ⟨t, a, b, c, d⟩ => ⟨t, a, b, c, s3 _ _ d⟩
        case hl =>
          rintro j σ H' _ ⟨x4, rfl, _, kp, _⟩
          exact SqL.of (kp _ _ g3 hpp.symm)
        case hs =>
          rintro j x σ H' hx ⟨x4, rfl, s', kp, xs', g', r'⟩
          obtain ⟨w1, hwj, t, rfl, ht0, htp, ht⟩ := paired_get r3 hx
          have hj : j < xs3.length := (List.getElem?_eq_some_iff.mp hx).1
          have htk : ws.take (j + 1) = ws.take j ++ [w1] := by rw [List.take_add_one, hwj]; rfl
          have t_ne : t ≠ p := fun e => by subst e; rw [ht0] at g2; cases g2
          have ht' := kp _ _ ht t_ne
          have hl' := r'.length
          rw [List.length_append, List.length_map, List.length_take] at hl'
          have wl := hwl w1 (List.mem_of_getElem? hwj)
          refine ⟨_, rfl, .inl ⟨rfl, _, SqL.of g'⟩, _, rfl, (by show 1 ≤ sizeLine; decide), fun u nu => ?_⟩
          have n_tu : t ≠ u := ne_of_none ht' nu
          refine ⟨_, rfl, u, t, _, _, rfl, rfl, upd_same, by rw [upd_ne n_tu]; exact ht', ?_, fun v nv => ?_⟩
          · rw [List.length_map]
            exact Nat.le_of_lt (small1000' (by show 1 + _ ≤ _; omega))
          · have su := Same.new (o := .lst [.int (2 + (i : Int))]) nu
            have sv := Same.new (o := .lst ([.int (2 + (i : Int))] ++ w1.map V.int)) nv
            have g1' := sv _ _ (su _ _ g')
            have npv : p ≠ v := ne_of_none (su _ _ g') nv
            refine ⟨p, _, _, rfl, rfl, g1', small1000' (by omega), ?_⟩
            refine ⟨_, rfl, Same.mut ((s'.trans su).trans sv) np, fun b o e hb => ?_, _, upd_same, ?_⟩
            · rw [upd_ne hb]
              exact sv _ _ (su _ _ (kp b o e hb))
            · rw [htk, List.map_append, ← List.append_assoc]
              have same : ∀ (x : V) (w : List Int), (∃ t, x = V.ref t ∧ H t = none ∧ t ≠ p ∧ H' t = some (.lst (w.map V.int))) → ∃ t, x = V.ref t ∧ H t = none ∧ t ≠ p ∧ (upd (upd (upd H' u (.lst [.int (2 + (i : Int))])) v (.lst ([.int (2 + (i : Int))] ++ w1.map V.int))) p (.lst (xs' ++ [.ref v]))) t = some (.lst (w.map V.int)) :=
                fun x w ⟨t, a, b, c, d⟩ => ⟨t, a, b, c, by rw [upd_ne c]; exact sv _ _ (su _ _ d)⟩
              refine Vals_app (Paired.mapP r' same) (.cons ⟨v, rfl, ?_, npv.symm, ?_⟩ .nil)
              · exact (s'.trans su).free nv
              · rw [upd_ne npv.symm, upd_same]
                rfl
        case hd =>
          rintro σ H' ⟨x4, rfl, s', kp, hW'⟩
          refine ⟨_, _, rfl, s', ?_⟩
          rw [upTo_succ, ewa]
          rw [el3, List.take_length] at hW'
          exact hW'
      · refine iteDN (fun x => hd (V.int.inj x)) ?_
        refine ⟨_, _, rfl, s2, ?_⟩
        rw [upTo_succ]
        unfold wayAt
        rw [if_neg hd, List.append_nil]
        exact hW2
    · rintro σ H2 ⟨x3, x4, rfl, s2, hW2⟩
      exact ⟨_, rfl, q p H2 s2 np hW2⟩
theorem ok__law_ways {f : Addr} {fd : FuncData} (F : Fun K "_law_ways" "_law_ways" s__law_ways f fd) (B : Bt mg) (m__law_ways : mg "_law_ways" = some (.ref f)) (b__law_ways : Binds K fd ["_law_many", "_law_most"] []) : ∀ n : Nat, n ≤ 50 → FnOk P w K mg base CX0 (n + 2) f fd ["_law_many", "_law_most"] (spWays n)
  | 0, _ => ok_ways_step F B m__law_ways b__law_ways (ok_ways_none F) 0 (by decide) (fun _ _ _ _ h _ => absurd h (by decide))
  | n + 1, h => ok_ways_step F B m__law_ways b__law_ways (ok__law_ways F B m__law_ways b__law_ways n (by omega)) (n + 1) h (fun _ _ _ _ _ h => h)
end
end NB

set_option Elab.async false
set_option maxRecDepth 100000
set_option pp.maxSteps 400
set_option maxHeartbeats 4000000
set_option linter.unusedVariables false
namespace NB
open PySem L2
section
variable {P : Program} {w : World} {K : PySem.W.Frag} {mg : Str → Option Value} {base : Heap}
theorem foldl_take_succ {α β : Type} {F : β → α → β} {l : List α} {k : Nat} {x : α} {a : β} (h : l[k]? = some x) : (l.take (k + 1)).foldl F a = F ((l.take k).foldl F a) x := by
  rw [List.take_add_one, h, List.foldl_append]
  rfl
abbrev s__law_least : Stmt := topS 16
theorem sc__law_least : FnScope ["_law_many", "_law_found", "_law_way", "_law_product", "_law_prime", "_law_factor", "_law_turn"] ["_law_many"] (defScope s__law_least) := ⟨rfl, rfl, rfl, by decide +kernel, rfl, by decide +kernel, by decide +kernel⟩
theorem ok__law_least {f : Addr} {fd : FuncData} (F : Fun K "_law_least" "_law_least" s__law_least f fd) (B : Bt mg) (C__law_ways : Callee P w K mg base 8 "_law_ways" ["_law_many", "_law_most"] (spWays 6)) : FnOk P w K mg base CX0 9 f fd ["_law_many"] spLLeast := by
  refine F.ok sc__law_least (fun vs H Q E h => ?_) (fun cdv A outer s H vs Q E hr h => ?_)
  · obtain ⟨_, rfl, _⟩ := h
    rfl
  · obtain ⟨m, rfl, h1, h2, q⟩ := h
    obtain ⟨f__law_ways, fd__law_ways, m__law_ways, k__law_ways, b__law_ways, G__law_ways⟩ := C__law_ways
    refine ⟨_, (pss_cons (ps_set (i := 1) sc__law_least.nd rfl (Or.inl rfl) (pe_lst pa_nil))
      (pss_cons (ps_for PassesOwn.never rfl (pi_list (pe_call G__law_ways (hr.mono (by decide)) rfl m__law_ways k__law_ways b__law_ways .nil pass0 (pa_cons (pv 0) (pa_cons (pv 0) pa_nil)))) (pg_name (i := 2) sc__law_least.nd rfl (.inl rfl))
        (pss_cons (ps_set (i := 3) sc__law_least.nd rfl (Or.inl rfl) pe_int)
        (pss_cons (ps_for PassesOwn.never rfl (pi_mix rfl B.zip_ (pa_cons (pe_tup (pa_cons pe_int (pa_cons pe_int (pa_cons pe_int (pa_cons pe_int (pa_cons pe_int (pa_cons pe_int pa_nil))))))) (pa_cons (pv 2) pa_nil))) (pg_tup rfl (pgs_cons (pg_name (i := 4) sc__law_least.nd rfl (.inl rfl)) (pgs_cons (pg_name (i := 5) sc__law_least.nd rfl (.inl rfl)) pgs_nil)))
          (pss_one (ps_for PassesOwn.never rfl (pi_range1 rfl B.range_ (pa_cons (pe_op op_sub (pv 5) pe_int) pa_nil)) (pg_name (i := 6) sc__law_least.nd rfl (.inl rfl))
            (pss_one (ps_set (i := 3) sc__law_least.nd rfl (Or.inl rfl) (pe_op op_mul (pv 3) (pv 4)))))))
        (pss_one (ps_expr (pe_bm PySem.F.plainAttrs_list PySem.F.slot_list_append PySem.F.type_list_append mt_append (pv 1) (pa_cons (pv 3) pa_nil)))))))
      (pss_one (ps_ret (pe_callB (cr_min rfl) (by rfl) B.min_ (by decide +kernel) (pa_cons (pv 1) pa_nil)))))), ?_⟩
    refine ⟨(by show 0 ≤ sizeLine; decide), fun p np => ?_⟩
    have p27 : (2 : Int) ^ (6 + 1) = 128 := by decide
    refine ⟨_, rfl, _, rfl, _, _, rfl, by omega, by omega, by rw [p27]; omega, by omega, by omega, fun p2 H2 s2 np2 hW => ?_⟩
    obtain ⟨xs, g2, r2⟩ := hW
    have g1 := s2 _ _ (upd_same (H := H) (a := p) (o := .lst []))
    have hpp : p ≠ p2 := ne_of_none upd_same np2
    have hws : waysF 6 (m : Int) (m : Int) = waysF 6 m m := rfl
    have hel : ∀ w ∈ waysF 6 (m : Int) (m : Int), ∀ f ∈ w, 2 ≤ f ∧ f ≤ 60 := waysF_mem (by omega) (by omega)
    have hwlen : (waysF 6 (m : Int) (m : Int)).length ≤ 3600 := by
      have := waysF_len (n := 6) (most := (m : Int)) (show 1 ≤ (m : Int) by omega) (by omega)
      have h7 : (m : Int).toNat * (m : Int).toNat ≤ 60 * 60 := Nat.mul_le_mul (by omega) (by omega)
      omega
    have el := r2.length
    have hfp : H p = none := np
    refine ⟨p2, rfl, ⟨_, SqL.of g2⟩, for_list (xs := xs) (fun j σ H' => ∃ x2 x3 x4 x5 x6, σ = [some (.int (m : Int)), some (.ref p), x2, x3, x4, x5, x6] ∧ Same H H' ∧ (∀ b o, H2 b = some o → b ≠ p → H' b = some o) ∧ H' p = some (.lst ((((waysF 6 (m : Int) (m : Int)).take j).map prodF).map V.int))) ?h0 ?hl ?hs ?hd⟩
    case h0 => exact ⟨_, _, _, _, _, rfl, (Same.new np).trans s2, fun b o e _ => e, g1⟩
    case hl =>
      rintro j σ H' _ ⟨_, _, _, _, _, rfl, _, kp, _⟩
      exact SqL.of (kp _ _ g2 hpp.symm)
    case hs =>
      rintro j x σ H3 hx ⟨x2, x3, x4, x5, x6, rfl, s3, kp, g3⟩
      obtain ⟨w1, hwj, t, rfl, ht0, htp, ht⟩ := paired_get r2 hx
      have hj : j < xs.length := (List.getElem?_eq_some_iff.mp hx).1
      have t_ne : t ≠ p := fun e => by subst e; rw [upd_same] at ht0; cases ht0
      have ht3 := kp _ _ ht t_ne
      have hw1 := hel w1 (List.mem_of_getElem? hwj)
      have htk : (waysF 6 (m : Int) (m : Int)).take (j + 1) = (waysF 6 (m : Int) (m : Int)).take j ++ [w1] := by rw [List.take_add_one, hwj]; rfl
      refine ⟨(by show 6 ≤ sizeLine; decide), fun tp ntp => ⟨_, rfl, ?_⟩⟩
      have s4 := Same.new (o := .tup (prs.map V.int)) ntp
      have gtp : upd H3 tp (.tup (prs.map V.int)) tp = some (.tup (prs.map V.int)) := upd_same
      refine ⟨tp, t, prs.map V.int, w1.map V.int, rfl, SqT.of gtp, SqL.of (s4 _ _ ht3), ?_⟩
      show ∃ W : Nat → Nat → L2.St → Hp → Prop, (∃ m, W 0 m _ (upd H3 tp (.tup (prs.map V.int)))) ∧ _
      generalize upd H3 tp (.tup (prs.map V.int)) = H4 at s4 gtp
      have ht4 := s4 _ _ ht3
      refine for_mix (us := prs.map V.int) (ws := w1.map V.int) (fun k σ H' => ∃ x4 x5 x6, σ = [some (.int (m : Int)), some (.ref p), some (.ref t), some (.int (((prs.zip w1).take k).foldl (fun a pf => a * pf.1 ^ (pf.2 - 1).toNat) 1)), x4, x5, x6] ∧ Same H4 H') ⟨_, _, _, rfl, Same.refl _⟩ ?_ ?_ ?_
      · rintro k σ H' ⟨_, _, _, rfl, s5⟩
        exact ⟨SqT.of (s5 _ _ gtp), SqL.of (s5 _ _ ht4)⟩
      · rintro k xp xf u σ H5 hxp hxf ⟨x4, x5, x6, rfl, s5⟩ nu
        obtain ⟨pr, hpr, rfl⟩ : ∃ pr, prs[k]? = some pr ∧ xp = V.int pr := by
          rw [List.getElem?_map] at hxp
          cases e : prs[k]? with
          | none => rw [e] at hxp; cases hxp
          | some z => rw [e] at hxp; exact ⟨z, rfl, (Option.some.inj hxp).symm⟩
        obtain ⟨fc, hfc, rfl⟩ : ∃ fc, w1[k]? = some fc ∧ xf = V.int fc := by
          rw [List.getElem?_map] at hxf
          cases e : w1[k]? with
          | none => rw [e] at hxf; cases hxf
          | some z => rw [e] at hxf; exact ⟨z, rfl, (Option.some.inj hxf).symm⟩
        have hpr17 : 1 ≤ pr ∧ pr ≤ 17 := by
          have : ∀ x ∈ prs, 1 ≤ x ∧ x ≤ 17 := by decide
          exact this pr (List.mem_of_getElem? hpr)
        obtain ⟨f1, f2⟩ := hw1 fc (List.mem_of_getElem? hfc)
        have hz : (prs.zip w1)[k]? = some (pr, fc) := by
          rw [List.getElem?_zip_eq_some]
          exact ⟨hpr, hfc⟩
        refine ⟨u, _, rfl, SqT.of upd_same, rfl, _, _, rfl, _, _, rfl, rfl, ?_⟩
        refine ⟨_, rfl, _, _, rfl, rfl, _, rfl, by omega, by omega, ?_⟩
        generalize hA : ((prs.zip w1).take k).foldl (fun (a : Int) pf => a * pf.1 ^ (pf.2 - 1).toNat) 1 = a0
        have s6 := s5.trans (Same.new (o := .tup [.int pr, .int fc]) nu)
        generalize upd H5 u (.tup [.int pr, .int fc]) = H6 at s6
        refine for_range (n := (fc - 1).toNat) (fun i σ H' => ∃ x6, σ = [some (.int (m : Int)), some (.ref p), some (.ref t), some (.int (a0 * pr ^ i)), some (.int pr), some (.int fc), x6] ∧ H' = H6) ⟨x6, by rw [Int.pow_zero, Int.mul_one]; rfl, rfl⟩ ?_ ?_
        · rintro i σ H' hi ⟨x6, rfl, rfl⟩
          refine ⟨_, rfl, _, rfl, _, _, rfl, rfl, .inr ⟨by omega, by omega⟩, ?_⟩
          have e2 : a0 * pr ^ i * pr = a0 * pr ^ (i + 1) := by rw [Int.pow_succ, Int.mul_assoc]
          exact ⟨some (V.int (0 + (i : Int))), congrArg (fun z => [some (V.int (m : Int)), some (V.ref p), some (V.ref t), some (V.int z), some (V.int pr), some (V.int fc), some (V.int (0 + (i : Int)))]) e2, rfl⟩
        · rintro σ H' ⟨x6, rfl, rfl⟩
          refine ⟨some (V.int pr), some (V.int fc), x6, congrArg (fun z => [some (V.int (m : Int)), some (V.ref p), some (V.ref t), some (V.int z), some (V.int pr), some (V.int fc), x6]) ?_, s6⟩
          rw [foldl_take_succ hz, hA]
      · rintro k σ H5 hk1 hk2 hk3 ⟨x4, x5, x6, rfl, s5⟩
        have ek : ((prs.zip w1).take k).foldl (fun (a : Int) pf => a * pf.1 ^ (pf.2 - 1).toNat) 1 = prodF w1 := by
          unfold prodF
          rw [List.take_of_length_le]
          rw [List.length_zip]
          rw [List.length_map] at hk1 hk2 hk3
          rw [List.length_map] at hk3
          omega
        rw [ek]
        have s35 := s4.trans s5
        refine ⟨_, rfl, .inl ⟨rfl, _, SqL.of (s35 _ _ g3)⟩, _, rfl, p, _, _, rfl, rfl, s35 _ _ g3, small1000' (by rw [List.length_map, List.length_map, List.length_take]; omega), ?_⟩
        refine ⟨_, _, _, _, _, rfl, Same.mut (s3.trans s35) hfp, fun b o e hb => ?_, ?_⟩
        · rw [upd_ne hb]
          exact s35 _ _ (kp b o e hb)
        · rw [upd_same, htk, List.map_append, List.map_append]
          rfl
    case hd =>
      rintro σ H3 ⟨x2, x3, x4, x5, x6, rfl, s3, kp, g3⟩
      rw [el, List.take_length] at g3
      obtain ⟨r0, _, hr0, _⟩ := least_ok m h2 h1
      refine ⟨_, rfl, p, (waysF 6 (m : Int) (m : Int)).map prodF, rfl, SqL.of g3, List.length_pos_iff.mpr (List.ne_nil_of_mem hr0), fun r hr1 hr2 => ?_⟩
      exact q r H3 hr1 (fun x hx => hr2 x hx) s3
abbrev s_law : Stmt := topS 17
theorem sc_law : FnScope ["_law_script", "_law_by", "_law_many", "_law_found", "_law_few", "_law_number"] ["_law_script"] (defScope s_law) := ⟨rfl, rfl, rfl, by decide +kernel, rfl, by decide +kernel, by decide +kernel⟩
theorem ok_law {f : Addr} {fd : FuncData} (F : Fun K "law" "law" s_law f fd) (B : Bt mg) (C__law_cell_at : Callee P w K mg base 1 "_law_cell_at" ["_law_script", "_law_k"] (spCellAt K)) (C__law_value : Callee P w K mg base 2 "_law_value" ["_law_cell", "_law_turn"] spValue)
    (C_least_with : Callee P w K mg base 9 "least_with" ["many"] spLeastWith) (C__law_whole : Callee P w K mg base 1 "_law_whole" ["_law_number"] spWhole) (C__law_least : Callee P w K mg base 9 "_law_least" ["_law_many"] spLLeast) (C__law_high : Callee P w K mg base 1 "_law_high" ["_law_number"] spHigh) : FnOk P w K mg base CX0 10 f fd ["_law_script"] (spLaw K) := by
  refine F.ok sc_law (fun vs H Q E h => ?_) (fun cdv A outer s H vs Q E hr h => ?_)
  · obtain ⟨_, _, rfl, _⟩ := h
    rfl
  · obtain ⟨a, ns0, rfl, hS0, hl0, hb0, q⟩ := h
    obtain ⟨f__law_cell_at, fd__law_cell_at, m__law_cell_at, k__law_cell_at, b__law_cell_at, G__law_cell_at⟩ := C__law_cell_at
    obtain ⟨f__law_value, fd__law_value, m__law_value, k__law_value, b__law_value, G__law_value⟩ := C__law_value
    obtain ⟨f_least_with, fd_least_with, m_least_with, k_least_with, b_least_with, G_least_with⟩ := C_least_with
    obtain ⟨f__law_whole, fd__law_whole, m__law_whole, k__law_whole, b__law_whole, G__law_whole⟩ := C__law_whole
    obtain ⟨f__law_least, fd__law_least, m__law_least, k__law_least, b__law_least, G__law_least⟩ := C__law_least
    obtain ⟨f__law_high, fd__law_high, m__law_high, k__law_high, b__law_high, G__law_high⟩ := C__law_high
    refine ⟨_, (pss_cons (ps_set (i := 0) sc_law.nd rfl (Or.inl rfl) (pe_slice sl_list (pv 0) po_none (po_some pe_int)))
      (pss_cons (ps_for PassesOwn.never rfl (pi_range3 rfl B.range_ (pa_cons pe_int (pa_cons (pe_callB (call_max2 rfl) (by rfl) B.max_ (by decide +kernel) (pa_cons pe_int (pa_cons (pe_callB call_len_seq (by rfl) B.len_ (by decide +kernel) (pa_cons (pv 0) pa_nil)) pa_nil))) (pa_cons (pe_op op_add pe_int (pe_op op_fdiv (pe_callB call_len_seq (by rfl) B.len_ (by decide +kernel) (pa_cons (pv 0) pa_nil)) pe_int)) pa_nil)))) (pg_name (i := 1) sc_law.nd rfl (.inl rfl))
        (pss_cons (ps_set (i := 2) sc_law.nd rfl (Or.inl rfl) (pe_op op_add pe_int (pe_op op_mod (pe_call G__law_value (hr.mono (by decide)) rfl m__law_value k__law_value b__law_value .nil pass0 (pa_cons (pe_call G__law_cell_at (hr.mono (by decide)) rfl m__law_cell_at k__law_cell_at b__law_cell_at .nil pass0 (pa_cons (pv 0) (pa_cons (pv 1) pa_nil))) (pa_cons pe_int pa_nil))) pe_int)))
        (pss_cons (ps_set (i := 3) sc_law.nd rfl (Or.inl rfl) (pe_call G_least_with (hr.mono (by decide)) rfl m_least_with k_least_with b_least_with .nil pass0 (pa_cons (pv 2) pa_nil)))
        (pss_one (ps_if (PW.pt (pw_or (pt_not (pt_val (pe_call G__law_whole (hr.mono (by decide)) rfl m__law_whole k__law_whole b__law_whole .nil pass0 (pa_cons (pv 3) pa_nil)))) (pw_or1 (pt_cmpR op_ne (pv 3) (pe_call G__law_least (hr.mono (by decide)) rfl m__law_least k__law_least b__law_least .nil pass0 (pa_cons (pv 2) pa_nil)) (nomark _))))) (pss_one (ps_ret pe_bl)) pss_nil)))))
      (pss_cons (ps_set (i := 4) sc_law.nd rfl (Or.inl rfl) (pe_op op_add pe_int (pe_op op_mod (pe_call G__law_value (hr.mono (by decide)) rfl m__law_value k__law_value b__law_value .nil pass0 (pa_cons (pe_call G__law_cell_at (hr.mono (by decide)) rfl m__law_cell_at k__law_cell_at b__law_cell_at .nil pass0 (pa_cons (pv 0) (pa_cons pe_int pa_nil))) (pa_cons pe_int pa_nil))) pe_int)))
      (pss_cons (ps_set (i := 5) sc_law.nd rfl (Or.inl rfl) pe_int)
      (pss_cons (ps_while PassesOwn.never (pt_cmpR op_ne (pe_callB call_len_seq (by rfl) B.len_ (by decide +kernel) (pa_cons (pe_call G__law_high (hr.mono (by decide)) rfl m__law_high k__law_high b__law_high .nil pass0 (pa_cons (pv 5) pa_nil)) pa_nil)) (pv 4) (nomark _))
        (pss_one (ps_set (i := 5) sc_law.nd rfl (Or.inl rfl) (pe_op op_add (pv 5) pe_int))))
      (pss_cons (ps_if (pt_cmpR op_ne (pe_call G_least_with (hr.mono (by decide)) rfl m_least_with k_least_with b_least_with .nil pass0 (pa_cons (pv 4) pa_nil)) (pv 5) (nomark _)) (pss_one (ps_ret pe_bl)) pss_nil)
      (pss_one (ps_ret (pe_cmpR (r := rEqD K) (op_eqD hr.units) (pe_lc (g := (gName 2)) (own := [("_law_many", 2)]) rfl sc_law.nd (pi_tup (pe_tup (pa_cons pe_int (pa_cons pe_int (pa_cons pe_int (pa_cons pe_int (pa_cons pe_int (pa_cons pe_int pa_nil)))))))) (blkOk_by (N := ["_law_script", "_law_by", "_law_many", "_law_found", "_law_few", "_law_number"]) (sc := defScope s_law) (by decide +kernel)) (fun _ _ _ _ _ => (pg_name (i := 2) sc_law.nd rfl (.inl rfl))) (fun _ _ _ _ _ => pts_nil) (fun _ _ _ _ _ => (pe_call G_least_with (hr.mono (by decide)) rfl m_least_with k_least_with b_least_with .nil pass0 (pa_cons (pv 2) pa_nil)))) (pe_lst (pa_cons pe_int (pa_cons pe_int (pa_cons pe_int (pa_cons pe_int (pa_cons pe_int (pa_cons pe_int pa_nil))))))) (nomark _)))))))))), ?_⟩
    -- script[:63]
    obtain ⟨ns, ens, hsub, hlen⟩ := cut_int ns0 none (some 63)
    refine ⟨_, rfl, 63, rfl, a, _, rfl, hS0, fun p np => ?_⟩
    rw [ens]
    have hb : Bits ns := fun z hz => hb0 z (hsub z hz)
    have hl : ns.length ≤ 63 := by omega
    clear hS0 hb0 hl0 ens hsub hlen
    -- for by in range(..)
    have lm : (ns.map V.int).length = ns.length := List.length_map ..
    refine ⟨_, rfl, p, _, rfl, .inl (SqL.of upd_same), _, _, rfl, ?_⟩
    refine ⟨_, rfl, p, _, rfl, .inl (SqL.of upd_same), _, _, rfl, rfl, ⟨by decide, by decide⟩, _, _, rfl, rfl, ?_⟩
    obtain ⟨n, hn, hrg⟩ := rg3 (d := 6) hl (.inr (.inr rfl))
    refine ⟨_, _, _, n, rfl, (by rw [lm]; exact hrg), ?_⟩
    rw [lm]
    generalize hH1 : upd H p (.lst (ns.map V.int)) = H1
    have gp : H1 p = some (.lst (ns.map V.int)) := by rw [← hH1]; exact upd_same
    refine for_rangeC (fun i σ H' => ∃ x1 x2 x3 x4 x5, σ = [some (.ref p), x1, x2, x3, x4, x5] ∧ Same H1 H') ⟨_, _, _, _, _, rfl, Same.refl _⟩ ?_ ?_
    · rintro i σ H2 hi ⟨x1, x2, x3, x4, x5, rfl, s2⟩
      obtain ⟨hby0, hby1⟩ := by_ok hl (.inr (.inr rfl)) hi hn
      refine ⟨_, rfl, _, rfl, p, ns, _, rfl, SqL.of (s2 _ _ gp), hb, hby0, hby1, fun c bc => ⟨c, 3, rfl, bc, by decide, by decide, fun v H3 v0 vb s3 => ?_⟩⟩
      obtain ⟨m, hm⟩ := Int.eq_ofNat_of_zero_le (show 0 ≤ 1 + v % 60 by omega)
      have m1 : 1 ≤ m := by omega
      have m2 : m < 61 := by omega
      refine ⟨_, _, rfl, rfl, (by show (0 : Int) < 60; decide), _, _, rfl, rfl, ?_⟩
      dsimp only [gName, tSeq, tAsg]
      rw [hm]
      obtain ⟨r, hr1, hr2, hr3⟩ := least_ok m m2 m1
      refine ⟨_, rfl, m, rfl, m1, m2, fun r' H4 hr' s4 => ?_⟩
      cases (hr1.symm.trans hr')
      refine ⟨_, rfl, r, rfl, _, rfl, iteF ?_⟩
      refine ⟨_, rfl, _, rfl, m, rfl, m1, m2, fun r2 H5 h5 h6 s5 => ?_⟩
      have e : r = r2 := Int.le_antisymm (hr3 r2 h5) (h6 r hr2)
      subst e
      refine ⟨rfl, _, rfl, iteNS rfl ?_⟩
      exact ⟨_, _, _, _, _, rfl, ((s2.trans s3).trans s4).trans s5⟩
    · rintro σ H2 ⟨x1, x2, x3, x4, x5, rfl, s2⟩
      refine ⟨_, rfl, p, ns, 0, rfl, SqL.of (s2 _ _ gp), hb, by decide, by decide, fun c bc => ⟨c, 4, rfl, bc, by decide, by decide, fun v H3 v0 vb s3 => ?_⟩⟩
      obtain ⟨few, hfew⟩ := Int.eq_ofNat_of_zero_le (show 0 ≤ 1 + v % 10 by omega)
      have f1 : 1 ≤ few := by omega
      have f2 : few < 11 := by omega
      refine ⟨_, _, rfl, rfl, (by show (0 : Int) < 10; decide), _, _, rfl, rfl, ?_⟩
      dsimp only [gName, tSeq, tAsg]
      rw [hfew]
      obtain ⟨t1, t2⟩ := tgt_ok few f2 f1
      refine while_nat 1000 (fun k σ H' => σ = [some (.ref p), x1, x2, x3, some (.int (few : Int)), some (.int ((k + 1 : Nat) : Int))] ∧ k + 1 ≤ tgt few) ⟨rfl, t1⟩ ?_
      rintro k m σ H4 e ⟨rfl, hk⟩
      refine ⟨_, rfl, _, rfl, by omega, by omega, fun ps ph H5 hps hlps s5 nph h5 => ?_⟩
      obtain ⟨xh, gh, hxh⟩ := h5
      have hcnt := cnt_of (n := k + 1) (by omega) (by omega) hps
      have hlx := hxh.length
      refine ⟨ph, _, rfl, .inl (SqL.of gh), _, rfl, rfl, _, rfl, ?_⟩
      by_cases hc : xh.length = few
      · refine iteNS (congrArg V.int (by rw [hc])) ?_
        -- reached
        have htg : tgt few ≤ k + 1 := by
          rcases cnt_few (k + 1) (by omega) (by omega) with h | h
          · omega
          · have : cnt (k + 1) = few := by omega
            rw [this] at h
            exact h.2
        have ek : k + 1 = tgt few := by omega
        rw [ek]
        refine ⟨_, rfl, few, rfl, f1, by omega, fun r H6 hr6 s6 => ?_⟩
        cases (least_tgt few f2 f1).symm.trans hr6
        refine ⟨_, rfl, rfl, _, rfl, iteNS rfl ?_⟩
        refine ⟨(by show 6 ≤ sizeLine; decide), fun tp ntp => ?_⟩
        refine ⟨tp, rfl, ⟨_, SqT.of upd_same⟩, fun D nD => ?_⟩
        have gtp : upd H6 tp (.tup [.int 1, .int 2, .int 3, .int 4, .int 6, .int 8]) tp = some (.tup [V.int 1, V.int 2, V.int 3, V.int 4, V.int 6, V.int 8]) := upd_same
        generalize upd H6 tp (.tup [.int 1, .int 2, .int 3, .int 4, .int 6, .int 8]) = H7 at gtp nD
        have ntD : tp ≠ D := ne_of_none gtp nD
        refine lc_tup (xs := [V.int 1, V.int 2, V.int 3, V.int 4, V.int 6, V.int 8]) (fun i H' => Same H7 H' ∧ H' D = some (.lst ((([1, 3, 9, 15, 45, 105] : List Int).take i).map V.int))) ⟨Same.new nD, upd_same⟩ ?_ ?_ ?_
        · rintro i H' _ ⟨s8, _⟩
          exact SqT.of (s8 _ _ gtp)
        · rintro i x H8 hx ⟨s8, g8⟩
          have hi : i < 6 := by
            have := (List.getElem?_eq_some_iff.mp hx).1
            simpa using this
          refine ⟨rfl, ?_⟩
          have key : ∀ i : Nat, i < 6 → ∃ (mm : Nat) (rr : Int), [V.int 1, V.int 2, V.int 3, V.int 4, V.int 6, V.int 8][i]? = some (V.int (mm : Int)) ∧ 1 ≤ mm ∧ mm < 11 ∧ (tgt mm : Int) = rr ∧ ([1, 3, 9, 15, 45, 105] : List Int)[i]? = some rr := by
            intro i hi
            match i, hi with
            | 0, _ => exact ⟨1, 1, rfl, by decide, by decide, rfl, rfl⟩
            | 1, _ => exact ⟨2, 3, rfl, by decide, by decide, rfl, rfl⟩
            | 2, _ => exact ⟨3, 9, rfl, by decide, by decide, rfl, rfl⟩
            | 3, _ => exact ⟨4, 15, rfl, by decide, by decide, rfl, rfl⟩
            | 4, _ => exact ⟨6, 45, rfl, by decide, by decide, rfl, rfl⟩
            | 5, _ => exact ⟨8, 105, rfl, by decide, by decide, rfl, rfl⟩
          obtain ⟨mm, rr, e1, e2, e3, e4, e5⟩ := key i hi
          cases hx.symm.trans e1
          refine ⟨_, rfl, mm, rfl, e2, by omega, fun r H9 hr9 s9 => ?_⟩
          cases (least_tgt mm e3 e2).symm.trans hr9
          refine ⟨_, s9 _ _ g8, small1000' (by rw [List.length_map, List.length_take]; omega), Same.mut (s8.trans s9) nD, ?_⟩
          rw [upd_same, List.take_add_one, e5, List.map_append, e4]
          rfl
        · rintro H8 ⟨s8, g8⟩
          refine ⟨(by show 6 ≤ sizeLine; decide), fun l nl => ?_⟩
          have g8' : H8 D = some (.lst (([1, 3, 9, 15, 45, 105] : List Int).map V.int)) := g8
          refine rd_eqI (ns := [1, 3, 9, 15, 45, 105]) (ms := [1, 3, 9, 15, 45, 105]) (SqL.of (Same.new nl _ _ g8')) (SqL.of upd_same) ?_
          exact q _
      · refine iteNN (fun x => hc (by have := V.int.inj x; omega)) ?_
        have hlt : k + 1 < tgt few := by
          refine Decidable.byContradiction fun hcc => ?_
          have ek : k + 1 = tgt few := by omega
          rw [ek, cnt_tgt few f2 f1] at hcnt
          omega
        refine ⟨_, turn_nat _ e (by omega), ?_⟩
        exact ⟨_, rfl, _, _, rfl, rfl, rfl, hlt⟩
end
end NB

set_option Elab.async false
set_option maxRecDepth 100000
set_option maxHeartbeats 4000000
set_option linter.unusedVariables false
namespace NB
open PySem L2
section
variable {P : Program} {w : World} {K : PySem.W.Frag} {mg : Str → Option Value} {base : Heap}
theorem mkC {P : Program} {w : World} {K : PySem.W.Frag} {mg : Str → Option Value} {base : Heap} {x : Str} {q : Str} {st : Stmt} {f : Addr} {fd : FuncData} {ps : List Str} {k : Nat} {sp : Sp} (m : mg x = some (.ref f)) (F : Fun K x q st f fd) (b : Binds K fd ps []) (G : FnOk P w K mg base CX0 k f fd ps sp) : Callee P w K mg base k x ps sp := ⟨f, fd, m, F.kp, b, G⟩
end
theorem all_mk {l : PySem.W.OpenLaw} {w : World} {K : PySem.W.Frag} {h : Heap} {mg : Str → Option Value} {fa : Addr} (X : K.In h) (G : h.Ns mainGlobals mg) (hfa : mg "law" = some (.ref fa))
    {f_is_whole : Addr} {od_is_whole an_is_whole : Option Addr} {sl_is_whole : Array (Option Value)} {oc_is_whole kV_is_whole dc_is_whole pm_is_whole cd_is_whole ct_is_whole : Value}
    (a_is_whole : PySem.W.nsIn K mainGlobals "is_whole" = some (some (.ref f_is_whole))) (l_is_whole : K.lookup f_is_whole = some ⟨oc_is_whole, od_is_whole, .func (PySem.W.fnOf "is_whole" "is_whole" (defArgs s_is_whole) (defBody s_is_whole) (defScope s_is_whole) .none kV_is_whole dc_is_whole pm_is_whole an_is_whole cd_is_whole ct_is_whole), sl_is_whole⟩) (c_is_whole : PySem.W.codeIn K cd_is_whole "is_whole" = true) (k_is_whole : PySem.W.keepIn K (.ref f_is_whole) = true)
    {f_least_from : Addr} {od_least_from an_least_from : Option Addr} {sl_least_from : Array (Option Value)} {oc_least_from kV_least_from dc_least_from pm_least_from cd_least_from ct_least_from : Value}
    (a_least_from : PySem.W.nsIn K mainGlobals "least_from" = some (some (.ref f_least_from))) (l_least_from : K.lookup f_least_from = some ⟨oc_least_from, od_least_from, .func (PySem.W.fnOf "least_from" "least_from" (defArgs s_least_from) (defBody s_least_from) (defScope s_least_from) .none kV_least_from dc_least_from pm_least_from an_least_from cd_least_from ct_least_from), sl_least_from⟩) (c_least_from : PySem.W.codeIn K cd_least_from "least_from" = true) (k_least_from : PySem.W.keepIn K (.ref f_least_from) = true)
    {f_least_with : Addr} {od_least_with an_least_with : Option Addr} {sl_least_with : Array (Option Value)} {oc_least_with kV_least_with dc_least_with pm_least_with cd_least_with ct_least_with : Value}
    (a_least_with : PySem.W.nsIn K mainGlobals "least_with" = some (some (.ref f_least_with))) (l_least_with : K.lookup f_least_with = some ⟨oc_least_with, od_least_with, .func (PySem.W.fnOf "least_with" "least_with" (defArgs s_least_with) (defBody s_least_with) (defScope s_least_with) .none kV_least_with dc_least_with pm_least_with an_least_with cd_least_with ct_least_with), sl_least_with⟩) (c_least_with : PySem.W.codeIn K cd_least_with "least_with" = true) (k_least_with : PySem.W.keepIn K (.ref f_least_with) = true)
    {f__law_cell_at : Addr} {od__law_cell_at an__law_cell_at : Option Addr} {sl__law_cell_at : Array (Option Value)} {oc__law_cell_at kV__law_cell_at dc__law_cell_at pm__law_cell_at cd__law_cell_at ct__law_cell_at : Value}
    (a__law_cell_at : PySem.W.nsIn K mainGlobals "_law_cell_at" = some (some (.ref f__law_cell_at))) (l__law_cell_at : K.lookup f__law_cell_at = some ⟨oc__law_cell_at, od__law_cell_at, .func (PySem.W.fnOf "_law_cell_at" "_law_cell_at" (defArgs s__law_cell_at) (defBody s__law_cell_at) (defScope s__law_cell_at) .none kV__law_cell_at dc__law_cell_at pm__law_cell_at an__law_cell_at cd__law_cell_at ct__law_cell_at), sl__law_cell_at⟩) (c__law_cell_at : PySem.W.codeIn K cd__law_cell_at "_law_cell_at" = true) (k__law_cell_at : PySem.W.keepIn K (.ref f__law_cell_at) = true)
    {f__law_draw : Addr} {od__law_draw an__law_draw : Option Addr} {sl__law_draw : Array (Option Value)} {oc__law_draw kV__law_draw dc__law_draw pm__law_draw cd__law_draw ct__law_draw : Value}
    (a__law_draw : PySem.W.nsIn K mainGlobals "_law_draw" = some (some (.ref f__law_draw))) (l__law_draw : K.lookup f__law_draw = some ⟨oc__law_draw, od__law_draw, .func (PySem.W.fnOf "_law_draw" "_law_draw" (defArgs s__law_draw) (defBody s__law_draw) (defScope s__law_draw) .none kV__law_draw dc__law_draw pm__law_draw an__law_draw cd__law_draw ct__law_draw), sl__law_draw⟩) (c__law_draw : PySem.W.codeIn K cd__law_draw "_law_draw" = true) (k__law_draw : PySem.W.keepIn K (.ref f__law_draw) = true)
    {f__law_value : Addr} {od__law_value an__law_value : Option Addr} {sl__law_value : Array (Option Value)} {oc__law_value kV__law_value dc__law_value pm__law_value cd__law_value ct__law_value : Value}
    (a__law_value : PySem.W.nsIn K mainGlobals "_law_value" = some (some (.ref f__law_value))) (l__law_value : K.lookup f__law_value = some ⟨oc__law_value, od__law_value, .func (PySem.W.fnOf "_law_value" "_law_value" (defArgs s__law_value) (defBody s__law_value) (defScope s__law_value) .none kV__law_value dc__law_value pm__law_value an__law_value cd__law_value ct__law_value), sl__law_value⟩) (c__law_value : PySem.W.codeIn K cd__law_value "_law_value" = true) (k__law_value : PySem.W.keepIn K (.ref f__law_value) = true)
    {f__law_whole : Addr} {od__law_whole an__law_whole : Option Addr} {sl__law_whole : Array (Option Value)} {oc__law_whole kV__law_whole dc__law_whole pm__law_whole cd__law_whole ct__law_whole : Value}
    (a__law_whole : PySem.W.nsIn K mainGlobals "_law_whole" = some (some (.ref f__law_whole))) (l__law_whole : K.lookup f__law_whole = some ⟨oc__law_whole, od__law_whole, .func (PySem.W.fnOf "_law_whole" "_law_whole" (defArgs s__law_whole) (defBody s__law_whole) (defScope s__law_whole) .none kV__law_whole dc__law_whole pm__law_whole an__law_whole cd__law_whole ct__law_whole), sl__law_whole⟩) (c__law_whole : PySem.W.codeIn K cd__law_whole "_law_whole" = true) (k__law_whole : PySem.W.keepIn K (.ref f__law_whole) = true)
    {f__law_high : Addr} {od__law_high an__law_high : Option Addr} {sl__law_high : Array (Option Value)} {oc__law_high kV__law_high dc__law_high pm__law_high cd__law_high ct__law_high : Value}
    (a__law_high : PySem.W.nsIn K mainGlobals "_law_high" = some (some (.ref f__law_high))) (l__law_high : K.lookup f__law_high = some ⟨oc__law_high, od__law_high, .func (PySem.W.fnOf "_law_high" "_law_high" (defArgs s__law_high) (defBody s__law_high) (defScope s__law_high) .none kV__law_high dc__law_high pm__law_high an__law_high cd__law_high ct__law_high), sl__law_high⟩) (c__law_high : PySem.W.codeIn K cd__law_high "_law_high" = true) (k__law_high : PySem.W.keepIn K (.ref f__law_high) = true)
    {f__law_ways : Addr} {od__law_ways an__law_ways : Option Addr} {sl__law_ways : Array (Option Value)} {oc__law_ways kV__law_ways dc__law_ways pm__law_ways cd__law_ways ct__law_ways : Value}
    (a__law_ways : PySem.W.nsIn K mainGlobals "_law_ways" = some (some (.ref f__law_ways))) (l__law_ways : K.lookup f__law_ways = some ⟨oc__law_ways, od__law_ways, .func (PySem.W.fnOf "_law_ways" "_law_ways" (defArgs s__law_ways) (defBody s__law_ways) (defScope s__law_ways) .none kV__law_ways dc__law_ways pm__law_ways an__law_ways cd__law_ways ct__law_ways), sl__law_ways⟩) (c__law_ways : PySem.W.codeIn K cd__law_ways "_law_ways" = true) (k__law_ways : PySem.W.keepIn K (.ref f__law_ways) = true)
    {f__law_least : Addr} {od__law_least an__law_least : Option Addr} {sl__law_least : Array (Option Value)} {oc__law_least kV__law_least dc__law_least pm__law_least cd__law_least ct__law_least : Value}
    (a__law_least : PySem.W.nsIn K mainGlobals "_law_least" = some (some (.ref f__law_least))) (l__law_least : K.lookup f__law_least = some ⟨oc__law_least, od__law_least, .func (PySem.W.fnOf "_law_least" "_law_least" (defArgs s__law_least) (defBody s__law_least) (defScope s__law_least) .none kV__law_least dc__law_least pm__law_least an__law_least cd__law_least ct__law_least), sl__law_least⟩) (c__law_least : PySem.W.codeIn K cd__law_least "_law_least" = true) (k__law_least : PySem.W.keepIn K (.ref f__law_least) = true)
    {f_law : Addr} {od_law an_law : Option Addr} {sl_law : Array (Option Value)} {oc_law kV_law dc_law pm_law cd_law ct_law : Value}
    (a_law : PySem.W.nsIn K mainGlobals "law" = some (some (.ref f_law))) (l_law : K.lookup f_law = some ⟨oc_law, od_law, .func (PySem.W.fnOf "law" "law" (defArgs s_law) (defBody s_law) (defScope s_law) .none kV_law dc_law pm_law an_law cd_law ct_law), sl_law⟩) (c_law : PySem.W.codeIn K cd_law "law" = true) (k_law : PySem.W.keepIn K (.ref f_law) = true)
    {t_MOST : Tok} (h_MOST : PySem.W.nsIn K mainGlobals "MOST" = some (some (.int 60 t_MOST)))
    (z_isinstance : PySem.W.nsIn K mainGlobals "isinstance" = some none)
    (z_int : PySem.W.nsIn K mainGlobals "int" = some none)
    (z_bool : PySem.W.nsIn K mainGlobals "bool" = some none)
    (z_list : PySem.W.nsIn K mainGlobals "list" = some none)
    (z_tuple : PySem.W.nsIn K mainGlobals "tuple" = some none)
    (z_len : PySem.W.nsIn K mainGlobals "len" = some none)
    (z_max : PySem.W.nsIn K mainGlobals "max" = some none)
    (z_min : PySem.W.nsIn K mainGlobals "min" = some none)
    (z_sorted : PySem.W.nsIn K mainGlobals "sorted" = some none)
    (z_range : PySem.W.nsIn K mainGlobals "range" = some none)
    (z_sum : PySem.W.nsIn K mainGlobals "sum" = some none)
    (z_all : PySem.W.nsIn K mainGlobals "all" = some none)
    (z_zip : PySem.W.nsIn K mainGlobals "zip" = some none)
    (z_set : PySem.W.nsIn K mainGlobals "set" = some none)
    : ∃ fd : FuncData, (∀ (s : Shared) (v : Value), BindsTo s fd ⟨[v], []⟩ [("_law_script", v)]) ∧ ∀ base : Heap, K.In base → base.Ns mainGlobals mg → FnOk l.prog w K mg base CX0 10 fa fd ["_law_script"] (spLaw K) := by
  have e := hfa.symm.trans (PySem.W.mg_of X G a_law)
  cases e
  have B : Bt mg := ⟨PySem.W.mg_none_of X G z_isinstance, PySem.W.mg_none_of X G z_int, PySem.W.mg_none_of X G z_bool, PySem.W.mg_none_of X G z_list, PySem.W.mg_none_of X G z_tuple, PySem.W.mg_none_of X G z_len, PySem.W.mg_none_of X G z_max, PySem.W.mg_none_of X G z_min, PySem.W.mg_none_of X G z_sorted, PySem.W.mg_none_of X G z_range, PySem.W.mg_none_of X G z_sum, PySem.W.mg_none_of X G z_all, PySem.W.mg_none_of X G z_zip, PySem.W.mg_none_of X G z_set⟩
  have g_MOST := PySem.W.mg_of X G h_MOST
  have F_is_whole := fun_mk (st := s_is_whole) l_is_whole c_is_whole k_is_whole
  have b_is_whole := F_is_whole.binds (ps := ["thing"]) fun _ _ _ _ _ _ us hl => match us, hl with | [_], _ => rfl
  have F_least_from := fun_mk (st := s_least_from) l_least_from c_least_from k_least_from
  have b_least_from := F_least_from.binds (ps := ["many", "primes", "most"]) fun _ _ _ _ _ _ us hl => match us, hl with | [_, _, _], _ => rfl
  have F_least_with := fun_mk (st := s_least_with) l_least_with c_least_with k_least_with
  have b_least_with := F_least_with.binds (ps := ["many"]) fun _ _ _ _ _ _ us hl => match us, hl with | [_], _ => rfl
  have F__law_cell_at := fun_mk (st := s__law_cell_at) l__law_cell_at c__law_cell_at k__law_cell_at
  have b__law_cell_at := F__law_cell_at.binds (ps := ["_law_script", "_law_k"]) fun _ _ _ _ _ _ us hl => match us, hl with | [_, _], _ => rfl
  have F__law_draw := fun_mk (st := s__law_draw) l__law_draw c__law_draw k__law_draw
  have b__law_draw := F__law_draw.binds (ps := ["_law_cell", "_law_k", "_law_many"]) fun _ _ _ _ _ _ us hl => match us, hl with | [_, _, _], _ => rfl
  have F__law_value := fun_mk (st := s__law_value) l__law_value c__law_value k__law_value
  have b__law_value := F__law_value.binds (ps := ["_law_cell", "_law_turn"]) fun _ _ _ _ _ _ us hl => match us, hl with | [_, _], _ => rfl
  have F__law_whole := fun_mk (st := s__law_whole) l__law_whole c__law_whole k__law_whole
  have b__law_whole := F__law_whole.binds (ps := ["_law_number"]) fun _ _ _ _ _ _ us hl => match us, hl with | [_], _ => rfl
  have F__law_high := fun_mk (st := s__law_high) l__law_high c__law_high k__law_high
  have b__law_high := F__law_high.binds (ps := ["_law_number"]) fun _ _ _ _ _ _ us hl => match us, hl with | [_], _ => rfl
  have F__law_ways := fun_mk (st := s__law_ways) l__law_ways c__law_ways k__law_ways
  have b__law_ways := F__law_ways.binds (ps := ["_law_many", "_law_most"]) fun _ _ _ _ _ _ us hl => match us, hl with | [_, _], _ => rfl
  have F__law_least := fun_mk (st := s__law_least) l__law_least c__law_least k__law_least
  have b__law_least := F__law_least.binds (ps := ["_law_many"]) fun _ _ _ _ _ _ us hl => match us, hl with | [_], _ => rfl
  have F_law := fun_mk (st := s_law) l_law c_law k_law
  refine ⟨PySem.W.fnOf "law" "law" (defArgs s_law) (defBody s_law) (defScope s_law) .none kV_law dc_law pm_law an_law cd_law ct_law, fun s v => .of_eq rfl, fun base _ _ => ?_⟩
  have C_is_whole := mkC (PySem.W.mg_of X G a_is_whole) F_is_whole b_is_whole (ok_is_whole (P := l.prog) (w := w) (base := base) F_is_whole B)
  have C_least_from := mkC (PySem.W.mg_of X G a_least_from) F_least_from b_least_from (ok_least_from (P := l.prog) (w := w) (base := base) F_least_from B (PySem.W.mg_of X G a_least_from) b_least_from 6)
  have C_least_with := mkC (PySem.W.mg_of X G a_least_with) F_least_with b_least_with (ok_least_with (P := l.prog) (w := w) (base := base) F_least_with B g_MOST C_is_whole C_least_from)
  have C__law_cell_at := mkC (PySem.W.mg_of X G a__law_cell_at) F__law_cell_at b__law_cell_at (ok__law_cell_at (P := l.prog) (w := w) (base := base) F__law_cell_at B)
  have C__law_draw := mkC (PySem.W.mg_of X G a__law_draw) F__law_draw b__law_draw (ok__law_draw (P := l.prog) (w := w) (base := base) F__law_draw )
  have C__law_value := mkC (PySem.W.mg_of X G a__law_value) F__law_value b__law_value (ok__law_value (P := l.prog) (w := w) (base := base) F__law_value C__law_draw)
  have C__law_whole := mkC (PySem.W.mg_of X G a__law_whole) F__law_whole b__law_whole (ok__law_whole (P := l.prog) (w := w) (base := base) F__law_whole B)
  have C__law_high := mkC (PySem.W.mg_of X G a__law_high) F__law_high b__law_high (ok__law_high (P := l.prog) (w := w) (base := base) F__law_high )
  have C__law_ways := mkC (PySem.W.mg_of X G a__law_ways) F__law_ways b__law_ways (ok__law_ways (P := l.prog) (w := w) (base := base) F__law_ways B (PySem.W.mg_of X G a__law_ways) b__law_ways 6 (by decide))
  have C__law_least := mkC (PySem.W.mg_of X G a__law_least) F__law_least b__law_least (ok__law_least (P := l.prog) (w := w) (base := base) F__law_least B C__law_ways)
  exact ok_law F_law B C__law_cell_at C__law_value C_least_with C__law_whole C__law_least C__law_high
theorem walk {l : PySem.W.OpenLaw} {q : Program} {loose : List Str} {XP : (Str → Option Value) → Heap → Prop} {YP : World → Heap → Prop} {d : DefRec} {K : Params → PySem.W.Frag} (hn : l.most = some 63) (hdf : d.params.defaults = [])
    (hY : ∀ (w : World) (h : Heap), YP w h → (K w.params).In h)
    (F : ∀ (w : World) (mg : Str → Option Value) (fa : Addr) (h : Heap), (K w.params).In h → h.Ns mainGlobals mg → mg d.name = some (.ref fa) →
      ∃ fd : FuncData, (∀ (s : Shared) (u : Value), BindsTo s fd ⟨[u], []⟩ [("_law_script", u)]) ∧ ∀ base : Heap, (K w.params).In base → base.Ns mainGlobals mg → FnOk l.prog w (K w.params) mg base CX0 10 fa fd ["_law_script"] (spLaw (K w.params))) :
    PySem.W.WalkO q loose XP YP l.row.toRowW d [] (fun f vs => PySem.call f vs) :=
  L2.walk_ofB (n := 63) (k := 10) (x := "_law_script") (CX := fun _ => CX0) (sp := fun w => spLaw (K w.params)) hn (by decide) hdf ⟨rfl, by decide, by decide⟩ hY F (fun _ _ a ns hl hb _ hS => ⟨a, ns, rfl, hS, hl, hb, fun _ => rfl⟩) fun _ _ _ _ _ z => z
end NB
open PySem PySem.W PyProof.Rows
set_option maxRecDepth 100000 in
set_option maxHeartbeats 0 in
theorem PySem.Challenge.cw_neighboursums_k05_whole_least_with_holds : PySem.Challenge.rw_neighboursums_k05_whole_least_with.Holds := by
  w_on; o_law; k_head; (case hw => w_witness2)
  k_fill
  refine NB.walk (l := PySem.Challenge.rw_neighboursums_k05_whole_least_with) rfl rfl (fun w h Y => PySem.W.kIn_of Y) ?F
  case F =>
    intro w mg fa h KX G hmg
    refine' NB.all_mk KX G hmg ?a_is_whole ?l_is_whole ?c_is_whole ?k_is_whole ?a_least_from ?l_least_from ?c_least_from ?k_least_from ?a_least_with ?l_least_with ?c_least_with ?k_least_with ?a__law_cell_at ?l__law_cell_at ?c__law_cell_at ?k__law_cell_at ?a__law_draw ?l__law_draw ?c__law_draw ?k__law_draw ?a__law_value ?l__law_value ?c__law_value ?k__law_value ?a__law_whole ?l__law_whole ?c__law_whole ?k__law_whole ?a__law_high ?l__law_high ?c__law_high ?k__law_high ?a__law_ways ?l__law_ways ?c__law_ways ?k__law_ways ?a__law_least ?l__law_least ?c__law_least ?k__law_least ?a_law ?l_law ?c_law ?k_law ?h_MOST ?z_isinstance ?z_int ?z_bool ?z_list ?z_tuple ?z_len ?z_max ?z_min ?z_sorted ?z_range ?z_sum ?z_all ?z_zip ?z_set
    (case a_is_whole => k_is)
    (case l_is_whole => k_is)
    (case c_is_whole => k_is)
    (case k_is_whole => k_is)
    (case a_least_from => k_is)
    (case l_least_from => k_is)
    (case c_least_from => k_is)
    (case k_least_from => k_is)
    (case a_least_with => k_is)
    (case l_least_with => k_is)
    (case c_least_with => k_is)
    (case k_least_with => k_is)
    (case a__law_cell_at => k_is)
    (case l__law_cell_at => k_is)
    (case c__law_cell_at => k_is)
    (case k__law_cell_at => k_is)
    (case a__law_draw => k_is)
    (case l__law_draw => k_is)
    (case c__law_draw => k_is)
    (case k__law_draw => k_is)
    (case a__law_value => k_is)
    (case l__law_value => k_is)
    (case c__law_value => k_is)
    (case k__law_value => k_is)
    (case a__law_whole => k_is)
    (case l__law_whole => k_is)
    (case c__law_whole => k_is)
    (case k__law_whole => k_is)
    (case a__law_high => k_is)
    (case l__law_high => k_is)
    (case c__law_high => k_is)
    (case k__law_high => k_is)
    (case a__law_ways => k_is)
    (case l__law_ways => k_is)
    (case c__law_ways => k_is)
    (case k__law_ways => k_is)
    (case a__law_least => k_is)
    (case l__law_least => k_is)
    (case c__law_least => k_is)
    (case k__law_least => k_is)
    (case a_law => k_is)
    (case l_law => k_is)
    (case c_law => k_is)
    (case k_law => k_is)
    (case h_MOST => k_is)
    (case z_isinstance => k_is)
    (case z_int => k_is)
    (case z_bool => k_is)
    (case z_list => k_is)
    (case z_tuple => k_is)
    (case z_len => k_is)
    (case z_max => k_is)
    (case z_min => k_is)
    (case z_sorted => k_is)
    (case z_range => k_is)
    (case z_sum => k_is)
    (case z_all => k_is)
    (case z_zip => k_is)
    (case z_set => k_is)
#print axioms PySem.Challenge.cw_neighboursums_k05_whole_least_with_holds

