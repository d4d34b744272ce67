import PyProof.Rows.All
import Wide.All
import OpenK.AllK
import Wide.FinOn
import HandS.ForMost
import HandS.IsInst
import HandS.Style
import HandS.SortRule
import HandS.WideBits
import HandS.EndBits
import KE.IntBitsLaws
import KE.DataEq
import KE.GoesMore
import KE.GoesEnum
import HandS.Zip
import KE.KEqDeep
import HandS.ForExc
import HandS.ExcIs
import HandS.Lambda
import HandS.EndTab
import HandS.CallLocal
import PySem.Challenge.RW_neighboursums_k06_refused
set_option Elab.async false
/-! The mathematics of rows: plain Lean. -/
namespace NB
/-- f, .., l make n -/
def IsRow (n f l : Int) : Prop := f ≤ l ∧ (f + l) * (l - f + 1) = 2 * n
/-- by the first, then by the second -/
def Lt (p q : Int × Int) : Prop := p.1 < q.1 ∨ (p.1 = q.1 ∧ p.2 < q.2)
instance (p q : Int × Int) : Decidable (Lt p q) := by unfold Lt; infer_instance
theorem Lt.irrefl {p : Int × Int} (h : Lt p p) : False := by unfold Lt at h; omega
theorem Lt.asymm {p q : Int × Int} (h : Lt p q) (h' : Lt q p) : False := by unfold Lt at h h'; omega
theorem uniq : ∀ {l m : List (Int × Int)}, l.Pairwise Lt → m.Pairwise Lt → (∀ x, x ∈ l ↔ x ∈ m) → l = m
  | [], [], _, _, _ => rfl
  | [], y :: m, _, _, h => absurd ((h y).mpr List.mem_cons_self) (by simp)
  | x :: l, [], _, _, h => absurd ((h x).mp List.mem_cons_self) (by simp)
  | x :: l, y :: m, hl, hm, h => by
    rw [List.pairwise_cons] at hl hm
    have e : x = y := by
      rcases List.mem_cons.mp ((h x).mp List.mem_cons_self) with e | h1
      · exact e
      rcases List.mem_cons.mp ((h y).mpr List.mem_cons_self) with e | h2
      · exact e.symm
      exact (Lt.asymm (hm.1 x h1) (hl.1 y h2)).elim
    subst e
    have := uniq hl.2 hm.2 (fun z => by
      constructor
      · intro hz
        rcases List.mem_cons.mp ((h z).mp (List.mem_cons_of_mem _ hz)) with e | h1
        · subst e; exact (Lt.irrefl (hl.1 _ hz)).elim
        · exact h1
      · intro hz
        rcases List.mem_cons.mp ((h z).mpr (List.mem_cons_of_mem _ hz)) with e | h1
        · subst e; exact (Lt.irrefl (hm.1 _ hz)).elim
        · exact h1)
    rw [this]

/-- all rows of n, in order; the high ones -/
structure Rows (n : Int) (ps : List (Int × Int)) : Prop where
  srt : ps.Pairwise Lt
  mem : ∀ f l, (f, l) ∈ ps ↔ IsRow n f l
structure HRows (n : Int) (ps : List (Int × Int)) : Prop where
  srt : ps.Pairwise Lt
  mem : ∀ f l, (f, l) ∈ ps ↔ IsRow n f l ∧ 0 < f
theorem Rows.uniq {n : Int} {ps qs : List (Int × Int)} (a : Rows n ps) (b : Rows n qs) : ps = qs :=
  NB.uniq a.srt b.srt fun ⟨f, l⟩ => (a.mem f l).trans (b.mem f l).symm
theorem HRows.uniq {n : Int} {ps qs : List (Int × Int)} (a : HRows n ps) (b : HRows n qs) : ps = qs :=
  NB.uniq a.srt b.srt fun ⟨f, l⟩ => (a.mem f l).trans (b.mem f l).symm
theorem Rows.high {n : Int} {ps : List (Int × Int)} (a : Rows n ps) : HRows n (ps.filter fun p => decide (0 < p.1)) := by
  refine ⟨a.srt.filter _, fun f l => ?_⟩
  rw [List.mem_filter, a.mem]
  simp

theorem two_tri (L : Int) : 2 * (L * (L - 1) / 2) = L * (L - 1) := by
  have : L = 2 * (L / 2) ∨ L = 2 * (L / 2) + 1 := by omega
  generalize L / 2 = k at this
  rcases this with e | e
  · subst e
    rw [Int.mul_assoc, Int.mul_ediv_cancel_left _ (by decide)]
  · subst e
    have : (2 * k + 1) * (2 * k + 1 - 1) = 2 * (k * (2 * k + 1)) := by
      rw [Int.add_sub_cancel, Int.mul_comm, Int.mul_assoc]
    rw [this, Int.mul_ediv_cancel_left _ (by decide)]
theorem two_tri' (L : Int) : 2 * (L * (L + 1) / 2) = L * (L + 1) := by
  have h := two_tri (L + 1)
  rw [Int.add_sub_cancel] at h
  rw [Int.mul_comm L]
  exact h
/-- a row's equation by its length -/
theorem isRow_len {n f L : Int} (hL : 0 < L) : IsRow n f (f + L - 1) ↔ L * f = n - L * (L - 1) / 2 := by
  have t := two_tri L
  have e : (f + (f + L - 1)) * (f + L - 1 - f + 1) = 2 * (L * f) + L * (L - 1) := by
    have e1 : f + L - 1 - f + 1 = L := by omega
    have e2 : f + (f + L - 1) = 2 * f + (L - 1) := by omega
    rw [e1, e2, Int.add_mul, Int.mul_assoc, Int.mul_comm f L, Int.mul_comm (L - 1) L]
  unfold IsRow
  rw [e]
  constructor
  · rintro ⟨_, h⟩; omega
  · intro h; exact ⟨by omega, by omega⟩

/-- row_of: the row of a length -/
def rowOf (n L : Int) : Option (Int × Int) :=
  if (n - L * (L - 1) / 2) % L = 0 then some ((n - L * (L - 1) / 2) / L, (n - L * (L - 1) / 2) / L + L - 1) else none
theorem rowOf_iff {n L f l : Int} (hL : 0 < L) : rowOf n L = some (f, l) ↔ l = f + L - 1 ∧ IsRow n f l := by
  unfold rowOf
  generalize hx : n - L * (L - 1) / 2 = x
  constructor
  · intro h
    split at h
    · rename_i h0
      injection h with h
      injection h with h1 h2
      subst h1 h2
      refine ⟨rfl, (isRow_len hL).mpr ?_⟩
      rw [hx, Int.mul_ediv_cancel' (Int.dvd_of_emod_eq_zero h0)]
    · cases h
  · rintro ⟨e, h⟩
    subst e
    have h := (isRow_len hL).mp h
    rw [hx] at h
    rw [if_pos (by rw [← h]; exact Int.mul_emod_right _ _), ← h, Int.mul_ediv_cancel_left _ (by omega)]
theorem rowOf_none {n L : Int} (hL : 0 < L) : rowOf n L = none ↔ ∀ f, ¬ IsRow n f (f + L - 1) := by
  constructor
  · intro h f hr
    have := (rowOf_iff hL).mpr ⟨rfl, hr⟩
    rw [h] at this; cases this
  · intro h
    cases e : rowOf n L with
    | none => rfl
    | some p =>
      obtain ⟨f, l⟩ := p
      obtain ⟨e1, e2⟩ := (rowOf_iff hL).mp e
      rw [e1] at e2
      exact (h f e2).elim
/-- as the law reckons it -/
def dueOf (n L : Int) : Option (Int × Int) :=
  if (2 * n - L * (L - 1)) % (2 * L) = 0 then some ((2 * n - L * (L - 1)) / L / 2, (2 * n - L * (L - 1)) / L / 2 + L - 1) else none
theorem dueOf_eq {n L : Int} (hL : 0 < L) : dueOf n L = rowOf n L := by
  unfold dueOf rowOf
  have t := two_tri L
  generalize hx : L * (L - 1) / 2 = x at *
  have e : 2 * n - L * (L - 1) = 2 * (n - x) := by omega
  rw [e]
  have e2 : 2 * (n - x) % (2 * L) = 2 * ((n - x) % L) := Int.mul_emod_mul_of_pos _ _ (by decide)
  rw [e2]
  by_cases h : (n - x) % L = 0
  · rw [if_pos h, if_pos (by omega)]
    have e3 : 2 * (n - x) / L / 2 = (n - x) / L := by
      obtain ⟨k, hk⟩ := Int.dvd_of_emod_eq_zero h
      rw [hk, show 2 * (L * k) = L * (2 * k) by rw [Int.mul_left_comm], Int.mul_ediv_cancel_left _ (by omega), Int.mul_ediv_cancel_left _ (by decide), Int.mul_ediv_cancel_left _ (by omega)]
    rw [e3]
  · rw [if_neg h, if_neg (by omega)]

/-! ### what the law reckons: by the lengths from 1 on -/
def acc (n : Int) : Nat → List (Int × Int)
  | 0 => []
  | k + 1 => match rowOf n (k + 1 : Nat) with
    | some p => acc n k ++ [p]
    | none => acc n k
theorem acc_some {n : Int} {k : Nat} {p : Int × Int} (h : rowOf n (k + 1 : Nat) = some p) : acc n (k + 1) = acc n k ++ [p] := by
  rw [acc, h]
theorem acc_none {n : Int} {k : Nat} (h : rowOf n (k + 1 : Nat) = none) : acc n (k + 1) = acc n k := by
  rw [acc, h]
theorem acc_mem {n : Int} : ∀ {K : Nat} {f l : Int}, (f, l) ∈ acc n K ↔ ∃ L : Nat, 1 ≤ L ∧ L ≤ K ∧ rowOf n L = some (f, l)
  | 0, f, l => by
    constructor
    · intro h; cases h
    · rintro ⟨L, h1, h2, _⟩; omega
  | k + 1, f, l => by
    have ih := acc_mem (n := n) (K := k) (f := f) (l := l)
    have step : (∃ L : Nat, 1 ≤ L ∧ L ≤ k + 1 ∧ rowOf n L = some (f, l)) ↔ (∃ L : Nat, 1 ≤ L ∧ L ≤ k ∧ rowOf n L = some (f, l)) ∨ rowOf n (k + 1 : Nat) = some (f, l) := by
      constructor
      · rintro ⟨L, h1, h2, h3⟩
        by_cases e : L = k + 1
        · subst e; exact .inr h3
        · exact .inl ⟨L, h1, by omega, h3⟩
      · rintro (⟨L, h1, h2, h3⟩ | h)
        · exact ⟨L, h1, by omega, h3⟩
        · exact ⟨k + 1, by omega, by omega, h⟩
    rw [step, ← ih]
    cases e : rowOf n (k + 1 : Nat) with
    | none => rw [acc_none e]; simp
    | some p => rw [acc_some e, List.mem_append, List.mem_singleton]; simp [eq_comm]
theorem acc_len {n : Int} : ∀ {K : Nat}, (acc n K).length ≤ K
  | 0 => Nat.le_refl _
  | k + 1 => by
    have ih := acc_len (n := n) (K := k)
    unfold acc
    split
    · rw [List.length_append]; simp only [List.length_cons, List.length_nil]; omega
    · omega
theorem tri_mono {a b : Int} (h0 : 0 ≤ a) (h : a ≤ b) : a * (a + 1) / 2 ≤ b * (b + 1) / 2 := by
  have h1 : a * (a + 1) ≤ b * (b + 1) := Int.mul_le_mul h (by omega) (by omega) (by omega)
  have := two_tri' a
  have := two_tri' b
  omega
theorem tri_step (L : Int) : L * (L - 1) / 2 + L = L * (L + 1) / 2 := by
  have h1 := two_tri L
  have h2 := two_tri' L
  have e1 : L * (L - 1) = L * L - L := by rw [Int.mul_sub, Int.mul_one]
  have e2 : L * (L + 1) = L * L + L := by rw [Int.mul_add, Int.mul_one]
  omega
/-- a row's length says whether it is high -/
theorem row_high {n f L : Int} (hL : 0 < L) (h : IsRow n f (f + L - 1)) : 0 < f ↔ L * (L + 1) / 2 ≤ n := by
  have e := (isRow_len hL).mp h
  have t := tri_step L
  constructor
  · intro hf
    have : L * 1 ≤ L * f := Int.mul_le_mul_of_nonneg_left (by omega) (by omega)
    omega
  · intro hn
    refine Decidable.byContradiction fun hc => ?_
    have : L * f ≤ L * 0 := Int.mul_le_mul_of_nonneg_left (by omega) (by omega)
    omega
/-- longer rows begin earlier -/
theorem row_anti {n f g L M : Int} (hL : 0 < L) (h : L < M) (hg : 0 < g) (a : IsRow n f (f + L - 1)) (b : IsRow n g (g + M - 1)) : g < f := by
  have e1 := (isRow_len hL).mp a
  have e2 := (isRow_len (show 0 < M by omega)).mp b
  refine Decidable.byContradiction fun hc => ?_
  have h1 : L * f ≤ L * g := Int.mul_le_mul_of_nonneg_left (by omega) (by omega)
  have h2 : L * g < M * g := Int.mul_lt_mul_of_pos_right h hg
  have h3 : L * (L - 1) ≤ M * (M - 1) := Int.mul_le_mul (by omega) (by omega) (by omega) (by omega)
  have := two_tri L
  have := two_tri M
  omega
theorem acc_high {n : Int} : ∀ {K : Nat}, (K : Int) * ((K : Int) + 1) / 2 ≤ n → ∀ p ∈ acc n K, 0 < p.1 := by
  intro K hK ⟨f, l⟩ hp
  obtain ⟨L, h1, h2, h3⟩ := acc_mem.mp hp
  obtain ⟨e, hr⟩ := (rowOf_iff (by omega)).mp h3
  subst e
  exact (row_high (by omega) hr).mpr (Int.le_trans (tri_mono (by omega) (by omega)) hK)
theorem acc_srt {n : Int} : ∀ {K : Nat}, (K : Int) * ((K : Int) + 1) / 2 ≤ n → (acc n K).reverse.Pairwise Lt
  | 0, _ => List.Pairwise.nil
  | k + 1, hK => by
    have hk : (k : Int) * ((k : Int) + 1) / 2 ≤ n := Int.le_trans (tri_mono (by omega) (by omega)) hK
    have ih := acc_srt (n := n) (K := k) hk
    unfold acc
    split
    · rename_i p hp
      obtain ⟨g, m⟩ := p
      rw [List.reverse_append]
      show List.Pairwise Lt ((g, m) :: (acc n k).reverse)
      rw [List.pairwise_cons]
      refine ⟨fun ⟨f, l⟩ hm => ?_, ih⟩
      obtain ⟨L, h1, h2, h3⟩ := acc_mem.mp (List.mem_reverse.mp hm)
      obtain ⟨e1, r1⟩ := (rowOf_iff (by omega)).mp h3
      obtain ⟨e2, r2⟩ := (rowOf_iff (by omega)).mp hp
      subst e1
      subst e2
      have hg : 0 < g := (row_high (by omega) r2).mpr hK
      exact .inl (row_anti (L := L) (M := ((k + 1 : Nat) : Int)) (by omega) (by omega) hg r1 r2)
    · exact ih
/-- behind the loop: the high rows -/
theorem acc_rows {n : Int} {K : Nat} (h1 : (K : Int) * ((K : Int) + 1) / 2 ≤ n) (h2 : n < ((K : Int) + 1) * ((K : Int) + 1 + 1) / 2) : HRows n (acc n K).reverse := by
  refine ⟨acc_srt h1, fun f l => ?_⟩
  rw [List.mem_reverse]
  constructor
  · intro h
    have hf := acc_high h1 _ h
    obtain ⟨L, a1, a2, a3⟩ := acc_mem.mp h
    exact ⟨((rowOf_iff (by omega)).mp a3).2, hf⟩
  · rintro ⟨hr, hf⟩
    have hle := hr.1
    obtain ⟨L, eL⟩ := Int.eq_ofNat_of_zero_le (show 0 ≤ l - f + 1 by omega)
    have el : l = f + (L : Int) - 1 := by omega
    have hL : 0 < (L : Int) := by omega
    have hr' : IsRow n f (f + (L : Int) - 1) := el ▸ hr
    have hn := (row_high hL hr').mp hf
    refine acc_mem.mpr ⟨L, by omega, ?_, (rowOf_iff hL).mpr ⟨el, hr⟩⟩
    refine Decidable.byContradiction fun hc => ?_
    have := tri_mono (a := (K : Int) + 1) (b := (L : Int)) (by omega) (by omega)
    omega
/-- the rows below nought -/
theorem low_iff {n f l : Int} (hn : 0 < n) : IsRow n f l ∧ ¬ 0 < f ↔ IsRow n (1 - f) l ∧ 0 < 1 - f := by
  have e : ∀ f l : Int, (1 - f + l) * (l - (1 - f) + 1) = (f + l) * (l - f + 1) := fun f l => by
    rw [show l - (1 - f) + 1 = f + l by omega, show 1 - f + l = l - f + 1 by omega, Int.mul_comm]
  unfold IsRow
  rw [e]
  constructor
  · rintro ⟨⟨h1, h2⟩, h3⟩
    refine ⟨⟨?_, h2⟩, by omega⟩
    refine Decidable.byContradiction fun hc => ?_
    have : (f + l) * (l - f + 1) ≤ 0 := Int.mul_nonpos_of_nonpos_of_nonneg (by omega) (by omega)
    omega
  · rintro ⟨⟨h1, h2⟩, h3⟩
    exact ⟨⟨by omega, h2⟩, by omega⟩
/-- all rows: the high ones, and each's fellow -/
theorem Rows.of_high {n : Int} (hn : 0 < n) {ps qs : List (Int × Int)} (h : HRows n ps) (hs : qs.Pairwise Lt) (hm : ∀ x, x ∈ qs ↔ x ∈ ps ++ ps.map fun p : Int × Int => ((1 - p.1, p.2) : Int × Int)) : Rows n qs := by
  refine ⟨hs, fun f l => ?_⟩
  rw [hm, List.mem_append, h.mem, List.mem_map]
  have key : (∃ a, a ∈ ps ∧ (1 - a.1, a.2) = (f, l)) ↔ IsRow n f l ∧ ¬ 0 < f := by
    rw [low_iff hn]
    constructor
    · rintro ⟨⟨g, m⟩, h1, h2⟩
      injection h2 with h2 h3
      have e1 : 1 - f = g := by simp only at h2; omega
      simp only at h3
      subst h3
      rw [e1]
      exact (h.mem _ _).mp h1
    · rintro h1
      refine ⟨(1 - f, l), (h.mem _ _).mpr h1, ?_⟩
      rw [show 1 - (1 - f) = f by omega]
  rw [key]
  constructor
  · rintro (⟨a, _⟩ | ⟨a, _⟩) <;> exact a
  · intro a
    by_cases hf : 0 < f
    · exact .inl ⟨a, hf⟩
    · exact .inr ⟨a, hf⟩
/-- the two kinds are apart: their lists one behind the other are without doubles -/
theorem whole_nodup {n : Int} {ps : List (Int × Int)} (h : HRows n ps) : (ps ++ ps.map fun p : Int × Int => ((1 - p.1, p.2) : Int × Int)).Nodup := by
  have nd : ps.Nodup := h.srt.imp fun {a b} hab e => by subst e; exact Lt.irrefl hab
  rw [List.nodup_append]
  refine ⟨nd, ?_, ?_⟩
  · refine List.pairwise_map.mpr (nd.imp fun {a b} hab e => hab ?_)
    obtain ⟨a1, a2⟩ := a
    obtain ⟨b1, b2⟩ := b
    injection e with e1 e2
    simp only at e1 e2
    rw [e2, show a1 = b1 by omega]
  · rintro ⟨f, l⟩ ha ⟨g, m⟩ hb e
    obtain ⟨⟨c, d⟩, h1, h2⟩ := List.mem_map.mp hb
    have x1 := ((h.mem _ _).mp ha).2
    have x2 := ((h.mem _ _).mp h1).2
    injection h2 with h2 h3
    injection e with e1 e2
    simp only at h2
    omega
end NB

set_option Elab.async false
/-! parts_of. -/
namespace NB
def low (n : Int) : Nat → List Int
  | 0 => []
  | k + 1 => if n % ((k + 1 : Nat) : Int) = 0 then low n k ++ [((k + 1 : Nat) : Int)] else low n k
def high (n : Int) : Nat → List Int
  | 0 => []
  | k + 1 => if n % ((k + 1 : Nat) : Int) = 0 ∧ ((k + 1 : Nat) : Int) * ((k + 1 : Nat) : Int) < n then high n k ++ [n / ((k + 1 : Nat) : Int)] else high n k
theorem low_len {n : Int} : ∀ {k : Nat}, (low n k).length ≤ k
  | 0 => Nat.le_refl _
  | k + 1 => by
    have ih := low_len (n := n) (k := k)
    unfold low
    split
    · rw [List.length_append]; simp only [List.length_cons, List.length_nil]; omega
    · omega
theorem high_len {n : Int} : ∀ {k : Nat}, (high n k).length ≤ k
  | 0 => Nat.le_refl _
  | k + 1 => by
    have ih := high_len (n := n) (k := k)
    unfold high
    split
    · rw [List.length_append]; simp only [List.length_cons, List.length_nil]; omega
    · omega
theorem low_mem {n d : Int} : ∀ {k : Nat}, d ∈ low n k ↔ 0 < d ∧ d ≤ k ∧ n % d = 0
  | 0 => by
    constructor
    · intro h; cases h
    · rintro ⟨h1, h2, _⟩; omega
  | k + 1 => by
    have ih := low_mem (n := n) (d := d) (k := k)
    unfold low
    split
    · rename_i h
      rw [List.mem_append, List.mem_singleton, ih]
      constructor
      · rintro (⟨a, b, c⟩ | e)
        · exact ⟨a, by omega, c⟩
        · subst e; exact ⟨by omega, by omega, h⟩
      · rintro ⟨a, b, c⟩
        by_cases e : d = ((k + 1 : Nat) : Int)
        · exact .inr e
        · exact .inl ⟨a, by omega, c⟩
    · rename_i h
      rw [ih]
      constructor
      · rintro ⟨a, b, c⟩; exact ⟨a, by omega, c⟩
      · rintro ⟨a, b, c⟩
        refine ⟨a, ?_, c⟩
        by_cases e : d = ((k + 1 : Nat) : Int)
        · subst e; exact absurd c h
        · omega
theorem high_mem {n e : Int} : ∀ {k : Nat}, e ∈ high n k ↔ ∃ d : Int, 0 < d ∧ d ≤ k ∧ n % d = 0 ∧ d * d < n ∧ e = n / d
  | 0 => by
    constructor
    · intro h; cases h
    · rintro ⟨d, h1, h2, _⟩; omega
  | k + 1 => by
    have ih := high_mem (n := n) (e := e) (k := k)
    unfold high
    split
    · rename_i h
      rw [List.mem_append, List.mem_singleton, ih]
      constructor
      · rintro (⟨d, a, b, c⟩ | e)
        · exact ⟨d, a, by omega, c⟩
        · exact ⟨_, by omega, Int.le_refl _, h.1, h.2, e⟩
      · rintro ⟨d, a, b, c1, c2, c3⟩
        by_cases x : d = ((k + 1 : Nat) : Int)
        · subst x; exact .inr c3
        · exact .inl ⟨d, a, by omega, c1, c2, c3⟩
    · rename_i h
      rw [ih]
      constructor
      · rintro ⟨d, a, b, c⟩; exact ⟨d, a, by omega, c⟩
      · rintro ⟨d, a, b, c1, c2, c3⟩
        refine ⟨d, a, ?_, c1, c2, c3⟩
        by_cases x : d = ((k + 1 : Nat) : Int)
        · subst x; exact absurd ⟨c1, c2⟩ h
        · omega
theorem low_nodup {n : Int} : ∀ {k : Nat}, (low n k).Nodup
  | 0 => List.nodup_nil
  | k + 1 => by
    have ih := low_nodup (n := n) (k := k)
    unfold low
    split
    · rw [List.nodup_append]
      refine ⟨ih, by simp, fun a ha b hb e => ?_⟩
      have := (low_mem.mp ha).2.1
      rw [List.mem_singleton] at hb
      omega
    · exact ih
/-- the great part beside d is beyond k -/
theorem great {n d : Int} {k : Nat} (h1 : 0 < d) (h2 : d ≤ k) (h3 : n % d = 0) (h4 : d * d < n) (hk : (k : Int) * k ≤ n) : (k : Int) < n / d := by
  refine Decidable.byContradiction fun hc => ?_
  have e : d * (n / d) = n := Int.mul_ediv_cancel' (Int.dvd_of_emod_eq_zero h3)
  have hlt : d < n / d := by
    refine Decidable.byContradiction fun hx => ?_
    have : d * (n / d) ≤ d * d := Int.mul_le_mul_of_nonneg_left (by omega) (by omega)
    omega
  -- n = d * (n/d) < k * k when d < n/d ≤ k
  have h5 : d * (n / d) < (n / d) * (n / d) := Int.mul_lt_mul_of_pos_right hlt (by omega)
  have h6 : (n / d) * (n / d) ≤ (k : Int) * k := Int.mul_le_mul (by omega) (by omega) (by omega) (by omega)
  omega
theorem div_inj {n d e : Int} (hn : 0 < n) (h1 : 0 < d) (h2 : 0 < e) (h3 : n % d = 0) (h4 : n % e = 0) (h : n / d = n / e) : d = e := by
  have a := Int.mul_ediv_cancel' (Int.dvd_of_emod_eq_zero h3)
  have b := Int.mul_ediv_cancel' (Int.dvd_of_emod_eq_zero h4)
  rw [h] at a
  have hp : n / e ≠ 0 := by
    intro z
    rw [z] at b
    omega
  exact Int.eq_of_mul_eq_mul_right hp (a.trans b.symm)
theorem high_nodup {n : Int} (hn : 0 < n) : ∀ {k : Nat}, (high n k).Nodup
  | 0 => List.nodup_nil
  | k + 1 => by
    have ih := high_nodup hn (k := k)
    unfold high
    split
    · rename_i h
      rw [List.nodup_append]
      refine ⟨ih, by simp, fun a ha b hb e => ?_⟩
      obtain ⟨d, a1, a2, a3, a4, a5⟩ := high_mem.mp ha
      rw [List.mem_singleton] at hb
      have := div_inj hn a1 (by omega) a3 h.1 (a5.symm.trans (e.trans hb))
      omega
    · exact ih
def parts (n : Int) (k : Nat) : List Int := low n k ++ (high n k).reverse
theorem parts_mem {n d : Int} {k : Nat} (hn : 0 < n) (h2 : n < ((k : Int) + 1) * ((k : Int) + 1)) : d ∈ parts n k ↔ 0 < d ∧ n % d = 0 := by
  unfold parts
  rw [List.mem_append, List.mem_reverse, low_mem, high_mem]
  constructor
  · rintro (⟨a, _, c⟩ | ⟨e, a, b, c, x, rfl⟩)
    · exact ⟨a, c⟩
    · have q := Int.mul_ediv_cancel' (Int.dvd_of_emod_eq_zero c)
      refine ⟨Int.pos_of_mul_pos_right (a := e) (by omega) (by omega), ?_⟩
      have q' : n = (n / e) * e := by rw [Int.mul_comm]; exact q.symm
      generalize n / e = m at q'
      rw [q']
      exact Int.mul_emod_right _ _
  · rintro ⟨a, c⟩
    by_cases hd : d ≤ k
    · exact .inl ⟨a, hd, c⟩
    · refine .inr ?_
      have q := Int.mul_ediv_cancel' (Int.dvd_of_emod_eq_zero c)
      have hp : 0 < n / d := Int.pos_of_mul_pos_right (a := d) (by omega) (by omega)
      -- e = n / d is below d
      have hlt : n / d < (k : Int) + 1 := by
        refine Decidable.byContradiction fun hx => ?_
        have : ((k : Int) + 1) * ((k : Int) + 1) ≤ d * (n / d) := Int.mul_le_mul (by omega) (by omega) (by omega) (by omega)
        omega
      have e2 : n / (n / d) = d := by
        refine Int.ediv_eq_of_eq_mul_right (by omega) ?_
        rw [Int.mul_comm]; exact q.symm
      refine ⟨n / d, hp, by omega, ?_, ?_, e2.symm⟩
      · have q' : n = (n / d) * d := by rw [Int.mul_comm]; exact q.symm
        generalize n / d = m at q'
        rw [q']
        exact Int.mul_emod_right _ _
      · have : (n / d) * (n / d) < d * (n / d) := Int.mul_lt_mul_of_pos_right (by omega) hp
        omega
theorem parts_nodup {n : Int} {k : Nat} (hn : 0 < n) (hk : (k : Int) * k ≤ n) : (parts n k).Nodup := by
  unfold parts
  rw [List.nodup_append]
  refine ⟨low_nodup, (List.reverse_perm _).nodup_iff.mpr (high_nodup hn), fun a ha b hb e => ?_⟩
  have h1 := (low_mem.mp ha).2.1
  obtain ⟨d, a1, a2, a3, a4, a5⟩ := high_mem.mp (List.mem_reverse.mp hb)
  have h := great a1 a2 a3 a4 hk
  omega
theorem parts_len {n : Int} {k : Nat} : (parts n k).length ≤ 2 * k := by
  unfold parts
  rw [List.length_append, List.length_reverse]
  have := low_len (n := n) (k := k)
  have := high_len (n := n) (k := k)
  omega
/-- what a list of all parts of a number is -/
structure Parts (n : Int) (ds : List Int) : Prop where
  nd : ds.Nodup
  mem : ∀ d, d ∈ ds ↔ 0 < d ∧ n % d = 0
theorem parts_ok {n : Int} {k : Nat} (hn : 0 < n) (h1 : (k : Int) * k ≤ n) (h2 : n < ((k : Int) + 1) * ((k : Int) + 1)) : Parts n (parts n k) := ⟨parts_nodup hn h1, fun _ => parts_mem hn h2⟩
/-- the rows by the parts of twice the number -/
theorem found_mem {n : Int} {ds : List Int} (h : Parts (2 * n) ds) {f l : Int} : (f, l) ∈ ds.filterMap (rowOf n) ↔ IsRow n f l := by
  rw [List.mem_filterMap]
  constructor
  · rintro ⟨L, hL, e⟩
    exact ((rowOf_iff ((h.mem L).mp hL).1).mp e).2
  · intro hr
    have hle := hr.1
    refine ⟨l - f + 1, (h.mem _).mpr ⟨by omega, ?_⟩, (rowOf_iff (by omega)).mpr ⟨by omega, hr⟩⟩
    rw [← hr.2]
    exact Int.mul_emod_left _ _
theorem nodup_filterMap {α β : Type} {f : α → Option β} {l : List α} (h : l.Nodup) (inj : ∀ a ∈ l, ∀ b ∈ l, ∀ x, f a = some x → f b = some x → a = b) : (l.filterMap f).Nodup := by
  induction l with
  | nil => exact List.nodup_nil
  | cons a r ih =>
    rw [List.nodup_cons] at h
    have ih' := ih h.2 fun x hx y hy => inj x (List.mem_cons_of_mem _ hx) y (List.mem_cons_of_mem _ hy)
    rw [List.filterMap_cons]
    split
    · exact ih'
    · rename_i x hx
      rw [List.nodup_cons]
      refine ⟨fun hm => ?_, ih'⟩
      obtain ⟨b, hb, e⟩ := List.mem_filterMap.mp hm
      have := inj a List.mem_cons_self b (List.mem_cons_of_mem _ hb) x hx e
      subst this
      exact h.1 hb
theorem found_nodup {n : Int} {ds : List Int} (h : Parts (2 * n) ds) : (ds.filterMap (rowOf n)).Nodup := by
  refine nodup_filterMap h.nd fun a ha b hb ⟨f, l⟩ e1 e2 => ?_
  have a1 := ((rowOf_iff ((h.mem a).mp ha).1).mp e1).1
  have b1 := ((rowOf_iff ((h.mem b).mp hb).1).mp e2).1
  omega
/-- sorted: each pair not behind the next; the same pairs, none twice -/
theorem strict_of {qs : List (Int × Int)} (h : qs.Pairwise fun p q => ¬ Lt q p) (nd : qs.Nodup) : qs.Pairwise Lt := by
  refine (h.and nd).imp fun {p q} ⟨a, b⟩ => ?_
  obtain ⟨p1, p2⟩ := p
  obtain ⟨q1, q2⟩ := q
  unfold Lt at *
  simp only at *
  by_cases e1 : p1 = q1
  · by_cases e2 : p2 = q2
    · subst e1 e2; exact (b rfl).elim
    · omega
  · omega
theorem rows_ok {n : Int} {ds : List Int} (h : Parts (2 * n) ds) {qs : List (Int × Int)} (hs : qs.Pairwise fun p q => ¬ Lt q p) (hp : qs.Perm (ds.filterMap (rowOf n))) : Rows n qs :=
  ⟨strict_of hs (hp.nodup_iff.mpr (found_nodup h)), fun _ _ => hp.mem_iff.trans (found_mem h)⟩
theorem whole_ok {n : Int} (hn : 0 < n) {ps qs : List (Int × Int)} (h : HRows n ps) (hs : qs.Pairwise fun p q => ¬ Lt q p) (hp : qs.Perm (ps ++ ps.map fun p : Int × Int => ((1 - p.1, p.2) : Int × Int))) : Rows n qs :=
  Rows.of_high hn h (strict_of hs (hp.nodup_iff.mpr (whole_nodup h))) fun _ => hp.mem_iff
end NB

set_option Elab.async false
set_option maxRecDepth 100000
/-! The least number with so many rows: the program's search, the law's, and the numbers up to 729. -/
namespace NB
/-- one turn of least_from's loop: often is i + 1 -/
def lstep (rest : Int → Int → Option Int) (p many : Int) (best : Option Int) (i : Nat) : Option Int :=
  if many % (1 + (i : Int) + 1) = 0 then
    match rest (many / (1 + (i : Int) + 1)) (1 + (i : Int)) with
    | none => best
    | some r => some (match best with
      | none => r * p ^ (i + 1)
      | some b => if r * p ^ (i + 1) < b then r * p ^ (i + 1) else b)
  else best
def leastF : List Int → Int → Int → Option Int
  | [], many, _ => if many = 1 then some 1 else none
  | p :: ps, many, most => if many = 1 then some 1 else (List.range most.toNat).foldl (lstep (leastF ps) p many) none
def prs : List Int := [3, 5, 7, 11, 13, 17]
def tgt : Nat → Nat
  | 1 => 1 | 2 => 3 | 3 => 9 | 4 => 15 | 5 => 81 | 6 => 45 | 7 => 729 | 8 => 105 | 9 => 225 | 10 => 405 | _ => 0
/-- the ways to part a count; fuel: its halvings -/
def waysF : Nat → Int → Int → List (List Int)
  | 0, many, _ => if many = 1 then [[]] else []
  | k + 1, many, most => (if many = 1 then [[]] else []) ++ (List.range ((if most < many then most else many) + 1 - 2).toNat).flatMap fun (i : Nat) =>
      if many % (2 + (i : Int)) = 0 then (waysF k (many / (2 + (i : Int))) (2 + (i : Int))).map fun r => (2 + (i : Int)) :: r else []
def prodF (way : List Int) : Int := (prs.zip way).foldl (fun a pf => a * pf.1 ^ (pf.2 - 1).toNat) 1
def prodsF (many : Int) : List Int := (waysF 6 many many).map prodF
/-- the program's is the least of the law's -/
theorem least_ok : ∀ m : Nat, m < 61 → 1 ≤ m → ∃ r, leastF prs m m = some r ∧ r ∈ prodsF m ∧ ∀ x ∈ prodsF m, r ≤ x := by
  have key : ∀ m : Nat, m < 61 → 1 ≤ m → (match leastF prs m m with
    | some r => decide (r ∈ prodsF m) && (prodsF m).all fun x => decide (r ≤ x)
    | none => false) = true := by decide +kernel
  intro m h1 h2
  have h := key m h1 h2
  cases e : leastF prs m m with
  | none => rw [e] at h; cases h
  | some r =>
    rw [e] at h
    simp only [Bool.and_eq_true, List.all_eq_true, decide_eq_true_eq] at h
    exact ⟨r, rfl, h.1, h.2⟩
theorem least_tgt : ∀ c : Nat, c < 11 → 1 ≤ c → leastF prs c c = some (tgt c : Int) := by decide +kernel
theorem tgt_ok : ∀ c : Nat, c < 11 → 1 ≤ c → 1 ≤ tgt c ∧ tgt c ≤ 729 := by decide
def kOf : Nat → Nat → Nat
  | 0, _ => 0
  | f + 1, n => let k := kOf f n; if (k + 1) * (k + 2) / 2 ≤ n then k + 1 else k
theorem kOf_ok : ∀ n : Nat, n < 730 → 1 ≤ n → ((kOf 40 n : Nat) : Int) * ((kOf 40 n : Nat) + 1) / 2 ≤ n ∧ (n : Int) < ((kOf 40 n : Nat) + 1) * ((kOf 40 n : Nat) + 1 + 1) / 2 := by decide +kernel
def cnt (n : Nat) : Nat := (acc n (kOf 40 n)).length
theorem cnt_few : ∀ n : Nat, n < 730 → 1 ≤ n → 10 < cnt n ∨ (1 ≤ cnt n ∧ tgt (cnt n) ≤ n) := by decide +kernel
theorem cnt_tgt : ∀ c : Nat, c < 11 → 1 ≤ c → cnt (tgt c) = c := by decide +kernel
theorem cnt_of {n : Nat} {ps : List (Int × Int)} (h1 : 1 ≤ n) (h2 : n < 730) (h : HRows n ps) : ps.length = cnt n := by
  obtain ⟨a, b⟩ := kOf_ok n h2 h1
  rw [h.uniq (acc_rows a b), List.length_reverse]
  rfl
/-- how many ways at most -/
def sB (many : Int) (k : Nat) : Nat := ((List.range k).map fun (i : Nat) => if many % (2 + (i : Int)) = 0 then (many / (2 + (i : Int))).toNat * (many / (2 + (i : Int))).toNat else 0).sum
theorem sB_succ (many : Int) (k : Nat) : sB many (k + 1) = sB many k + if many % (2 + (k : Int)) = 0 then (many / (2 + (k : Int))).toNat * (many / (2 + (k : Int))).toNat else 0 := by
  unfold sB
  rw [List.range_succ, List.map_append, List.sum_append]
  simp
theorem sB_mono (many : Int) : ∀ {k j : Nat}, k ≤ j → sB many k ≤ sB many j
  | k, 0, h => by
    have : k = 0 := by omega
    subst this
    exact Nat.le_refl _
  | k, j + 1, h => by
    by_cases e : k = j + 1
    · subst e; exact Nat.le_refl _
    · have := sB_mono many (show k ≤ j by omega)
      rw [sB_succ]
      omega
theorem sB_table : ∀ m : Nat, m < 61 → 2 ≤ m → sB (m : Int) 60 ≤ m * m := by decide +kernel
theorem flat_len {many : Int} {F : Nat → List (List Int)} : ∀ {k : Nat}, (∀ i, i < k → many % (2 + (i : Int)) = 0 → (F i).length ≤ (many / (2 + (i : Int))).toNat * (many / (2 + (i : Int))).toNat) →
    ((List.range k).flatMap fun (i : Nat) => if many % (2 + (i : Int)) = 0 then F i else []).length ≤ sB many k
  | 0, _ => Nat.le_refl _
  | k + 1, h => by
    have ih := flat_len (many := many) (F := F) (k := k) fun i hi => h i (by omega)
    rw [List.range_succ, List.flatMap_append, List.length_append, sB_succ]
    have h2 := h k (by omega)
    by_cases e : many % (2 + (k : Int)) = 0
    · rw [if_pos e]
      have h3 := h2 e
      simp only [List.flatMap_cons, List.flatMap_nil, List.append_nil, if_pos e]
      omega
    · rw [if_neg e]
      simp only [List.flatMap_cons, List.flatMap_nil, List.append_nil, if_neg e]
      simp only [List.length_nil]
      omega
theorem waysF_len : ∀ {n : Nat} {many most : Int}, 1 ≤ many → many ≤ 60 → (waysF n many most).length ≤ many.toNat * many.toNat
  | 0, many, most, h1, h2 => by
    unfold waysF
    split
    · rename_i e
      subst e
      decide
    · exact Nat.zero_le _
  | n + 1, many, most, h1, h2 => by
    unfold waysF
    rw [List.length_append]
    have key : ∀ k : Nat, k ≤ 60 → ((List.range k).flatMap fun (i : Nat) => if many % (2 + (i : Int)) = 0 then (waysF n (many / (2 + (i : Int))) (2 + (i : Int))).map fun r => (2 + (i : Int)) :: r else []).length ≤ sB many k := fun k hk => by
      refine flat_len fun i hi hd => ?_
      rw [List.length_map]
      have hq := Int.mul_ediv_cancel' (Int.dvd_of_emod_eq_zero hd)
      refine waysF_len ?_ ?_
      · exact Int.pos_of_mul_pos_right (a := 2 + (i : Int)) (by omega) (by omega)
      · have := Int.ediv_le_self (2 + (i : Int)) (show 0 ≤ many by omega)
        omega
    by_cases e : many = 1
    · subst e
      rw [if_pos rfl]
      have e2 : ((if most < 1 then most else 1) + 1 - 2 : Int).toNat = 0 := by split <;> omega
      rw [e2]
      exact Nat.le_refl 1
    · rw [if_neg e]
      obtain ⟨m, rfl⟩ := Int.eq_ofNat_of_zero_le (show 0 ≤ many by omega)
      have h3 := key ((if most < (m : Int) then most else (m : Int)) + 1 - 2).toNat (by split <;> omega)
      have h4 := sB_mono (m : Int) (show ((if most < (m : Int) then most else (m : Int)) + 1 - 2).toNat ≤ 60 by split <;> omega)
      have h5 := sB_table m (by omega) (by omega)
      rw [Int.toNat_natCast]
      simp only [List.length_nil]
      omega
theorem waysF_mem : ∀ {n : Nat} {many most : Int}, 1 ≤ many → many ≤ 60 → ∀ w ∈ waysF n many most, ∀ f ∈ w, 2 ≤ f ∧ f ≤ 60
  | 0, many, most, h1, h2, w, hw, f, hf => by
    unfold waysF at hw
    split at hw
    · rw [List.mem_singleton] at hw
      subst hw
      cases hf
    · cases hw
  | n + 1, many, most, h1, h2, w, hw, f, hf => by
    unfold waysF at hw
    rcases List.mem_append.mp hw with hw | hw
    · split at hw
      · rw [List.mem_singleton] at hw
        subst hw
        cases hf
      · cases hw
    · obtain ⟨i, hi, hw⟩ := List.mem_flatMap.mp hw
      have hi := List.mem_range.mp hi
      have hk : (i : Int) < 59 := by
        have : ((if most < many then most else many) + 1 - 2).toNat ≤ 59 := by split <;> omega
        omega
      split at hw
      · rename_i hd
        obtain ⟨r, hr, rfl⟩ := List.mem_map.mp hw
        rcases List.mem_cons.mp hf with rfl | hf
        · omega
        · have hq := Int.mul_ediv_cancel' (Int.dvd_of_emod_eq_zero hd)
          have := Int.ediv_le_self (2 + (i : Int)) (show 0 ≤ many by omega)
          exact waysF_mem (n := n) (Int.pos_of_mul_pos_right (a := 2 + (i : Int)) (by omega) (by omega)) (by omega) r hr f hf
      · cases hw
/-- the search as a loop -/
def foldF (ps : List Int) (many : Int) (k : Nat) : Option Int := match ps with
  | [] => none
  | p :: r => (List.range k).foldl (lstep (leastF r) p many) none
theorem leastF_eq (ps : List Int) (many most : Int) : leastF ps many most = if many = 1 then some 1 else foldF ps many most.toNat := by
  cases ps <;> rfl
theorem foldF_succ (p : Int) (r : List Int) (many : Int) (k : Nat) : foldF (p :: r) many (k + 1) = lstep (leastF r) p many (foldF (p :: r) many k) k := by
  unfold foldF
  simp only
  rw [List.range_succ, List.foldl_append]
  rfl
theorem waysF_wlen : ∀ {n : Nat} {many most : Int}, ∀ w ∈ waysF n many most, w.length ≤ n
  | 0, many, most, w, hw => by
    unfold waysF at hw
    split at hw
    · rw [List.mem_singleton] at hw
      subst hw
      exact Nat.le_refl _
    · cases hw
  | n + 1, many, most, w, hw => by
    unfold waysF at hw
    rcases List.mem_append.mp hw with hw | hw
    · split at hw
      · rw [List.mem_singleton] at hw
        subst hw
        exact Nat.zero_le _
      · cases hw
    · obtain ⟨i, _, hw⟩ := List.mem_flatMap.mp hw
      split at hw
      · obtain ⟨r, hr, rfl⟩ := List.mem_map.mp hw
        have := waysF_wlen (n := n) r hr
        rw [List.length_cons]
        omega
      · cases hw
end NB

set_option Elab.async false
set_option maxRecDepth 100000
set_option maxHeartbeats 4000000
/-! Words of our own over the hand layer. -/
namespace NB
open PySem L2
abbrev ib (i : Int) : Nat := Builtin.Int.intBits i
/-- a def of the top, as callers know it -/
def Callee (P : Program) (w : World) (K : PySem.W.Frag) (mg : Str → Option Value) (base : Heap) (k : Nat) (x : Str) (ps : List Str) (sp : Sp) : Prop :=
  ∃ f fd, mg x = some (.ref f) ∧ PySem.W.keepIn K (.ref f) = true ∧ Binds K fd ps [] ∧ FnOk P w K mg base CX0 k f fd ps sp
/-- the built-ins' names are no names of the module -/
structure Bt (mg : Str → Option Value) : Prop where
  isinstance_ : mg "isinstance" = none
  int_ : mg "int" = none
  bool_ : mg "bool" = none
  list_ : mg "list" = none
  tuple_ : mg "tuple" = none
  len_ : mg "len" = none
  max_ : mg "max" = none
  min_ : mg "min" = none
  sorted_ : mg "sorted" = none
  range_ : mg "range" = none
  sum_ : mg "sum" = none
  all_ : mg "all" = none
  zip_ : mg "zip" = none
  set_ : mg "set" = none
/-! ### pairs -/
/-- at t a pair of two ints -/
def IsP (H : Hp) (x : V) (p : Int × Int) : Prop := ∃ t, x = .ref t ∧ H t = some (.tup [.int p.1, .int p.2])
abbrev PL (H : Hp) (xs : List V) (ps : List (Int × Int)) : Prop := Paired (IsP H) xs ps
theorem IsP.same {H H' : Hp} (e : Same H H') {x : V} {p : Int × Int} (h : IsP H x p) : IsP H' x p := let ⟨t, a, b⟩ := h; ⟨t, a, e _ _ b⟩
theorem PL.same {H H' : Hp} (e : Same H H') {xs : List V} {ps : List (Int × Int)} (h : PL H xs ps) : PL H' xs ps := Paired.mapP h fun _ _ => IsP.same e
theorem PL.append {H : Hp} : ∀ {xs ys : List V} {ps qs : List (Int × Int)}, PL H xs ps → PL H ys qs → PL H (xs ++ ys) (ps ++ qs)
  | _, _, _, _, .nil, h => h
  | _, _, _, _, .cons a t, h => .cons a (PL.append t h)
theorem PL.reverse {H : Hp} : ∀ {xs : List V} {ps : List (Int × Int)}, PL H xs ps → PL H xs.reverse ps.reverse
  | _, _, .nil => .nil
  | _, _, .cons a t => by
    rw [List.reverse_cons, List.reverse_cons]
    exact PL.append (PL.reverse t) (.cons a .nil)
theorem PL.get {H : Hp} : ∀ {xs : List V} {ps : List (Int × Int)} {i : Nat} {x : V}, PL H xs ps → xs[i]? = some x → ∃ p, ps[i]? = some p ∧ IsP H x p
  | _, _, i, _, .nil, e => by simp at e
  | _, _, 0, _, .cons a t, e => by simp at e; subst e; exact ⟨_, rfl, a⟩
  | _, _, i + 1, x, .cons a t, e => by
    obtain ⟨p, h1, h2⟩ := PL.get (i := i) (x := x) t (by simpa using e)
    exact ⟨p, by simpa using h1, h2⟩
/-- at a a list of pairs, a thing of the program's own -/
def LP (H : Hp) (a : Addr) (ps : List (Int × Int)) : Prop := ∃ xs, H a = some (.lst xs) ∧ PL H xs ps
theorem LP.same {H H' : Hp} (e : Same H H') {a : Addr} {ps : List (Int × Int)} (h : LP H a ps) : LP H' a ps := let ⟨xs, h1, h2⟩ := h; ⟨xs, e _ _ h1, h2.same e⟩
theorem Same.new {H : Hp} {p : Addr} {o : HO} (h : H p = none) : Same H (upd H p o) := fun a u e => by
  rw [upd_ne (ne_of_none e h)]
  exact e
/-- an object that H does not know may change -/
theorem Same.mut {H H' : Hp} {p : Addr} {o : HO} (e : Same H H') (h : H p = none) : Same H (upd H' p o) := fun a u ha => by
  rw [upd_ne (ne_of_none ha h)]
  exact e a u ha
theorem ne_new {H : Hp} {p q : Addr} (h : H p = none) (h' : H q ≠ none) : q ≠ p := fun e => h' (e ▸ h)
/-! ### sorted, of pairs -/
def keyOf (H : Hp) : V → Int × Int
  | .ref t => match H t with
    | some (.tup [.int a, .int b]) => (a, b)
    | _ => (0, 0)
  | _ => (0, 0)
theorem IsP.key {H : Hp} {x : V} {p : Int × Int} (h : IsP H x p) : keyOf H x = p := by
  obtain ⟨t, rfl, h⟩ := h
  unfold keyOf
  simp only [h]
theorem PL.keys {H : Hp} : ∀ {xs : List V} {ps : List (Int × Int)}, PL H xs ps → xs.map (keyOf H) = ps
  | _, _, .nil => rfl
  | _, _, .cons a t => by rw [List.map_cons, a.key, PL.keys t]
theorem PL.mem {H : Hp} : ∀ {xs : List V} {ps : List (Int × Int)}, PL H xs ps → ∀ x ∈ xs, IsP H x (keyOf H x)
  | _, _, .nil, _, h => nomatch h
  | _, _, .cons a t, x, h => by
    rcases List.mem_cons.mp h with e | h
    · subst e; rw [a.key]; exact a
    · exact PL.mem t x h
theorem PL.of_keys {H : Hp} : ∀ {ys : List V}, (∀ x ∈ ys, IsP H x (keyOf H x)) → PL H ys (ys.map (keyOf H))
  | [], _ => .nil
  | y :: r, h => .cons (h y List.mem_cons_self) (PL.of_keys fun x hx => h x (List.mem_cons_of_mem _ hx))
theorem srt_facts {H : Hp} {xs ys : List V} {ps : List (Int × Int)} (hp : PL H xs ps) (h1 : SrtO.Srtd (ltP (keyOf H)) ys) (h2 : SrtO.Stb (ltP (keyOf H)) ys xs) :
    ∃ qs, PL H ys qs ∧ (qs.Pairwise fun p q => ¬ Lt q p) ∧ qs.Perm ps := by
  have hm : ∀ x ∈ ys, IsP H x (keyOf H x) := fun x hx => hp.mem x (h2.perm.mem_iff.mp hx)
  refine ⟨ys.map (keyOf H), PL.of_keys hm, ?_, ?_⟩
  · refine List.pairwise_map.mpr (List.Pairwise.imp (fun {x y} h => ?_) h1)
    have h' := SrtO.lexB_no.mp h
    unfold Lt
    omega
  · rw [← hp.keys]
    exact h2.perm.map _
theorem rd_sorted {K : PySem.W.Frag} {H : Hp} {a : Addr} {xs : List V} {ps : List (Int × Int)} {Q : VK} (hs : SqL K H a xs) (hp : PL H xs ps)
    (q : ∀ ys qs p, PL H ys qs → (qs.Pairwise fun p q => ¬ Lt q p) → qs.Perm ps → H p = none → Q (.ref p) (upd H p (.lst ys))) : rSortedPO K [.ref a] H Q := by
  refine ⟨a, xs, keyOf H, rfl, hs, fun x hx => hp.mem x hx, fun ys p h1 h2 hn => ?_⟩
  obtain ⟨qs, a, b, c⟩ := srt_facts hp h1 h2
  exact q ys qs p a b c hn
/-! ### data -/
def dat (ps : List (Int × Int)) : List PyData := ps.map fun p => PyData.tuple [.int p.1, .int p.2]
theorem PL.dat {K : PySem.W.Frag} {H : Hp} : ∀ {xs : List V} {ps : List (Int × Int)}, PL H xs ps → DpAll K H xs (NB.dat ps)
  | _, _, .nil => .nil
  | _, _, .cons a t => by
    obtain ⟨t1, e, h⟩ := a
    subst e
    exact .cons (.tup (SqT.of h) (.cons (.int _) (.cons (.int _) .nil))) (PL.dat t)
theorem LP.dat {K : PySem.W.Frag} {H : Hp} {a : Addr} {ps : List (Int × Int)} (h : LP H a ps) : Dp K H (.ref a) (.list (NB.dat ps)) :=
  let ⟨_, h1, h2⟩ := h
  .lst (SqL.of h1) h2.dat
theorem eqv_dat : ∀ ps qs : List (Int × Int), PyData.eqvAll (dat ps) (dat qs) = decide (ps = qs)
  | [], [] => by simp [dat, PyData.eqvAll]
  | [], q :: r => by simp [dat, PyData.eqvAll]
  | p :: r, [] => by simp [dat, PyData.eqvAll]
  | (a, b) :: r, (c, d) :: r' => by
    have ih := eqv_dat r r'
    unfold dat at *
    rw [List.map_cons, List.map_cons, PyData.eqvAll, ih, PyData.eqv, PyData.eqvAll, PyData.eqvAll, PyData.eqvAll, PyData.eqv, PyData.eqv]
    by_cases e1 : a = c <;> by_cases e2 : b = d <;> by_cases e3 : r = r' <;> simp [e1, e2, e3]
theorem lay_dat : ∀ ps : List (Int × Int), PyData.canLayAll0 (dat ps) = true
  | [] => rfl
  | (a, b) :: r => by
    have ih := lay_dat r
    unfold dat at *
    rw [List.map_cons, PyData.canLayAll0, ih]
    rfl
theorem dep_dat : ∀ ps : List (Int × Int), PyData.depthAll (dat ps) ≤ 2
  | [] => by decide
  | (a, b) :: r => by
    have ih := dep_dat r
    unfold dat at *
    rw [List.map_cons]
    simp only [PyData.depthAll, PyData.depth] at *
    omega
theorem shaped_dat (ps : List (Int × Int)) : SeqAt.shaped (.list (dat ps)) = true := by
  have h1 := lay_dat ps
  have h2 := dep_dat ps
  unfold SeqAt.shaped
  rw [Bool.and_eq_true]
  refine ⟨?_, ?_⟩
  · simp only [PyData.canLay0]; exact h1
  · refine decide_eq_true ?_
    simp only [PyData.depth]
    omega
theorem rd_eq {K : PySem.W.Frag} {H : Hp} {a b : Addr} {ps qs : List (Int × Int)} {Q : VK} (h1 : LP H a ps) (h2 : LP H b qs) (q : Q (.bl (decide (ps = qs))) H) : rEqD K (.ref a) (.ref b) H Q :=
  ⟨_, _, h1.dat, h2.dat, shaped_dat ps, shaped_dat qs, by rw [PyData.eqv, eqv_dat]; exact q⟩
theorem rd_ne {K : PySem.W.Frag} {H : Hp} {a b : Addr} {ps qs : List (Int × Int)} {Q : VK} (h1 : LP H a ps) (h2 : LP H b qs) (q : Q (.bl (!decide (ps = qs))) H) : rNeD K (.ref a) (.ref b) H Q :=
  ⟨_, _, h1.dat, h2.dat, shaped_dat ps, shaped_dat qs, by rw [PyData.eqv, eqv_dat]; exact q⟩
theorem IsP.dat {K : PySem.W.Frag} {H : Hp} {x : V} {p : Int × Int} (h : IsP H x p) : Dp K H x (.tuple [.int p.1, .int p.2]) := by
  obtain ⟨t, e, h⟩ := h
  subst e
  exact .tup (SqT.of h) (.cons (.int _) (.cons (.int _) .nil))
theorem shaped_p (p : Int × Int) : SeqAt.shaped (.tuple [.int p.1, .int p.2]) = true := by
  obtain ⟨a, b⟩ := p
  simp [SeqAt.shaped, PyData.canLay0, PyData.canLayAll0, PyData.depth, PyData.depthAll]
theorem eqv_p (p q : Int × Int) : PyData.eqv (.tuple [.int p.1, .int p.2]) (.tuple [.int q.1, .int q.2]) = decide (p = q) := by
  obtain ⟨a, b⟩ := p
  obtain ⟨c, d⟩ := q
  rw [PyData.eqv, PyData.eqvAll, PyData.eqvAll, PyData.eqvAll, PyData.eqv, PyData.eqv]
  by_cases e1 : a = c <;> by_cases e2 : b = d <;> simp [e1, e2]
theorem rd_eqP {K : PySem.W.Frag} {H : Hp} {x y : V} {p q : Int × Int} {Q : VK} (h1 : IsP H x p) (h2 : IsP H y q) (h : Q (.bl (decide (p = q))) H) : rEqD K x y H Q :=
  ⟨_, _, h1.dat, h2.dat, shaped_p p, shaped_p q, by rw [eqv_p]; exact h⟩
theorem rd_neP {K : PySem.W.Frag} {H : Hp} {x y : V} {p q : Int × Int} {Q : VK} (h1 : IsP H x p) (h2 : IsP H y q) (h : Q (.bl (!decide (p = q))) H) : rNeD K x y H Q :=
  ⟨_, _, h1.dat, h2.dat, shaped_p p, shaped_p q, by rw [eqv_p]; exact h⟩
/-- a pair or None -/
def IsO (H : Hp) (x : V) : Option (Int × Int) → Prop
  | none => x = .non
  | some p => IsP H x p
def datO : Option (Int × Int) → PyData
  | none => .none
  | some p => .tuple [.int p.1, .int p.2]
theorem IsO.same {H H' : Hp} (e : Same H H') {x : V} : ∀ {o : Option (Int × Int)}, IsO H x o → IsO H' x o
  | none, h => h
  | some _, h => IsP.same e h
theorem IsO.dat {K : PySem.W.Frag} {H : Hp} {x : V} : ∀ {o : Option (Int × Int)}, IsO H x o → Dp K H x (datO o)
  | none, h => by
    cases (show x = .non from h)
    exact .non
  | some _, h => IsP.dat h
theorem shaped_o : ∀ o : Option (Int × Int), SeqAt.shaped (datO o) = true
  | none => by decide
  | some p => shaped_p p
theorem eqv_o : ∀ o u : Option (Int × Int), PyData.eqv (datO o) (datO u) = decide (o = u)
  | none, none => rfl
  | none, some p => by simp [datO, PyData.eqv]
  | some p, none => by simp [datO, PyData.eqv]
  | some p, some q => by
    show PyData.eqv (.tuple [.int p.1, .int p.2]) (.tuple [.int q.1, .int q.2]) = _
    rw [eqv_p]
    simp
theorem rd_eqO {K : PySem.W.Frag} {H : Hp} {x y : V} {p q : Option (Int × Int)} {Q : VK} (h1 : IsO H x p) (h2 : IsO H y q) (h : Q (.bl (decide (p = q))) H) : rEqD K x y H Q :=
  ⟨_, _, h1.dat, h2.dat, shaped_o p, shaped_o q, by rw [eqv_o]; exact h⟩
theorem rd_neO {K : PySem.W.Frag} {H : Hp} {x y : V} {p q : Option (Int × Int)} {Q : VK} (h1 : IsO H x p) (h2 : IsO H y q) (h : Q (.bl (!decide (p = q))) H) : rNeD K x y H Q :=
  ⟨_, _, h1.dat, h2.dat, shaped_o p, shaped_o q, by rw [eqv_o]; exact h⟩
/-! ### isinstance of an int -/
theorem rd_isi_int {K : PySem.W.Frag} {H : Hp} {i : Int} {T : String} {b : Bool} {Q : VK} (h : kitB "int" T = some b) (q : Q (.bl b) H) : rIsi K [.int i, .ty T] H Q :=
  ⟨_, _, _, _, b, rfl, .ty T, .base (.int i), kit_ty h, q⟩
theorem rd_isi_lst {K : PySem.W.Frag} {H : Hp} {a : Addr} {xs : List V} {T : String} {b : Bool} {Q : VK} (e : H a = some (.lst xs)) (h : kitB "list" T = some b) (q : Q (.bl b) H) : rIsi K [.ref a, .ty T] H Q :=
  ⟨_, _, _, _, b, rfl, .ty T, .base (.lst e), kit_ty h, q⟩
theorem rd_isi_tup {K : PySem.W.Frag} {H : Hp} {a : Addr} {xs : List V} {T : String} {b : Bool} {Q : VK} (e : H a = some (.tup xs)) (h : kitB "tuple" T = some b) (q : Q (.bl b) H) : rIsi K [.ref a, .ty T] H Q :=
  ⟨_, _, _, _, b, rfl, .ty T, .base (.tup e), kit_ty h, q⟩
theorem ib_of {i : Int} {m : Nat} (h : i.natAbs < 2 ^ m) : ib i ≤ m := PySem.intBits_le_iff.mpr h
theorem itB {b : Bool} {A B : Prop} (hb : b = true) (h : A) : if b = true then A else B := by rw [if_pos hb]; exact h
theorem itN {b : Bool} {A B : Prop} (hb : b = false) (h : B) : if b = true then A else B := by rw [hb]; exact h
theorem iteNN {c A B : Prop} [Decidable c] (hc : ¬ c) (h : A) : if (!decide c) = true then A else B := by
  rw [decide_eq_false hc]
  exact h
theorem iteD {c A B : Prop} [Decidable c] (hc : c) (h : A) : if decide c = true then A else B := by
  rw [decide_eq_true hc]
  exact h
theorem iteDN {c A B : Prop} [Decidable c] (hc : ¬ c) (h : B) : if decide c = true then A else B := by
  rw [decide_eq_false hc]
  exact h
/-! ### a while, turns counted -/
theorem while_nat {c : TT} {tb : TS} {D : Ends} {σ : L2.St} {H : Hp} (M : Nat) (Pv : Nat → L2.St → Hp → Prop) (h0 : Pv 0 σ H)
    (hs : ∀ k m σ H, k + m = M → Pv k σ H → c σ H fun b H1 => if b = true then ∃ N : L2.St → Hp → Prop, (∀ σ' H', N σ' H' → ∃ m', m' < m ∧ ∃ k, k + m' = M ∧ Pv k σ' H') ∧ tb { D with nx := N, ct := N, bk := D.nx } σ H1 else D.nx σ H1) : tWhile c tb D σ H := by
  refine ⟨fun m σ H => ∃ k, k + m = M ∧ Pv k σ H, ⟨M, 0, Nat.zero_add _, h0⟩, ?_⟩
  rintro m σ H ⟨k, e, p⟩
  exact hs k m σ H e p
/-- one turn more -/
theorem turn_nat {M k m : Nat} (Pv : Nat → L2.St → Hp → Prop) (e : k + m = M) (h : k < M) : ∀ σ' H', Pv (k + 1) σ' H' → ∃ m', m' < m ∧ ∃ k, k + m' = M ∧ Pv k σ' H' := fun _ _ p => ⟨m - 1, by omega, k + 1, by omega, p⟩
theorem small1000' {n : Nat} (h : n ≤ 100000) : n < sizeLine := Nat.lt_of_le_of_lt h (by decide)
theorem tif_o {t : TT} {ta tb : TE} {σ : L2.St} {H : Hp} {Q : VK} {o : Option (Int × Int)} (b : Bool) (ht : ∀ Qt : Bool → Hp → Prop, Qt b H → t σ H Qt)
    (h1 : b = true → ∀ Qe : VK, (∀ x H', Same H H' → IsO H' x o → Qe x H') → ta σ H Qe) (h2 : b = false → ∀ Qe : VK, (∀ x H', Same H H' → IsO H' x o → Qe x H') → tb σ H Qe)
    (hq : ∀ x H', Same H H' → IsO H' x o → Q x H') : tIf t ta tb σ H Q := by
  refine ht _ ?_
  cases b with
  | true => exact h1 rfl Q hq
  | false => exact h2 rfl Q hq
/-! ### promises -/
/-- is_whole of an int -/
def spWhole : Sp := fun vs H Q _ => ∃ i : Int, vs = [.int i] ∧ Q (.bl true) H
def spCheck : Sp := fun vs H Q _ => ∃ i : Int, vs = [.int i] ∧ 1 ≤ i ∧ i ≤ 1000000 ∧ Q .non H
def spParts : Sp := fun vs H Q _ => ∃ n : Int, vs = [.int n] ∧ 0 < n ∧ n ≤ 2000000 ∧ ∀ (ds : List Int) p H', Parts n ds → ds.length ≤ 3000 → Same H H' → H p = none → H' p = some (.lst (ds.map V.int)) → Q (.ref p) H'
def spRow : Sp := fun vs H Q _ => ∃ n L : Int, vs = [.int n, .int L] ∧ 1 ≤ n ∧ n ≤ 1000000 ∧ 1 ≤ L ∧ ib L ≤ 2000000 ∧ ∀ x H', Same H H' → IsO H' x (rowOf n L) → Q x H'
def spRows : Sp := fun vs H Q _ => ∃ n : Int, vs = [.int n] ∧ 1 ≤ n ∧ n ≤ 1000000 ∧ ∀ ps p H', Rows n ps → ps.length ≤ 3000 → Same H H' → H p = none → LP H' p ps → Q (.ref p) H'
def spHigh : Sp := fun vs H Q _ => ∃ n : Int, vs = [.int n] ∧ 1 ≤ n ∧ n ≤ 1000000 ∧ ∀ ps p H', HRows n ps → ps.length ≤ 3000 → Same H H' → H p = none → LP H' p ps → Q (.ref p) H'
/-! ### the law's helpers -/
def Bits (ns : List Int) : Prop := ∀ z ∈ ns, ib z ≤ 1048576
def spCellAt (K : PySem.W.Frag) : Sp := fun vs H Q _ => ∃ (a : Addr) (ns : List Int) (k : Int), vs = [.ref a, .int k] ∧ SqL K H a (ns.map V.int) ∧ Bits ns ∧ 0 ≤ k ∧ k < 2 ^ 62 ∧ ∀ c, ib c ≤ 1048576 → Q (.int c) H
def spDraw : Sp := fun vs H Q _ => ∃ c k m : Int, vs = [.int c, .int k, .int m] ∧ 0 ≤ k ∧ 0 < m ∧ ∀ r H', 0 ≤ r → r < m → Same H H' → Q (.int r) H'
def spValue : Sp := fun vs H Q _ => ∃ c t : Int, vs = [.int c, .int t] ∧ ib c ≤ 1048576 ∧ 0 ≤ t ∧ t ≤ 100 ∧ ∀ v H', 0 ≤ v → ib v ≤ 1048577 → Same H H' → Q (.int v) H'
def spNumber (K : PySem.W.Frag) : Sp := fun vs H Q _ => ∃ (a : Addr) (ns : List Int) (k : Int), vs = [.ref a, .int k] ∧ SqL K H a (ns.map V.int) ∧ Bits ns ∧ 0 ≤ k ∧ k < 2 ^ 62 ∧ ∀ n H', 1 ≤ n → n ≤ 1000000 → Same H H' → Q (.int n) H'
def primes : List Int := [1000003, 1000033, 1000037, 1000039, 1000081, 1000099, 1000117, 1000121, 1000133, 1000151, 1000159, 1000171, 1000183, 1000187, 1000193, 1000199]
theorem prime_at {i : Int} (h0 : 0 ≤ i) (h : i < 16) : ∃ p : Int, 0 < p ∧ atI (primes.map V.int) i = some (.int p) := by
  obtain ⟨j, rfl⟩ := Int.eq_ofNat_of_zero_le h0
  have hj : j < primes.length := by show j < 16; omega
  have hp : ∀ p ∈ primes, 0 < p := by decide
  refine ⟨primes[j], hp _ (List.getElem_mem hj), atI_nat ?_⟩
  rw [List.getElem?_map, List.getElem?_eq_getElem hj]
  rfl
theorem at_int {ns : List Int} {k : Int} (h0 : 0 ≤ k) (h : k < ns.length) : ∃ z ∈ ns, atI (ns.map V.int) k = some (.int z) := by
  obtain ⟨j, rfl⟩ := Int.eq_ofNat_of_zero_le h0
  have hj : j < ns.length := by omega
  refine ⟨ns[j], List.getElem_mem hj, atI_nat ?_⟩
  rw [List.getElem?_map, List.getElem?_eq_getElem hj]
  rfl
theorem ib_add {x y : Int} {m n : Nat} (hx : ib x ≤ m) (hy : ib y ≤ n) : ib (x + y) ≤ max m n + 1 := PySem.intBits_add_le hx hy
theorem ib_sub {x y : Int} {m n : Nat} (hx : ib x ≤ m) (hy : ib y ≤ n) : ib (x - y) ≤ max m n + 1 := PySem.intBits_sub_le hx hy
theorem ib_mul {x y : Int} {m n : Nat} (hx : ib x ≤ m) (hy : ib y ≤ n) : ib (x * y) ≤ m + n := PySem.intBits_mul_le hx hy
theorem mulx {x y : Int} {m n : Nat} (hx : ib x ≤ m) (hy : ib y ≤ n) (h : m + n ≤ 134217728) : CMulX x y := by
  show (ib x : Int) + (ib y : Int) ≤ 134217728
  omega
theorem cut_int (ns : List Int) (lo hi : Option Int) : ∃ ns' : List Int, cutV (ns.map V.int) lo hi = ns'.map V.int ∧ (∀ z ∈ ns', z ∈ ns) ∧ ns'.length ≤ ns.length := by
  refine ⟨(ns.drop (HT.sIx (ns.map V.int).length 0 lo)).take (HT.sIx (ns.map V.int).length (ns.map V.int).length hi - HT.sIx (ns.map V.int).length 0 lo), ?_, fun z hz => List.mem_of_mem_drop (List.mem_of_mem_take hz), ?_⟩
  · unfold cutV
    rw [List.map_take, List.map_drop]
  · rw [List.length_take, List.length_drop]
    omega
/-- the law's own loop: range(0, max(1, l), 1 + l // d) -/
theorem rg3 {l d : Nat} (hl : l ≤ 63) (hd : d = 3 ∨ d = 4 ∨ d = 6) : ∃ n : Nat, n ≤ 64 ∧ RgC 0 (if (l : Int) > 1 then (l : Int) else 1) (1 + (l : Int) / (d : Int)) n := by
  have key : ∀ d : Nat, d = 3 ∨ d = 4 ∨ d = 6 → ∀ l : Nat, l < 64 → (1 + (l : Int) / (d : Int)) ≠ 0 ∧ (1 + (l : Int) / (d : Int)).natAbs < 1073741824 ∧ Builtin.Range.small 0 (if (l : Int) > 1 then (l : Int) else 1) (1 + (l : Int) / (d : Int)) = true ∧ (Builtin.Range.rangeSize 0 (if (l : Int) > 1 then (l : Int) else 1) (1 + (l : Int) / (d : Int))).toNat ≤ 64 ∧ Builtin.Range.rangeSize 0 (if (l : Int) > 1 then (l : Int) else 1) (1 + (l : Int) / (d : Int)) = ((Builtin.Range.rangeSize 0 (if (l : Int) > 1 then (l : Int) else 1) (1 + (l : Int) / (d : Int))).toNat : Int) := by
    rintro d (rfl | rfl | rfl) <;> decide +kernel
  obtain ⟨h1, h2, h3, h4, h5⟩ := key d hd l (by omega)
  exact ⟨_, h4, h1, h2, h3, h5⟩
theorem by_ok {l d i n : Nat} (hl : l ≤ 63) (hd : d = 3 ∨ d = 4 ∨ d = 6) (hi : i < n) (hn : n ≤ 64) : 0 ≤ (0 : Int) + (i : Int) * (1 + (l : Int) / (d : Int)) ∧ (0 : Int) + (i : Int) * (1 + (l : Int) / (d : Int)) < 2 ^ 62 := by
  have hc : 0 ≤ (1 + (l : Int) / (d : Int)) ∧ (1 + (l : Int) / (d : Int)) ≤ 100 := by rcases hd with rfl | rfl | rfl <;> omega
  have h1 : (i : Int) * (1 + (l : Int) / (d : Int)) ≤ 64 * 100 := Int.mul_le_mul (by omega) hc.2 hc.1 (by decide)
  have h2 : 0 ≤ (i : Int) * (1 + (l : Int) / (d : Int)) := Int.mul_nonneg (by omega) hc.1
  omega
/-- a law's: a list of at most 63 ints is handed in, True comes out -/
def spLaw (K : PySem.W.Frag) : Sp := fun vs H Q _ => ∃ (a : Addr) (ns : List Int), vs = [.ref a] ∧ SqL K H a (ns.map V.int) ∧ ns.length ≤ 63 ∧ Bits ns ∧ ∀ H', Q (.bl true) H'
/-- a row's sum and length are small -/
theorem isRow_small {n f l : Int} (h1 : 1 ≤ n) (h2 : n ≤ 1000000) (h : IsRow n f l) : 0 < f + l ∧ f + l ≤ 2000000 ∧ 0 < l - f + 1 ∧ l - f + 1 ≤ 2000000 := by
  obtain ⟨a, b⟩ := h
  have hL : 0 < l - f + 1 := by omega
  have hs : 0 < f + l := Int.pos_of_mul_pos_left (b := l - f + 1) (by omega) (by omega)
  have d1 : f + l ≤ 2 * n := Int.le_of_dvd (show 0 < 2 * n by omega) ⟨_, b.symm⟩
  have d2 : l - f + 1 ≤ 2 * n := Int.le_of_dvd (show 0 < 2 * n by omega) ⟨f + l, by rw [Int.mul_comm (l - f + 1)]; exact b.symm⟩
  omega
theorem hr15 : HRows 15 [(1, 5), (4, 6), (7, 8), (15, 15)] := acc_rows (n := 15) (K := 5) (by decide) (by decide)
theorem hr2 : HRows 2 [(2, 2)] := acc_rows (n := 2) (K := 1) (by decide) (by decide)
theorem r2 : Rows 2 [(-1, 2), (2, 2)] := Rows.of_high (by decide) hr2 (by decide) fun x => by
  show x ∈ [((-1, 2) : Int × Int), (2, 2)] ↔ x ∈ [((2, 2) : Int × Int), (-1, 2)]
  rw [List.mem_cons, List.mem_cons, List.mem_cons, List.mem_cons]
  simp only [List.not_mem_nil, or_false]
  exact or_comm
end NB

set_option Elab.async false
set_option maxRecDepth 100000
set_option maxHeartbeats 4000000
/-! Comprehensions over a list of pairs; rows or None. -/
namespace NB
open PySem L2
abbrev gPair (K : PySem.W.Frag) (i j : Nat) : TG := gTup K 2 (gCons (gName i) (gCons (gName j) gNil))
/-- [an int of f, l for f, l in pairs] -/
theorem lc_ints {K : PySem.W.Frag} {a : Addr} {xs : List V} {ps : List (Int × Int)} {te : TE} {vs : List Nat} {σ : L2.St} {H1 : Hp} {D : Addr} {Qd : Hp → Prop} {i j : Nat} (g : H1 a = some (.lst xs)) (gx : PL H1 xs ps) (nD : H1 D = none) (F : Int × Int → Int) (hz : ps.length ≤ 90000)
    (hw : ∀ v u : V, wipe (((wipe σ vs).set i (some v)).set j (some u)) vs = wipe σ vs)
    (he : ∀ p ∈ ps, ∀ (H' : Hp) (Qc : VK), Qc (.int (F p)) H' → te (((wipe σ vs).set i (some (.int p.1))).set j (some (.int p.2))) H' Qc)
    (hd : ∀ H', Same H1 H' → H' D = some (.lst ((ps.map F).map V.int)) → Qd H') :
    ∃ W : Nat → Nat → Hp → Prop, (∃ m, W 0 m (upd H1 D (.lst []))) ∧ ∀ k m H, W k m H →
      ((Itl K a).stop k H ∧ Qd H) ∨ ((Itl K a).go k H ∧ ∃ Nx : Hp → Prop, (∀ H', Nx H' → ∃ m', m' < m ∧ W (k + 1) m' H') ∧ ∀ x H', (Itl K a).yld k H x H' → gPair K i j x (wipe σ vs) H' fun σ2 H2 => wipe σ2 vs = wipe σ vs ∧ tYes σ2 H2 fun b H3 =>
        if b = true then te σ2 H3 fun y H4 => ∃ acc, H4 D = some (.lst acc) ∧ acc.length < sizeLine ∧ Nx (upd H4 D (.lst (acc ++ [y]))) else Nx H3) := by
  have naD : a ≠ D := ne_of_none g nD
  refine lc_list (xs := xs) (fun k H' => Same H1 H' ∧ H' D = some (.lst (((ps.take k).map F).map V.int))) ⟨Same.new nD, upd_same⟩ ?_ ?_ ?_
  · rintro k H' _ ⟨hS, _⟩
    exact SqL.of (hS _ _ g)
  · rintro k x H' hx ⟨hS, gD⟩
    obtain ⟨⟨f, l⟩, hpk, t, rfl, ht⟩ := gx.get hx
    have hk : k < xs.length := (List.getElem?_eq_some_iff.mp hx).1
    have hll := gx.length
    have htk : ps.take (k + 1) = ps.take k ++ [(f, l)] := by rw [List.take_add_one, hpk]; rfl
    refine ⟨t, _, rfl, SqT.of (hS _ _ ht), rfl, _, _, rfl, _, _, rfl, rfl, hw _ _, ?_⟩
    refine he (f, l) (List.mem_of_getElem? hpk) H' _ ⟨_, gD, small1000' ?_, Same.mut hS nD, ?_⟩
    · rw [List.length_map, List.length_map, List.length_take]
      omega
    · rw [upd_same, htk, List.map_append, List.map_append]
      rfl
  · rintro H' ⟨hS, gD⟩
    rw [gx.length, List.take_length] at gD
    exact hd H' hS gD
/-- [a pair of f, l for f, l in pairs] -/
theorem lc_prs {K : PySem.W.Frag} {a : Addr} {xs : List V} {ps : List (Int × Int)} {te : TE} {vs : List Nat} {σ : L2.St} {H1 : Hp} {D : Addr} {Qd : Hp → Prop} {i j : Nat} (g : H1 a = some (.lst xs)) (gx : PL H1 xs ps) (nD : H1 D = none) (F : Int × Int → Int × Int) (hz : ps.length ≤ 90000)
    (hw : ∀ v u : V, wipe (((wipe σ vs).set i (some v)).set j (some u)) vs = wipe σ vs)
    (he : ∀ p ∈ ps, ∀ (H' : Hp) (Qc : VK), (∀ t, H' t = none → Qc (.ref t) (upd H' t (.tup [.int (F p).1, .int (F p).2]))) → te (((wipe σ vs).set i (some (.int p.1))).set j (some (.int p.2))) H' Qc)
    (hd : ∀ H', Same H1 H' → LP H' D (ps.map F) → Qd H') :
    ∃ W : Nat → Nat → Hp → Prop, (∃ m, W 0 m (upd H1 D (.lst []))) ∧ ∀ k m H, W k m H →
      ((Itl K a).stop k H ∧ Qd H) ∨ ((Itl K a).go k H ∧ ∃ Nx : Hp → Prop, (∀ H', Nx H' → ∃ m', m' < m ∧ W (k + 1) m' H') ∧ ∀ x H', (Itl K a).yld k H x H' → gPair K i j x (wipe σ vs) H' fun σ2 H2 => wipe σ2 vs = wipe σ vs ∧ tYes σ2 H2 fun b H3 =>
        if b = true then te σ2 H3 fun y H4 => ∃ acc, H4 D = some (.lst acc) ∧ acc.length < sizeLine ∧ Nx (upd H4 D (.lst (acc ++ [y]))) else Nx H3) := by
  have naD : a ≠ D := ne_of_none g nD
  refine lc_list (xs := xs) (fun k H' => Same H1 H' ∧ ∃ acc, H' D = some (.lst acc) ∧ PL H' acc ((ps.take k).map F)) ⟨Same.new nD, _, upd_same, .nil⟩ ?_ ?_ ?_
  · rintro k H' _ ⟨hS, _⟩
    exact SqL.of (hS _ _ g)
  · rintro k x H' hx ⟨hS, acc, gD, ga⟩
    obtain ⟨⟨f, l⟩, hpk, t, rfl, ht⟩ := gx.get hx
    have hk : k < xs.length := (List.getElem?_eq_some_iff.mp hx).1
    have hll := gx.length
    have htk : ps.take (k + 1) = ps.take k ++ [(f, l)] := by rw [List.take_add_one, hpk]; rfl
    refine ⟨t, _, rfl, SqT.of (hS _ _ ht), rfl, _, _, rfl, _, _, rfl, rfl, hw _ _, ?_⟩
    refine he (f, l) (List.mem_of_getElem? hpk) H' _ fun u nu => ?_
    have gD' : upd H' u (.tup [.int (F (f, l)).1, .int (F (f, l)).2]) D = some (.lst acc) := by rw [upd_ne (ne_of_none gD nu)]; exact gD
    have same : ∀ o x q, IsP (upd H' u (.tup [.int (F (f, l)).1, .int (F (f, l)).2])) x q → IsP (upd (upd H' u (.tup [.int (F (f, l)).1, .int (F (f, l)).2])) D (.lst o)) x q := fun o x q ⟨t, e, h⟩ => ⟨t, e, by rw [upd_ne (ne_of h gD' (fun z => nomatch z))]; exact h⟩
    refine ⟨acc, gD', small1000' ?_, Same.mut (hS.trans (Same.new nu)) nD, _, upd_same, ?_⟩
    · have := ga.length
      rw [List.length_map, List.length_take] at this
      omega
    · rw [htk, List.map_append]
      exact PL.append (Paired.mapP (ga.same (Same.new nu)) (same _)) (.cons (same _ _ _ ⟨u, rfl, upd_same⟩) .nil)
  · rintro H' ⟨hS, acc, gD, ga⟩
    rw [gx.length, List.take_length] at ga
    exact hd H' hS ⟨acc, gD, ga⟩
/-- the longest high row: the first -/
def spLongest : Sp := fun vs H Q _ => ∃ n : Int, vs = [.int n] ∧ 1 ≤ n ∧ n ≤ 1000000 ∧ ∀ p ps x H', HRows n (p :: ps) → Same H H' → IsP H' x p → Q x H'
theorem HRows.one {n : Int} (hn : 1 ≤ n) {ps : List (Int × Int)} (h : HRows n ps) : (n, n) ∈ ps := (h.mem n n).mpr ⟨⟨Int.le_refl _, by rw [Int.sub_self, Int.zero_add, Int.mul_one]; omega⟩, by omega⟩
theorem HRows.ne {n : Int} (hn : 1 ≤ n) {ps : List (Int × Int)} (h : HRows n ps) : ∃ p qs, ps = p :: qs := by
  have := h.one hn
  cases ps with
  | nil => cases this
  | cons p qs => exact ⟨p, qs, rfl⟩
/-- an expression's value by what is known of it -/
theorem to_any {te : TE} {σ : L2.St} {H : Hp} {Q : VK} (P : V → Hp → Prop) (h : ∀ Qe : VK, (∀ x H', P x H' → Qe x H') → te σ H Qe) (q : ∀ x H', P x H' → Q x H') : te σ H Q := h Q q
end NB

set_option Elab.async false
set_option maxRecDepth 100000
set_option maxHeartbeats 4000000
/-! zip of a tuple and a list, walked. -/
namespace NB
open PySem L2
/-- zip of the tuple at a and the list at b -/
def MixIt (K : PySem.W.Frag) (a b : Addr) : It where
  go := fun k H => ∃ (us ws : List V) (x y : V), SqT K H a us ∧ SqL K H b ws ∧ us[k]? = some x ∧ ws[k]? = some y
  yld := fun k H v H' => ∃ (t : Addr) (x y : V), H t = none ∧ v = V.ref t ∧ H' = upd H t (HO.tup [x, y]) ∧ (∀ us : List V, SqT K H a us → us[k]? = some x) ∧ (∀ ws : List V, SqL K H b ws → ws[k]? = some y)
  stop := fun k H => ∃ (us ws : List V), SqT K H a us ∧ SqL K H b ws ∧ k ≤ us.length ∧ k ≤ ws.length ∧ (k = us.length ∨ k = ws.length)
theorem mixTurn {P : Program} {w : World} {K : PySem.W.Frag} {elts : List Expr} {kk : Nat} {tpos : Pos} {a b z TI TO i1 i2 : Addr} (S : ZipSep2 z TI TO i1 i2 [i1, a] [i2, b]) (na : a ≠ i1) (nb : b ≠ i2) :
    Turn P w K (.Tuple elts kk tpos) (MixIt K a b) [z, TI, TO, i1, i2] z (fun k h => IsZip h z TI TO .none ∧ IsTupOf2 h TI (.ref i1) (.ref i2) ∧ (∃ p q, IsTupOf2 h TO p q) ∧ h.IsTupleIter i1 a k ∧ h.IsListIter i2 b k) := by
  have i1z : i1 ≠ z := S.zi1.symm
  have i2z : i2 ≠ z := S.zi2.symm
  constructor
  case mem => exact List.mem_cons_self
  case obj =>
    rintro k h ⟨gz, gI, ⟨p, q, gO⟩, ⟨oa, ea, _, da⟩, ⟨ob, eb, _, db⟩⟩ c hc
    simp only [List.mem_cons, List.not_mem_nil, or_false] at hc
    rcases hc with e | e | e | e | e <;> subst e
    · exact ⟨_, gz, fun _ x => nomatch x⟩
    · exact ⟨_, gI, fun _ x => nomatch x⟩
    · exact ⟨_, gO, fun _ x => nomatch x⟩
    · exact ⟨oa, ea, fun _ x => by rw [da] at x; cases x⟩
    · exact ⟨ob, eb, fun _ x => by rw [db] at x; cases x⟩
  case keep =>
    rintro k h h' ⟨gz, gI, ⟨p, q, gO⟩, ga, gb⟩ kp
    refine ⟨kp z (by simp) _ gz, kp TI (by simp) _ gI, ⟨p, q, kp TO (by simp) _ gO⟩, ?_, ?_⟩
    · exact ga.at fun o e => kp i1 (by simp) o e
    · exact gb.at fun o e => kp i2 (by simp) o e
  case self =>
    rintro A k s Q E ⟨gz, _⟩ hQ
    exact wpAny_pyIter_zip gz hQ
  case item =>
    intro X hP hw hK hc k pins s σ H E I hf st hg
    subst hP hw hK
    obtain ⟨gz, gI, ⟨p, q, gO⟩, ga, gb⟩ := st
    obtain ⟨us, ws, x, y, qa, qb, hx, hy⟩ := hg
    obtain ⟨ua, ra, pa, _⟩ := I.tuple qa
    obtain ⟨ub, rb, pb, _⟩ := I.list qb
    obtain ⟨xa, hxa, rxa⟩ := ra.get hx
    obtain ⟨xb, hxb, rxb⟩ := rb.get hy
    have hh : X.A.in1.handled = none := I.ok.hd hc
    have k1 : k < ua.toArray.size := by
      have := (List.getElem?_eq_some_iff.mp hxa).1
      simpa using this
    have k2 : k < ub.toArray.size := by
      have := (List.getElem?_eq_some_iff.mp hxb).1
      simpa using this
    refine wpAny_pyNext_zipD2_item S (Draws.tuple hh i1 a na ua.toArray) (Draws.list hh i2 b nb ub.toArray) gz gI gO ⟨ga, pa⟩ ⟨gb, pb.isList⟩ k1 k2 ?_
    intro v1 v2 h1 tk y1 y2 z1 O1 s1 s2 T1 sz1 kp
    have ev1 : v1 = xa := by
      have e := y1
      rw [show ua.toArray[k]? = some xa by simpa using hxa] at e
      exact (Option.some.inj e).symm
    have ev2 : v2 = xb := by
      have e := y2
      rw [show ub.toArray[k]? = some xb by simpa using hxb] at e
      exact (Option.some.inj e).symm
    subst ev1 ev2
    refine ⟨_, rfl, wpAny_letOwnedTupleGo_zip (s := { s with heap := h1, toks := tk }) z1 fun h2 z2 sb => ?_⟩
    have szz : z < s.heap.objs.size := Heap.lt_size gz
    have gT : h2.get? s.heap.objs.size = some { cls := .type "tuple", data := .seq #[v1, v2] } := (sb.2 _ (Nat.ne_of_gt szz)).trans T1
    have ok : ObjOk X.prog X.w (upd H s.heap.objs.size (.tup [x, y])) h2 s.heap.objs.size (.tup [x, y]) := by
      refine ⟨by show 2 ≤ sizeLine; decide, [v1, v2], Paired.cons rxa (Paired.cons rxb Paired.nil), ?_⟩
      exact ⟨_, gT, rfl, _, rfl⟩
    have kp2 : ∀ c o, c ∉ [z, TI, TO, i1, i2] → s.heap.get? c = some o → h2.get? c = some o := fun c o hn e => by
      simp only [List.mem_cons, List.not_mem_nil, or_false, not_or] at hn
      obtain ⟨c1, c2, c3, c4, c5⟩ := hn
      exact (sb.2 c c1).trans (kp c o c1 c3 c4 c5 e)
    have I2 : Inv X pins σ (upd H s.heap.objs.size (.tup [x, y])) { s with heap := h2, toks := tk } := Inv.turnedNew I kp2 hf (Nat.le_refl _) ok
    refine ⟨V.ref s.heap.objs.size, _, I2, rfl, ?_, ?_, ?_⟩
    · refine ⟨_, x, y, I.hok.fresh (Nat.le_refl _), rfl, rfl, fun us' h => ?_, fun ws' h => ?_⟩
      · rw [I.tuple_inj h qa]
        exact hx
      · rw [I.list_inj h qb]
        exact hy
    · refine ⟨z2, ?_, ⟨v1, v2, ?_⟩, ?_, ?_⟩
      · exact (sb.2 TI S.TIz).trans (kp TI _ S.TIz S.TITO S.TIi1 S.TIi2 gI)
      · exact (sb.2 TO S.TOz).trans O1
      · exact s1.1.at fun o e => (sb.2 i1 i1z).trans e
      · exact s2.1.at fun o e => (sb.2 i2 i2z).trans e
    · intro c hm
      have hlt : c < s.heap.objs.size := by
        simp only [List.mem_cons, List.not_mem_nil, or_false] at hm
        rcases hm with e | e | e | e | e <;> subst e
        · exact szz
        · exact Heap.lt_size gI
        · exact Heap.lt_size gO
        · obtain ⟨_, e, _⟩ := ga
          exact Heap.lt_size e
        · obtain ⟨_, e, _⟩ := gb
          exact Heap.lt_size e
      rw [upd_ne (Nat.ne_of_lt hlt)]
      exact (hf c hm).1
  case done =>
    intro X hP hw hK hc k pins s σ H E I hf st hg
    subst hP hw hK
    obtain ⟨gz, gI, ⟨p, q, gO⟩, ga, gb⟩ := st
    obtain ⟨us, ws, qa, qb, k1, k2, hend⟩ := hg
    obtain ⟨ua, ra, pa, _⟩ := I.tuple qa
    obtain ⟨ub, rb, pb, _⟩ := I.list qb
    have l1 := ra.length
    have l2 := rb.length
    have hh : X.A.in1.handled = none := I.ok.hd hc
    refine wpAny_pyNext_zipD2_end S (Draws.tuple hh i1 a na ua.toArray) (Draws.list hh i2 b nb ub.toArray) gz gI gO ⟨ga, pa⟩ ⟨gb, pb.isList⟩ (by simp; omega) (by simp; omega) (by simp; omega) fun h1 tk kp => ⟨rfl, ?_⟩
    refine Inv.turnedL (ch := [z, TI, TO, i1, i2]) I (fun c o hn e => ?_) hf
    simp only [List.mem_cons, List.not_mem_nil, or_false, not_or] at hn
    obtain ⟨c1, c2, c3, c4, c5⟩ := hn
    exact kp c o c1 c3 c4 c5 e
def iMix (K : PySem.W.Frag) (ta : TA) : TI := fun σ H R => ta σ H fun vs H1 => ∃ (a b : Addr) (us ws : List V), vs = [.ref a, .ref b] ∧ SqT K H1 a us ∧ SqL K H1 b ws ∧ R (MixIt K a b) H1
/-- for .. in zip(tuple, list) -/
theorem pi_mix {X : Cx} {e1 e2 : Expr} {ta : TA} {p pos tpos : Pos} {elts : List Expr} {kk : Nat} (hg : Gl X "zip") (hm : X.mg "zip" = none) (ha : PA X [e1, e2] ta)
    (h1 : starEach [e1, e2] X.env = (false, eval e1 X.env) :: starEach [e2] X.env := by rfl) (h2 : (backTo pos (starEach [e2] X.env)).any (·.1) = false := by rfl) :
    PI X (.Tuple elts kk tpos) (.Call (.Name "zip" p) [e1, e2] [] pos) (iMix X.K ta) := by
  constructor
  intro pins s σ H R I h
  refine PyProof.Rows.Call_ (ld_blt I hg hm PyProof.Rows.boot_zip (PyProof.Rows.callWith_type1 (thn (ha.run pos pins s σ H _ I h) ?_) h1 h2))
  rintro vals s1 ⟨vs, H1, I1, r1, a, b, us, ws, rfl, qa, qb, hR⟩
  cases r1 with
  | cons ra rr =>
    cases rr with
    | cons rb rr =>
      cases rr
      cases ra
      cases rb
      obtain ⟨ua, rua, pa, _⟩ := I1.tuple qa
      obtain ⟨ub, rub, pb, _⟩ := I1.list qb
      obtain ⟨oa, hoa, _⟩ := id pa
      have la : a < s1.heap.objs.size := Heap.lt_size hoa
      have lb : b < s1.heap.objs.size := pb.lt
      refine zip_begins2 (begins_tuple a ua.toArray) (begins_list b ub.toArray) pa pb.isList fun h' gz gI gO g1 g2 _ kp => wpAny_pyIter_zip gz ?_
      have I2 : Inv X pins σ H1 { s1 with heap := h' } := Inv.kept (t' := s1.toks) I1 kp
      have S : ZipSep2 (s1.heap.objs.size + 4) (s1.heap.objs.size + 2) (s1.heap.objs.size + 3) s1.heap.objs.size (s1.heap.objs.size + 1) [s1.heap.objs.size, a] [s1.heap.objs.size + 1, b] :=
        zip_sep2 (fun c hc => by rw [List.mem_singleton.mp hc]; exact la) (fun c hc => by rw [List.mem_singleton.mp hc]; exact lb)
      refine ⟨s1.heap.objs.size + 4, [s1.heap.objs.size + 4, s1.heap.objs.size + 2, s1.heap.objs.size + 3, s1.heap.objs.size, s1.heap.objs.size + 1], _, _, H1, rfl, I2, mixTurn S (Nat.ne_of_lt la) (Nat.ne_of_lt (Nat.lt_succ_of_lt lb)), ⟨gz, gI, ⟨_, _, gO⟩, ⟨_, g1, rfl, rfl⟩, ⟨_, g2, rfl, rfl⟩⟩, fun c hc => ?_, hR⟩
      have hle : s1.heap.objs.size ≤ c := by
        simp only [List.mem_cons, List.not_mem_nil, or_false] at hc
        rcases hc with e | e | e | e | e <;> subst e <;> first | exact Nat.le_add_right _ _ | exact Nat.le_refl _
      exact I1.fpOk hle (I1.hok.fresh hle)
/-- its loop, both as long as the shorter -/
theorem for_mix {K : PySem.W.Frag} {a b : Addr} {us ws : List V} {g : TG} {tb : TS} {D : Ends} {σ : L2.St} {H : Hp} (Pv : Nat → L2.St → Hp → Prop) (h0 : Pv 0 σ H) (hq : ∀ k σ H, Pv k σ H → SqT K H a us ∧ SqL K H b ws)
    (hs : ∀ (k : Nat) (x y : V) (t : Addr) (σ : L2.St) (H : Hp), us[k]? = some x → ws[k]? = some y → Pv k σ H → H t = none → g (.ref t) σ (upd H t (.tup [x, y])) fun σ2 H2 => tb { D with nx := Pv (k + 1), ct := Pv (k + 1), bk := D.nx } σ2 H2)
    (hd : ∀ k σ H, k ≤ us.length → k ≤ ws.length → (k = us.length ∨ k = ws.length) → Pv k σ H → D.nx σ H) :
    ∃ W : Nat → Nat → L2.St → Hp → Prop, (∃ m, W 0 m σ H) ∧ ∀ k m σ H, W k m σ H →
      ((MixIt K a b).stop k H ∧ D.nx σ H) ∨ ((MixIt K a b).go k H ∧ ∃ N : L2.St → Hp → Prop, (∀ σ' H', N σ' H' → ∃ m', m' < m ∧ W (k + 1) m' σ' H') ∧ ∀ v H', (MixIt K a b).yld k H v H' → g v σ H' fun σ2 H2 => tb { D with nx := N, ct := N, bk := D.nx } σ2 H2) := by
  refine ⟨fun k m σ H => k + m = us.length ∧ k ≤ ws.length ∧ Pv k σ H, ⟨us.length, Nat.zero_add _, Nat.zero_le _, h0⟩, ?_⟩
  rintro k m σ H ⟨e, hk, pv⟩
  obtain ⟨qa, qb⟩ := hq k σ H pv
  by_cases hc : k < us.length ∧ k < ws.length
  · refine Or.inr ⟨⟨us, ws, us[k]'hc.1, ws[k]'hc.2, qa, qb, List.getElem?_eq_getElem _, List.getElem?_eq_getElem _⟩, Pv (k + 1), fun σ' H' p' => ⟨m - 1, by omega, by omega, by omega, p'⟩, ?_⟩
    rintro v H' ⟨t, x, y, ht, rfl, rfl, f1, f2⟩
    exact hs k x y t σ H (f1 us qa) (f2 ws qb) pv ht
  · exact Or.inl ⟨⟨us, ws, qa, qb, by omega, hk, by omega⟩, hd k σ H (by omega) hk (by omega) pv⟩
end NB

set_option Elab.async false
set_option maxRecDepth 100000
set_option maxHeartbeats 4000000
/-! Words for the least numbers: lists of ints compared, lists of lists, promises. -/
namespace NB
open PySem L2
theorem ints_dat {K : PySem.W.Frag} {H : Hp} : ∀ ns : List Int, DpAll K H (ns.map V.int) (ns.map PyData.int)
  | [] => .nil
  | n :: r => .cons (.int n) (ints_dat r)
theorem shaped_ints (ns : List Int) : SeqAt.shaped (.list (ns.map PyData.int)) = true := by
  have h1 : ∀ ns : List Int, PyData.canLayAll0 (ns.map PyData.int) = true := fun ns => by
    induction ns with
    | nil => rfl
    | cons n r ih => rw [List.map_cons, PyData.canLayAll0, ih]; rfl
  have h2 : ∀ ns : List Int, PyData.depthAll (ns.map PyData.int) ≤ 2 := fun ns => by
    induction ns with
    | nil => decide
    | cons n r ih =>
      rw [List.map_cons]
      simp only [PyData.depthAll, PyData.depth] at *
      omega
  unfold SeqAt.shaped
  rw [Bool.and_eq_true]
  have h3 := h2 ns
  refine ⟨?_, decide_eq_true ?_⟩
  · simp only [PyData.canLay0]
    exact h1 ns
  · simp only [PyData.depth]
    omega
theorem rd_eqI {K : PySem.W.Frag} {H : Hp} {a b : Addr} {ns ms : List Int} {Q : VK} (h1 : SqL K H a (ns.map V.int)) (h2 : SqL K H b (ms.map V.int)) (q : Q (.bl (decide (ns = ms))) H) : rEqD K (.ref a) (.ref b) H Q :=
  ⟨_, _, .lst h1 (ints_dat ns), .lst h2 (ints_dat ms), shaped_ints ns, shaped_ints ms, by rw [PyData.eqv, PySem.W.ked_eqvAll]; exact q⟩
theorem rd_neI {K : PySem.W.Frag} {H : Hp} {a b : Addr} {ns ms : List Int} {Q : VK} (h1 : SqL K H a (ns.map V.int)) (h2 : SqL K H b (ms.map V.int)) (q : Q (.bl (!decide (ns = ms))) H) : rNeD K (.ref a) (.ref b) H Q :=
  ⟨_, _, .lst h1 (ints_dat ns), .lst h2 (ints_dat ms), shaped_ints ns, shaped_ints ms, by rw [PyData.eqv, PySem.W.ked_eqvAll]; exact q⟩
theorem cut_tail (p : Int) (ps : List Int) : cutV ((p :: ps).map V.int) (some 1) none = ps.map V.int := by
  unfold cutV
  rw [show HT.sIx ((p :: ps).map V.int).length 0 (some 1) = 1 by
    rw [show (1 : Int) = ((1 : Nat) : Int) from rfl, HT.sIx_nat]
    rw [List.length_map, List.length_cons]
    omega, HT.sIx_none]
  rw [List.map_cons, List.drop_one, List.tail_cons]
  exact List.take_of_length_le (by simp)
def oV : Option Int → V
  | none => .non
  | some r => .int r
/-- lists of ints, new against H0, in the list at p -/
def LW (H0 H : Hp) (p : Addr) (ws : List (List Int)) : Prop := ∃ xs, H p = some (.lst xs) ∧ Paired (fun x (w : List Int) => ∃ t, x = V.ref t ∧ H0 t = none ∧ t ≠ p ∧ H t = some (.lst (w.map V.int))) xs ws
theorem LW.same {H0 H H' : Hp} {p : Addr} {ws : List (List Int)} (e : Same H H') (h : LW H0 H p ws) : LW H0 H' p ws := by
  obtain ⟨xs, g, r⟩ := h
  exact ⟨xs, e _ _ g, Paired.mapP r fun _ _ ⟨t, a, b, c, d⟩ => ⟨t, a, b, c, e _ _ d⟩⟩
def spLeastFrom (K : PySem.W.Frag) (n : Nat) : Sp := fun vs H Q _ => ∃ (many most : Int) (a : Addr) (ps : List Int), vs = [.int many, .ref a, .int most] ∧ SqL K H a (ps.map V.int) ∧ ps.length ≤ n ∧ (∀ p ∈ ps, 1 ≤ p ∧ p ≤ 17) ∧ 1 ≤ many ∧ many ≤ 60 ∧ 0 ≤ most ∧ most ≤ 60 ∧
  ∀ H', Same H H' → Q (oV (leastF ps many most)) H'
def spLeastWith : Sp := fun vs H Q _ => ∃ m : Nat, vs = [.int (m : Int)] ∧ 1 ≤ m ∧ m < 61 ∧ ∀ r H', leastF prs m m = some r → Same H H' → Q (.int r) H'
def spWays (n : Nat) : Sp := fun vs H Q _ => ∃ many most : Int, vs = [.int many, .int most] ∧ 1 ≤ many ∧ many ≤ 60 ∧ many < 2 ^ (n + 1) ∧ 1 ≤ most ∧ most ≤ 60 ∧ ∀ p H', Same H H' → H p = none → LW H H' p (waysF n many most) → Q (.ref p) H'
def spLLeast : Sp := fun vs H Q _ => ∃ m : Nat, vs = [.int (m : Int)] ∧ 1 ≤ m ∧ m < 61 ∧ ∀ r H', r ∈ prodsF m → (∀ x ∈ prodsF m, r ≤ x) → Same H H' → Q (.int r) H'
theorem paired_get {α β : Type} {R : α → β → Prop} : ∀ {l : List α} {m : List β} {i : Nat} {x : α}, Paired R l m → l[i]? = some x → ∃ y, m[i]? = some y ∧ R x y
  | _, _, i, _, .nil, e => by simp at e
  | _, _, 0, _, .cons a t, e => by simp at e; subst e; exact ⟨_, rfl, a⟩
  | _, _, i + 1, x, .cons a t, e => by
    obtain ⟨p, h1, h2⟩ := paired_get (i := i) (x := x) t (by simpa using e)
    exact ⟨p, by simpa using h1, h2⟩
theorem Vals_app {α β : Type} {R : α → β → Prop} : ∀ {xs ys : List α} {ps qs : List β}, Paired R xs ps → Paired R ys qs → Paired R (xs ++ ys) (ps ++ qs)
  | _, _, _, _, .nil, h => h
  | _, _, _, _, .cons a t, h => .cons a (Vals_app t h)
end NB

set_option Elab.async false
set_option maxRecDepth 100000
set_option maxHeartbeats 4000000
/-! Refusals: what is no number, what is told of it. -/
namespace NB
open PySem L2
/-- no whole number at all -/
inductive Odd (H : Hp) : V → Prop
  | non : Odd H .non
  | str (z : Str) : Odd H (.str z)
  | bl (b : Bool) : Odd H (.bl b)
  | lst {a : Addr} {xs : List V} (e : H a = some (.lst xs)) : Odd H (.ref a)
  | tup {a : Addr} {xs : List V} (e : H a = some (.tup xs)) : Odd H (.ref a)
  | dct {a : Addr} {kvs : List (Key × V)} (e : H a = some (.dK kvs)) : Odd H (.ref a)
theorem Odd.ext {H H' : Hp} {x : V} (e : LamX.ExtN H H') (h : Odd H x) : Odd H' x := by
  cases h with
  | non => exact .non
  | str z => exact .str z
  | bl b => exact .bl b
  | lst q => exact .lst (e _ _ q fun _ z => nomatch z)
  | tup q => exact .tup (e _ _ q fun _ z => nomatch z)
  | dct q => exact .dct (e _ _ q fun _ z => nomatch z)
/-- none from 1 to hi (none: without end) -/
def Bad (H : Hp) (hi : Option Int) (x : V) : Prop := Odd H x ∨ ∃ i : Int, x = .int i ∧ (i < 1 ∨ ∃ h, hi = some h ∧ h < i)
theorem Bad.ext {H H' : Hp} {hi : Option Int} {x : V} (e : LamX.ExtN H H') (h : Bad H hi x) : Bad H' hi x := h.imp (Odd.ext e) id
theorem Same.extN {H H' : Hp} (e : Same H H') : LamX.ExtN H H' := LamX.ExtN.of e
/-- is_whole of all that is asked -/
def spAny : Sp := fun vs H Q _ => ∃ x, vs = [x] ∧ ((∃ i : Int, x = .int i ∧ Q (.bl true) H) ∨ (Odd H x ∧ Q (.bl false) H))
def spBad (C : Addr) (hi : Int) : Sp := fun vs H _ E => ∃ x, vs = [x] ∧ Bad H (some hi) x ∧ ∀ H', Same H H' → E (.ref C) none H'
def spBadLen (CN CL : Addr) : Sp := fun vs H _ E => ∃ x y, vs = [x, y] ∧ ((Bad H (some 1000000) x ∧ ∀ H', Same H H' → E (.ref CN) none H') ∨ (x = .int 7 ∧ Bad H none y ∧ ∀ H', Same H H' → E (.ref CL) none H'))
/-- a def of the top that may raise -/
def CalleeX (P : Program) (w : World) (K : PySem.W.Frag) (mg : Str → Option Value) (base : Heap) (k : Nat) (x : Str) (ps : List Str) (sp : Sp) : Prop :=
  ∃ f fd, mg x = some (.ref f) ∧ PySem.W.keepIn K (.ref f) = true ∧ Binds K fd ps [] ∧ FnOk P w K mg base (L2.CX P w) k f fd ps sp
/-- an own error class -/
structure ErrF (K : PySem.W.Frag) (mg : Str → Option Value) (x : Str) (C : Addr) : Prop where
  m : mg x = some (.ref C)
  x : PySem.W.excIn K C [.type "ValueError", .type "Exception", .type "BaseException", .type "object"] "ValueError.__new__" = true
  k : PySem.W.keepIn K (.ref C) = true
  b : PySem.W.subIn K (.ref C) (.type "BaseException") = some true
  t : PySem.W.typeIn K (.ref C) = some (.type "type")
/-- an error class that isinstance is asked of -/
structure ErrI (K : PySem.W.Frag) (SE BN BL BC C : Addr) (b0 b1 b2 : Bool) : Prop where
  i : ExcC K C
  s : PySem.W.exmOne K (.ref C) (.ref SE) = some true
  q0 : PySem.W.kitOne K (.ref C) (.ref BN) = some b0
  q1 : PySem.W.kitOne K (.ref C) (.ref BL) = some b1
  q2 : PySem.W.kitOne K (.ref C) (.ref BC) = some b2
  q3 : PySem.W.kitOne K (.ref C) (.type "ValueError") = some true
theorem pss_stop {X : Cx} {st : List Stmt} : PSs X st (fun _ _ _ => False) := ⟨fun _ _ _ _ _ _ h => h.elim⟩
theorem pss_pre {X : Cx} {st : List Stmt} {t : TS} (h : ∀ D σ H, σ.length = X.N.length → t D σ H → ∃ u, PSs X st u ∧ u D σ H) : PSs X st t := ⟨fun pins s σ H D I q => let ⟨_, a, b⟩ := h D σ H I.len q; a.run pins s σ H D I b⟩
/-- what is told of an ask that raises: which of the three -/
def told (b0 b1 b2 : Bool) : List V := [.bl b0, .bl b1, .bl b2, .bl true]
def toldE (BN BL BC : Addr) (Q : VK) : XK := fun cls d H1 => d = none ∧ ∃ b0 b1 b2 C, cls = .ref C ∧ (C = BN ∧ (b0, b1, b2) = (true, false, false) ∨ C = BL ∧ (b0, b1, b2) = (false, true, false) ∨ C = BC ∧ (b0, b1, b2) = (false, false, true)) ∧
    ∀ q H2, Same H1 H2 → H2 q = some (.lst (told b0 b1 b2)) → Q (.ref q) H2
def TTK (BN BL BC : Addr) : (XK → Hp → VK → Prop) → Hp → VK → Prop := fun tl H Q => ∀ p, H p = none → ∀ Q', tl (toldE BN BL BC Q) (upd H p (.lst [])) Q'
section
variable {X : Cx} {k i : Nat} {x : Str} {p pos : Pos} {e : Expr} {es : List Expr} {t : TA} {E : XK}
/-- what a name of several defs that raise is asked -/
theorem pe_callXL {S : Addr → Prop} {sp : Sp} (A : ∀ f, S f → ∃ fd ps, FnOk X.prog X.w X.K X.mg X.base (L2.CX X.prog X.w) k f fd ps sp ∧ PySem.W.keepIn X.K (.ref f) = true ∧ Binds X.K fd ps []) (hr : Room k X.A) (hN : X.N[i]? = some x) (hv : Vis X.env.scope x)
    (tk : Takes X (fun cls d _ H => E cls d H)) (ha : PA X (e :: es) t) (hdb : (x == ("__debug__" : Str)) = false := by decide) (hcd : (x == ("__classdict__" : Str)) = false := by decide)
    (he : starEach (e :: es) X.env = (false, eval e X.env) :: starEach es X.env := by rfl) (hpl : (backTo pos (starEach es X.env)).any (·.1) = false := by rfl) :
    PE X (.Call (.Name x p) (e :: es) [] pos) (fun σ H Q => ∃ f, σ[i]? = some (some (.ref f)) ∧ S f ∧ t σ H fun vs H1 => sp vs H1 Q E) := by
  refine ⟨fun pins s σ H Q I h => ?_⟩
  obtain ⟨f, hs, hS, ht⟩ := h
  obtain ⟨fd, ps, F, hk, hb⟩ := A f hS
  refine (pe_callL (i := i) (f := f) (sp := sp) (dvs := []) (E := E) F hr hN hv hk hb .nil (fun pins σ H s e s' I c => passAt tk σ pins H s e s' I c) ha hdb hcd he hpl).run pins s σ H Q I ⟨hs, ?_⟩
  have e0 : (fun (vs : List V) (H1 : Hp) => sp (vs ++ []) H1 Q E) = fun vs H1 => sp vs H1 Q E := by
    funext vs H1
    rw [List.append_nil]
  show t σ H (fun vs H1 => sp (vs ++ []) H1 Q E)
  rw [e0]
  exact ht
end
/-! ### lists of True and False -/
theorem bls_dat {K : PySem.W.Frag} {H : Hp} : ∀ bs : List Bool, DpAll K H (bs.map V.bl) (bs.map PyData.bool)
  | [] => .nil
  | b :: r => .cons (.bl b) (bls_dat r)
theorem eqv_bls : ∀ bs cs : List Bool, PyData.eqvAll (bs.map PyData.bool) (cs.map PyData.bool) = decide (bs = cs)
  | [], [] => by simp [PyData.eqvAll]
  | [], _ :: _ => by simp [PyData.eqvAll]
  | _ :: _, [] => by simp [PyData.eqvAll]
  | b :: r, c :: u => by
    have ih := eqv_bls r u
    rw [List.map_cons, List.map_cons, PyData.eqvAll, ih, PyData.eqv]
    cases b <;> cases c <;> simp
theorem shaped_bls (bs : List Bool) (h : bs.length ≤ 4) : SeqAt.shaped (.list (bs.map PyData.bool)) = true := by
  match bs, h with
  | [], _ => rfl
  | [a], _ => cases a <;> rfl
  | [a, b], _ => cases a <;> cases b <;> rfl
  | [a, b, c], _ => cases a <;> cases b <;> cases c <;> rfl
  | [a, b, c, d], _ => cases a <;> cases b <;> cases c <;> cases d <;> rfl
  | _ :: _ :: _ :: _ :: _ :: _, h => exact absurd h (by simp)
theorem rd_neB {K : PySem.W.Frag} {H : Hp} {a b : Addr} {bs cs : List Bool} {Q : VK} (h1 : H a = some (.lst (bs.map V.bl))) (h2 : H b = some (.lst (cs.map V.bl))) (l1 : bs.length ≤ 4) (l2 : cs.length ≤ 4) (q : Q (.bl (!decide (bs = cs))) H) : rNeD K (.ref a) (.ref b) H Q :=
  ⟨_, _, .lst (SqL.of h1) (bls_dat bs), .lst (SqL.of h2) (bls_dat cs), shaped_bls bs l1, shaped_bls cs l2, by rw [PyData.eqv, eqv_bls]; exact q⟩
theorem rd_eqB {K : PySem.W.Frag} {H : Hp} {a b : Addr} {bs cs : List Bool} {Q : VK} (h1 : H a = some (.lst (bs.map V.bl))) (h2 : H b = some (.lst (cs.map V.bl))) (l1 : bs.length ≤ 4) (l2 : cs.length ≤ 4) (q : Q (.bl (decide (bs = cs))) H) : rEqD K (.ref a) (.ref b) H Q :=
  ⟨_, _, .lst (SqL.of h1) (bls_dat bs), .lst (SqL.of h2) (bls_dat cs), shaped_bls bs l1, shaped_bls cs l2, by rw [PyData.eqv, eqv_bls]; exact q⟩
theorem ExtN.new {H : Hp} {p : Addr} {o : HO} (h : H p = none) : LamX.ExtN H (upd H p o) := Same.extN (Same.new h)
theorem ExtN.mut {H H' : Hp} {p : Addr} {o : HO} (e : LamX.ExtN H H') (h : H p = none) : LamX.ExtN H (upd H' p o) := fun a u ha n => by
  rw [upd_ne (ne_of_none ha h)]
  exact e a u ha n
theorem ExtN.lst {H H' : Hp} (e : LamX.ExtN H H') {p : Addr} {xs : List V} (h : H p = some (.lst xs)) : H' p = some (.lst xs) := e _ _ h fun _ z => nomatch z
theorem ExtN.tup {H H' : Hp} (e : LamX.ExtN H H') {p : Addr} {xs : List V} (h : H p = some (.tup xs)) : H' p = some (.tup xs) := e _ _ h fun _ z => nomatch z
theorem Tabs.same {T : List (Addr × Str)} {H H' : Hp} (t : LamX.Tabs T H) (e : Same H H') : LamX.Tabs T H' := LamX.Tabs.ext t e
/-- a list may change that is no table -/
theorem Tabs.lst {T : List (Addr × Str)} {H : Hp} (t : LamX.Tabs T H) {p : Addr} {xs ys : List V} (h : H p = some (.lst xs)) : LamX.Tabs T (upd H p (.lst ys)) := fun z hz => by
  obtain ⟨ps, h1, h2, h3⟩ := t z hz
  have n1 : z.1 ≠ p := fun e => by rw [e, h] at h1; cases h1
  refine ⟨ps, by rw [upd_ne n1]; exact h1, h2, fun pos cv hc => ?_⟩
  obtain ⟨c, e1, e2⟩ := h3 pos cv hc
  have n2 : c ≠ p := fun e => by rw [e, h] at e2; unfold LamX.CodeO at e2; cases e2
  exact ⟨c, e1, by rw [upd_ne n2]; exact e2⟩
/-- an ask that raises C, handed to _law_kinds: what is told of it -/
theorem ask_told {T : List (Addr × Str)} {BN BL BC C : Addr} {b0 b1 b2 : Bool} {t : XK → TE} {σ : L2.St} {H : Hp} {Q : VK} (hT : LamX.Tabs T H) (hC : C = BN ∧ (b0, b1, b2) = (true, false, false) ∨ C = BL ∧ (b0, b1, b2) = (false, true, false) ∨ C = BC ∧ (b0, b1, b2) = (false, false, true))
    (h : ∀ H1, LamX.ExtN H H1 → ∀ (E : XK) (Q' : VK), (∀ H2, Same H1 H2 → E (.ref C) none H2) → t E σ H1 Q') (q : ∀ p H1, LamX.ExtN H H1 → LamX.Tabs T H1 → H1 p = some (.lst (told b0 b1 b2)) → Q (.ref p) H1) : LamX.tLam T (TTK BN BL BC) t σ H Q :=
  ⟨hT, fun H1 e T1 p np Q' => h _ (e.trans (ExtN.new np)) _ _ fun H2 s2 => ⟨rfl, b0, b1, b2, C, rfl, hC, fun a H3 s3 g =>
    q a H3 ((e.trans (ExtN.new np)).trans (Same.extN (s2.trans s3))) (Tabs.same T1 (((Same.new np).trans s2).trans s3)) g⟩⟩
def spDueOf : Sp := fun vs H Q _ => ∃ k : Int, vs = [.int k] ∧ ∀ p H', Same H H' → H' p = some (.lst (told (decide (k = 0)) (decide (k = 1)) (decide (k = 2)))) → Q (.ref p) H'
theorem ask_ne {K : PySem.W.Frag} {T : List (Addr × Str)} {BN BL BC C : Addr} {b0 b1 b2 : Bool} {t : XK → TE} {σ : L2.St} {H : Hp} {Q : VK} {k : Int} (hk : [b0, b1, b2] = [decide (k = 0), decide (k = 1), decide (k = 2)]) (hT : LamX.Tabs T H) (hC : C = BN ∧ (b0, b1, b2) = (true, false, false) ∨ C = BL ∧ (b0, b1, b2) = (false, true, false) ∨ C = BC ∧ (b0, b1, b2) = (false, false, true))
    (h : ∀ H1, LamX.ExtN H H1 → ∀ (E : XK) (Q' : VK), (∀ H2, Same H1 H2 → E (.ref C) none H2) → t E σ H1 Q') (q : ∀ H1, LamX.ExtN H H1 → LamX.Tabs T H1 → Q (.bl false) H1) : tOp (rNeD K) (LamX.tLam T (TTK BN BL BC) t) (tCall spDueOf [] E0 (tCons (tC (.int k)) tNil)) σ H Q := by
  refine ask_told (b0 := b0) (b1 := b1) (b2 := b2) hT hC h fun p H1 e1 T1 g1 => ⟨k, rfl, fun p2 H2 s2 g2 => ?_⟩
  refine rd_neB (bs := [b0, b1, b2, true]) (cs := [decide (k = 0), decide (k = 1), decide (k = 2), true]) (s2 _ _ g1) g2 (Nat.le_refl 4) (Nat.le_refl 4) ?_
  have e : [b0, b1, b2, true] = [decide (k = 0), decide (k = 1), decide (k = 2), true] := by
    have := congrArg (fun l => l ++ [true]) hk
    exact this
  rw [decide_eq_true e]
  exact q H2 (e1.trans (Same.extN s2)) (Tabs.same T1 s2)
theorem ask_eq {K : PySem.W.Frag} {T : List (Addr × Str)} {BN BL BC C : Addr} {b0 b1 b2 : Bool} {t : XK → TE} {σ : L2.St} {H : Hp} {Q : VK} {k : Int} (hk : [b0, b1, b2] = [decide (k = 0), decide (k = 1), decide (k = 2)]) (hT : LamX.Tabs T H) (hC : C = BN ∧ (b0, b1, b2) = (true, false, false) ∨ C = BL ∧ (b0, b1, b2) = (false, true, false) ∨ C = BC ∧ (b0, b1, b2) = (false, false, true))
    (h : ∀ H1, LamX.ExtN H H1 → ∀ (E : XK) (Q' : VK), (∀ H2, Same H1 H2 → E (.ref C) none H2) → t E σ H1 Q') (q : ∀ H1, LamX.ExtN H H1 → LamX.Tabs T H1 → Q (.bl true) H1) : tOp (rEqD K) (LamX.tLam T (TTK BN BL BC) t) (tCall spDueOf [] E0 (tCons (tC (.int k)) tNil)) σ H Q := by
  refine ask_told (b0 := b0) (b1 := b1) (b2 := b2) hT hC h fun p H1 e1 T1 g1 => ⟨k, rfl, fun p2 H2 s2 g2 => ?_⟩
  refine rd_eqB (bs := [b0, b1, b2, true]) (cs := [decide (k = 0), decide (k = 1), decide (k = 2), true]) (s2 _ _ g1) g2 (Nat.le_refl 4) (Nat.le_refl 4) ?_
  have e : [b0, b1, b2, true] = [decide (k = 0), decide (k = 1), decide (k = 2), true] := by
    have := congrArg (fun l => l ++ [true]) hk
    exact this
  rw [decide_eq_true e]
  exact q H2 (e1.trans (Same.extN s2)) (Tabs.same T1 s2)
theorem tab_one {P : Addr} {q : Str} : ∀ p ∈ [(P, q)], p.1 = P → p.2 = q := fun p hp _ => by
  cases List.mem_singleton.mp hp
  rfl
def spStrange : Sp := fun vs H Q _ => ∃ far : Int, vs = [.int far] ∧ 1 ≤ far ∧ ∀ p xs H', Same H H' → H p = none → H' p = some (.lst xs) → xs.length = 10 → (∀ hi, ∀ x ∈ xs, Bad H' hi x) → Q (.ref p) H'
def spRight (T : List (Addr × Str)) : Sp := fun vs H Q _ => ∃ far : Int, vs = [.int far] ∧ 1 ≤ far ∧ LamX.Tabs T H ∧ ∀ H', LamX.ExtN H H' → LamX.Tabs T H' → Q (.bl true) H'
/-- where a def's own code stands and its table, that is empty -/
def TabAt (K : PySem.W.Frag) (f : Addr) (h : Heap) : Prop := ∀ (c P : Addr) (o : Obj) (fd : FuncData) (e : Value) (dd : Option Addr) (vs : Array Value) (sl : Array (Option Value)), K.lookup f = some o → o.data = .func fd → fd.code = .ref c → K.lookup c = some ⟨e, dd, .fields vs, sl⟩ → vs[11]? = some (.ref P) →
  PySem.W.CodeHd h c P ∧ h.get? P = some { cls := .none, data := .fields #[] }
end NB

set_option Elab.async false
set_option maxRecDepth 100000
namespace NB
open PySem L2
def topS (i : Nat) : Stmt := PySem.Challenge.pw_neighboursums_k06_refused.main.body.getD i (.Pass ⟨0, 0, 0, 0⟩)
end NB

set_option Elab.async false
set_option maxRecDepth 100000
set_option maxHeartbeats 4000000
set_option linter.unusedVariables false
namespace NB
open PySem L2
section
variable {P : Program} {w : World} {K : PySem.W.Frag} {mg : Str → Option Value} {base : Heap}
/-! ### is_whole, check_number -/
abbrev s_is_whole : Stmt := topS 12
theorem sc_is_whole : FnScope ["thing"] ["thing"] (defScope s_is_whole) := ⟨rfl, rfl, rfl, by decide +kernel, rfl, by decide +kernel, by decide +kernel⟩
theorem ok_is_whole {f : Addr} {fd : FuncData} (F : Fun K "is_whole" "is_whole" s_is_whole f fd) (B : Bt mg) : FnOk P w K mg base CX0 1 f fd ["thing"] spWhole := by
  refine F.ok sc_is_whole (fun vs H Q E h => ?_) (fun cdv A outer s H vs Q E hr h => ?_)
  · obtain ⟨i, rfl, _⟩ := h
    rfl
  · obtain ⟨i, rfl, q⟩ := h
    refine ⟨_, (pss_one (ps_ret (pe_and (pe_callB call_isi (by rfl) B.isinstance_ (by decide +kernel) (pa_cons (pv 0) (pa_cons (pe_bltn (v := .ty "int") (by rfl) B.int_ (by decide +kernel) rfl) pa_nil))) (pe_one (pe_not (pe_callB call_isi (by rfl) B.isinstance_ (by decide +kernel) (pa_cons (pv 0) (pa_cons (pe_bltn (v := .ty "bool") (by rfl) B.bool_ (by decide +kernel) rfl) pa_nil)))))))), ?_⟩
    refine ⟨_, rfl, _, _, _, _, true, rfl, .ty "int", .base (.int i), kit_ty (by decide +kernel), true, rfl, iteT ?_⟩
    exact ⟨_, rfl, _, _, _, _, false, rfl, .ty "bool", .base (.int i), kit_ty (by decide +kernel), false, rfl, q⟩
end
end NB

set_option Elab.async false
set_option maxRecDepth 100000
set_option maxHeartbeats 4000000
set_option linter.unusedVariables false
namespace NB
open PySem L2
section
variable {P : Program} {w : World} {K : PySem.W.Frag} {mg : Str → Option Value} {base : Heap}
abbrev s_check_number : Stmt := topS 13
theorem sc_check_number : FnScope ["number"] ["number"] (defScope s_check_number) := ⟨rfl, rfl, rfl, by decide +kernel, rfl, by decide +kernel, by decide +kernel⟩
theorem ok_check_number {f : Addr} {fd : FuncData} (F : Fun K "check_number" "check_number" s_check_number f fd) (B : Bt mg) {t : Tok} (m_GREATEST : mg "GREATEST" = some (.int 1000000 t)) (C_is_whole : Callee P w K mg base 1 "is_whole" ["thing"] spWhole) : FnOk P w K mg base CX0 2 f fd ["number"] spCheck := by
  refine F.ok sc_check_number (fun vs H Q E h => ?_) (fun cdv A outer s H vs Q E hr h => ?_)
  · obtain ⟨i, rfl, _⟩ := h
    rfl
  · obtain ⟨i, rfl, h1, h2, q⟩ := h
    obtain ⟨f_is_whole, fd_is_whole, m_is_whole, k_is_whole, b_is_whole, G_is_whole⟩ := C_is_whole
    refine ⟨_, (pss_one (ps_if (PW.pt (pw_or (pt_not (pt_val (pe_call G_is_whole (hr.mono (by decide)) rfl m_is_whole k_is_whole b_is_whole .nil pass0 (pa_cons (pv 0) pa_nil)))) (pw_or1 (pt_not (pt_chain op_le op_le pe_int (pv 0) (pe_glob (v := .int 1000000) rfl m_GREATEST ⟨_, rfl⟩)))))) (pss_one ps_never) pss_nil)), ?_⟩
    refine ⟨_, rfl, i, rfl, _, rfl, iteF ?_⟩
    refine ⟨_, rfl, _, _, rfl, rfl, _, rfl, ?_⟩
    rw [decide_eq_true h1]
    refine iteT ?_
    refine ⟨_, _, rfl, rfl, _, rfl, ?_⟩
    rw [decide_eq_true h2]
    exact iteF q
end
end NB

set_option Elab.async false
set_option maxRecDepth 100000
set_option maxHeartbeats 4000000
set_option linter.unusedVariables false
namespace NB
open PySem L2
section
variable {P : Program} {w : World} {K : PySem.W.Frag} {mg : Str → Option Value} {base : Heap}
/-! ### row_of -/
abbrev s_row_of : Stmt := topS 15
theorem sc_row_of : FnScope ["number", "length", "first"] ["number", "length"] (defScope s_row_of) := ⟨rfl, rfl, rfl, by decide +kernel, rfl, by decide +kernel, by decide +kernel⟩
theorem ok_row_of {f : Addr} {fd : FuncData} (F : Fun K "row_of" "row_of" s_row_of f fd) (B : Bt mg) : FnOk P w K mg base CX0 1 f fd ["number", "length"] spRow := by
  refine F.ok sc_row_of (fun vs H Q E h => ?_) (fun cdv A outer s H vs Q E hr h => ?_)
  · obtain ⟨n, L, rfl, _⟩ := h
    rfl
  · obtain ⟨n, L, rfl, hn, hn2, hL, hb, q⟩ := h
    refine ⟨_, (pss_cons (ps_set (i := 2) sc_row_of.nd rfl (Or.inl rfl) (pe_op op_sub (pv 0) (pe_op op_fdiv (pe_op op_mulX (pv 1) (pe_op op_sub (pv 1) pe_int)) pe_int)))
      (pss_cons (ps_if (pt_cmpR op_ne (pe_op op_mod (pv 2) (pv 1)) pe_int (nomark _)) (pss_one (ps_ret pe_non)) pss_nil)
      (pss_cons (ps_set (i := 2) sc_row_of.nd rfl (Or.inl rfl) (pe_op op_fdivW (pv 2) (pv 1)))
      (pss_one (ps_ret (pe_tup (pa_cons (pv 2) (pa_cons (pe_op op_sub (pe_op op_add (pv 2) (pv 1)) pe_int) pa_nil)))))))), ?_⟩
    refine ⟨_, rfl, _, rfl, _, rfl, _, _, rfl, rfl, _, _, rfl, rfl, ?c1, _, _, rfl, rfl, ⟨by decide, by decide⟩, _, _, rfl, rfl, ?_⟩
    case c1 =>
      have h1 := PySem.intBits_sub_le hb (show ib 1 ≤ 1 by decide)
      show (ib L : Int) + (ib (L - 1) : Int) ≤ 134217728
      have h2 : ib (L - 1) ≤ 2000001 := Nat.le_trans h1 (by decide)
      omega
    refine ⟨_, rfl, _, rfl, _, _, rfl, rfl, (show 0 < L by omega), rfl, _, rfl, ?_⟩
    by_cases hd : (n - L * (L - 1) / 2) % L = 0
    · have e : rowOf n L = some ((n - L * (L - 1) / 2) / L, (n - L * (L - 1) / 2) / L + L - 1) := by unfold rowOf; rw [if_pos hd]
      have hle : L ≤ 2000000 := by
        have h := ((rowOf_iff (L := L) (by omega)).mp e).2.2
        generalize (n - L * (L - 1) / 2) / L = f at h
        have e2 : f + L - 1 - f + 1 = L := by omega
        rw [e2] at h
        exact Int.le_trans (Int.le_of_dvd (show 0 < 2 * n by omega) ⟨f + (f + L - 1), by rw [Int.mul_comm L]; exact h.symm⟩) (by omega)
      refine iteNS (congrArg V.int hd) ?_
      refine ⟨_, rfl, _, rfl, _, _, rfl, rfl, wide_div (b := 64) (by omega) (by omega) (by decide) (by decide), ?_⟩
      refine ⟨_, rfl, _, rfl, _, rfl, _, _, rfl, rfl, _, _, rfl, rfl, (by show 2 ≤ sizeLine; decide), fun p np => ?_⟩
      exact q (.ref p) _ (Same.new np) (by rw [e]; exact ⟨p, rfl, upd_same⟩)
    · have e : rowOf n L = none := by unfold rowOf; rw [if_neg hd]
      exact iteNN (fun z => hd (V.int.inj z)) (q .non _ (Same.refl _) (by rw [e]; rfl))
end
end NB

set_option Elab.async false
set_option maxRecDepth 100000
set_option maxHeartbeats 4000000
set_option linter.unusedVariables false
namespace NB
open PySem L2
section
variable {P : Program} {w : World} {K : PySem.W.Frag} {mg : Str → Option Value} {base : Heap}
/-! ### parts_of -/
abbrev s_parts_of : Stmt := topS 14
theorem sc_parts_of : FnScope ["number", "low", "high", "part"] ["number"] (defScope s_parts_of) := ⟨rfl, rfl, rfl, by decide +kernel, rfl, by decide +kernel, by decide +kernel⟩
theorem ok_parts_of {f : Addr} {fd : FuncData} (F : Fun K "parts_of" "parts_of" s_parts_of f fd) (B : Bt mg) : FnOk P w K mg base CX0 1 f fd ["number"] spParts := by
  refine F.ok sc_parts_of (fun vs H Q E h => ?_) (fun cdv A outer s H vs Q E hr h => ?_)
  · obtain ⟨i, rfl, _⟩ := h
    rfl
  · obtain ⟨n, rfl, hn, hn2, q⟩ := h
    refine ⟨_, (pss_cons (ps_par3 (i := 1) (j := 2) (l := 3) rfl sc_parts_of.nd rfl rfl rfl (by decide) (by decide) (by decide) rfl rfl rfl (pa_cons (pe_lst pa_nil) (pa_cons (pe_lst pa_nil) (pa_cons pe_int pa_nil))) (by rfl))
      (pss_cons (ps_while PassesOwn.never (pt_cmpR op_le (pe_op op_mul (pv 3) (pv 3)) (pv 0) (nomark _))
        (pss_cons (ps_if (pt_cmpR op_eq (pe_op op_mod (pv 0) (pv 3)) pe_int (nomark _)) (pss_cons (ps_expr (pe_bm PySem.F.plainAttrs_list PySem.F.slot_list_append PySem.F.type_list_append mt_append (pv 1) (pa_cons (pv 3) pa_nil)))
          (pss_one (ps_if (pt_cmpR op_lt (pe_op op_mul (pv 3) (pv 3)) (pv 0) (nomark _)) (pss_one (ps_expr (pe_bm PySem.F.plainAttrs_list PySem.F.slot_list_append PySem.F.type_list_append mt_append (pv 2) (pa_cons (pe_op op_fdivW (pv 0) (pv 3)) pa_nil)))) pss_nil))) pss_nil)
        (pss_one (ps_set (i := 3) sc_parts_of.nd rfl (Or.inl rfl) (pe_op op_add (pv 3) pe_int)))))
      (pss_one (ps_ret (pe_op op_cat (pv 1) (pe_revL (pv 2))))))), ?_⟩
    refine ⟨(by show 0 ≤ sizeLine; decide), fun p1 np1 => ⟨(by show 0 ≤ sizeLine; decide), fun p2 np2 => ⟨_, _, _, rfl, ?_⟩⟩⟩
    have n12 : p2 ≠ p1 := fun e => by subst e; rw [upd_same] at np2; cases np2
    have np2' : H p2 = none := by rw [upd_ne n12] at np2; exact np2
    refine while_nat 1500 (fun k σ H' => σ = [some (.int n), some (.ref p1), some (.ref p2), some (.int ((k + 1 : Nat) : Int))] ∧ (k : Int) * k ≤ n ∧ Same H H' ∧ H' p1 = some (.lst ((low n k).map V.int)) ∧ H' p2 = some (.lst ((high n k).map V.int))) ⟨rfl, by omega, (Same.new np1).trans (Same.new np2), by rw [upd_ne n12.symm, upd_same]; rfl, upd_same⟩ ?_
    rintro k m σ H' e ⟨rfl, hk, hS, h1, h2⟩
    have kb : k < 1500 := by
      refine Decidable.byContradiction fun hc => ?_
      have : (1500 : Int) * 1500 ≤ (k : Int) * k := Int.mul_le_mul (by omega) (by omega) (by omega) (by omega)
      omega
    refine ⟨_, rfl, _, rfl, _, _, rfl, rfl, .inl ⟨by omega, by omega⟩, _, rfl, _, _, rfl, rfl, _, rfl, ?_⟩
    refine ite2 (fun ht => ?_) fun ht => ?_
    · have ht := of_decide_eq_true ht
      refine ⟨_, turn_nat _ e kb, ?_⟩
      -- if number % part == 0
      refine ⟨_, rfl, _, rfl, _, _, rfl, rfl, by omega, rfl, _, rfl, ?_⟩
      have sl := low_len (n := n) (k := k)
      have sh := high_len (n := n) (k := k)
      have h12 : ∀ o, (upd H' p1 o) p2 = some (.lst ((high n k).map V.int)) := fun o => by rw [upd_ne n12]; exact h2
      refine ite2 (fun hd => ?_) fun hd => ?_
      · have hd : n % ((k + 1 : Nat) : Int) = 0 := by simpa using of_decide_eq_true hd
        have el : low n (k + 1) = low n k ++ [((k + 1 : Nat) : Int)] := by rw [low, if_pos hd]
        refine ⟨_, rfl, .inl ⟨rfl, _, SqL.of h1⟩, _, rfl, p1, _, _, rfl, rfl, h1, small1000' (by rw [List.length_map]; omega), ?_⟩
        refine ⟨_, rfl, _, rfl, _, _, rfl, rfl, .inl ⟨by omega, by omega⟩, _, rfl, _, _, rfl, rfl, _, rfl, ?_⟩
        refine ite2 (fun hq => ?_) fun hq => ?_
        · have hq := of_decide_eq_true hq
          have eh : high n (k + 1) = high n k ++ [n / ((k + 1 : Nat) : Int)] := by rw [high, if_pos ⟨hd, hq⟩]
          refine ⟨_, rfl, .inl ⟨rfl, _, SqL.of (h12 _)⟩, _, rfl, _, rfl, _, _, rfl, rfl, wide_div (b := 64) (by omega) (by omega) (by decide) (by decide), p2, _, _, rfl, rfl, h12 _, small1000' (by rw [List.length_map]; omega), ?_⟩
          refine ⟨_, rfl, _, _, rfl, rfl, ?_⟩
          refine ⟨rfl, ht, Same.mut (Same.mut hS np1) np2', ?_, ?_⟩
          · rw [upd_ne n12.symm, upd_same, el, List.map_append]
            rfl
          · rw [upd_same, eh, List.map_append]
            rfl
        · have hq : ¬ (((k + 1 : Nat) : Int) * ((k + 1 : Nat) : Int) < n) := fun z => hq (decide_eq_true z)
          have eh : high n (k + 1) = high n k := by rw [high, if_neg fun z => hq z.2]
          refine ⟨_, rfl, _, _, rfl, rfl, ?_⟩
          refine ⟨rfl, ht, Same.mut hS np1, ?_, ?_⟩
          · rw [upd_same, el, List.map_append]
            rfl
          · rw [upd_ne n12, eh]
            exact h2
      · have hd : ¬ n % ((k + 1 : Nat) : Int) = 0 := fun z => hd (decide_eq_true (congrArg V.int z))
        refine ⟨_, rfl, _, _, rfl, rfl, ?_⟩
        refine ⟨rfl, ht, hS, ?_, ?_⟩
        · rw [h1, low, if_neg hd]
        · rw [h2, high, if_neg fun z => hd z.1]
    · have ht : ¬ (((k + 1 : Nat) : Int) * ((k + 1 : Nat) : Int) ≤ n) := fun z => ht (decide_eq_true z)
      have ec : ((k + 1 : Nat) : Int) = (k : Int) + 1 := by omega
      rw [ec] at ht
      refine ⟨_, rfl, _, rfl, p2, _, rfl, SqL.of h2, fun p3 np3 => ?_⟩
      have n31 : p1 ≠ p3 := ne_of_none h1 np3
      refine ⟨p1, p3, _, _, rfl, rfl, by rw [upd_ne n31]; exact h1, upd_same, ?_, fun p4 np4 => ?_⟩
      · rw [List.length_reverse, List.length_map, List.length_map]
        have sl := low_len (n := n) (k := k)
        have sh := high_len (n := n) (k := k)
        exact Nat.le_of_lt (small1000' (by omega))
      · have ok := parts_ok hn hk (by omega)
        refine q _ p4 _ ok ?_ ((hS.trans (Same.new np3)).trans (Same.new np4)) ((hS.trans (Same.new np3)).free np4) ?_
        · have := parts_len (n := n) (k := k)
          omega
        · rw [upd_same]
          unfold parts
          rw [List.map_append, List.map_reverse]
/-! ### rows_of -/
abbrev s_rows_of : Stmt := topS 16
theorem sc_rows_of : FnScope ["number", "found", "length", "row"] ["number"] (defScope s_rows_of) := ⟨rfl, rfl, rfl, by decide +kernel, rfl, by decide +kernel, by decide +kernel⟩
theorem ok_rows_of {f : Addr} {fd : FuncData} (F : Fun K "rows_of" "rows_of" s_rows_of f fd) (B : Bt mg) (C_parts_of : Callee P w K mg base 1 "parts_of" ["number"] spParts) (C_row_of : Callee P w K mg base 1 "row_of" ["number", "length"] spRow) : FnOk P w K mg base CX0 2 f fd ["number"] spRows := by
  refine F.ok sc_rows_of (fun vs H Q E h => ?_) (fun cdv A outer s H vs Q E hr h => ?_)
  · obtain ⟨n, rfl, _⟩ := h
    rfl
  · obtain ⟨n, rfl, hn, hn2, q⟩ := h
    obtain ⟨f_parts_of, fd_parts_of, m_parts_of, k_parts_of, b_parts_of, G_parts_of⟩ := C_parts_of
    obtain ⟨f_row_of, fd_row_of, m_row_of, k_row_of, b_row_of, G_row_of⟩ := C_row_of
    refine ⟨_, (pss_cons (ps_set (i := 1) sc_rows_of.nd rfl (Or.inl rfl) (pe_lst pa_nil))
      (pss_cons (ps_for PassesOwn.never rfl (pi_list (pe_call G_parts_of (hr.mono (by decide)) rfl m_parts_of k_parts_of b_parts_of .nil pass0 (pa_cons (pe_op op_mul pe_int (pv 0)) pa_nil))) (pg_name (i := 2) sc_rows_of.nd rfl (.inl rfl))
        (pss_cons (ps_set (i := 3) sc_rows_of.nd rfl (Or.inl rfl) (pe_call G_row_of (hr.mono (by decide)) rfl m_row_of k_row_of b_row_of .nil pass0 (pa_cons (pv 0) (pa_cons (pv 2) pa_nil))))
        (pss_one (ps_if (pt_cmpR op_notN (pv 3) pe_non (nomark _)) (pss_one (ps_expr (pe_bm PySem.F.plainAttrs_list PySem.F.slot_list_append PySem.F.type_list_append mt_append (pv 1) (pa_cons (pv 3) pa_nil)))) pss_nil))))
      (pss_one (ps_ret (pe_callB cr_sortedPO (by rfl) B.sorted_ (by decide +kernel) (pa_cons (pv 1) pa_nil)))))), ?_⟩
    refine ⟨(by show 0 ≤ sizeLine; decide), fun p1 np1 => ?_⟩
    refine ⟨_, rfl, _, _, rfl, rfl, .inl ⟨by decide, by decide⟩, 2 * n, rfl, by omega, by omega, fun ds p2 H2 hP hl s2 np2 h2 => ?_⟩
    have h1 : H2 p1 = some (.lst []) := s2 _ _ upd_same
    have s02 : Same H H2 := (Same.new np1).trans s2
    have n12 : p2 ≠ p1 := ne_new np2 (by rw [upd_same]; exact fun z => nomatch z) |>.symm
    refine ⟨p2, rfl, ⟨_, SqL.of h2⟩, for_list (xs := ds.map V.int) (fun i σ H' => ∃ x1 x2 xs, σ = [some (.int n), some (.ref p1), x1, x2] ∧ Same H H' ∧ H' p2 = some (.lst (ds.map V.int)) ∧ H' p1 = some (.lst xs) ∧ PL H' xs ((ds.take i).filterMap (rowOf n)) ∧ xs.length ≤ i) ?h0 ?hl ?hs ?hd⟩
    case h0 => exact ⟨_, _, [], rfl, s02, h2, h1, .nil, Nat.le_refl _⟩
    case hl =>
      rintro i σ H' _ ⟨_, _, _, rfl, _, h, _⟩
      exact SqL.of h
    case hs =>
      rintro i x σ H' hx ⟨x1, x2, xs, rfl, hS, g2, g1, hpl, hlen⟩
      have hi : i < ds.length := by
        have := (List.getElem?_eq_some_iff.mp hx).1
        rwa [List.length_map] at this
      have ex : x = .int ds[i] := by
        rw [List.getElem?_map, List.getElem?_eq_getElem hi] at hx
        exact (Option.some.inj hx).symm
      subst ex
      have hd0 := (hP.mem ds[i]).mp (List.getElem_mem hi)
      have htk : ds.take (i + 1) = ds.take i ++ [ds[i]] := by rw [List.take_add_one, List.getElem?_eq_getElem hi]; rfl
      have hle : ds[i] ≤ 2 * n := Int.le_of_dvd (by omega) (Int.dvd_of_emod_eq_zero hd0.2)
      refine ⟨_, rfl, _, rfl, n, ds[i], rfl, hn, hn2, by omega, ?_, fun x H3 s3 hx3 => ?_⟩
      · exact Nat.le_trans (ib_of (m := 64) (by omega)) (by decide)
      · have g13 := s3 _ _ g1
        cases hso : rowOf n ds[i] with
        | none =>
          rw [hso] at hx3
          cases (show x = .non from hx3)
          refine ⟨_, rfl, rfl, _, rfl, iteNS rfl ?_⟩
          refine ⟨_, _, xs, rfl, hS.trans s3, s3 _ _ g2, g13, ?_, by omega⟩
          rw [htk, List.filterMap_append, List.filterMap_cons, hso]
          simpa using hpl.same s3
        | some fl =>
          rw [hso] at hx3
          obtain ⟨p, rfl, h3⟩ := (show IsP H3 x fl from hx3)
          refine ⟨_, rfl, rfl, _, rfl, ?_⟩
          refine itB rfl ?_
          refine ⟨_, rfl, .inl ⟨rfl, _, SqL.of g13⟩, _, rfl, p1, _, _, rfl, rfl, g13, small1000' (by omega), ?_⟩
          refine ⟨_, _, _, rfl, Same.mut (hS.trans s3) np1, by rw [upd_ne n12]; exact s3 _ _ g2, upd_same, ?_, ?_⟩
          · have same : ∀ x q, IsP H3 x q → IsP (upd H3 p1 (.lst (xs ++ [.ref p]))) x q := fun x q ⟨t, e, h⟩ => ⟨t, e, by rw [upd_ne (ne_of h g13 (fun z => nomatch z))]; exact h⟩
            rw [htk, List.filterMap_append, List.filterMap_cons, hso]
            exact PL.append (Paired.mapP (hpl.same s3) same) (.cons (same _ _ ⟨p, rfl, h3⟩) .nil)
          · rw [List.length_append]
            simp only [List.length_cons, List.length_nil]
            omega
    case hd =>
      rintro σ H' ⟨x1, x2, xs, rfl, hS, g2, g1, hpl, hlen⟩
      rw [List.length_map] at hlen
      rw [List.length_map, List.take_length] at hpl
      refine ⟨_, rfl, ?_⟩
      refine rd_sorted (SqL.of g1) hpl fun ys qs p hq hs hp np => ?_
      refine q qs p _ (rows_ok hP hs hp) ?_ (hS.trans (Same.new np)) (hS.free np) ⟨ys, upd_same, hq.same (Same.new np)⟩
      rw [hp.length_eq, ← hpl.length]
      omega
end
end NB

set_option Elab.async false
set_option maxRecDepth 100000
set_option maxHeartbeats 4000000
set_option linter.unusedVariables false
namespace NB
open PySem L2
section
variable {P : Program} {w : World} {K : PySem.W.Frag} {mg : Str → Option Value} {base : Heap}
abbrev s_high_rows : Stmt := topS 18
theorem sc_high_rows : FnScope ["number", "row"] ["number"] (defScope s_high_rows) := ⟨rfl, rfl, rfl, by decide +kernel, rfl, by decide +kernel, by decide +kernel⟩
theorem ok_high_rows {f : Addr} {fd : FuncData} (F : Fun K "high_rows" "high_rows" s_high_rows f fd) (C_check_number : Callee P w K mg base 2 "check_number" ["number"] spCheck) (C_rows_of : Callee P w K mg base 2 "rows_of" ["number"] spRows) : FnOk P w K mg base CX0 3 f fd ["number"] spHigh := by
  refine F.ok sc_high_rows (fun vs H Q E h => ?_) (fun cdv A outer s H vs Q E hr h => ?_)
  · obtain ⟨n, rfl, _⟩ := h
    rfl
  · obtain ⟨n, rfl, hn, hn2, q⟩ := h
    obtain ⟨f_check_number, fd_check_number, m_check_number, k_check_number, b_check_number, G_check_number⟩ := C_check_number
    obtain ⟨f_rows_of, fd_rows_of, m_rows_of, k_rows_of, b_rows_of, G_rows_of⟩ := C_rows_of
    refine ⟨_, (pss_cons (ps_expr (pe_call G_check_number (hr.mono (by decide)) rfl m_check_number k_check_number b_check_number .nil pass0 (pa_cons (pv 0) pa_nil)))
      (pss_one (ps_ret (pe_lc (g := (gName 1)) (own := [("row", 1)]) rfl sc_high_rows.nd (pi_list (pe_call G_rows_of (hr.mono (by decide)) rfl m_rows_of k_rows_of b_rows_of .nil pass0 (pa_cons (pv 0) pa_nil))) (blkOk_by (N := ["number", "row"]) (sc := defScope s_high_rows) (by decide +kernel)) (fun _ _ _ _ _ => (pg_name (i := 1) sc_high_rows.nd rfl (.inl rfl))) (fun _ _ _ _ _ => (pts_one (pt_cmpR op_gt (pe_ix (r := rIxT K) ix_tup (pv 1) pe_int (fun _ _ => rfl)) pe_int (nomark _)))) (fun _ _ _ _ _ => (pv 1)))))), ?_⟩
    refine ⟨_, rfl, n, rfl, hn, hn2, _, rfl, n, rfl, hn, hn2, fun ps p H1 hR hl s1 np h1 => ?_⟩
    obtain ⟨xs, g, hp⟩ := h1
    refine ⟨p, rfl, ⟨xs, SqL.of g⟩, fun D nD => ?_⟩
    have npD : p ≠ D := ne_of_none g nD
    refine lc_list (xs := xs) (fun i H' => Same H H' ∧ H' p = some (.lst xs) ∧ PL H' xs ps ∧ ∃ acc, H' D = some (.lst acc) ∧ PL H' acc ((ps.take i).filter fun p => decide (0 < p.1)) ∧ acc.length ≤ i) ?h0 ?hl ?hs ?hd
    case h0 => exact ⟨s1.trans (Same.new nD), by rw [upd_ne npD]; exact g, hp.same (Same.new nD), [], upd_same, .nil, Nat.le_refl _⟩
    case hl =>
      rintro i H' _ ⟨_, h, _⟩
      exact SqL.of h
    case hs =>
      rintro i x H' hx ⟨hS, g1, gp, acc, gD, ga, hlen⟩
      obtain ⟨⟨a, b⟩, hpi, t, rfl, ht⟩ := gp.get hx
      have hi : i < xs.length := (List.getElem?_eq_some_iff.mp hx).1
      have htk : ps.take (i + 1) = ps.take i ++ [(a, b)] := by rw [List.take_add_one, hpi]; rfl
      refine ⟨rfl, ?_⟩
      refine ⟨_, rfl, t, _, 0, _, rfl, rfl, SqT.of ht, atI_nat (j := 0) rfl, _, _, rfl, rfl, _, rfl, ?_⟩
      have same : ∀ o x q, IsP H' x q → IsP (upd H' D (.lst o)) x q := fun o x q ⟨t, e, h⟩ => ⟨t, e, by rw [upd_ne (ne_of h gD (fun z => nomatch z))]; exact h⟩
      refine ite2 (fun hc => ?_) fun hc => ?_
      · have hc := of_decide_eq_true hc
        refine ⟨_, rfl, acc, gD, small1000' ?_, ?_⟩
        · have := hp.length
          omega
        · refine ⟨Same.mut hS (s1.free nD), by rw [upd_ne npD]; exact g1, Paired.mapP gp (same _), _, upd_same, ?_, ?_⟩
          · have e1 : ([(a, b)] : List (Int × Int)).filter (fun p => decide (0 < p.1)) = [(a, b)] := by simpa using hc
            rw [htk, List.filter_append, e1]
            exact PL.append (Paired.mapP ga (same _)) (.cons (same _ _ _ ⟨t, rfl, ht⟩) .nil)
          · rw [List.length_append]
            simp only [List.length_cons, List.length_nil]
            omega
      · have hc : ¬ 0 < a := fun z => hc (decide_eq_true z)
        refine ⟨hS, g1, gp, acc, gD, ?_, by omega⟩
        have e1 : ([(a, b)] : List (Int × Int)).filter (fun p => decide (0 < p.1)) = [] := by simpa using hc
        rw [htk, List.filter_append, e1, List.append_nil]
        exact ga
    case hd =>
      rintro H' ⟨hS, g1, gp, acc, gD, ga, hlen⟩
      have el := hp.length
      rw [el, List.take_length] at ga
      exact q _ D H' hR.high (by have := ga.length; omega) hS (s1.free nD) ⟨acc, gD, ga⟩
end
end NB

set_option Elab.async false
set_option maxRecDepth 100000
set_option maxHeartbeats 4000000
set_option linter.unusedVariables false
namespace NB
open PySem L2
section
variable {P : Program} {w : World} {K : PySem.W.Frag} {mg : Str → Option Value} {base : Heap}
abbrev s_longest : Stmt := topS 19
theorem sc_longest : FnScope ["number"] ["number"] (defScope s_longest) := ⟨rfl, rfl, rfl, by decide +kernel, rfl, by decide +kernel, by decide +kernel⟩
theorem ok_longest {f : Addr} {fd : FuncData} (F : Fun K "longest" "longest" s_longest f fd) (C_high_rows : Callee P w K mg base 3 "high_rows" ["number"] spHigh) : FnOk P w K mg base CX0 4 f fd ["number"] spLongest := by
  refine F.ok sc_longest (fun vs H Q E h => ?_) (fun cdv A outer s H vs Q E hr h => ?_)
  · obtain ⟨n, rfl, _⟩ := h
    rfl
  · obtain ⟨n, rfl, hn, hn2, q⟩ := h
    obtain ⟨f_high_rows, fd_high_rows, m_high_rows, k_high_rows, b_high_rows, G_high_rows⟩ := C_high_rows
    refine ⟨_, (pss_one (ps_ret (pe_ix (r := rIxL K) ix_list (pe_call G_high_rows (hr.mono (by decide)) rfl m_high_rows k_high_rows b_high_rows .nil pass0 (pa_cons (pv 0) pa_nil)) pe_int (fun _ _ => rfl)))), ?_⟩
    refine ⟨_, rfl, n, rfl, hn, hn2, fun ps p H1 hps hl s1 np h1 => ?_⟩
    obtain ⟨xs, g, hp⟩ := h1
    obtain ⟨p0, qs, rfl⟩ := hps.ne hn
    cases hp with
    | cons hx ht => exact ⟨p, _, 0, _, rfl, rfl, SqL.of g, atI_nat (j := 0) rfl, q _ _ _ _ hps s1 hx⟩
abbrev s_of_length : Stmt := topS 20
theorem sc_of_length : FnScope ["number", "length"] ["number", "length"] (defScope s_of_length) := ⟨rfl, rfl, rfl, by decide +kernel, rfl, by decide +kernel, by decide +kernel⟩
theorem ok_of_length {f : Addr} {fd : FuncData} (F : Fun K "of_length" "of_length" s_of_length f fd) (C_check_number : Callee P w K mg base 2 "check_number" ["number"] spCheck) (C_is_whole : Callee P w K mg base 1 "is_whole" ["thing"] spWhole) (C_row_of : Callee P w K mg base 1 "row_of" ["number", "length"] spRow) : FnOk P w K mg base CX0 3 f fd ["number", "length"] spRow := by
  refine F.ok sc_of_length (fun vs H Q E h => ?_) (fun cdv A outer s H vs Q E hr h => ?_)
  · obtain ⟨_, _, rfl, _⟩ := h
    rfl
  · obtain ⟨n, L, rfl, hn, hn2, hL, hb, q⟩ := h
    obtain ⟨f_check_number, fd_check_number, m_check_number, k_check_number, b_check_number, G_check_number⟩ := C_check_number
    obtain ⟨f_is_whole, fd_is_whole, m_is_whole, k_is_whole, b_is_whole, G_is_whole⟩ := C_is_whole
    obtain ⟨f_row_of, fd_row_of, m_row_of, k_row_of, b_row_of, G_row_of⟩ := C_row_of
    refine ⟨_, (pss_cons (ps_expr (pe_call G_check_number (hr.mono (by decide)) rfl m_check_number k_check_number b_check_number .nil pass0 (pa_cons (pv 0) pa_nil)))
      (pss_cons (ps_if (PW.pt (pw_or (pt_not (pt_val (pe_call G_is_whole (hr.mono (by decide)) rfl m_is_whole k_is_whole b_is_whole .nil pass0 (pa_cons (pv 1) pa_nil)))) (pw_or1 (pt_cmpR op_lt (pv 1) pe_int (nomark _))))) (pss_one ps_never) pss_nil)
      (pss_one (ps_ret (pe_call G_row_of (hr.mono (by decide)) rfl m_row_of k_row_of b_row_of .nil pass0 (pa_cons (pv 0) (pa_cons (pv 1) pa_nil))))))), ?_⟩
    refine ⟨_, rfl, n, rfl, hn, hn2, ?_⟩
    refine ⟨_, rfl, L, rfl, _, rfl, iteF ?_⟩
    refine ⟨_, rfl, _, _, rfl, rfl, _, rfl, iteDN (show ¬ L < 1 by omega) ?_⟩
    exact ⟨_, rfl, _, rfl, n, L, rfl, hn, hn2, hL, hb, q⟩
end
end NB

set_option Elab.async false
set_option maxRecDepth 100000
set_option maxHeartbeats 4000000
set_option linter.unusedVariables false
namespace NB
open PySem L2
section
variable {P : Program} {w : World} {K : PySem.W.Frag} {mg : Str → Option Value} {base : Heap}
/-! ### the law's helpers -/
abbrev s__law_cell_at : Stmt := topS 27
theorem sc__law_cell_at : FnScope ["_law_script", "_law_k"] ["_law_script", "_law_k"] (defScope s__law_cell_at) := ⟨rfl, rfl, rfl, by decide +kernel, rfl, by decide +kernel, by decide +kernel⟩
theorem ok__law_cell_at {f : Addr} {fd : FuncData} (F : Fun K "_law_cell_at" "_law_cell_at" s__law_cell_at f fd) (B : Bt mg) : FnOk P w K mg base CX0 1 f fd ["_law_script", "_law_k"] (spCellAt K) := by
  refine F.ok sc__law_cell_at (fun vs H Q E h => ?_) (fun cdv A outer s H vs Q E hr h => ?_)
  · obtain ⟨_, _, _, rfl, _⟩ := h
    rfl
  · obtain ⟨a, ns, k, rfl, hS, hb, h0, hk, q⟩ := h
    refine ⟨_, (pss_cons (ps_if (pt_cmpR op_lt (pv 1) (pe_callB call_len_seq (by rfl) B.len_ (by decide +kernel) (pa_cons (pv 0) pa_nil)) (nomark _)) (pss_one (ps_ret (pe_ix (r := rIxL K) ix_list (pv 0) (pv 1) (fun _ _ => rfl)))) pss_nil)
      (pss_one (ps_ret pe_int))), ?_⟩
    refine ⟨_, rfl, _, rfl, a, _, rfl, .inl hS, _, _, rfl, rfl, _, rfl, ?_⟩
    refine ite2 (fun hc => ?_) fun hc => ?_
    · have hc : k < ns.length := by
        have := of_decide_eq_true hc
        rwa [List.length_map] at this
      obtain ⟨z, hz, e⟩ := at_int h0 hc
      exact ⟨_, rfl, _, rfl, a, _, _, _, rfl, rfl, hS, e, q z (hb z hz)⟩
    · exact q 0 (by decide)
abbrev s__law_draw : Stmt := topS 28
theorem sc__law_draw : FnScope ["_law_cell", "_law_k", "_law_many", "_law_primes"] ["_law_cell", "_law_k", "_law_many"] (defScope s__law_draw) := ⟨rfl, rfl, rfl, by decide +kernel, rfl, by decide +kernel, by decide +kernel⟩
theorem ok__law_draw {f : Addr} {fd : FuncData} (F : Fun K "_law_draw" "_law_draw" s__law_draw f fd) : FnOk P w K mg base CX0 1 f fd ["_law_cell", "_law_k", "_law_many"] spDraw := by
  refine F.ok sc__law_draw (fun vs H Q E h => ?_) (fun cdv A outer s H vs Q E hr h => ?_)
  · obtain ⟨_, _, _, rfl, _⟩ := h
    rfl
  · obtain ⟨c, k, m, rfl, h0, hm, q⟩ := h
    refine ⟨_, (pss_cons (ps_set (i := 3) sc__law_draw.nd rfl (Or.inl rfl) (pe_tup (pa_cons pe_int (pa_cons pe_int (pa_cons pe_int (pa_cons pe_int (pa_cons pe_int (pa_cons pe_int (pa_cons pe_int (pa_cons pe_int (pa_cons pe_int (pa_cons pe_int (pa_cons pe_int (pa_cons pe_int (pa_cons pe_int (pa_cons pe_int (pa_cons pe_int (pa_cons pe_int pa_nil))))))))))))))))))
      (pss_one (ps_ret (pe_op op_mod (pe_op op_mod (pe_op op_add (pe_op op_mul (pv 0) pe_int) (pe_op op_mul (pv 1) pe_int)) (pe_ix (r := rIxT K) ix_tup (pv 3) (pe_op op_mod (pv 1) pe_int) (fun _ _ => rfl))) (pv 2))))), ?_⟩
    refine ⟨(by show 16 ≤ sizeLine; decide), fun p np => ?_⟩
    obtain ⟨r, hr0, er⟩ := prime_at (i := k % 16) (by omega) (by omega)
    refine ⟨_, rfl, _, _, rfl, rfl, .inr ⟨by decide, by decide⟩, _, rfl, _, _, rfl, rfl, .inr ⟨by decide, by decide⟩, _, _, rfl, rfl, _, rfl, _, rfl, _, _, rfl, rfl, (by show (0 : Int) < 16; decide), p, _, _, _, rfl, rfl, SqT.of upd_same, er, _, _, rfl, rfl, hr0, _, rfl, _, _, rfl, rfl, hm, ?_⟩
    exact q _ _ (Int.emod_nonneg _ (by omega)) (Int.emod_lt_of_pos _ hm) (Same.new np)
abbrev s__law_value : Stmt := topS 29
theorem sc__law_value : FnScope ["_law_cell", "_law_turn", "_law_mixed"] ["_law_cell", "_law_turn"] (defScope s__law_value) := ⟨rfl, rfl, rfl, by decide +kernel, rfl, by decide +kernel, by decide +kernel⟩
theorem ok__law_value {f : Addr} {fd : FuncData} (F : Fun K "_law_value" "_law_value" s__law_value f fd) (C__law_draw : Callee P w K mg base 1 "_law_draw" ["_law_cell", "_law_k", "_law_many"] spDraw) : FnOk P w K mg base CX0 2 f fd ["_law_cell", "_law_turn"] spValue := by
  refine F.ok sc__law_value (fun vs H Q E h => ?_) (fun cdv A outer s H vs Q E hr h => ?_)
  · obtain ⟨_, _, rfl, _⟩ := h
    rfl
  · obtain ⟨c, t, rfl, hb, h0, ht, q⟩ := h
    obtain ⟨f__law_draw, fd__law_draw, m__law_draw, k__law_draw, b__law_draw, G__law_draw⟩ := C__law_draw
    refine ⟨_, (pss_cons (ps_if (pt_cmpR op_ge (pv 0) (pe_op op_pow pe_int pe_int) (nomark _)) (pss_one (ps_ret (pe_op op_shr (pe_op op_sub (pv 0) (pe_op op_pow pe_int pe_int)) (pe_op op_mul pe_int (pv 1))))) pss_nil)
      (pss_cons (ps_set (i := 2) sc__law_value.nd rfl (Or.inl rfl) (pe_call G__law_draw (hr.mono (by decide)) rfl m__law_draw k__law_draw b__law_draw .nil pass0 (pa_cons (pe_op op_mulX (pe_op op_add (pv 0) (pe_op op_mul pe_int (pv 1))) (pe_op op_add (pe_op op_add (pv 0) (pe_op op_mul pe_int (pv 1))) pe_int)) (pa_cons (pe_op op_add (pe_op op_mod (pv 1) pe_int) pe_int) (pa_cons pe_int pa_nil)))))
      (pss_one (ps_ret (pe_op op_add (pe_op op_mul (pv 2) pe_int) (pe_call G__law_draw (hr.mono (by decide)) rfl m__law_draw k__law_draw b__law_draw .nil pass0 (pa_cons (pe_op op_add (pe_op op_mulX (pe_op op_add (pv 0) (pe_op op_mul pe_int (pv 1))) (pe_op op_add (pv 0) pe_int)) (pe_op op_mul pe_int (pv 1))) (pa_cons (pe_op op_add (pe_op op_mod (pv 1) pe_int) pe_int) (pa_cons pe_int pa_nil))))))))), ?_⟩
    refine ⟨_, rfl, _, _, rfl, rfl, ⟨by decide, by decide, by decide⟩, _, _, rfl, rfl, _, rfl, ?_⟩
    refine ite2 (fun hc => ?_) fun hc => ?_
    · have e18 : (10 : Int) ^ Int.toNat 18 = 1000000000000000000 := by decide
      have hc : (10 : Int) ^ Int.toNat 18 ≤ c := of_decide_eq_true hc
      refine ⟨_, rfl, _, _, rfl, rfl, ⟨by decide, by decide, by decide⟩, _, _, rfl, rfl, _, rfl, _, _, rfl, rfl, .inl ⟨by decide, by decide⟩, _, _, rfl, rfl, (show 0 ≤ 3 * t by omega), ?_⟩
      have hp : (0 : Int) < 2 ^ (3 * t).toNat := PySem.W.kbt_pos _
      have hz : 0 ≤ c - (10 : Int) ^ Int.toNat 18 := by omega
      have hz2 : c - (10 : Int) ^ Int.toNat 18 ≤ c := by rw [e18]; omega
      refine q ((c - (10 : Int) ^ Int.toNat 18) / 2 ^ (3 * t).toNat) _ (Int.ediv_nonneg hz (by omega)) ?_ (Same.refl _)
      generalize c - (10 : Int) ^ Int.toNat 18 = d at hz hz2
      have hq := Int.ediv_nonneg hz (show (0 : Int) ≤ 2 ^ (3 * t).toNat by omega)
      have hq2 := Int.ediv_le_self (2 ^ (3 * t).toNat) hz
      exact Nat.le_trans (PySem.intBits_le_of_natAbs (y := c) (by omega) hb) (by decide)
    · have l0 : ib (977 * t) ≤ 64 := ib_of (by omega)
      have l1 : ib (31 * t) ≤ 64 := ib_of (by omega)
      have b1 := ib_add hb l0
      have b2 := ib_add hb l1
      have b3 := ib_add b2 (show ib 5 ≤ 64 by decide)
      have b4 := ib_add hb (show ib 7 ≤ 64 by decide)
      refine ⟨_, rfl, _, rfl, _, _, rfl, rfl, .inl ⟨by decide, by decide⟩, _, _, rfl, rfl, _, rfl, _, rfl, _, _, rfl, rfl, .inl ⟨by decide, by decide⟩, _, _, rfl, rfl, _, _, rfl, rfl, _, _, rfl, rfl, mulx b1 b3 (by decide), _, rfl, _, _, rfl, rfl, (by show (0 : Int) < 9; decide), _, _, rfl, rfl, _, _, _, rfl, (show 0 ≤ t % 9 + 1 by omega), by decide, fun r H1 r0 r1 s1 => ?_⟩
      refine ⟨_, rfl, _, _, rfl, rfl, .inr ⟨by decide, by decide⟩, _, rfl, _, rfl, _, _, rfl, rfl, .inl ⟨by decide, by decide⟩, _, _, rfl, rfl, _, rfl, _, _, rfl, rfl, _, _, rfl, rfl, mulx b2 b4 (by decide), _, rfl, _, _, rfl, rfl, .inl ⟨by decide, by decide⟩, _, _, rfl, rfl, _, rfl, _, _, rfl, rfl, (by show (0 : Int) < 7; decide), _, _, rfl, rfl, _, _, _, rfl, (show 0 ≤ t % 7 + 2 by omega), by decide, fun r' H2 r0' r1' s2 => ?_⟩
      refine ⟨_, _, rfl, rfl, ?_⟩
      exact q _ _ (show 0 ≤ r * 1000003 + r' by omega) (Nat.le_trans (ib_of (m := 64) (by omega)) (by decide)) (s1.trans s2)
end
end NB

set_option Elab.async false
set_option maxRecDepth 100000
set_option maxHeartbeats 4000000
set_option linter.unusedVariables false
namespace NB
open PySem L2
section
variable {P : Program} {w : World} {K : PySem.W.Frag} {mg : Str → Option Value} {base : Heap}
/-! ### the program's search -/
abbrev s_least_from : Stmt := topS 24
theorem sc_least_from : FnScope ["many", "primes", "most", "best", "often", "rest", "found", "turn"] ["many", "primes", "most"] (defScope s_least_from) := ⟨rfl, rfl, rfl, by decide +kernel, rfl, by decide +kernel, by decide +kernel⟩
theorem ok_least_none {f : Addr} {fd : FuncData} (F : Fun K "least_from" "least_from" s_least_from f fd) : FnOk P w K mg base CX0 1 f fd ["many", "primes", "most"] (fun _ _ _ _ => False) :=
  F.ok sc_least_from (fun vs H Q E h => h.elim) (fun cdv A outer s H vs Q E hr h => h.elim)
theorem ok_least_step {f : Addr} {fd : FuncData} (F : Fun K "least_from" "least_from" s_least_from f fd) (B : Bt mg) (m_least_from : mg "least_from" = some (.ref f)) (b_least_from : Binds K fd ["many", "primes", "most"] []) {j : Nat} {spG : Sp} (G_least_from : FnOk P w K mg base CX0 j f fd ["many", "primes", "most"] spG) (n : Nat)
    (hG : ∀ vs H Q E, 1 ≤ n → spLeastFrom K (n - 1) vs H Q E → spG vs H Q E) : FnOk P w K mg base CX0 (j + 1) f fd ["many", "primes", "most"] (spLeastFrom K n) := by
  have k_least_from := F.kp
  refine F.ok sc_least_from (fun vs H Q E h => ?_) (fun cdv A outer s H vs Q E hr h => ?_)
  · obtain ⟨_, _, _, _, rfl, _⟩ := h
    rfl
  · obtain ⟨many, most, a, ps, rfl, hS, hlen, hps, m1, m2, t1, t2, q⟩ := h
    refine ⟨_, (pss_cons (ps_if (pt_cmpR op_eq (pv 0) pe_int (nomark _)) (pss_one (ps_ret pe_int)) pss_nil)
      (pss_cons (ps_set (i := 3) sc_least_from.nd rfl (Or.inl rfl) pe_non)
      (pss_cons (ps_for PassesOwn.never rfl (pi_range2 rfl B.range_ (pa_cons pe_int (pa_cons (pe_op op_add (pv 2) pe_int) pa_nil))) (pg_name (i := 4) sc_least_from.nd rfl (.inl rfl))
        (pss_one (ps_if (PW.pt (pw_and (pt_cmpR op_eq (pe_op op_mod (pv 0) (pe_op op_add (pv 4) pe_int)) pe_int (nomark _)) (pw_and1 (pt_cmpR (r := rNeD K) (op_neD hr.units) (pv 1) (pe_lst pa_nil) (nomark _))))) (pss_cons (ps_set (i := 5) sc_least_from.nd rfl (Or.inl rfl) (pe_call G_least_from (hr.mono (Nat.le_refl _)) rfl m_least_from k_least_from b_least_from .nil pass0 (pa_cons (pe_op op_fdivW (pv 0) (pe_op op_add (pv 4) pe_int)) (pa_cons (pe_slice sl_list (pv 1) (po_some pe_int) po_none) (pa_cons (pv 4) pa_nil)))))
          (pss_one (ps_if (pt_cmpR op_notN (pv 5) pe_non (nomark _)) (pss_cons (ps_set (i := 6) sc_least_from.nd rfl (Or.inl rfl) (pv 5))
            (pss_cons (ps_for PassesOwn.never rfl (pi_range1 rfl B.range_ (pa_cons (pv 4) pa_nil)) (pg_name (i := 7) sc_least_from.nd rfl (.inl rfl))
              (pss_one (ps_set (i := 6) sc_least_from.nd rfl (Or.inl rfl) (pe_op op_mul (pv 6) (pe_ix (r := rIxL K) ix_list (pv 1) pe_int (fun _ _ => rfl))))))
            (pss_one (ps_set (i := 3) sc_least_from.nd rfl (Or.inl rfl) (pe_ifExp (pt_cmpR op_isN (pv 3) pe_non (nomark _)) (pv 6) (pe_callB (call_min2 rfl) (by rfl) B.min_ (by decide +kernel) (pa_cons (pv 3) (pa_cons (pv 6) pa_nil)))))))) pss_nil))) pss_nil)))
      (pss_one (ps_ret (pv 3)))))), ?_⟩
    rw [leastF_eq] at q
    refine ⟨_, rfl, rfl, _, rfl, ?_⟩
    by_cases hm : many = 1
    · refine iteD (congrArg V.int hm) ?_
      rw [if_pos hm] at q
      exact q _ (Same.refl _)
    · refine iteDN (fun x => hm (V.int.inj x)) ?_
      rw [if_neg hm] at q
      have en : (most + 1 - 1).toNat = most.toNat := by congr 1; omega
      refine ⟨_, rfl, _, _, rfl, rfl, 1, most + 1, rfl, ⟨by decide, by decide, by omega, by omega⟩, ?_⟩
      rw [en]
      refine for_range (fun i σ H' => ∃ x4 x5 x6 x7, σ = [some (.int many), some (.ref a), some (.int most), some (oV (foldF ps many i)), x4, x5, x6, x7] ∧ Same H H') ⟨_, _, _, _, by cases ps <;> rfl, Same.refl _⟩ ?_ ?_
      · rintro i σ H1 hi ⟨x4, x5, x6, x7, rfl, s1⟩
        have hi60 : (i : Int) < 60 := by omega
        refine ⟨_, rfl, _, rfl, _, _, rfl, rfl, _, _, rfl, rfl, (show (0 : Int) < 1 + (i : Int) + 1 by omega), rfl, _, rfl, ?_⟩
        have nothing : many % (1 + (i : Int) + 1) ≠ 0 ∨ ps = [] → foldF ps many (i + 1) = foldF ps many i := by
          rintro (h | h)
          · cases ps with
            | nil => rfl
            | cons p r => rw [foldF_succ, lstep, if_neg h]
          · subst h; rfl
        have fin : ∀ (o : Option Int) (x4 x5 x6 x7 : Option V) (H' : Hp), foldF ps many (i + 1) = o → Same H H' → ∃ y4 y5 y6 y7, [some (V.int many), some (V.ref a), some (V.int most), some (oV o), x4, x5, x6, x7] = [some (V.int many), some (V.ref a), some (V.int most), some (oV (foldF ps many (i + 1))), y4, y5, y6, y7] ∧ Same H H' := fun o x4 x5 x6 x7 H' e s => by
          subst e
          exact ⟨_, _, _, _, rfl, s⟩
        by_cases hd : many % (1 + (i : Int) + 1) = 0
        · refine iteD (congrArg V.int hd) ?_
          refine ⟨_, rfl, (by show 0 ≤ sizeLine; decide), fun l nl => ?_⟩
          refine rd_neI (ms := []) (Same.seq (Same.new nl) (Same.seq s1 hS)) (SqL.of upd_same) ⟨_, rfl, ?_⟩
          have s2 := s1.trans (Same.new (o := .lst []) nl)
          generalize upd H1 l (.lst []) = H2 at s2
          cases ps with
          | nil =>
            refine iteNS rfl ?_
            exact fin _ _ _ _ _ _ (nothing (.inr rfl)) s2
          | cons p r =>
            refine iteNN (by simp) ?_
            obtain ⟨hp1, hp2⟩ := hps p List.mem_cons_self
            have hq := Int.mul_ediv_cancel' (Int.dvd_of_emod_eq_zero hd)
            have hq1 : 1 ≤ many / (1 + (i : Int) + 1) := Int.pos_of_mul_pos_right (a := 1 + (i : Int) + 1) (by omega) (by omega)
            have hq2 : many / (1 + (i : Int) + 1) ≤ 60 := Int.le_trans (Int.ediv_le_self (1 + (i : Int) + 1) (by omega)) m2
            have hS2 := Same.seq s2 hS
            refine ⟨_, rfl, _, rfl, _, _, rfl, rfl, _, _, rfl, rfl, wide_div (b := 64) (by omega) (by omega) (by decide) (by decide), _, rfl, 1, rfl, a, _, rfl, hS2, fun p2 np2 => ?_⟩
            rw [cut_tail]
            rw [List.length_cons] at hlen
            refine ⟨_, rfl, hG _ _ _ _ (by omega) ⟨_, _, p2, r, rfl, SqL.of upd_same, by omega, fun x hx => hps x (List.mem_cons_of_mem _ hx), hq1, hq2, by omega, by omega, fun H3 s3 => ?_⟩⟩
            have s03 : Same H H3 := (s2.trans (Same.new np2)).trans s3
            have hS3 := Same.seq s03 hS
            cases hrest : leastF r (many / (1 + (i : Int) + 1)) (1 + (i : Int)) with
            | none =>
              refine ⟨_, rfl, rfl, _, rfl, iteNS rfl ?_⟩
              exact fin (foldF (p :: r) many i) _ _ _ _ _ (by rw [foldF_succ, lstep, if_pos hd, hrest]) s03
            | some rr =>
              refine ⟨_, rfl, rfl, _, rfl, itB rfl ?_⟩
              refine ⟨_, rfl, ?_⟩
              have ei : (1 + (i : Int)).toNat = i + 1 := by omega
              refine ⟨_, rfl, _, rfl, by omega, by omega, ?_⟩
              rw [ei]
              refine for_range (fun j σ H' => ∃ x7, σ = [some (.int many), some (.ref a), some (.int most), some (oV (foldF (p :: r) many i)), some (.int (1 + (i : Int))), some (.int rr), some (.int (rr * p ^ j)), x7] ∧ H' = H3) ⟨_, by rw [Int.pow_zero, Int.mul_one]; rfl, rfl⟩ ?_ ?_
              · rintro j σ H' hj ⟨x7, rfl, rfl⟩
                refine ⟨_, rfl, _, rfl, a, _, 0, _, rfl, rfl, hS3, atI_nat (j := 0) rfl, _, _, rfl, rfl, .inr ⟨by omega, by omega⟩, ?_⟩
                have e2 : rr * p ^ j * p = rr * p ^ (j + 1) := by rw [Int.pow_succ, Int.mul_assoc]
                exact ⟨some (V.int (0 + (j : Int))), congrArg (fun z => [some (V.int many), some (V.ref a), some (V.int most), some (oV (foldF (p :: r) many i)), some (V.int (1 + (i : Int))), some (V.int rr), some (V.int z), some (V.int (0 + (j : Int)))]) e2, rfl⟩
              · rintro σ H' ⟨x7, rfl, rfl⟩
                refine ⟨_, rfl, rfl, _, rfl, ?_⟩
                cases hbest : foldF (p :: r) many i with
                | none =>
                  refine iteD rfl ?_
                  refine ⟨_, rfl, ?_⟩
                  exact fin (some (rr * p ^ (i + 1))) _ _ _ _ _ (by rw [foldF_succ, lstep, if_pos hd, hrest, hbest]) s03
                | some b =>
                  refine iteDN (fun x => nomatch x) ?_
                  refine ⟨_, rfl, _, rfl, _, _, rfl, ?_⟩
                  exact fin (some (if rr * p ^ (i + 1) < b then rr * p ^ (i + 1) else b)) _ _ _ _ _ (by rw [foldF_succ, lstep, if_pos hd, hrest, hbest]) s03
        · refine iteDN (fun x => hd (V.int.inj x)) ?_
          refine iteF ?_
          exact fin _ _ _ _ _ _ (nothing (.inl hd)) s1
      · rintro σ H1 ⟨x4, x5, x6, x7, rfl, s1⟩
        exact ⟨_, rfl, q _ s1⟩
theorem ok_least_from {f : Addr} {fd : FuncData} (F : Fun K "least_from" "least_from" s_least_from f fd) (B : Bt mg) (m_least_from : mg "least_from" = some (.ref f)) (b_least_from : Binds K fd ["many", "primes", "most"] []) : ∀ n : Nat, FnOk P w K mg base CX0 (n + 2) f fd ["many", "primes", "most"] (spLeastFrom K n)
  | 0 => ok_least_step F B m_least_from b_least_from (ok_least_none F) 0 (fun _ _ _ _ h _ => absurd h (by decide))
  | n + 1 => ok_least_step F B m_least_from b_least_from (ok_least_from F B m_least_from b_least_from n) (n + 1) (fun _ _ _ _ _ h => h)
abbrev s_least_with : Stmt := topS 25
theorem sc_least_with : FnScope ["many"] ["many"] (defScope s_least_with) := ⟨rfl, rfl, rfl, by decide +kernel, rfl, by decide +kernel, by decide +kernel⟩
theorem ok_least_with {f : Addr} {fd : FuncData} (F : Fun K "least_with" "least_with" s_least_with f fd) (B : Bt mg) {t : Tok} (m_MOST : mg "MOST" = some (.int 60 t)) (C_is_whole : Callee P w K mg base 1 "is_whole" ["thing"] spWhole) (C_least_from : Callee P w K mg base 8 "least_from" ["many", "primes", "most"] (spLeastFrom K 6)) : FnOk P w K mg base CX0 9 f fd ["many"] spLeastWith := by
  refine F.ok sc_least_with (fun vs H Q E h => ?_) (fun cdv A outer s H vs Q E hr h => ?_)
  · obtain ⟨_, rfl, _⟩ := h
    rfl
  · obtain ⟨m, rfl, h1, h2, q⟩ := h
    obtain ⟨f_is_whole, fd_is_whole, m_is_whole, k_is_whole, b_is_whole, G_is_whole⟩ := C_is_whole
    obtain ⟨f_least_from, fd_least_from, m_least_from, k_least_from, b_least_from, G_least_from⟩ := C_least_from
    refine ⟨_, (pss_cons (ps_if (PW.pt (pw_or (pt_not (pt_val (pe_call G_is_whole (hr.mono (by decide)) rfl m_is_whole k_is_whole b_is_whole .nil pass0 (pa_cons (pv 0) pa_nil)))) (pw_or1 (pt_not (pt_chain op_le op_le pe_int (pv 0) (pe_glob (v := .int 60) rfl m_MOST ⟨_, rfl⟩)))))) (pss_one ps_never) pss_nil)
      (pss_one (ps_ret (pe_call G_least_from (hr.mono (by decide)) rfl m_least_from k_least_from b_least_from .nil pass0 (pa_cons (pv 0) (pa_cons (pe_lst (pa_cons pe_int (pa_cons pe_int (pa_cons pe_int (pa_cons pe_int (pa_cons pe_int (pa_cons pe_int pa_nil))))))) (pa_cons (pv 0) pa_nil))))))), ?_⟩
    refine ⟨_, rfl, _, rfl, _, rfl, iteF ?_⟩
    refine ⟨_, rfl, _, _, rfl, rfl, _, rfl, iteD (show (1 : Int) ≤ (m : Int) by omega) ?_⟩
    refine ⟨_, _, rfl, rfl, _, rfl, ?_⟩
    rw [decide_eq_true (show (m : Int) ≤ 60 by omega)]
    refine iteF ?_
    refine ⟨_, rfl, (by show 6 ≤ sizeLine; decide), fun p np => ⟨_, rfl, ?_⟩⟩
    refine ⟨_, _, p, prs, rfl, SqL.of upd_same, by decide, by decide, by omega, by omega, by omega, by omega, fun H' s' => ?_⟩
    obtain ⟨r, hr, _⟩ := least_ok m h2 h1
    rw [hr]
    exact q r H' hr ((Same.new np).trans s')
end
end NB

set_option Elab.async false
set_option maxRecDepth 100000
set_option pp.maxSteps 600
set_option maxHeartbeats 4000000
set_option linter.unusedVariables false
namespace NB
open PySem L2
section
variable {P : Program} {w : World} {K : PySem.W.Frag} {mg : Str → Option Value} {base : Heap}
/-! ### refusals -/
theorem mkX {x : Str} {q : Str} {st : Stmt} {f : Addr} {fd : FuncData} {ps : List Str} {k : Nat} {sp : Sp} (m : mg x = some (.ref f)) (F : Fun K x q st f fd) (b : Binds K fd ps []) (G : FnOk P w K mg base (L2.CX P w) k f fd ps sp) : CalleeX P w K mg base k x ps sp := ⟨f, fd, m, F.kp, b, G⟩
theorem ok_any {f : Addr} {fd : FuncData} (F : Fun K "is_whole" "is_whole" s_is_whole f fd) (B : Bt mg) : FnOk P w K mg base CX0 1 f fd ["thing"] spAny := by
  refine F.ok sc_is_whole (fun vs H Q E h => ?_) (fun cdv A outer s H vs Q E hr h => ?_)
  · obtain ⟨i, rfl, _⟩ := h
    rfl
  · obtain ⟨x, rfl, h⟩ := h
    refine ⟨_, (pss_one (ps_ret (pe_and (pe_callB call_isi (by rfl) B.isinstance_ (by decide +kernel) (pa_cons (pv 0) (pa_cons (pe_bltn (v := .ty "int") (by rfl) B.int_ (by decide +kernel) rfl) pa_nil))) (pe_one (pe_not (pe_callB call_isi (by rfl) B.isinstance_ (by decide +kernel) (pa_cons (pv 0) (pa_cons (pe_bltn (v := .ty "bool") (by rfl) B.bool_ (by decide +kernel) rfl) pa_nil)))))))), ?_⟩
    rcases h with ⟨i, rfl, q⟩ | ⟨o, q⟩
    · refine ⟨_, rfl, _, _, _, _, true, rfl, .ty "int", .base (.int i), kit_ty (by decide +kernel), true, rfl, iteT ?_⟩
      exact ⟨_, rfl, _, _, _, _, false, rfl, .ty "bool", .base (.int i), kit_ty (by decide +kernel), false, rfl, q⟩
    · cases o with
      | non => exact ⟨_, rfl, _, _, _, _, false, rfl, .ty "int", .base .non, kit_ty (by decide +kernel), false, rfl, iteF q⟩
      | str z => exact ⟨_, rfl, _, _, _, _, false, rfl, .ty "int", .base (.str z), kit_ty (by decide +kernel), false, rfl, iteF q⟩
      | bl b =>
        refine ⟨_, rfl, _, _, _, _, true, rfl, .ty "int", .base (.bl b), kit_ty (by decide +kernel), true, rfl, iteT ?_⟩
        exact ⟨_, rfl, _, _, _, _, true, rfl, .ty "bool", .base (.bl b), kit_ty (by decide +kernel), true, rfl, q⟩
      | lst e => exact ⟨_, rfl, _, _, _, _, false, rfl, .ty "int", .base (.lst e), kit_ty (by decide +kernel), false, rfl, iteF q⟩
      | tup e => exact ⟨_, rfl, _, _, _, _, false, rfl, .ty "int", .base (.tup e), kit_ty (by decide +kernel), false, rfl, iteF q⟩
      | dct e => exact ⟨_, rfl, _, _, _, _, false, rfl, .ty "int", .base (.dK e), kit_ty (by decide +kernel), false, rfl, iteF q⟩
theorem bad_check_number {f : Addr} {fd : FuncData} (F : Fun K "check_number" "check_number" s_check_number f fd) (B : Bt mg) {t : Tok} (m_GREATEST : mg "GREATEST" = some (.int 1000000 t)) (C_is_whole : Callee P w K mg base 1 "is_whole" ["thing"] spAny) {CN : Addr} (X_BadNumber : ErrF K mg "BadNumber" CN) : FnOk P w K mg base (L2.CX P w) 2 f fd ["number"] (spBad CN 1000000) := by
  refine F.okX sc_check_number (fun vs H Q E h => ?_) (fun cdv A outer s H vs Q E hr h => ?_)
  · obtain ⟨i, rfl, _⟩ := h
    rfl
  · obtain ⟨x, rfl, hx, q⟩ := h
    obtain ⟨f_is_whole, fd_is_whole, m_is_whole, k_is_whole, b_is_whole, G_is_whole⟩ := C_is_whole
    refine ⟨_, (pss_one (ps_if (PW.pt (pw_or (pt_not (pt_val (pe_call G_is_whole (hr.mono (by decide)) rfl m_is_whole k_is_whole b_is_whole .nil pass0 (pa_cons (pv 0) pa_nil)))) (pw_or1 (pt_not (pt_chain op_le op_le pe_int (pv 0) (pe_glob (v := .int 1000000) rfl m_GREATEST ⟨_, rfl⟩)))))) (pss_one (ps_raise rfl (takes_of rfl rfl rfl rfl) (pmk_own PySem.F.excBase_ValueError X_BadNumber.x X_BadNumber.m X_BadNumber.k (raises_own X_BadNumber.b X_BadNumber.t) rfl))) pss_nil)), ?_⟩
    rcases hx with o | ⟨i, rfl, hi⟩
    · exact ⟨_, rfl, x, rfl, .inr ⟨o, _, rfl, iteT (q H (Same.refl _))⟩⟩
    · refine ⟨_, rfl, _, rfl, .inl ⟨i, rfl, _, rfl, iteF ?_⟩⟩
      refine ⟨_, rfl, _, _, rfl, rfl, _, rfl, ?_⟩
      by_cases h1 : 1 ≤ i
      · rw [decide_eq_true h1]
        refine iteT ?_
        have h2 : ¬ i ≤ 1000000 := by
          rcases hi with z | ⟨h, e, z⟩
          · omega
          · cases e
            omega
        refine ⟨_, _, rfl, rfl, _, rfl, ?_⟩
        rw [decide_eq_false h2]
        exact iteT (q H (Same.refl _))
      · rw [decide_eq_false h1]
        exact iteF ⟨_, rfl, iteT (q H (Same.refl _))⟩
theorem bad_high_rows {f : Addr} {fd : FuncData} (F : Fun K "high_rows" "high_rows" s_high_rows f fd) {CN : Addr} (C_check_number : CalleeX P w K mg base 2 "check_number" ["number"] (spBad CN 1000000)) : FnOk P w K mg base (L2.CX P w) 3 f fd ["number"] (spBad CN 1000000) := by
  refine F.okX sc_high_rows (fun vs H Q E h => ?_) (fun cdv A outer s H vs Q E hr h => ?_)
  · obtain ⟨i, rfl, _⟩ := h
    rfl
  · obtain ⟨x, rfl, hx, q⟩ := h
    obtain ⟨f_check_number, fd_check_number, m_check_number, k_check_number, b_check_number, G_check_number⟩ := C_check_number
    refine ⟨_, pss_cons (ps_expr (pe_callS G_check_number (hr.mono (by decide)) rfl m_check_number k_check_number b_check_number (fun σ => passAt (takes_of rfl rfl rfl rfl) σ) (pa_cons (pv 0) pa_nil))) pss_stop, ?_⟩
    exact ⟨_, rfl, x, rfl, hx, q⟩
abbrev s_all_rows : Stmt := topS 17
theorem sc_all_rows : FnScope ["number"] ["number"] (defScope s_all_rows) := ⟨rfl, rfl, rfl, by decide +kernel, rfl, by decide +kernel, by decide +kernel⟩
theorem bad_all_rows {f : Addr} {fd : FuncData} (F : Fun K "all_rows" "all_rows" s_all_rows f fd) {CN : Addr} (C_check_number : CalleeX P w K mg base 2 "check_number" ["number"] (spBad CN 1000000)) : FnOk P w K mg base (L2.CX P w) 3 f fd ["number"] (spBad CN 1000000) := by
  refine F.okX sc_all_rows (fun vs H Q E h => ?_) (fun cdv A outer s H vs Q E hr h => ?_)
  · obtain ⟨i, rfl, _⟩ := h
    rfl
  · obtain ⟨x, rfl, hx, q⟩ := h
    obtain ⟨f_check_number, fd_check_number, m_check_number, k_check_number, b_check_number, G_check_number⟩ := C_check_number
    refine ⟨_, pss_cons (ps_expr (pe_callS G_check_number (hr.mono (by decide)) rfl m_check_number k_check_number b_check_number (fun σ => passAt (takes_of rfl rfl rfl rfl) σ) (pa_cons (pv 0) pa_nil))) pss_stop, ?_⟩
    exact ⟨_, rfl, x, rfl, hx, q⟩
abbrev s_judged : Stmt := topS 23
theorem sc_judged : FnScope ["number", "odd", "often", "length", "first", "last"] ["number"] (defScope s_judged) := ⟨rfl, rfl, rfl, by decide +kernel, rfl, by decide +kernel, by decide +kernel⟩
theorem bad_judged {f : Addr} {fd : FuncData} (F : Fun K "judged" "judged" s_judged f fd) {CN : Addr} (C_check_number : CalleeX P w K mg base 2 "check_number" ["number"] (spBad CN 1000000)) : FnOk P w K mg base (L2.CX P w) 3 f fd ["number"] (spBad CN 1000000) := by
  refine F.okX sc_judged (fun vs H Q E h => ?_) (fun cdv A outer s H vs Q E hr h => ?_)
  · obtain ⟨i, rfl, _⟩ := h
    rfl
  · obtain ⟨x, rfl, hx, q⟩ := h
    obtain ⟨f_check_number, fd_check_number, m_check_number, k_check_number, b_check_number, G_check_number⟩ := C_check_number
    refine ⟨_, pss_cons (ps_expr (pe_callS G_check_number (hr.mono (by decide)) rfl m_check_number k_check_number b_check_number (fun σ => passAt (takes_of rfl rfl rfl rfl) σ) (pa_cons (pv 0) pa_nil))) pss_stop, ?_⟩
    exact ⟨_, rfl, x, rfl, hx, q⟩
theorem bad_longest {f : Addr} {fd : FuncData} (F : Fun K "longest" "longest" s_longest f fd) {CN : Addr} (C_high_rows : CalleeX P w K mg base 3 "high_rows" ["number"] (spBad CN 1000000)) : FnOk P w K mg base (L2.CX P w) 4 f fd ["number"] (spBad CN 1000000) := by
  refine F.okX sc_longest (fun vs H Q E h => ?_) (fun cdv A outer s H vs Q E hr h => ?_)
  · obtain ⟨i, rfl, _⟩ := h
    rfl
  · obtain ⟨x, rfl, hx, q⟩ := h
    obtain ⟨f_high_rows, fd_high_rows, m_high_rows, k_high_rows, b_high_rows, G_high_rows⟩ := C_high_rows
    refine ⟨_, pss_one (ps_ret (pe_ix (r := rIxL K) ix_list (pe_callS G_high_rows (hr.mono (by decide)) rfl m_high_rows k_high_rows b_high_rows (fun σ => passAt (takes_of rfl rfl rfl rfl) σ) (pa_cons (pv 0) pa_nil)) pe_int (fun _ _ => rfl))), ?_⟩
    exact ⟨_, rfl, x, rfl, hx, q⟩
theorem bad_of_length {f : Addr} {fd : FuncData} (F : Fun K "of_length" "of_length" s_of_length f fd) (C_is_whole : Callee P w K mg base 1 "is_whole" ["thing"] spAny) {CN CL : Addr} (X_BadLength : ErrF K mg "BadLength" CL) (D_check_number : CalleeX P w K mg base 2 "check_number" ["number"] (spBad CN 1000000)) (C_check_number : Callee P w K mg base 2 "check_number" ["number"] spCheck) :
    FnOk P w K mg base (L2.CX P w) 3 f fd ["number", "length"] (spBadLen CN CL) := by
  refine F.okX sc_of_length (fun vs H Q E h => ?_) (fun cdv A outer s H vs Q E hr h => ?_)
  · obtain ⟨_, _, rfl, _⟩ := h
    rfl
  · obtain ⟨x, y, rfl, h⟩ := h
    obtain ⟨f_D, fd_D, m_D, k_D, b_D, G_D⟩ := D_check_number
    obtain ⟨f_check_number, fd_check_number, m_check_number, k_check_number, b_check_number, G_check_number⟩ := C_check_number
    obtain ⟨f_is_whole, fd_is_whole, m_is_whole, k_is_whole, b_is_whole, G_is_whole⟩ := C_is_whole
    rcases h with ⟨hx, q⟩ | ⟨rfl, hy, q⟩
    · refine ⟨_, pss_cons (ps_expr (pe_callS G_D (hr.mono (by decide)) rfl m_D k_D b_D (fun σ => passAt (takes_of rfl rfl rfl rfl) σ) (pa_cons (pv 0) pa_nil))) pss_stop, ?_⟩
      exact ⟨_, rfl, x, rfl, hx, q⟩
    · refine ⟨_, pss_cons (ps_expr (pe_call G_check_number (hr.mono (by decide)) rfl m_check_number k_check_number b_check_number .nil pass0 (pa_cons (pv 0) pa_nil))) (pss_cons (ps_if (PW.pt (pw_or (pt_not (pt_val (pe_call G_is_whole (hr.mono (by decide)) rfl m_is_whole k_is_whole b_is_whole .nil pass0 (pa_cons (pv 1) pa_nil)))) (pw_or1 (pt_cmpR op_lt (pv 1) pe_int (nomark _))))) (pss_one (ps_raise rfl (takes_of rfl rfl rfl rfl) (pmk_own PySem.F.excBase_ValueError X_BadLength.x X_BadLength.m X_BadLength.k (raises_own X_BadLength.b X_BadLength.t) rfl))) pss_nil) pss_stop), ?_⟩
      refine ⟨_, rfl, 7, rfl, by decide, by decide, ?_⟩
      rcases hy with o | ⟨i, rfl, hi⟩
      · exact ⟨_, rfl, y, rfl, .inr ⟨o, _, rfl, iteT (q H (Same.refl _))⟩⟩
      · refine ⟨_, rfl, _, rfl, .inl ⟨i, rfl, _, rfl, iteF ?_⟩⟩
        have h1 : i < 1 := by
          rcases hi with z | ⟨h, e, z⟩
          · exact z
          · cases e
        exact ⟨_, rfl, _, _, rfl, rfl, _, rfl, iteD h1 (q H (Same.refl _))⟩
theorem bad_least_with {f : Addr} {fd : FuncData} (F : Fun K "least_with" "least_with" s_least_with f fd) {t : Tok} (m_MOST : mg "MOST" = some (.int 60 t)) (C_is_whole : Callee P w K mg base 1 "is_whole" ["thing"] spAny) {CC : Addr} (X_BadCount : ErrF K mg "BadCount" CC) : FnOk P w K mg base (L2.CX P w) 2 f fd ["many"] (spBad CC 60) := by
  refine F.okX sc_least_with (fun vs H Q E h => ?_) (fun cdv A outer s H vs Q E hr h => ?_)
  · obtain ⟨_, rfl, _⟩ := h
    rfl
  · obtain ⟨x, rfl, hx, q⟩ := h
    obtain ⟨f_is_whole, fd_is_whole, m_is_whole, k_is_whole, b_is_whole, G_is_whole⟩ := C_is_whole
    refine ⟨_, pss_cons (ps_if (PW.pt (pw_or (pt_not (pt_val (pe_call G_is_whole (hr.mono (by decide)) rfl m_is_whole k_is_whole b_is_whole .nil pass0 (pa_cons (pv 0) pa_nil)))) (pw_or1 (pt_not (pt_chain op_le op_le pe_int (pv 0) (pe_glob (v := .int 60) rfl m_MOST ⟨_, rfl⟩)))))) (pss_one (ps_raise rfl (takes_of rfl rfl rfl rfl) (pmk_own PySem.F.excBase_ValueError X_BadCount.x X_BadCount.m X_BadCount.k (raises_own X_BadCount.b X_BadCount.t) rfl))) pss_nil) pss_stop, ?_⟩
    rcases hx with o | ⟨i, rfl, hi⟩
    · exact ⟨_, rfl, x, rfl, .inr ⟨o, _, rfl, iteT (q H (Same.refl _))⟩⟩
    · refine ⟨_, rfl, _, rfl, .inl ⟨i, rfl, _, rfl, iteF ?_⟩⟩
      refine ⟨_, rfl, _, _, rfl, rfl, _, rfl, ?_⟩
      by_cases h1 : 1 ≤ i
      · rw [decide_eq_true h1]
        refine iteT ?_
        have h2 : ¬ i ≤ 60 := by
          rcases hi with z | ⟨h, e, z⟩
          · omega
          · cases e
            omega
        refine ⟨_, _, rfl, rfl, _, rfl, ?_⟩
        rw [decide_eq_false h2]
        exact iteT (q H (Same.refl _))
      · rw [decide_eq_false h1]
        exact iteF ⟨_, rfl, iteT (q H (Same.refl _))⟩
end
end NB

set_option Elab.async false
set_option maxRecDepth 100000
set_option pp.maxSteps 600
set_option maxHeartbeats 4000000
set_option linter.unusedVariables false
namespace NB
open PySem L2
section
variable {P : Program} {w : World} {K : PySem.W.Frag} {mg : Str → Option Value} {base : Heap}
abbrev s__law_kinds : Stmt := topS 30
theorem sc__law_kinds : FnScope ["_law_ask", "_law_found", "error"] ["_law_ask"] (defScope s__law_kinds) := ⟨rfl, rfl, rfl, by decide +kernel, rfl, by decide +kernel, by decide +kernel⟩
theorem gives_kinds {X : Cx} {g : Addr} {cdg : Value} {SE BN BL BC : Addr} {q : Str} (B : Bt X.mg) (v_ValueError : X.mg "ValueError" = none) (e_SumError : X.mg "SumError" = some (.ref SE)) (e_BadNumber : X.mg "BadNumber" = some (.ref BN)) (e_BadLength : X.mg "BadLength" = some (.ref BL)) (e_BadCount : X.mg "BadCount" = some (.ref BC))
    (I0 : ErrI X.K SE BN BL BC BN true false false) (I1 : ErrI X.K SE BN BL BC BL false true false) (I2 : ErrI X.K SE BN BL BC BC false false true) :
    LamX.GivesTo X ["_law_ask", "_law_found", "error"] "_law_kinds" (defScope s__law_kinds) g cdg (defBody s__law_kinds) "_law_ask" q (TTK BN BL BC) := by
  intro f c' s H Q tl act hc h
  refine ⟨_, pss_cons (ps_set (i := 1) sc__law_kinds.nd rfl (Or.inl rfl) (pe_lst pa_nil)) (pss_cons (ps_try_as (i := 2) (c := .ref SE)
      (tb := fun W D σ H => ∃ Ech : XK, (∀ cls d σ' H', Ech cls d H' → W cls d σ' H') ∧ σ[0]? = some (some (.ref f)) ∧ H c' = some (LamX.CodeO c' q) ∧ tl Ech H fun v H' => D.nx σ H')
      (ts := fun a cls d D σ H => d = none ∧ ∃ b0 b1 b2 C, cls = .ref C ∧ ErrI X.K SE BN BL BC C b0 b1 b2 ∧ (σ.length = 3 → ∃ s0 s1, σ = [s0, s1, some (.ref a)] ∧ ∀ p H2, Same H H2 → H2 p = some (.lst (told b0 b1 b2)) → D.nx [s0, some (.ref p), some (.ref a)] H2))
      rfl rfl sc__law_kinds.nd rfl rfl ⟨rfl, by decide, .inl e_SumError⟩ LamX.takes0 (fun W pn xe tk _ => ?_) (fun a oe cls d pn hz hf => ?_)) (pss_one (ps_ret (pv 1)))), ?_⟩
  · refine ⟨fun pins s' σ H' D I h' => ?_⟩
    obtain ⟨Ech, hW, h1, h2, h3⟩ := h'
    exact PSs.run (pss_one (ps_expr (act W pn xe Ech _ _ tk hW))) pins s' σ H' D I ⟨h1, h2, h3⟩
  · refine pss_pre fun D σ H' hl h' => ?_
    obtain ⟨hd, b0, b1, b2, C, rfl, EI, hq⟩ := h'
    obtain ⟨s0, s1, rfl, hq'⟩ := hq hl
    subst hd
    have CI : CallR ((cxOf C8.CX0 X.prog X.w X.K X.mg X.base ["_law_ask", "_law_found", "error"] "_law_kinds" (defScope s__law_kinds) g cdg X.A X.stack s H C8.E0).nox.suite a ((a, oe) :: pn)) (.builtin "isinstance") (rIsE X.K C a) := call_isE EI.i hz hf
    refine ⟨_, pss_cons (ps_set (i := 1) sc__law_kinds.nd rfl (Or.inl rfl) (pe_lst (pa_cons (pe_callB CI (by rfl) B.isinstance_ (by decide +kernel) (pa_cons (pv 2) (pa_cons (pe_glob (v := .ref BN) rfl e_BadNumber rfl) pa_nil))) (pa_cons (pe_callB CI (by rfl) B.isinstance_ (by decide +kernel) (pa_cons (pv 2) (pa_cons (pe_glob (v := .ref BL) rfl e_BadLength rfl) pa_nil))) (pa_cons (pe_callB CI (by rfl) B.isinstance_ (by decide +kernel) (pa_cons (pv 2) (pa_cons (pe_glob (v := .ref BC) rfl e_BadCount rfl) pa_nil))) pa_nil)))))
      (pss_one (ps_expr (pe_bm PySem.F.plainAttrs_list PySem.F.slot_list_append PySem.F.type_list_append mt_append (pv 1) (pa_cons (pe_callB CI (by rfl) B.isinstance_ (by decide +kernel) (pa_cons (pv 2) (pa_cons (pe_bltn (v := .ty "ValueError") (by rfl) v_ValueError (by decide +kernel) rfl) pa_nil))) pa_nil)))), ?_⟩
    refine ⟨_, rfl, _, _, _, rfl, fun _ r => r, EI.q0, _, rfl, _, _, _, rfl, fun _ r => r, EI.q1, _, rfl, _, _, _, rfl, fun _ r => r, EI.q2, (by show 3 ≤ sizeLine; decide), fun p np => ?_⟩
    refine ⟨_, rfl, .inl ⟨rfl, _, SqL.of upd_same⟩, _, rfl, _, _, _, rfl, fun _ r => r, EI.q3, p, _, _, rfl, rfl, upd_same, small1000' (show 3 ≤ 100000 by decide), ?_⟩
    exact hq' p _ (Same.mut (Same.new np) np) upd_same
  · refine ⟨(by show 0 ≤ sizeLine; decide), fun p np => ?_⟩
    have ncp : c' ≠ p := ne_of_none hc np
    refine ⟨toldE BN BL BC Q, fun cls d σ' H' he => ?_, rfl, (by rw [upd_ne ncp]; exact hc), h p np _⟩
    · obtain ⟨hd, b0, b1, b2, C, rfl, hC, hq⟩ := he
      have EI : ErrI X.K SE BN BL BC C b0 b1 b2 := by
        rcases hC with ⟨rfl, e⟩ | ⟨rfl, e⟩ | ⟨rfl, e⟩ <;> cases e <;> assumption
      refine ⟨true, EI.s, fun _ a na => ⟨hd, b0, b1, b2, C, rfl, EI, fun hl => ?_⟩, fun z => nomatch z⟩
      rw [List.length_set] at hl
      match σ', hl with
      | [s0, s1, s2], _ => exact ⟨s0, s1, rfl, fun p2 H2 sm g => ⟨_, rfl, hq p2 H2 sm g⟩⟩
abbrev s__law_due_of : Stmt := topS 31
theorem sc__law_due_of : FnScope ["_law_at", "_law_one"] ["_law_at"] (defScope s__law_due_of) := ⟨rfl, rfl, rfl, by decide +kernel, rfl, by decide +kernel, by decide +kernel⟩
theorem ok__law_due_of {f : Addr} {fd : FuncData} (F : Fun K "_law_due_of" "_law_due_of" s__law_due_of f fd) (B : Bt mg) : FnOk P w K mg base CX0 1 f fd ["_law_at"] spDueOf := by
  refine F.ok sc__law_due_of (fun vs H Q E h => ?_) (fun cdv A outer s H vs Q E hr h => ?_)
  · obtain ⟨_, rfl, _⟩ := h
    rfl
  · obtain ⟨k, rfl, q⟩ := h
    refine ⟨_, (pss_one (ps_ret (pe_op op_cat (pe_lc (g := (gName 1)) (own := [("_law_one", 1)]) rfl sc__law_due_of.nd (pi_range1 rfl B.range_ (pa_cons pe_int pa_nil)) (blkOk_by (N := ["_law_at", "_law_one"]) (sc := defScope s__law_due_of) (by decide +kernel)) (fun _ _ _ _ _ => (pg_name (i := 1) sc__law_due_of.nd rfl (.inl rfl))) (fun _ _ _ _ _ => pts_nil) (fun _ _ _ _ _ => (pe_cmpR op_eq (pv 0) (pv 1) (nomark _)))) (pe_lst (pa_cons pe_bl pa_nil))))), ?_⟩
    refine ⟨3, rfl, by decide, by decide, fun D nD => ?_⟩
    refine lc_range (n := 3) (fun i H' => Same H H' ∧ H' D = some (.lst ((([decide (k = 0), decide (k = 1), decide (k = 2)] : List Bool).take i).map V.bl))) ⟨Same.new nD, upd_same⟩ ?_ ?_
    · rintro i H' hi ⟨s1, g⟩
      refine ⟨rfl, ?_⟩
      refine ⟨_, rfl, _, rfl, rfl, _, g, small1000' (by rw [List.length_map, List.length_take]; omega), Same.mut s1 nD, ?_⟩
      rw [upd_same]
      match i, hi with
      | 0, _ => simp
      | 1, _ => simp
      | 2, _ => simp
    · rintro H' ⟨s1, g⟩
      refine ⟨(by show 1 ≤ sizeLine; decide), fun p np => ?_⟩
      have nDp : D ≠ p := ne_of_none g np
      refine ⟨_, _, _, _, rfl, rfl, (Same.new np) _ _ g, upd_same, (show 4 ≤ sizeLine by decide), fun p2 np2 => ?_⟩
      exact q p2 _ ((s1.trans (Same.new np)).trans (Same.new np2)) upd_same
abbrev s__law_strange : Stmt := topS 32
theorem sc__law_strange : FnScope ["_law_far"] ["_law_far"] (defScope s__law_strange) := ⟨rfl, rfl, rfl, by decide +kernel, rfl, by decide +kernel, by decide +kernel⟩
theorem ok__law_strange {f : Addr} {fd : FuncData} (F : Fun K "_law_strange" "_law_strange" s__law_strange f fd) : FnOk P w K mg base CX0 1 f fd ["_law_far"] spStrange := by
  refine F.ok sc__law_strange (fun vs H Q E h => ?_) (fun cdv A outer s H vs Q E hr h => ?_)
  · obtain ⟨_, rfl, _⟩ := h
    rfl
  · obtain ⟨far, rfl, hf, q⟩ := h
    refine ⟨_, (pss_one (ps_ret (pe_lst (pa_cons pe_non (pa_cons pe_str (pa_cons pe_bl (pa_cons pe_bl (pa_cons (pe_lst (pa_cons pe_int pa_nil)) (pa_cons (pe_tup (pa_cons pe_int pa_nil)) (pa_cons pe_dnewK (pa_cons pe_int (pa_cons (pe_un un_neg pe_int) (pa_cons (pe_op op_sub (pe_un un_neg pe_int) (pv 0)) pa_nil))))))))))))), ?_⟩
    refine ⟨(by show 1 ≤ sizeLine; decide), fun p1 np1 => ⟨(by show 1 ≤ sizeLine; decide), fun p2 np2 => fun p3 np3 => ?_⟩⟩
    refine ⟨_, rfl, _, rfl, _, rfl, _, _, rfl, rfl, (by show 10 ≤ sizeLine; decide), fun p np => ?_⟩
    refine q p _ _ (((Same.new np1).trans (Same.new np2)).trans ((Same.new np3).trans (Same.new np))) ?_ upd_same rfl ?_
    · cases e : H p with
      | none => rfl
      | some o => exact absurd rfl (ne_of_none (((Same.new np1).trans (Same.new np2)).trans (Same.new np3) _ _ e) np)
    · intro hi x hx
      simp only [List.mem_cons, List.not_mem_nil, or_false] at hx
      rcases hx with rfl | rfl | rfl | rfl | rfl | rfl | rfl | rfl | rfl | rfl
      · exact .inl .non
      · exact .inl (.str _)
      · exact .inl (.bl _)
      · exact .inl (.bl _)
      · exact .inl (.lst (((Same.new np2).trans ((Same.new np3).trans (Same.new np))) _ _ upd_same))
      · exact .inl (.tup (((Same.new np3).trans (Same.new np)) _ _ upd_same))
      · exact .inl (.dct ((Same.new np) _ _ upd_same))
      · exact .inr ⟨_, rfl, .inl (by decide)⟩
      · exact .inr ⟨_, rfl, .inl (by decide)⟩
      · exact .inr ⟨_, rfl, .inl (by omega)⟩
end
end NB

set_option Elab.async false
set_option maxRecDepth 100000
set_option pp.maxSteps 600
set_option maxHeartbeats 4000000
set_option linter.unusedVariables false
namespace NB
open PySem L2
section
variable {P : Program} {w : World} {K : PySem.W.Frag} {mg : Str → Option Value} {base : Heap}
abbrev s__law_right : Stmt := topS 33
theorem sc__law_right : FnScope ["_law_far", "_law_bad", "_law_ask"] ["_law_far"] (defScope s__law_right) := ⟨rfl, rfl, rfl, by decide +kernel, rfl, by decide +kernel, by decide +kernel⟩
theorem ok__law_right {f c tP : Addr} {od an : Option Addr} {sl : Array (Option Value)} {oc kV dc pm ct : Value} (l : K.lookup f = some ⟨oc, od, .func (PySem.W.fnOf "_law_right" "_law_right" (defArgs s__law_right) (defBody s__law_right) (defScope s__law_right) .none kV dc pm an (.ref c) ct), sl⟩) (hcd : PySem.W.codeIn K (.ref c) "_law_right" = true)
    (TB : LamX.TabB base mg c tP) (B : Bt mg) (v_ValueError : mg "ValueError" = none) {SE BN BL BC : Addr} (e_SumError : mg "SumError" = some (.ref SE)) (e_BadNumber : mg "BadNumber" = some (.ref BN)) (e_BadLength : mg "BadLength" = some (.ref BL)) (e_BadCount : mg "BadCount" = some (.ref BC))
    (I0 : ErrI K SE BN BL BC BN true false false) (I1 : ErrI K SE BN BL BC BL false true false) (I2 : ErrI K SE BN BL BC BC false false true)
    {fk : Addr} {fdk : FuncData} (Fk : Fun K "_law_kinds" "_law_kinds" s__law_kinds fk fdk) (mk : mg "_law_kinds" = some (.ref fk)) (bk : Binds K fdk ["_law_ask"] [])
    (C__law_due_of : Callee P w K mg base 1 "_law_due_of" ["_law_at"] spDueOf) (C__law_strange : Callee P w K mg base 1 "_law_strange" ["_law_far"] spStrange)
    (C_high_rows : CalleeX P w K mg base 3 "high_rows" ["number"] (spBad BN 1000000)) (C_all_rows : CalleeX P w K mg base 3 "all_rows" ["number"] (spBad BN 1000000)) (C_longest : CalleeX P w K mg base 4 "longest" ["number"] (spBad BN 1000000)) (C_judged : CalleeX P w K mg base 3 "judged" ["number"] (spBad BN 1000000))
    (C_of_length : CalleeX P w K mg base 3 "of_length" ["number", "length"] (spBadLen BN BL)) (C_least_with : CalleeX P w K mg base 2 "least_with" ["many"] (spBad BC 60)) :
    FnOk P w K mg base CX0 7 f (PySem.W.fnOf "_law_right" "_law_right" (defArgs s__law_right) (defBody s__law_right) (defScope s__law_right) .none kV dc pm an (.ref c) ct) ["_law_far"] (spRight [(tP, "_law_right.<locals>." ++ "<lambda>")]) := by
  refine fn_of l hcd sc__law_right (fun vs H Q E h => ?_) (fun A outer s H vs Q E hr h => ?_)
  · obtain ⟨_, rfl, _⟩ := h
    rfl
  · obtain ⟨far, rfl, hfar, hT, q⟩ := h
    obtain ⟨ock, odk, kVk, dck, pmk, ank, cdk, ctk, slk, rfl, lk, hck⟩ := Fk.ex
    obtain ⟨f__law_due_of, fd__law_due_of, m__law_due_of, k__law_due_of, b__law_due_of, G__law_due_of⟩ := C__law_due_of
    obtain ⟨f__law_strange, fd__law_strange, m__law_strange, k__law_strange, b__law_strange, G__law_strange⟩ := C__law_strange
    obtain ⟨f_high_rows, fd_high_rows, m_high_rows, k_high_rows, b_high_rows, G_high_rows⟩ := C_high_rows
    obtain ⟨f_all_rows, fd_all_rows, m_all_rows, k_all_rows, b_all_rows, G_all_rows⟩ := C_all_rows
    obtain ⟨f_longest, fd_longest, m_longest, k_longest, b_longest, G_longest⟩ := C_longest
    obtain ⟨f_judged, fd_judged, m_judged, k_judged, b_judged, G_judged⟩ := C_judged
    obtain ⟨f_of_length, fd_of_length, m_of_length, k_of_length, b_of_length, G_of_length⟩ := C_of_length
    obtain ⟨f_least_with, fd_least_with, m_least_with, k_least_with, b_least_with, G_least_with⟩ := C_least_with
    have AX : ∀ g, (g = f_high_rows ∨ g = f_all_rows ∨ g = f_longest ∨ g = f_judged) → ∃ fd ps, FnOk P w K mg base (L2.CX P w) 4 g fd ps (spBad BN 1000000) ∧ PySem.W.keepIn K (.ref g) = true ∧ Binds K fd ps [] := by
      rintro g (rfl | rfl | rfl | rfl)
      · exact ⟨_, _, G_high_rows.mono (by decide), k_high_rows, b_high_rows⟩
      · exact ⟨_, _, G_all_rows.mono (by decide), k_all_rows, b_all_rows⟩
      · exact ⟨_, _, G_longest, k_longest, b_longest⟩
      · exact ⟨_, _, G_judged.mono (by decide), k_judged, b_judged⟩
    refine (fun ⟨t, a, b⟩ => ⟨t, PSs.nox a, b⟩ : (∃ t, PSs (cxOf CX0 P w K mg base ["_law_far", "_law_bad", "_law_ask"] "_law_right" (defScope s__law_right) f (.ref c) A outer s H E).nox (defBody s__law_right) t ∧ t { nx := fun _ H' => Q .non H', rt := Q } (L2.start ["_law_far", "_law_bad", "_law_ask"] [.int far]) H) → _) ?_
    refine ⟨_, (pss_cons (ps_for PassesOwn.never rfl (pi_list (pe_op op_cat (pe_call G__law_strange (hr.mono (by decide)) rfl m__law_strange k__law_strange b__law_strange .nil pass0 (pa_cons (pv 0) pa_nil)) (pe_lst (pa_cons pe_int (pa_cons (pe_op op_add pe_int (pv 0)) pa_nil))))) (pg_name (i := 1) sc__law_right.nd rfl (.inr rfl))
        (pss_cons (ps_for PassesOwn.never rfl (pi_tup (pe_tup (pa_cons (pe_glob (v := .ref f_high_rows) rfl m_high_rows rfl) (pa_cons (pe_glob (v := .ref f_all_rows) rfl m_all_rows rfl) (pa_cons (pe_glob (v := .ref f_longest) rfl m_longest rfl) (pa_cons (pe_glob (v := .ref f_judged) rfl m_judged rfl) pa_nil)))))) (pg_name (i := 2) sc__law_right.nd rfl (.inr rfl))
          (pss_one (ps_if (pt_cmpR (r := rNeD K) (op_neD hr.units) (LamX.pe_lamcall (T := [(tP, "_law_right.<locals>." ++ "<lambda>")]) (k := 4) (a := "_law_ask") rfl mk Fk.kp lk hck bk sc__law_kinds rfl (.inl rfl) (gives_kinds B v_ValueError e_SumError e_BadNumber e_BadLength e_BadCount I0 I1 I2) TB rfl (List.mem_singleton.mpr rfl) tab_one hr (LamX.lamS_by rfl) rfl (fun _ _ _ _ _ => rfl) (fun A1 o1 s1 H1 E1 f1 c1 hr1 => (pe_callXL (i := 2) AX hr1 rfl (.inr (.inr rfl)) (takes_of rfl rfl rfl rfl) (pa_cons (pv 1) pa_nil)))) (pe_call G__law_due_of (hr.mono (by decide)) rfl m__law_due_of k__law_due_of b__law_due_of .nil pass0 (pa_cons pe_int pa_nil)) (nomark _)) (pss_one (ps_ret pe_bl)) pss_nil)))
        (pss_one (ps_if (pt_cmpR (r := rNeD K) (op_neD hr.units) (LamX.pe_lamcall (T := [(tP, "_law_right.<locals>." ++ "<lambda>")]) (k := 4) (a := "_law_ask") rfl mk Fk.kp lk hck bk sc__law_kinds rfl (.inl rfl) (gives_kinds B v_ValueError e_SumError e_BadNumber e_BadLength e_BadCount I0 I1 I2) TB rfl (List.mem_singleton.mpr rfl) tab_one hr (LamX.lamS_by rfl) rfl (fun _ _ _ _ _ => rfl) (fun A1 o1 s1 H1 E1 f1 c1 hr1 => (pe_callS (E := fun _ => E1) G_of_length (hr1.mono (by decide)) rfl m_of_length k_of_length b_of_length (fun σ => passAt (takes_of rfl rfl rfl rfl) σ) (pa_cons (pv 1) (pa_cons pe_non pa_nil))))) (pe_call G__law_due_of (hr.mono (by decide)) rfl m__law_due_of k__law_due_of b__law_due_of .nil pass0 (pa_cons pe_int pa_nil)) (nomark _)) (pss_one (ps_ret pe_bl)) pss_nil))))
      (pss_cons (ps_for PassesOwn.never rfl (pi_list (pe_call G__law_strange (hr.mono (by decide)) rfl m__law_strange k__law_strange b__law_strange .nil pass0 (pa_cons (pv 0) pa_nil))) (pg_name (i := 1) sc__law_right.nd rfl (.inr rfl))
        (pss_one (ps_if (pt_cmpR (r := rNeD K) (op_neD hr.units) (LamX.pe_lamcall (T := [(tP, "_law_right.<locals>." ++ "<lambda>")]) (k := 4) (a := "_law_ask") rfl mk Fk.kp lk hck bk sc__law_kinds rfl (.inl rfl) (gives_kinds B v_ValueError e_SumError e_BadNumber e_BadLength e_BadCount I0 I1 I2) TB rfl (List.mem_singleton.mpr rfl) tab_one hr (LamX.lamS_by rfl) rfl (fun _ _ _ _ _ => rfl) (fun A1 o1 s1 H1 E1 f1 c1 hr1 => (pe_callS (E := fun _ => E1) G_of_length (hr1.mono (by decide)) rfl m_of_length k_of_length b_of_length (fun σ => passAt (takes_of rfl rfl rfl rfl) σ) (pa_cons pe_int (pa_cons (pv 1) pa_nil))))) (pe_call G__law_due_of (hr.mono (by decide)) rfl m__law_due_of k__law_due_of b__law_due_of .nil pass0 (pa_cons pe_int pa_nil)) (nomark _)) (pss_one (ps_ret pe_bl)) pss_nil)))
      (pss_one (ps_ret (pe_callB (cr_all rfl) (by rfl) B.all_ (by decide +kernel) (pa_cons (pe_lc (g := (gName 1)) (own := [("_law_bad", 1)]) rfl sc__law_right.nd (pi_list (pe_op op_cat (pe_call G__law_strange (hr.mono (by decide)) rfl m__law_strange k__law_strange b__law_strange .nil pass0 (pa_cons (pv 0) pa_nil)) (pe_lst (pa_cons pe_int (pa_cons (pe_op op_add pe_int (pv 0)) pa_nil))))) (blkOk_by (N := ["_law_far", "_law_bad", "_law_ask"]) (sc := defScope s__law_right) (by decide +kernel)) (fun _ _ _ _ _ => (pg_name (i := 1) sc__law_right.nd rfl (.inr rfl))) (fun _ _ _ _ _ => pts_nil) (fun _ _ _ _ _ => (pe_cmpR (r := rEqD K) (op_eqD hr.units) (LamX.pe_lamcall (T := [(tP, "_law_right.<locals>." ++ "<lambda>")]) (k := 4) (a := "_law_ask") rfl mk Fk.kp lk hck bk sc__law_kinds rfl (.inl rfl) (gives_kinds B v_ValueError e_SumError e_BadNumber e_BadLength e_BadCount I0 I1 I2) TB rfl (List.mem_singleton.mpr rfl) tab_one hr (LamX.lamS_by rfl) rfl (fun _ _ _ _ _ => rfl) (fun A1 o1 s1 H1 E1 f1 c1 hr1 => (pe_callS (E := fun _ => E1) G_least_with (hr1.mono (by decide)) rfl m_least_with k_least_with b_least_with (fun σ => passAt (takes_of rfl rfl rfl rfl) σ) (pa_cons (pv 1) pa_nil)))) (pe_call G__law_due_of (hr.mono (by decide)) rfl m__law_due_of k__law_due_of b__law_due_of .nil pass0 (pa_cons pe_int pa_nil)) (nomark _)))) pa_nil)))))), ?_⟩
    have bad_in : ∀ {H1 : Hp} {xs : List V} {hi : Int} {x : V}, (∀ hi, ∀ x ∈ xs, Bad H1 hi x) → x ∈ xs ++ [.int (hi + 1), .int (hi + far)] → Bad H1 (some hi) x := by
      intro H1 xs hi x hb hx
      rcases List.mem_append.mp hx with h | h
      · exact hb _ x h
      · simp only [List.mem_cons, List.not_mem_nil, or_false] at h
        rcases h with rfl | rfl
        · exact .inr ⟨_, rfl, .inr ⟨hi, rfl, by omega⟩⟩
        · exact .inr ⟨_, rfl, .inr ⟨hi, rfl, by omega⟩⟩
    refine ⟨_, rfl, far, rfl, hfar, fun p1 xs H1 s1 np1 g1 hl1 hb1 => ?_⟩
    refine ⟨_, rfl, _, _, rfl, rfl, (by show 2 ≤ sizeLine; decide), fun p2 np2 => ?_⟩
    refine ⟨p1, p2, xs, _, rfl, rfl, (Same.new np2) _ _ g1, upd_same, (by rw [hl1]; exact (show 12 ≤ sizeLine by decide)), fun p3 np3 => ?_⟩
    refine ⟨p3, rfl, ⟨_, SqL.of upd_same⟩, ?_⟩
    have s4 := (s1.trans (Same.new np2)).trans (Same.new (o := .lst (xs ++ [.int 1000001, .int (1000000 + far)])) np3)
    have hb4 : ∀ x ∈ xs ++ [.int (1000000 + 1), .int (1000000 + far)], Bad (upd (upd H1 p2 (.lst [.int 1000001, .int (1000000 + far)])) p3 (.lst (xs ++ [.int 1000001, .int (1000000 + far)]))) (some 1000000) x := fun x hx => (bad_in hb1 hx).ext (Same.extN ((Same.new np2).trans (Same.new np3)))
    have g4 : upd (upd H1 p2 (.lst [.int 1000001, .int (1000000 + far)])) p3 (.lst (xs ++ [.int 1000001, .int (1000000 + far)])) p3 = some (.lst (xs ++ [.int 1000001, .int (1000000 + far)])) := upd_same
    generalize upd (upd H1 p2 (.lst [.int 1000001, .int (1000000 + far)])) p3 (.lst (xs ++ [.int 1000001, .int (1000000 + far)])) = H4 at s4 hb4 g4
    have T4 := Tabs.same hT s4
    refine for_list (xs := xs ++ [.int 1000001, .int (1000000 + far)]) (fun _ σ H' => ∃ x1 x2, σ = [some (.int far), x1, x2] ∧ LamX.ExtN H4 H' ∧ LamX.Tabs [(tP, "_law_right.<locals>." ++ "<lambda>")] H') ?h0 ?hl ?hs ?hd
    case h0 => exact ⟨_, _, rfl, LamX.ExtN.refl _, T4⟩
    case hl =>
      rintro i σ H' _ ⟨_, _, _, e, _⟩
      exact SqL.of (ExtN.lst e g4)
    case hs =>
      rintro i x σ H5 hx ⟨x1, x2, rfl, e5, T5⟩
      have hbx := (hb4 x (List.mem_of_getElem? hx)).ext e5
      refine ⟨(by show 4 ≤ sizeLine; decide), fun tp ntp => ⟨tp, rfl, ⟨_, SqT.of upd_same⟩, ?_⟩⟩
      have e6 := e5.trans (ExtN.new (o := .tup [.ref f_high_rows, .ref f_all_rows, .ref f_longest, .ref f_judged]) ntp)
      have T6 := Tabs.same T5 (Same.new (o := .tup [.ref f_high_rows, .ref f_all_rows, .ref f_longest, .ref f_judged]) ntp)
      have hb6 := hbx.ext (ExtN.new (o := .tup [.ref f_high_rows, .ref f_all_rows, .ref f_longest, .ref f_judged]) ntp)
      have g6 : upd H5 tp (.tup [.ref f_high_rows, .ref f_all_rows, .ref f_longest, .ref f_judged]) tp = some (.tup [.ref f_high_rows, .ref f_all_rows, .ref f_longest, .ref f_judged]) := upd_same
      generalize upd H5 tp (.tup [.ref f_high_rows, .ref f_all_rows, .ref f_longest, .ref f_judged]) = H6 at e6 T6 hb6 g6
      refine for_tup (xs := [.ref f_high_rows, .ref f_all_rows, .ref f_longest, .ref f_judged]) (fun _ σ H' => ∃ x2, σ = [some (.int far), some x, x2] ∧ LamX.ExtN H6 H' ∧ LamX.Tabs [(tP, "_law_right.<locals>." ++ "<lambda>")] H') ⟨_, rfl, LamX.ExtN.refl _, T6⟩ ?_ ?_ ?_
      · rintro j σ H' _ ⟨_, _, e, _⟩
        exact SqT.of (ExtN.tup e g6)
      · rintro j y σ H7 hy ⟨x2, rfl, e7, T7⟩
        obtain ⟨g, rfl, hg⟩ : ∃ g, y = .ref g ∧ (g = f_high_rows ∨ g = f_all_rows ∨ g = f_longest ∨ g = f_judged) := by
          have := List.mem_of_getElem? hy
          simp only [List.mem_cons, List.not_mem_nil, or_false] at this
          rcases this with rfl | rfl | rfl | rfl
          · exact ⟨_, rfl, .inl rfl⟩
          · exact ⟨_, rfl, .inr (.inl rfl)⟩
          · exact ⟨_, rfl, .inr (.inr (.inl rfl))⟩
          · exact ⟨_, rfl, .inr (.inr (.inr rfl))⟩
        dsimp only [gName, tIfS, tTest]
        refine ask_ne (k := 0) (C := BN) (b0 := true) (b1 := false) (b2 := false) rfl T7 (.inl ⟨rfl, rfl⟩) ?_ ?_
        · exact fun H8 e8 E Q' hq => ⟨g, rfl, hg, x, rfl, x, rfl, hb6.ext (e7.trans e8), hq⟩
        intro H8 e8 T8
        exact ⟨_, rfl, iteF ⟨_, rfl, e7.trans e8, T8⟩⟩
      · rintro σ H7 ⟨x2, rfl, e7, T7⟩
        dsimp only [gName, tIfS, tTest]
        refine ask_ne (k := 0) (C := BN) (b0 := true) (b1 := false) (b2 := false) rfl T7 (.inl ⟨rfl, rfl⟩) ?_ ?_
        · exact fun H8 e8 E Q' hq => ⟨x, rfl, x, _, rfl, .inl ⟨hb6.ext (e7.trans e8), hq⟩⟩
        intro H8 e8 T8
        exact ⟨_, rfl, iteF ⟨_, _, rfl, e6.trans (e7.trans e8), T8⟩⟩
    case hd =>
      rintro σ H5 ⟨x1, x2, rfl, e5, T5⟩
      refine ⟨_, rfl, far, rfl, hfar, fun p4 ys H6 s6 np4 g6 hl6 hb6 => ?_⟩
      refine ⟨p4, rfl, ⟨_, SqL.of g6⟩, ?_⟩
      have T6 := Tabs.same T5 s6
      refine for_list (xs := ys) (fun _ σ H' => ∃ x1 x2, σ = [some (.int far), x1, x2] ∧ LamX.ExtN H6 H' ∧ LamX.Tabs [(tP, "_law_right.<locals>." ++ "<lambda>")] H') ⟨_, _, rfl, LamX.ExtN.refl _, T6⟩ ?_ ?_ ?_
      · rintro i σ H' _ ⟨_, _, _, e, _⟩
        exact SqL.of (ExtN.lst e g6)
      · rintro i x σ H7 hx ⟨x1, x2, rfl, e7, T7⟩
        have hbx := hb6 none x (List.mem_of_getElem? hx)
        dsimp only [gName, tIfS, tTest]
        refine ask_ne (C := BL) (b0 := false) (b1 := true) (b2 := false) rfl T7 (.inr (.inl ⟨rfl, rfl⟩)) (fun H8 e8 E Q' hq => ⟨x, rfl, .int 7, x, rfl, .inr ⟨rfl, hbx.ext (e7.trans e8), hq⟩⟩) fun H8 e8 T8 => ?_
        exact ⟨_, rfl, iteF ⟨_, _, rfl, e7.trans e8, T8⟩⟩
      · rintro σ H7 ⟨x1, x2, rfl, e7, T7⟩
        refine ⟨_, rfl, far, rfl, hfar, fun p5 zs H8 s8 np5 g8 hl8 hb8 => ?_⟩
        refine ⟨_, rfl, _, _, rfl, rfl, (by show 2 ≤ sizeLine; decide), fun p6 np6 => ?_⟩
        refine ⟨p5, p6, zs, _, rfl, rfl, (Same.new np6) _ _ g8, upd_same, (by rw [hl8]; exact (show 12 ≤ sizeLine by decide)), fun p7 np7 => ?_⟩
        refine ⟨p7, rfl, ⟨_, SqL.of upd_same⟩, fun D nD => ?_⟩
        have s9 := (s8.trans (Same.new np6)).trans (Same.new (o := .lst (zs ++ [.int 61, .int (60 + far)])) np7)
        have hb9 : ∀ x ∈ zs ++ [.int (60 + 1), .int (60 + far)], Bad (upd (upd H8 p6 (.lst [.int 61, .int (60 + far)])) p7 (.lst (zs ++ [.int 61, .int (60 + far)]))) (some 60) x := fun x hx => (bad_in hb8 hx).ext (Same.extN ((Same.new np6).trans (Same.new np7)))
        have g9 : upd (upd H8 p6 (.lst [.int 61, .int (60 + far)])) p7 (.lst (zs ++ [.int 61, .int (60 + far)])) p7 = some (.lst (zs ++ [.int 61, .int (60 + far)])) := upd_same
        generalize upd (upd H8 p6 (.lst [.int 61, .int (60 + far)])) p7 (.lst (zs ++ [.int 61, .int (60 + far)])) = H9 at s9 hb9 g9 nD
        have T9 := Tabs.same T7 s9
        have hlz : (zs ++ [V.int 61, V.int (60 + far)]).length = 12 := by rw [List.length_append, hl8]; rfl
        refine lc_list (xs := zs ++ [.int 61, .int (60 + far)]) (fun i H' => LamX.ExtN H9 H' ∧ LamX.Tabs [(tP, "_law_right.<locals>." ++ "<lambda>")] H' ∧ H' D = some (.lst ((List.replicate i true).map V.bl))) ⟨ExtN.new nD, Tabs.same T9 (Same.new nD), upd_same⟩ ?_ ?_ ?_
        · rintro i H' _ ⟨e, _⟩
          exact SqL.of (ExtN.lst e g9)
        · rintro i x H10 hx ⟨e10, T10, g10⟩
          have hbx := hb9 x (List.mem_of_getElem? hx)
          have hi : i < 12 := by
            have := (List.getElem?_eq_some_iff.mp hx).1
            omega
          refine ⟨rfl, ?_⟩
          refine ask_eq (C := BC) (b0 := false) (b1 := false) (b2 := true) rfl T10 (.inr (.inr ⟨rfl, rfl⟩)) (fun H8 e8 E Q' hq => ⟨x, rfl, x, rfl, hbx.ext (e10.trans e8), hq⟩) fun H11 e11 T11 => ?_
          have g11 := ExtN.lst e11 g10
          refine ⟨_, g11, small1000' (by rw [List.length_map, List.length_replicate]; omega), ExtN.mut (e10.trans e11) nD, Tabs.lst T11 g11, ?_⟩
          rw [upd_same, List.replicate_succ', List.map_append]
          rfl
        · rintro H10 ⟨e10, T10, g10⟩
          refine ⟨D, _, rfl, SqL.of g10, ?_⟩
          have ea : (List.replicate (zs ++ [V.int 61, .int (60 + far)]).length true).all id = true := by
            rw [List.all_eq_true]
            intro b hb
            exact (List.mem_replicate.mp hb).2
          rw [ea]
          exact q H10 ((Same.extN s4).trans (e5.trans ((Same.extN s6).trans (e7.trans ((Same.extN s9).trans e10))))) T10
end
end NB

set_option Elab.async false
set_option maxRecDepth 100000
set_option pp.maxSteps 600
set_option maxHeartbeats 4000000
set_option linter.unusedVariables false
namespace NB
open PySem L2
section
variable {P : Program} {w : World} {K : PySem.W.Frag} {mg : Str → Option Value} {base : Heap}
def spLaw6 (K : PySem.W.Frag) (T : List (Addr × Str)) : Sp := fun vs H Q _ => ∃ (a : Addr) (ns : List Int), vs = [.ref a] ∧ SqL K H a (ns.map V.int) ∧ ns.length ≤ 63 ∧ Bits ns ∧ LamX.Tabs T H ∧ ∀ H', Q (.bl true) H'
theorem least60 : ∀ r, leastF prs 60 60 = some r → (1 : Int) < r := by
  have h : (leastF prs 60 60).all (fun r => decide ((1 : Int) < r)) = true := by decide +kernel
  intro r hr
  rw [hr] at h
  exact of_decide_eq_true h
theorem million_row {f l : Int} (h : IsRow 1000000 f l) (hf : 0 < f) : 625 ≤ l := by
  obtain ⟨h1, h2⟩ := h
  refine Decidable.byContradiction fun hl => ?_
  have a1 : (f + l) * (l - f + 1) ≤ 1250 * (l - f + 1) := Int.mul_le_mul_of_nonneg_right (by omega) (by omega)
  omega
abbrev s_law : Stmt := topS 34
theorem sc_law : FnScope ["_law_script", "_law_by"] ["_law_script"] (defScope s_law) := ⟨rfl, rfl, rfl, by decide +kernel, rfl, by decide +kernel, by decide +kernel⟩
theorem ok_law {f : Addr} {fd : FuncData} {T : List (Addr × Str)} (F : Fun K "law" "law" s_law f fd) (B : Bt mg) (C__law_cell_at : Callee P w K mg base 1 "_law_cell_at" ["_law_script", "_law_k"] (spCellAt K)) (C__law_value : Callee P w K mg base 2 "_law_value" ["_law_cell", "_law_turn"] spValue)
    (C__law_right : Callee P w K mg base 7 "_law_right" ["_law_far"] (spRight T)) (C_longest : Callee P w K mg base 4 "longest" ["number"] spLongest) (C_least_with : Callee P w K mg base 9 "least_with" ["many"] spLeastWith) (C_of_length : Callee P w K mg base 3 "of_length" ["number", "length"] spRow) : FnOk P w K mg base CX0 10 f fd ["_law_script"] (spLaw6 K T) := by
  refine F.ok sc_law (fun vs H Q E h => ?_) (fun cdv A outer s H vs Q E hr h => ?_)
  · obtain ⟨_, _, rfl, _⟩ := h
    rfl
  · obtain ⟨a, ns0, rfl, hS0, hl0, hb0, hT, q⟩ := h
    obtain ⟨f__law_cell_at, fd__law_cell_at, m__law_cell_at, k__law_cell_at, b__law_cell_at, G__law_cell_at⟩ := C__law_cell_at
    obtain ⟨f__law_value, fd__law_value, m__law_value, k__law_value, b__law_value, G__law_value⟩ := C__law_value
    obtain ⟨f__law_right, fd__law_right, m__law_right, k__law_right, b__law_right, G__law_right⟩ := C__law_right
    obtain ⟨f_longest, fd_longest, m_longest, k_longest, b_longest, G_longest⟩ := C_longest
    obtain ⟨f_least_with, fd_least_with, m_least_with, k_least_with, b_least_with, G_least_with⟩ := C_least_with
    obtain ⟨f_of_length, fd_of_length, m_of_length, k_of_length, b_of_length, G_of_length⟩ := C_of_length
    refine ⟨_, (pss_cons (ps_set (i := 0) sc_law.nd rfl (Or.inl rfl) (pe_slice sl_list (pv 0) po_none (po_some pe_int)))
      (pss_cons (ps_for PassesOwn.never rfl (pi_tup (pe_tup (pa_cons pe_int (pa_cons pe_int pa_nil)))) (pg_name (i := 1) sc_law.nd rfl (.inl rfl))
        (pss_one (ps_if (pt_not (pt_val (pe_call G__law_right (hr.mono (by decide)) rfl m__law_right k__law_right b__law_right .nil pass0 (pa_cons (pe_op op_add pe_int (pe_op op_mod (pe_call G__law_value (hr.mono (by decide)) rfl m__law_value k__law_value b__law_value .nil pass0 (pa_cons (pe_call G__law_cell_at (hr.mono (by decide)) rfl m__law_cell_at k__law_cell_at b__law_cell_at .nil pass0 (pa_cons (pv 0) (pa_cons (pv 1) pa_nil))) (pa_cons pe_int pa_nil))) (pe_op op_pow pe_int pe_int))) pa_nil)))) (pss_one (ps_ret pe_bl)) pss_nil)))
      (pss_one (ps_ret (pe_and (pe_cmpR op_ge (pe_ix (r := rIxT K) ix_tup (pe_call G_longest (hr.mono (by decide)) rfl m_longest k_longest b_longest .nil pass0 (pa_cons pe_int pa_nil)) pe_int (fun _ _ => rfl)) pe_int (nomark _)) (pe_and (pe_cmpR op_gt (pe_call G_least_with (hr.mono (by decide)) rfl m_least_with k_least_with b_least_with .nil pass0 (pa_cons pe_int pa_nil)) pe_int (nomark _)) (pe_one (pe_cmpR (r := rEqD K) (op_eqD hr.units) (pe_call G_of_length (hr.mono (by decide)) rfl m_of_length k_of_length b_of_length .nil pass0 (pa_cons pe_int (pa_cons pe_int pa_nil))) (pe_tup (pa_cons pe_int (pa_cons pe_int pa_nil))) (nomark _))))))))), ?_⟩
    obtain ⟨ns, ens, hsub, hlen⟩ := cut_int ns0 none (some 63)
    refine ⟨_, rfl, 63, rfl, a, _, rfl, hS0, fun p np => ?_⟩
    rw [ens]
    have hb : Bits ns := fun z hz => hb0 z (hsub z hz)
    clear hS0 hb0 hl0 ens hsub hlen
    refine ⟨(by show 2 ≤ sizeLine; decide), fun tp ntp => ⟨tp, rfl, ⟨_, SqT.of upd_same⟩, ?_⟩⟩
    have T1 := Tabs.same (Tabs.same hT (Same.new (o := .lst (ns.map V.int)) np)) (Same.new (o := .tup [.int 0, .int 3]) ntp)
    have gp : upd (upd H p (.lst (ns.map V.int))) tp (.tup [.int 0, .int 3]) p = some (.lst (ns.map V.int)) := (Same.new ntp) _ _ upd_same
    have gt : upd (upd H p (.lst (ns.map V.int))) tp (.tup [.int 0, .int 3]) tp = some (.tup [.int 0, .int 3]) := upd_same
    generalize upd (upd H p (.lst (ns.map V.int))) tp (.tup [.int 0, .int 3]) = H1 at T1 gp gt
    refine for_tup (xs := [.int 0, .int 3]) (fun _ σ H' => ∃ x1, σ = [some (.ref p), x1] ∧ LamX.ExtN H1 H' ∧ LamX.Tabs T H') ⟨_, rfl, LamX.ExtN.refl _, T1⟩ ?_ ?_ ?_
    · rintro i σ H' _ ⟨_, _, e, _⟩
      exact SqT.of (ExtN.tup e gt)
    · rintro i x σ H2 hx ⟨x1, rfl, e2, T2⟩
      obtain ⟨k, rfl, hk0, hk1⟩ : ∃ k : Int, x = .int k ∧ 0 ≤ k ∧ k < 2 ^ 62 := by
        have := List.mem_of_getElem? hx
        simp only [List.mem_cons, List.not_mem_nil, or_false] at this
        rcases this with rfl | rfl
        · exact ⟨_, rfl, by decide, by decide⟩
        · exact ⟨_, rfl, by decide, by decide⟩
      refine ⟨_, rfl, _, rfl, p, ns, _, rfl, SqL.of (ExtN.lst e2 gp), hb, hk0, hk1, fun c bc => ⟨c, 7, rfl, bc, by decide, by decide, fun v H3 v0 vb s3 => ?_⟩⟩
      refine ⟨_, _, rfl, rfl, ⟨by decide, by decide, by decide⟩, _, _, rfl, rfl, (by show (0 : Int) < 10 ^ 20; decide), _, _, rfl, rfl, ?_⟩
      refine ⟨_, rfl, ?_, Tabs.same T2 s3, fun H4 e4 T4 => ?_⟩
      · have := Int.emod_nonneg v (show ((10 : Int) ^ 20) ≠ 0 by decide)
        show 1 ≤ 1 + v % 10 ^ 20
        omega
      exact ⟨_, rfl, iteF ⟨_, rfl, (e2.trans (Same.extN s3)).trans e4, T4⟩⟩
    · rintro σ H2 ⟨x1, rfl, e2, T2⟩
      refine ⟨1000000, rfl, by decide, by decide, fun p0 ps x H3 hps s3 hx => ?_⟩
      obtain ⟨t, rfl, ht⟩ := hx
      have hr0 := (hps.mem p0.1 p0.2).mp List.mem_cons_self
      have hm := million_row hr0.1 hr0.2
      refine ⟨t, _, 1, _, rfl, rfl, SqT.of ht, atI_nat (j := 1) rfl, ?_⟩
      refine ⟨_, _, rfl, rfl, _, rfl, ?_⟩
      rw [decide_eq_true hm]
      refine iteT ?_
      refine ⟨60, rfl, by decide, by decide, fun r H4 hr4 s4 => ?_⟩
      refine ⟨_, _, rfl, rfl, _, rfl, ?_⟩
      rw [decide_eq_true (least60 r hr4)]
      refine iteT ?_
      refine ⟨1000000, 1, rfl, by decide, by decide, by decide, by decide +kernel, fun y H5 s5 hy => ?_⟩
      refine ⟨(by show 2 ≤ sizeLine; decide), fun tq ntq => ?_⟩
      have e : rowOf 1000000 1 = some (1000000, 1000000) := by decide +kernel
      rw [e] at hy
      refine rd_eqP (p := (1000000, 1000000)) (q := (1000000, 1000000)) (IsP.same (Same.new ntq) hy) ⟨tq, rfl, upd_same⟩ ?_
      rw [decide_eq_true rfl]
      exact q _
end
end NB

set_option Elab.async false
set_option maxRecDepth 100000
set_option maxHeartbeats 4000000
set_option linter.unusedVariables false
namespace NB
open PySem L2
section
variable {P : Program} {w : World} {K : PySem.W.Frag} {mg : Str → Option Value} {base : Heap}
theorem mkC {P : Program} {w : World} {K : PySem.W.Frag} {mg : Str → Option Value} {base : Heap} {x : Str} {q : Str} {st : Stmt} {f : Addr} {fd : FuncData} {ps : List Str} {k : Nat} {sp : Sp} (m : mg x = some (.ref f)) (F : Fun K x q st f fd) (b : Binds K fd ps []) (G : FnOk P w K mg base CX0 k f fd ps sp) : Callee P w K mg base k x ps sp := ⟨f, fd, m, F.kp, b, G⟩
end
theorem all_mk {l : PySem.W.OpenLaw} {w : World} {K : PySem.W.Frag} {h : Heap} {mg : Str → Option Value} {fa : Addr} (X : K.In h) (G : h.Ns mainGlobals mg) (hfa : mg "law" = some (.ref fa)) (own : ∀ fr, mg "_law_right" = some (.ref fr) → TabAt K fr h)
    {f_is_whole : Addr} {od_is_whole an_is_whole : Option Addr} {sl_is_whole : Array (Option Value)} {oc_is_whole kV_is_whole dc_is_whole pm_is_whole cd_is_whole ct_is_whole : Value}
    (a_is_whole : PySem.W.nsIn K mainGlobals "is_whole" = some (some (.ref f_is_whole))) (l_is_whole : K.lookup f_is_whole = some ⟨oc_is_whole, od_is_whole, .func (PySem.W.fnOf "is_whole" "is_whole" (defArgs s_is_whole) (defBody s_is_whole) (defScope s_is_whole) .none kV_is_whole dc_is_whole pm_is_whole an_is_whole cd_is_whole ct_is_whole), sl_is_whole⟩) (c_is_whole : PySem.W.codeIn K cd_is_whole "is_whole" = true) (k_is_whole : PySem.W.keepIn K (.ref f_is_whole) = true)
    {f_parts_of : Addr} {od_parts_of an_parts_of : Option Addr} {sl_parts_of : Array (Option Value)} {oc_parts_of kV_parts_of dc_parts_of pm_parts_of cd_parts_of ct_parts_of : Value}
    (a_parts_of : PySem.W.nsIn K mainGlobals "parts_of" = some (some (.ref f_parts_of))) (l_parts_of : K.lookup f_parts_of = some ⟨oc_parts_of, od_parts_of, .func (PySem.W.fnOf "parts_of" "parts_of" (defArgs s_parts_of) (defBody s_parts_of) (defScope s_parts_of) .none kV_parts_of dc_parts_of pm_parts_of an_parts_of cd_parts_of ct_parts_of), sl_parts_of⟩) (c_parts_of : PySem.W.codeIn K cd_parts_of "parts_of" = true) (k_parts_of : PySem.W.keepIn K (.ref f_parts_of) = true)
    {f_row_of : Addr} {od_row_of an_row_of : Option Addr} {sl_row_of : Array (Option Value)} {oc_row_of kV_row_of dc_row_of pm_row_of cd_row_of ct_row_of : Value}
    (a_row_of : PySem.W.nsIn K mainGlobals "row_of" = some (some (.ref f_row_of))) (l_row_of : K.lookup f_row_of = some ⟨oc_row_of, od_row_of, .func (PySem.W.fnOf "row_of" "row_of" (defArgs s_row_of) (defBody s_row_of) (defScope s_row_of) .none kV_row_of dc_row_of pm_row_of an_row_of cd_row_of ct_row_of), sl_row_of⟩) (c_row_of : PySem.W.codeIn K cd_row_of "row_of" = true) (k_row_of : PySem.W.keepIn K (.ref f_row_of) = true)
    {f_least_from : Addr} {od_least_from an_least_from : Option Addr} {sl_least_from : Array (Option Value)} {oc_least_from kV_least_from dc_least_from pm_least_from cd_least_from ct_least_from : Value}
    (a_least_from : PySem.W.nsIn K mainGlobals "least_from" = some (some (.ref f_least_from))) (l_least_from : K.lookup f_least_from = some ⟨oc_least_from, od_least_from, .func (PySem.W.fnOf "least_from" "least_from" (defArgs s_least_from) (defBody s_least_from) (defScope s_least_from) .none kV_least_from dc_least_from pm_least_from an_least_from cd_least_from ct_least_from), sl_least_from⟩) (c_least_from : PySem.W.codeIn K cd_least_from "least_from" = true) (k_least_from : PySem.W.keepIn K (.ref f_least_from) = true)
    {f__law_cell_at : Addr} {od__law_cell_at an__law_cell_at : Option Addr} {sl__law_cell_at : Array (Option Value)} {oc__law_cell_at kV__law_cell_at dc__law_cell_at pm__law_cell_at cd__law_cell_at ct__law_cell_at : Value}
    (a__law_cell_at : PySem.W.nsIn K mainGlobals "_law_cell_at" = some (some (.ref f__law_cell_at))) (l__law_cell_at : K.lookup f__law_cell_at = some ⟨oc__law_cell_at, od__law_cell_at, .func (PySem.W.fnOf "_law_cell_at" "_law_cell_at" (defArgs s__law_cell_at) (defBody s__law_cell_at) (defScope s__law_cell_at) .none kV__law_cell_at dc__law_cell_at pm__law_cell_at an__law_cell_at cd__law_cell_at ct__law_cell_at), sl__law_cell_at⟩) (c__law_cell_at : PySem.W.codeIn K cd__law_cell_at "_law_cell_at" = true) (k__law_cell_at : PySem.W.keepIn K (.ref f__law_cell_at) = true)
    {f__law_draw : Addr} {od__law_draw an__law_draw : Option Addr} {sl__law_draw : Array (Option Value)} {oc__law_draw kV__law_draw dc__law_draw pm__law_draw cd__law_draw ct__law_draw : Value}
    (a__law_draw : PySem.W.nsIn K mainGlobals "_law_draw" = some (some (.ref f__law_draw))) (l__law_draw : K.lookup f__law_draw = some ⟨oc__law_draw, od__law_draw, .func (PySem.W.fnOf "_law_draw" "_law_draw" (defArgs s__law_draw) (defBody s__law_draw) (defScope s__law_draw) .none kV__law_draw dc__law_draw pm__law_draw an__law_draw cd__law_draw ct__law_draw), sl__law_draw⟩) (c__law_draw : PySem.W.codeIn K cd__law_draw "_law_draw" = true) (k__law_draw : PySem.W.keepIn K (.ref f__law_draw) = true)
    {f__law_value : Addr} {od__law_value an__law_value : Option Addr} {sl__law_value : Array (Option Value)} {oc__law_value kV__law_value dc__law_value pm__law_value cd__law_value ct__law_value : Value}
    (a__law_value : PySem.W.nsIn K mainGlobals "_law_value" = some (some (.ref f__law_value))) (l__law_value : K.lookup f__law_value = some ⟨oc__law_value, od__law_value, .func (PySem.W.fnOf "_law_value" "_law_value" (defArgs s__law_value) (defBody s__law_value) (defScope s__law_value) .none kV__law_value dc__law_value pm__law_value an__law_value cd__law_value ct__law_value), sl__law_value⟩) (c__law_value : PySem.W.codeIn K cd__law_value "_law_value" = true) (k__law_value : PySem.W.keepIn K (.ref f__law_value) = true)
    {f_check_number : Addr} {od_check_number an_check_number : Option Addr} {sl_check_number : Array (Option Value)} {oc_check_number kV_check_number dc_check_number pm_check_number cd_check_number ct_check_number : Value}
    (a_check_number : PySem.W.nsIn K mainGlobals "check_number" = some (some (.ref f_check_number))) (l_check_number : K.lookup f_check_number = some ⟨oc_check_number, od_check_number, .func (PySem.W.fnOf "check_number" "check_number" (defArgs s_check_number) (defBody s_check_number) (defScope s_check_number) .none kV_check_number dc_check_number pm_check_number an_check_number cd_check_number ct_check_number), sl_check_number⟩) (c_check_number : PySem.W.codeIn K cd_check_number "check_number" = true) (k_check_number : PySem.W.keepIn K (.ref f_check_number) = true)
    {f_rows_of : Addr} {od_rows_of an_rows_of : Option Addr} {sl_rows_of : Array (Option Value)} {oc_rows_of kV_rows_of dc_rows_of pm_rows_of cd_rows_of ct_rows_of : Value}
    (a_rows_of : PySem.W.nsIn K mainGlobals "rows_of" = some (some (.ref f_rows_of))) (l_rows_of : K.lookup f_rows_of = some ⟨oc_rows_of, od_rows_of, .func (PySem.W.fnOf "rows_of" "rows_of" (defArgs s_rows_of) (defBody s_rows_of) (defScope s_rows_of) .none kV_rows_of dc_rows_of pm_rows_of an_rows_of cd_rows_of ct_rows_of), sl_rows_of⟩) (c_rows_of : PySem.W.codeIn K cd_rows_of "rows_of" = true) (k_rows_of : PySem.W.keepIn K (.ref f_rows_of) = true)
    {f_high_rows : Addr} {od_high_rows an_high_rows : Option Addr} {sl_high_rows : Array (Option Value)} {oc_high_rows kV_high_rows dc_high_rows pm_high_rows cd_high_rows ct_high_rows : Value}
    (a_high_rows : PySem.W.nsIn K mainGlobals "high_rows" = some (some (.ref f_high_rows))) (l_high_rows : K.lookup f_high_rows = some ⟨oc_high_rows, od_high_rows, .func (PySem.W.fnOf "high_rows" "high_rows" (defArgs s_high_rows) (defBody s_high_rows) (defScope s_high_rows) .none kV_high_rows dc_high_rows pm_high_rows an_high_rows cd_high_rows ct_high_rows), sl_high_rows⟩) (c_high_rows : PySem.W.codeIn K cd_high_rows "high_rows" = true) (k_high_rows : PySem.W.keepIn K (.ref f_high_rows) = true)
    {f_longest : Addr} {od_longest an_longest : Option Addr} {sl_longest : Array (Option Value)} {oc_longest kV_longest dc_longest pm_longest cd_longest ct_longest : Value}
    (a_longest : PySem.W.nsIn K mainGlobals "longest" = some (some (.ref f_longest))) (l_longest : K.lookup f_longest = some ⟨oc_longest, od_longest, .func (PySem.W.fnOf "longest" "longest" (defArgs s_longest) (defBody s_longest) (defScope s_longest) .none kV_longest dc_longest pm_longest an_longest cd_longest ct_longest), sl_longest⟩) (c_longest : PySem.W.codeIn K cd_longest "longest" = true) (k_longest : PySem.W.keepIn K (.ref f_longest) = true)
    {f_of_length : Addr} {od_of_length an_of_length : Option Addr} {sl_of_length : Array (Option Value)} {oc_of_length kV_of_length dc_of_length pm_of_length cd_of_length ct_of_length : Value}
    (a_of_length : PySem.W.nsIn K mainGlobals "of_length" = some (some (.ref f_of_length))) (l_of_length : K.lookup f_of_length = some ⟨oc_of_length, od_of_length, .func (PySem.W.fnOf "of_length" "of_length" (defArgs s_of_length) (defBody s_of_length) (defScope s_of_length) .none kV_of_length dc_of_length pm_of_length an_of_length cd_of_length ct_of_length), sl_of_length⟩) (c_of_length : PySem.W.codeIn K cd_of_length "of_length" = true) (k_of_length : PySem.W.keepIn K (.ref f_of_length) = true)
    {f_least_with : Addr} {od_least_with an_least_with : Option Addr} {sl_least_with : Array (Option Value)} {oc_least_with kV_least_with dc_least_with pm_least_with cd_least_with ct_least_with : Value}
    (a_least_with : PySem.W.nsIn K mainGlobals "least_with" = some (some (.ref f_least_with))) (l_least_with : K.lookup f_least_with = some ⟨oc_least_with, od_least_with, .func (PySem.W.fnOf "least_with" "least_with" (defArgs s_least_with) (defBody s_least_with) (defScope s_least_with) .none kV_least_with dc_least_with pm_least_with an_least_with cd_least_with ct_least_with), sl_least_with⟩) (c_least_with : PySem.W.codeIn K cd_least_with "least_with" = true) (k_least_with : PySem.W.keepIn K (.ref f_least_with) = true)
    {f__law_due_of : Addr} {od__law_due_of an__law_due_of : Option Addr} {sl__law_due_of : Array (Option Value)} {oc__law_due_of kV__law_due_of dc__law_due_of pm__law_due_of cd__law_due_of ct__law_due_of : Value}
    (a__law_due_of : PySem.W.nsIn K mainGlobals "_law_due_of" = some (some (.ref f__law_due_of))) (l__law_due_of : K.lookup f__law_due_of = some ⟨oc__law_due_of, od__law_due_of, .func (PySem.W.fnOf "_law_due_of" "_law_due_of" (defArgs s__law_due_of) (defBody s__law_due_of) (defScope s__law_due_of) .none kV__law_due_of dc__law_due_of pm__law_due_of an__law_due_of cd__law_due_of ct__law_due_of), sl__law_due_of⟩) (c__law_due_of : PySem.W.codeIn K cd__law_due_of "_law_due_of" = true) (k__law_due_of : PySem.W.keepIn K (.ref f__law_due_of) = true)
    {f__law_strange : Addr} {od__law_strange an__law_strange : Option Addr} {sl__law_strange : Array (Option Value)} {oc__law_strange kV__law_strange dc__law_strange pm__law_strange cd__law_strange ct__law_strange : Value}
    (a__law_strange : PySem.W.nsIn K mainGlobals "_law_strange" = some (some (.ref f__law_strange))) (l__law_strange : K.lookup f__law_strange = some ⟨oc__law_strange, od__law_strange, .func (PySem.W.fnOf "_law_strange" "_law_strange" (defArgs s__law_strange) (defBody s__law_strange) (defScope s__law_strange) .none kV__law_strange dc__law_strange pm__law_strange an__law_strange cd__law_strange ct__law_strange), sl__law_strange⟩) (c__law_strange : PySem.W.codeIn K cd__law_strange "_law_strange" = true) (k__law_strange : PySem.W.keepIn K (.ref f__law_strange) = true)
    {f_all_rows : Addr} {od_all_rows an_all_rows : Option Addr} {sl_all_rows : Array (Option Value)} {oc_all_rows kV_all_rows dc_all_rows pm_all_rows cd_all_rows ct_all_rows : Value}
    (a_all_rows : PySem.W.nsIn K mainGlobals "all_rows" = some (some (.ref f_all_rows))) (l_all_rows : K.lookup f_all_rows = some ⟨oc_all_rows, od_all_rows, .func (PySem.W.fnOf "all_rows" "all_rows" (defArgs s_all_rows) (defBody s_all_rows) (defScope s_all_rows) .none kV_all_rows dc_all_rows pm_all_rows an_all_rows cd_all_rows ct_all_rows), sl_all_rows⟩) (c_all_rows : PySem.W.codeIn K cd_all_rows "all_rows" = true) (k_all_rows : PySem.W.keepIn K (.ref f_all_rows) = true)
    {f_judged : Addr} {od_judged an_judged : Option Addr} {sl_judged : Array (Option Value)} {oc_judged kV_judged dc_judged pm_judged cd_judged ct_judged : Value}
    (a_judged : PySem.W.nsIn K mainGlobals "judged" = some (some (.ref f_judged))) (l_judged : K.lookup f_judged = some ⟨oc_judged, od_judged, .func (PySem.W.fnOf "judged" "judged" (defArgs s_judged) (defBody s_judged) (defScope s_judged) .none kV_judged dc_judged pm_judged an_judged cd_judged ct_judged), sl_judged⟩) (c_judged : PySem.W.codeIn K cd_judged "judged" = true) (k_judged : PySem.W.keepIn K (.ref f_judged) = true)
    {f__law_kinds : Addr} {od__law_kinds an__law_kinds : Option Addr} {sl__law_kinds : Array (Option Value)} {oc__law_kinds kV__law_kinds dc__law_kinds pm__law_kinds cd__law_kinds ct__law_kinds : Value}
    (a__law_kinds : PySem.W.nsIn K mainGlobals "_law_kinds" = some (some (.ref f__law_kinds))) (l__law_kinds : K.lookup f__law_kinds = some ⟨oc__law_kinds, od__law_kinds, .func (PySem.W.fnOf "_law_kinds" "_law_kinds" (defArgs s__law_kinds) (defBody s__law_kinds) (defScope s__law_kinds) .none kV__law_kinds dc__law_kinds pm__law_kinds an__law_kinds cd__law_kinds ct__law_kinds), sl__law_kinds⟩) (c__law_kinds : PySem.W.codeIn K cd__law_kinds "_law_kinds" = true) (k__law_kinds : PySem.W.keepIn K (.ref f__law_kinds) = true)
    {c6 P6 : Addr} {e6 : Value} {dd6 : Option Addr} {vs6 : Array Value} {sl6 : Array (Option Value)} {f__law_right : Addr} {od__law_right an__law_right : Option Addr} {sl__law_right : Array (Option Value)} {oc__law_right kV__law_right dc__law_right pm__law_right ct__law_right : Value}
    (a__law_right : PySem.W.nsIn K mainGlobals "_law_right" = some (some (.ref f__law_right))) (l__law_right : K.lookup f__law_right = some ⟨oc__law_right, od__law_right, .func (PySem.W.fnOf "_law_right" "_law_right" (defArgs s__law_right) (defBody s__law_right) (defScope s__law_right) .none kV__law_right dc__law_right pm__law_right an__law_right (.ref c6) ct__law_right), sl__law_right⟩) (c__law_right : PySem.W.codeIn K (.ref c6) "_law_right" = true) (k__law_right : PySem.W.keepIn K (.ref f__law_right) = true)
    {f_law : Addr} {od_law an_law : Option Addr} {sl_law : Array (Option Value)} {oc_law kV_law dc_law pm_law cd_law ct_law : Value}
    (a_law : PySem.W.nsIn K mainGlobals "law" = some (some (.ref f_law))) (l_law : K.lookup f_law = some ⟨oc_law, od_law, .func (PySem.W.fnOf "law" "law" (defArgs s_law) (defBody s_law) (defScope s_law) .none kV_law dc_law pm_law an_law cd_law ct_law), sl_law⟩) (c_law : PySem.W.codeIn K cd_law "law" = true) (k_law : PySem.W.keepIn K (.ref f_law) = true)
    (t_c : K.lookup c6 = some ⟨e6, dd6, .fields vs6, sl6⟩) (t_P : vs6[11]? = some (.ref P6)) (t_n : K.lookup P6 = none)
    {SE BN BL BC : Addr}
    (y_hn : PySem.W.specialIn K (.builtin "object.__class__") "__get__" = some (some (.builtin "getset_descriptor.__get__"))) (y_htk : PySem.W.takesIn K (.builtin "object.__class__") = some true)
    (ya_SumError : PySem.W.nsIn K mainGlobals "SumError" = some (some (.ref SE))) (yb_SumError : PySem.W.subIn K (.ref SE) (.type "BaseException") = some true) (yt_SumError : PySem.W.typeIn K (.ref SE) = some (.type "type")) (yh_SumError : PySem.W.hasDictIn K SE = true)
    (ya_BadNumber : PySem.W.nsIn K mainGlobals "BadNumber" = some (some (.ref BN))) (yb_BadNumber : PySem.W.subIn K (.ref BN) (.type "BaseException") = some true) (yt_BadNumber : PySem.W.typeIn K (.ref BN) = some (.type "type")) (yh_BadNumber : PySem.W.hasDictIn K BN = true)
    (yx_BadNumber : PySem.W.excIn K BN [.type "ValueError", .type "Exception", .type "BaseException", .type "object"] "ValueError.__new__" = true) (yk_BadNumber : PySem.W.keepIn K (.ref BN) = true)
    (yg_BadNumber : PySem.W.findIn K (.ref BN) "__getattribute__" = some (some (.builtin "BaseException.__getattribute__"))) (yn_BadNumber : PySem.W.findIn K (.ref BN) "__getattr__" = some none) (yc_BadNumber : PySem.W.findIn K (.ref BN) "__class__" = some (some (.builtin "object.__class__"))) (ym_BadNumber : PySem.W.mroIn K BN (.type "object") = some true) (ys_BadNumber : PySem.W.subIn K (.ref BN) (.ref SE) = some true)
    (q0_BadNumber : PySem.W.kitOne K (.ref BN) (.ref BN) = some true)
    (q1_BadNumber : PySem.W.kitOne K (.ref BN) (.ref BL) = some false)
    (q2_BadNumber : PySem.W.kitOne K (.ref BN) (.ref BC) = some false)
    (q3_BadNumber : PySem.W.kitOne K (.ref BN) (.type "ValueError") = some true)
    (ya_BadLength : PySem.W.nsIn K mainGlobals "BadLength" = some (some (.ref BL))) (yb_BadLength : PySem.W.subIn K (.ref BL) (.type "BaseException") = some true) (yt_BadLength : PySem.W.typeIn K (.ref BL) = some (.type "type")) (yh_BadLength : PySem.W.hasDictIn K BL = true)
    (yx_BadLength : PySem.W.excIn K BL [.type "ValueError", .type "Exception", .type "BaseException", .type "object"] "ValueError.__new__" = true) (yk_BadLength : PySem.W.keepIn K (.ref BL) = true)
    (yg_BadLength : PySem.W.findIn K (.ref BL) "__getattribute__" = some (some (.builtin "BaseException.__getattribute__"))) (yn_BadLength : PySem.W.findIn K (.ref BL) "__getattr__" = some none) (yc_BadLength : PySem.W.findIn K (.ref BL) "__class__" = some (some (.builtin "object.__class__"))) (ym_BadLength : PySem.W.mroIn K BL (.type "object") = some true) (ys_BadLength : PySem.W.subIn K (.ref BL) (.ref SE) = some true)
    (q0_BadLength : PySem.W.kitOne K (.ref BL) (.ref BN) = some false)
    (q1_BadLength : PySem.W.kitOne K (.ref BL) (.ref BL) = some true)
    (q2_BadLength : PySem.W.kitOne K (.ref BL) (.ref BC) = some false)
    (q3_BadLength : PySem.W.kitOne K (.ref BL) (.type "ValueError") = some true)
    (ya_BadCount : PySem.W.nsIn K mainGlobals "BadCount" = some (some (.ref BC))) (yb_BadCount : PySem.W.subIn K (.ref BC) (.type "BaseException") = some true) (yt_BadCount : PySem.W.typeIn K (.ref BC) = some (.type "type")) (yh_BadCount : PySem.W.hasDictIn K BC = true)
    (yx_BadCount : PySem.W.excIn K BC [.type "ValueError", .type "Exception", .type "BaseException", .type "object"] "ValueError.__new__" = true) (yk_BadCount : PySem.W.keepIn K (.ref BC) = true)
    (yg_BadCount : PySem.W.findIn K (.ref BC) "__getattribute__" = some (some (.builtin "BaseException.__getattribute__"))) (yn_BadCount : PySem.W.findIn K (.ref BC) "__getattr__" = some none) (yc_BadCount : PySem.W.findIn K (.ref BC) "__class__" = some (some (.builtin "object.__class__"))) (ym_BadCount : PySem.W.mroIn K BC (.type "object") = some true) (ys_BadCount : PySem.W.subIn K (.ref BC) (.ref SE) = some true)
    (q0_BadCount : PySem.W.kitOne K (.ref BC) (.ref BN) = some false)
    (q1_BadCount : PySem.W.kitOne K (.ref BC) (.ref BL) = some false)
    (q2_BadCount : PySem.W.kitOne K (.ref BC) (.ref BC) = some true)
    (q3_BadCount : PySem.W.kitOne K (.ref BC) (.type "ValueError") = some true)
    {t_GREATEST : Tok} (h_GREATEST : PySem.W.nsIn K mainGlobals "GREATEST" = some (some (.int 1000000 t_GREATEST)))
    {t_MOST : Tok} (h_MOST : PySem.W.nsIn K mainGlobals "MOST" = some (some (.int 60 t_MOST)))
    (z_isinstance : PySem.W.nsIn K mainGlobals "isinstance" = some none)
    (z_int : PySem.W.nsIn K mainGlobals "int" = some none)
    (z_bool : PySem.W.nsIn K mainGlobals "bool" = some none)
    (z_list : PySem.W.nsIn K mainGlobals "list" = some none)
    (z_tuple : PySem.W.nsIn K mainGlobals "tuple" = some none)
    (z_len : PySem.W.nsIn K mainGlobals "len" = some none)
    (z_max : PySem.W.nsIn K mainGlobals "max" = some none)
    (z_min : PySem.W.nsIn K mainGlobals "min" = some none)
    (z_sorted : PySem.W.nsIn K mainGlobals "sorted" = some none)
    (z_range : PySem.W.nsIn K mainGlobals "range" = some none)
    (z_sum : PySem.W.nsIn K mainGlobals "sum" = some none)
    (z_all : PySem.W.nsIn K mainGlobals "all" = some none)
    (z_zip : PySem.W.nsIn K mainGlobals "zip" = some none)
    (z_set : PySem.W.nsIn K mainGlobals "set" = some none)
    (z_ValueError : PySem.W.nsIn K mainGlobals "ValueError" = some none)
    : LamX.LawAtS l w K CX0 10 63 "_law_script" mg fa h := by
  have e := hfa.symm.trans (PySem.W.mg_of X G a_law)
  cases e
  have B : Bt mg := ⟨PySem.W.mg_none_of X G z_isinstance, PySem.W.mg_none_of X G z_int, PySem.W.mg_none_of X G z_bool, PySem.W.mg_none_of X G z_list, PySem.W.mg_none_of X G z_tuple, PySem.W.mg_none_of X G z_len, PySem.W.mg_none_of X G z_max, PySem.W.mg_none_of X G z_min, PySem.W.mg_none_of X G z_sorted, PySem.W.mg_none_of X G z_range, PySem.W.mg_none_of X G z_sum, PySem.W.mg_none_of X G z_all, PySem.W.mg_none_of X G z_zip, PySem.W.mg_none_of X G z_set⟩
  have v_ValueError := PySem.W.mg_none_of X G z_ValueError
  have g_GREATEST := PySem.W.mg_of X G h_GREATEST
  have g_MOST := PySem.W.mg_of X G h_MOST
  have F_is_whole := fun_mk (st := s_is_whole) l_is_whole c_is_whole k_is_whole
  have b_is_whole := F_is_whole.binds (ps := ["thing"]) fun _ _ _ _ _ _ us hl => match us, hl with | [_], _ => rfl
  have F_parts_of := fun_mk (st := s_parts_of) l_parts_of c_parts_of k_parts_of
  have b_parts_of := F_parts_of.binds (ps := ["number"]) fun _ _ _ _ _ _ us hl => match us, hl with | [_], _ => rfl
  have F_row_of := fun_mk (st := s_row_of) l_row_of c_row_of k_row_of
  have b_row_of := F_row_of.binds (ps := ["number", "length"]) fun _ _ _ _ _ _ us hl => match us, hl with | [_, _], _ => rfl
  have F_least_from := fun_mk (st := s_least_from) l_least_from c_least_from k_least_from
  have b_least_from := F_least_from.binds (ps := ["many", "primes", "most"]) fun _ _ _ _ _ _ us hl => match us, hl with | [_, _, _], _ => rfl
  have F__law_cell_at := fun_mk (st := s__law_cell_at) l__law_cell_at c__law_cell_at k__law_cell_at
  have b__law_cell_at := F__law_cell_at.binds (ps := ["_law_script", "_law_k"]) fun _ _ _ _ _ _ us hl => match us, hl with | [_, _], _ => rfl
  have F__law_draw := fun_mk (st := s__law_draw) l__law_draw c__law_draw k__law_draw
  have b__law_draw := F__law_draw.binds (ps := ["_law_cell", "_law_k", "_law_many"]) fun _ _ _ _ _ _ us hl => match us, hl with | [_, _, _], _ => rfl
  have F__law_value := fun_mk (st := s__law_value) l__law_value c__law_value k__law_value
  have b__law_value := F__law_value.binds (ps := ["_law_cell", "_law_turn"]) fun _ _ _ _ _ _ us hl => match us, hl with | [_, _], _ => rfl
  have F_check_number := fun_mk (st := s_check_number) l_check_number c_check_number k_check_number
  have b_check_number := F_check_number.binds (ps := ["number"]) fun _ _ _ _ _ _ us hl => match us, hl with | [_], _ => rfl
  have F_rows_of := fun_mk (st := s_rows_of) l_rows_of c_rows_of k_rows_of
  have b_rows_of := F_rows_of.binds (ps := ["number"]) fun _ _ _ _ _ _ us hl => match us, hl with | [_], _ => rfl
  have F_high_rows := fun_mk (st := s_high_rows) l_high_rows c_high_rows k_high_rows
  have b_high_rows := F_high_rows.binds (ps := ["number"]) fun _ _ _ _ _ _ us hl => match us, hl with | [_], _ => rfl
  have F_longest := fun_mk (st := s_longest) l_longest c_longest k_longest
  have b_longest := F_longest.binds (ps := ["number"]) fun _ _ _ _ _ _ us hl => match us, hl with | [_], _ => rfl
  have F_of_length := fun_mk (st := s_of_length) l_of_length c_of_length k_of_length
  have b_of_length := F_of_length.binds (ps := ["number", "length"]) fun _ _ _ _ _ _ us hl => match us, hl with | [_, _], _ => rfl
  have F_least_with := fun_mk (st := s_least_with) l_least_with c_least_with k_least_with
  have b_least_with := F_least_with.binds (ps := ["many"]) fun _ _ _ _ _ _ us hl => match us, hl with | [_], _ => rfl
  have F__law_due_of := fun_mk (st := s__law_due_of) l__law_due_of c__law_due_of k__law_due_of
  have b__law_due_of := F__law_due_of.binds (ps := ["_law_at"]) fun _ _ _ _ _ _ us hl => match us, hl with | [_], _ => rfl
  have F__law_strange := fun_mk (st := s__law_strange) l__law_strange c__law_strange k__law_strange
  have b__law_strange := F__law_strange.binds (ps := ["_law_far"]) fun _ _ _ _ _ _ us hl => match us, hl with | [_], _ => rfl
  have F_all_rows := fun_mk (st := s_all_rows) l_all_rows c_all_rows k_all_rows
  have b_all_rows := F_all_rows.binds (ps := ["number"]) fun _ _ _ _ _ _ us hl => match us, hl with | [_], _ => rfl
  have F_judged := fun_mk (st := s_judged) l_judged c_judged k_judged
  have b_judged := F_judged.binds (ps := ["number"]) fun _ _ _ _ _ _ us hl => match us, hl with | [_], _ => rfl
  have F__law_kinds := fun_mk (st := s__law_kinds) l__law_kinds c__law_kinds k__law_kinds
  have b__law_kinds := F__law_kinds.binds (ps := ["_law_ask"]) fun _ _ _ _ _ _ us hl => match us, hl with | [_], _ => rfl
  have F__law_right := fun_mk (st := s__law_right) l__law_right c__law_right k__law_right
  have b__law_right := F__law_right.binds (ps := ["_law_far"]) fun _ _ _ _ _ _ us hl => match us, hl with | [_], _ => rfl
  have F_law := fun_mk (st := s_law) l_law c_law k_law
  have X_BadNumber : ErrF K mg "BadNumber" BN := ⟨PySem.W.mg_of X G ya_BadNumber, yx_BadNumber, yk_BadNumber, yb_BadNumber, yt_BadNumber⟩
  have I_BadNumber : ErrI K SE BN BL BC BN true false false := ⟨⟨yg_BadNumber, yn_BadNumber, yb_BadNumber, yh_BadNumber, yc_BadNumber, y_hn, y_htk, ym_BadNumber⟩, PySem.W.exm_ref yb_SumError yh_SumError yt_SumError ys_BadNumber, q0_BadNumber, q1_BadNumber, q2_BadNumber, q3_BadNumber⟩
  have X_BadLength : ErrF K mg "BadLength" BL := ⟨PySem.W.mg_of X G ya_BadLength, yx_BadLength, yk_BadLength, yb_BadLength, yt_BadLength⟩
  have I_BadLength : ErrI K SE BN BL BC BL false true false := ⟨⟨yg_BadLength, yn_BadLength, yb_BadLength, yh_BadLength, yc_BadLength, y_hn, y_htk, ym_BadLength⟩, PySem.W.exm_ref yb_SumError yh_SumError yt_SumError ys_BadLength, q0_BadLength, q1_BadLength, q2_BadLength, q3_BadLength⟩
  have X_BadCount : ErrF K mg "BadCount" BC := ⟨PySem.W.mg_of X G ya_BadCount, yx_BadCount, yk_BadCount, yb_BadCount, yt_BadCount⟩
  have I_BadCount : ErrI K SE BN BL BC BC false false true := ⟨⟨yg_BadCount, yn_BadCount, yb_BadCount, yh_BadCount, yc_BadCount, y_hn, y_htk, ym_BadCount⟩, PySem.W.exm_ref yb_SumError yh_SumError yt_SumError ys_BadCount, q0_BadCount, q1_BadCount, q2_BadCount, q3_BadCount⟩
  obtain ⟨hC6, hT6⟩ := own _ (PySem.W.mg_of X G a__law_right) _ _ _ _ _ _ _ _ l__law_right rfl rfl t_c t_P
  refine ⟨PySem.W.fnOf "law" "law" (defArgs s_law) (defBody s_law) (defScope s_law) .none kV_law dc_law pm_law an_law cd_law ct_law, [(c6, P6)], spLaw6 K [(P6, "_law_right.<locals>." ++ "<lambda>")], fun p hp => ?_, fun p hp => ?_, fun p hp => ?_, fun s v => .of_eq rfl, fun H a ns hl hb hH hS => ⟨a, ns, rfl, hS, hl, hb, fun p hp => ?_, fun _ => rfl⟩, fun base _ _ hTB => ?_⟩
  · cases List.mem_singleton.mp hp
    exact hT6
  · cases List.mem_singleton.mp hp
    exact t_n
  · cases List.mem_singleton.mp hp
    exact hC6
  · cases List.mem_singleton.mp hp
    exact LamX.TabS.nil (hH (c6, P6) (List.mem_singleton.mpr rfl))
  have TB6 : LamX.TabB base mg c6 P6 := hTB (c6, P6) (List.mem_singleton.mpr rfl)
  have C_is_whole := mkC (PySem.W.mg_of X G a_is_whole) F_is_whole b_is_whole (ok_is_whole (P := l.prog) (w := w) (base := base) F_is_whole B)
  have C_parts_of := mkC (PySem.W.mg_of X G a_parts_of) F_parts_of b_parts_of (ok_parts_of (P := l.prog) (w := w) (base := base) F_parts_of B)
  have C_row_of := mkC (PySem.W.mg_of X G a_row_of) F_row_of b_row_of (ok_row_of (P := l.prog) (w := w) (base := base) F_row_of B)
  have C_least_from := mkC (PySem.W.mg_of X G a_least_from) F_least_from b_least_from (ok_least_from (P := l.prog) (w := w) (base := base) F_least_from B (PySem.W.mg_of X G a_least_from) b_least_from 6)
  have C__law_cell_at := mkC (PySem.W.mg_of X G a__law_cell_at) F__law_cell_at b__law_cell_at (ok__law_cell_at (P := l.prog) (w := w) (base := base) F__law_cell_at B)
  have C__law_draw := mkC (PySem.W.mg_of X G a__law_draw) F__law_draw b__law_draw (ok__law_draw (P := l.prog) (w := w) (base := base) F__law_draw )
  have C__law_value := mkC (PySem.W.mg_of X G a__law_value) F__law_value b__law_value (ok__law_value (P := l.prog) (w := w) (base := base) F__law_value C__law_draw)
  have C_check_number := mkC (PySem.W.mg_of X G a_check_number) F_check_number b_check_number (ok_check_number (P := l.prog) (w := w) (base := base) F_check_number B g_GREATEST C_is_whole)
  have C_rows_of := mkC (PySem.W.mg_of X G a_rows_of) F_rows_of b_rows_of (ok_rows_of (P := l.prog) (w := w) (base := base) F_rows_of B C_parts_of C_row_of)
  have C_high_rows := mkC (PySem.W.mg_of X G a_high_rows) F_high_rows b_high_rows (ok_high_rows (P := l.prog) (w := w) (base := base) F_high_rows C_check_number C_rows_of)
  have C_longest := mkC (PySem.W.mg_of X G a_longest) F_longest b_longest (ok_longest (P := l.prog) (w := w) (base := base) F_longest C_high_rows)
  have C_of_length := mkC (PySem.W.mg_of X G a_of_length) F_of_length b_of_length (ok_of_length (P := l.prog) (w := w) (base := base) F_of_length C_check_number C_is_whole C_row_of)
  have C_least_with := mkC (PySem.W.mg_of X G a_least_with) F_least_with b_least_with (ok_least_with (P := l.prog) (w := w) (base := base) F_least_with B g_MOST C_is_whole C_least_from)
  have C__law_due_of := mkC (PySem.W.mg_of X G a__law_due_of) F__law_due_of b__law_due_of (ok__law_due_of (P := l.prog) (w := w) (base := base) F__law_due_of B)
  have C__law_strange := mkC (PySem.W.mg_of X G a__law_strange) F__law_strange b__law_strange (ok__law_strange (P := l.prog) (w := w) (base := base) F__law_strange )
  have A_is_whole := mkC (PySem.W.mg_of X G a_is_whole) F_is_whole b_is_whole (ok_any (P := l.prog) (w := w) (base := base) F_is_whole B)
  have Y_check_number := mkX (PySem.W.mg_of X G a_check_number) F_check_number b_check_number (bad_check_number (P := l.prog) (w := w) (base := base) F_check_number B g_GREATEST A_is_whole X_BadNumber)
  have Y_high_rows := mkX (PySem.W.mg_of X G a_high_rows) F_high_rows b_high_rows (bad_high_rows (P := l.prog) (w := w) (base := base) F_high_rows Y_check_number)
  have Y_all_rows := mkX (PySem.W.mg_of X G a_all_rows) F_all_rows b_all_rows (bad_all_rows (P := l.prog) (w := w) (base := base) F_all_rows Y_check_number)
  have Y_judged := mkX (PySem.W.mg_of X G a_judged) F_judged b_judged (bad_judged (P := l.prog) (w := w) (base := base) F_judged Y_check_number)
  have Y_longest := mkX (PySem.W.mg_of X G a_longest) F_longest b_longest (bad_longest (P := l.prog) (w := w) (base := base) F_longest Y_high_rows)
  have Y_of_length := mkX (PySem.W.mg_of X G a_of_length) F_of_length b_of_length (bad_of_length (P := l.prog) (w := w) (base := base) F_of_length A_is_whole X_BadLength Y_check_number C_check_number)
  have Y_least_with := mkX (PySem.W.mg_of X G a_least_with) F_least_with b_least_with (bad_least_with (P := l.prog) (w := w) (base := base) F_least_with g_MOST A_is_whole X_BadCount)
  have C__law_right := mkC (PySem.W.mg_of X G a__law_right) F__law_right b__law_right (ok__law_right (P := l.prog) (w := w) (base := base) l__law_right c__law_right TB6 B v_ValueError (PySem.W.mg_of X G ya_SumError) (PySem.W.mg_of X G ya_BadNumber) (PySem.W.mg_of X G ya_BadLength) (PySem.W.mg_of X G ya_BadCount) I_BadNumber I_BadLength I_BadCount F__law_kinds (PySem.W.mg_of X G a__law_kinds) b__law_kinds C__law_due_of C__law_strange Y_high_rows Y_all_rows Y_longest Y_judged Y_of_length Y_least_with)
  exact ok_law F_law B C__law_cell_at C__law_value C__law_right C_longest C_least_with C_of_length
/-- the end, with the table of _law_right's own code -/
theorem walk {l : PySem.W.OpenLaw} {q : Program} {loose : List Str} {XP : (Str → Option Value) → Heap → Prop} {YP : World → Heap → Prop} {d : DefRec} {K : Params → PySem.W.Frag} (hn : l.most = some 63) (hdf : d.params.defaults = []) (hrec : ((PyProof.Rows.recsOf q).any fun e => e.name == ("_law_right" : Str)) = true)
    (hY : ∀ (w : World) (h : Heap), YP w h → (K w.params).In h)
    (F : ∀ (w : World) (mg : Str → Option Value) (fa : Addr) (h : Heap), (K w.params).In h → h.Ns mainGlobals mg → mg d.name = some (.ref fa) → (∀ fr, mg "_law_right" = some (.ref fr) → TabAt (K w.params) fr h) → LamX.LawAtS l w (K w.params) CX0 10 63 "_law_script" mg fa h) :
    PySem.W.WalkO q loose XP YP l.row.toRowW d [] (fun f vs => PySem.call f vs) := by
  refine Att.attach_callB hn hdf fun w s₀ s₁ mg mb fa o pm cd doc a vs ns G Y ho hd hcd hmg hobj hints hlen hbits hg => ?_
  have KX := hY w _ Y
  obtain ⟨fd, cs, sp, hT, nT, C, hb, hsp, hF⟩ := F w mg fa s₁.heap KX G.T.g hmg fun fr hfr c P ob fdr e dd ts sl k1 k2 k3 k4 k5 => by
    obtain ⟨dr, hm, hnm⟩ := List.any_eq_true.mp hrec
    have hnm : dr.name = "_law_right" := beq_iff_eq.mp hnm
    obtain ⟨a', o', fd', c', P', h1, h2, h3, h4, h5, h6⟩ := G.T.tab dr hm
    rw [hnm, hfr] at h1
    cases h1
    cases (KX _ _ k1).symm.trans h2
    cases k2.symm.trans h3
    cases k3.symm.trans h4
    have hC := PySem.W.CodeHd.of h5 h6
    obtain ⟨⟨oc, vc, e1, _, e3, e4⟩, hP⟩ := h6
    cases (KX _ _ k4).symm.trans e1
    cases e3
    cases k5.symm.trans e4
    exact ⟨hC, hP⟩
  exact LamX.law_callTs KX G.T.g G.T.b G.T.builtins G.T.nolimit hg hT nT C G.T.bmain hobj hints (Nat.le_trans hlen (by decide)) ⟨rfl, by decide, by decide⟩ hF hb (fun H hH hS => hsp H a ns hlen hbits hH hS) fun H e s' z => z
end NB
open PySem PySem.W PyProof.Rows
set_option maxRecDepth 100000 in
set_option maxHeartbeats 0 in
theorem PySem.Challenge.cw_neighboursums_k06_refused_holds : PySem.Challenge.rw_neighboursums_k06_refused.Holds := by
  w_on; o_law; k_head; (case hw => w_witness2)
  k_fill
  refine NB.walk (l := PySem.Challenge.rw_neighboursums_k06_refused) rfl rfl (by decide +kernel) (fun w h Y => PySem.W.km_in_of Y) ?F
  case F =>
    intro w mg fa h KX G hmg own
    refine' NB.all_mk KX G hmg own ?a_is_whole ?l_is_whole ?c_is_whole ?k_is_whole ?a_parts_of ?l_parts_of ?c_parts_of ?k_parts_of ?a_row_of ?l_row_of ?c_row_of ?k_row_of ?a_least_from ?l_least_from ?c_least_from ?k_least_from ?a__law_cell_at ?l__law_cell_at ?c__law_cell_at ?k__law_cell_at ?a__law_draw ?l__law_draw ?c__law_draw ?k__law_draw ?a__law_value ?l__law_value ?c__law_value ?k__law_value ?a_check_number ?l_check_number ?c_check_number ?k_check_number ?a_rows_of ?l_rows_of ?c_rows_of ?k_rows_of ?a_high_rows ?l_high_rows ?c_high_rows ?k_high_rows ?a_longest ?l_longest ?c_longest ?k_longest ?a_of_length ?l_of_length ?c_of_length ?k_of_length ?a_least_with ?l_least_with ?c_least_with ?k_least_with ?a__law_due_of ?l__law_due_of ?c__law_due_of ?k__law_due_of ?a__law_strange ?l__law_strange ?c__law_strange ?k__law_strange ?a_all_rows ?l_all_rows ?c_all_rows ?k_all_rows ?a_judged ?l_judged ?c_judged ?k_judged ?a__law_kinds ?l__law_kinds ?c__law_kinds ?k__law_kinds ?a__law_right ?l__law_right ?c__law_right ?k__law_right ?a_law ?l_law ?c_law ?k_law ?t_c ?t_P ?t_n ?y_hn ?y_htk ?ya_SumError ?yb_SumError ?yt_SumError ?yh_SumError ?ya_BadNumber ?yb_BadNumber ?yt_BadNumber ?yh_BadNumber ?yx_BadNumber ?yk_BadNumber ?yg_BadNumber ?yn_BadNumber ?yc_BadNumber ?ym_BadNumber ?ys_BadNumber ?q0_BadNumber ?q1_BadNumber ?q2_BadNumber ?q3_BadNumber ?ya_BadLength ?yb_BadLength ?yt_BadLength ?yh_BadLength ?yx_BadLength ?yk_BadLength ?yg_BadLength ?yn_BadLength ?yc_BadLength ?ym_BadLength ?ys_BadLength ?q0_BadLength ?q1_BadLength ?q2_BadLength ?q3_BadLength ?ya_BadCount ?yb_BadCount ?yt_BadCount ?yh_BadCount ?yx_BadCount ?yk_BadCount ?yg_BadCount ?yn_BadCount ?yc_BadCount ?ym_BadCount ?ys_BadCount ?q0_BadCount ?q1_BadCount ?q2_BadCount ?q3_BadCount ?h_GREATEST ?h_MOST ?z_isinstance ?z_int ?z_bool ?z_list ?z_tuple ?z_len ?z_max ?z_min ?z_sorted ?z_range ?z_sum ?z_all ?z_zip ?z_set ?z_ValueError
    (case ya_SumError => k_is)
    (case ya_BadNumber => k_is)
    (case ya_BadLength => k_is)
    (case ya_BadCount => k_is)
    (case a_is_whole => k_is)
    (case l_is_whole => k_is)
    (case c_is_whole => k_is)
    (case k_is_whole => k_is)
    (case a_parts_of => k_is)
    (case l_parts_of => k_is)
    (case c_parts_of => k_is)
    (case k_parts_of => k_is)
    (case a_row_of => k_is)
    (case l_row_of => k_is)
    (case c_row_of => k_is)
    (case k_row_of => k_is)
    (case a_least_from => k_is)
    (case l_least_from => k_is)
    (case c_least_from => k_is)
    (case k_least_from => k_is)
    (case a__law_cell_at => k_is)
    (case l__law_cell_at => k_is)
    (case c__law_cell_at => k_is)
    (case k__law_cell_at => k_is)
    (case a__law_draw => k_is)
    (case l__law_draw => k_is)
    (case c__law_draw => k_is)
    (case k__law_draw => k_is)
    (case a__law_value => k_is)
    (case l__law_value => k_is)
    (case c__law_value => k_is)
    (case k__law_value => k_is)
    (case a_check_number => k_is)
    (case l_check_number => k_is)
    (case c_check_number => k_is)
    (case k_check_number => k_is)
    (case a_rows_of => k_is)
    (case l_rows_of => k_is)
    (case c_rows_of => k_is)
    (case k_rows_of => k_is)
    (case a_high_rows => k_is)
    (case l_high_rows => k_is)
    (case c_high_rows => k_is)
    (case k_high_rows => k_is)
    (case a_longest => k_is)
    (case l_longest => k_is)
    (case c_longest => k_is)
    (case k_longest => k_is)
    (case a_of_length => k_is)
    (case l_of_length => k_is)
    (case c_of_length => k_is)
    (case k_of_length => k_is)
    (case a_least_with => k_is)
    (case l_least_with => k_is)
    (case c_least_with => k_is)
    (case k_least_with => k_is)
    (case a__law_due_of => k_is)
    (case l__law_due_of => k_is)
    (case c__law_due_of => k_is)
    (case k__law_due_of => k_is)
    (case a__law_strange => k_is)
    (case l__law_strange => k_is)
    (case c__law_strange => k_is)
    (case k__law_strange => k_is)
    (case a_all_rows => k_is)
    (case l_all_rows => k_is)
    (case c_all_rows => k_is)
    (case k_all_rows => k_is)
    (case a_judged => k_is)
    (case l_judged => k_is)
    (case c_judged => k_is)
    (case k_judged => k_is)
    (case a__law_kinds => k_is)
    (case l__law_kinds => k_is)
    (case c__law_kinds => k_is)
    (case k__law_kinds => k_is)
    (case a__law_right => k_is)
    (case l__law_right => k_is)
    (case c__law_right => k_is)
    (case k__law_right => k_is)
    (case a_law => k_is)
    (case l_law => k_is)
    (case c_law => k_is)
    (case k_law => k_is)
    (case t_c => k_is)
    (case t_P => rfl)
    (case t_n => rfl)
    (case y_hn => k_is)
    (case y_htk => k_is)
    (case yb_SumError => k_is)
    (case yt_SumError => k_is)
    (case yh_SumError => k_is)
    (case yb_BadNumber => k_is)
    (case yt_BadNumber => k_is)
    (case yh_BadNumber => k_is)
    (case yx_BadNumber => k_exc)
    (case yk_BadNumber => k_is)
    (case yg_BadNumber => k_is)
    (case yn_BadNumber => k_is)
    (case yc_BadNumber => k_is)
    (case ym_BadNumber => k_is)
    (case ys_BadNumber => k_is)
    (case q0_BadNumber => kit_is)
    (case q1_BadNumber => kit_is)
    (case q2_BadNumber => kit_is)
    (case q3_BadNumber => kit_is)
    (case yb_BadLength => k_is)
    (case yt_BadLength => k_is)
    (case yh_BadLength => k_is)
    (case yx_BadLength => k_exc)
    (case yk_BadLength => k_is)
    (case yg_BadLength => k_is)
    (case yn_BadLength => k_is)
    (case yc_BadLength => k_is)
    (case ym_BadLength => k_is)
    (case ys_BadLength => k_is)
    (case q0_BadLength => kit_is)
    (case q1_BadLength => kit_is)
    (case q2_BadLength => kit_is)
    (case q3_BadLength => kit_is)
    (case yb_BadCount => k_is)
    (case yt_BadCount => k_is)
    (case yh_BadCount => k_is)
    (case yx_BadCount => k_exc)
    (case yk_BadCount => k_is)
    (case yg_BadCount => k_is)
    (case yn_BadCount => k_is)
    (case yc_BadCount => k_is)
    (case ym_BadCount => k_is)
    (case ys_BadCount => k_is)
    (case q0_BadCount => kit_is)
    (case q1_BadCount => kit_is)
    (case q2_BadCount => kit_is)
    (case q3_BadCount => kit_is)
    (case h_GREATEST => k_is)
    (case h_MOST => k_is)
    (case z_isinstance => k_is)
    (case z_int => k_is)
    (case z_bool => k_is)
    (case z_list => k_is)
    (case z_tuple => k_is)
    (case z_len => k_is)
    (case z_max => k_is)
    (case z_min => k_is)
    (case z_sorted => k_is)
    (case z_range => k_is)
    (case z_sum => k_is)
    (case z_all => k_is)
    (case z_zip => k_is)
    (case z_set => k_is)
    (case z_ValueError => k_is)
#print axioms PySem.Challenge.cw_neighboursums_k06_refused_holds

