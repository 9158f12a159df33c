import PyProof.Rows.All
import Wide.All
import OpenK.AllK
import Wide.FinOn
import KE.KStateDown
import Lean
import HandS.ForMost
import HandS.ForExc
import HandS.Defaults
import HandS.Head0
import HandS.Head1
import HandS.Head2
import HandS.HeadEnd
import HandS.HeadHook1
import HandS.HeadHook2
import HandS.IsInst
import PySem.Challenge.RW_middlerows_k03_whole_rows_of_most
import HandS.Walk
import HandS.Zip
import HandS.Star
import HandS.TupLe
import KE.SortData
import HandS.TupSets
import KE.KeyNested
import KE.KDictKeyed
import HandS.Codes
import HandS.TupAny
import HandS.Style
/-! The plain law: rows of bits, rules of two places, the row of most. No program in sight. -/
namespace MR
abbrev Row := List Int
abbrev Want := Int × Int
abbrev Rule := Want × Want
/-- the value at a place -/
def at_ (r : Row) (k : Nat) : Int := r.getD k 0
def Bits (r : Row) : Prop := ∀ x, x ∈ r → x = 0 ∨ x = 1
def RowOf (n : Nat) (r : Row) : Prop := r.length = n ∧ Bits r
def hasW (r : Row) (w : Want) : Bool := decide (at_ r w.1.toNat = w.2)
def keepsR (r : Row) (u : Rule) : Bool := hasW r u.1 || hasW r u.2
def keepsA (us : List Rule) (r : Row) : Bool := us.all fun u => keepsR r u
def allRows : Nat → List Row
  | 0 => [[]]
  | n + 1 => (allRows n).flatMap fun r => [r ++ [0], r ++ [1]]
def kept (n : Nat) (us : List Rule) : List Row := (allRows n).filter fun r => keepsA us r
def WantOk (n : Nat) (w : Want) : Prop := 0 ≤ w.1 ∧ w.1 < (n : Int) ∧ (w.2 = 0 ∨ w.2 = 1)

/-! ### sums over places -/
def S (f : Nat → Int) : Nat → Int
  | 0 => 0
  | n + 1 => S f n + f n
theorem S_congr {f g : Nat → Int} : ∀ {n : Nat}, (∀ k, k < n → f k = g k) → S f n = S g n
  | 0, _ => rfl
  | n + 1, h => by
    show S f n + f n = S g n + g n
    rw [S_congr fun k hk => h k (by omega), h n (by omega)]
theorem S_add (f g : Nat → Int) : ∀ n, S (fun k => f k + g k) n = S f n + S g n
  | 0 => rfl
  | n + 1 => by
    show S (fun k => f k + g k) n + (f n + g n) = S f n + f n + (S g n + g n)
    rw [S_add f g n]; omega
theorem S_le {f g : Nat → Int} : ∀ {n : Nat}, (∀ k, k < n → f k ≤ g k) → S f n ≤ S g n
  | 0, _ => Int.le_refl _
  | n + 1, h => by
    have h1 := S_le (f := f) (g := g) (n := n) fun k hk => h k (by omega)
    have h2 := h n (by omega)
    show S f n + f n ≤ S g n + g n
    omega
theorem S_tight {f g : Nat → Int} : ∀ {n : Nat}, (∀ k, k < n → f k ≤ g k) → S g n ≤ S f n → ∀ k, k < n → f k = g k
  | 0, _, _, k, hk => absurd hk (Nat.not_lt_zero _)
  | n + 1, h, e, k, hk => by
    have h1 := S_le (f := f) (g := g) (n := n) fun k hk => h k (by omega)
    have h2 := h n (by omega)
    have e' : S g n + g n ≤ S f n + f n := e
    rcases Nat.lt_or_ge k n with z | z
    · exact S_tight (fun k hk => h k (by omega)) (by omega) k z
    · have : k = n := by omega
      subst this
      omega
theorem S_nonneg {f : Nat → Int} : ∀ {n : Nat}, (∀ k, k < n → 0 ≤ f k) → 0 ≤ S f n
  | 0, _ => Int.le_refl _
  | n + 1, h => by
    have h1 := S_nonneg (f := f) (n := n) fun k hk => h k (by omega)
    have h2 := h n (by omega)
    show 0 ≤ S f n + f n
    omega
theorem sum_range (f : Nat → Int) : ∀ n, ((List.range n).map f).sum = S f n
  | 0 => rfl
  | n + 1 => by
    rw [List.range_succ, List.map_append, List.sum_append, sum_range f n]
    show S f n + (f n + 0) = S f n + f n
    omega
theorem len_filter_range (p : Nat → Bool) : ∀ n, (((List.range n).filter p).length : Int) = S (fun k => if p k = true then 1 else 0) n
  | 0 => rfl
  | n + 1 => by
    rw [List.range_succ, List.filter_append, List.length_append, Int.natCast_add, len_filter_range p n]
    show _ = S _ n + _
    congr 1
    show _ = if p n = true then (1 : Int) else 0
    by_cases h : p n = true
    · rw [if_pos h, List.filter_cons_of_pos h]; rfl
    · rw [if_neg h, List.filter_cons_of_neg h]; rfl

/-! ### steps apart, totals -/
def dif (r s : Row) (k : Nat) : Int := if at_ r k = at_ s k then 0 else 1
def apart (n : Nat) (r s : Row) : Int := S (dif r s) n
def total (n : Nat) (vs : List Row) (r : Row) : Int := (vs.map fun v => apart n v r).sum
/-- how many votes have x at k -/
def cnt (vs : List Row) (k : Nat) (x : Int) : Int := ((vs.filter fun v => decide (at_ v k = x)).length : Int)
theorem cnt_nil (k : Nat) (x : Int) : cnt [] k x = 0 := rfl
theorem cnt_cons (v : Row) (vs : List Row) (k : Nat) (x : Int) : cnt (v :: vs) k x = (if at_ v k = x then 1 else 0) + cnt vs k x := by
  unfold cnt
  by_cases h : at_ v k = x
  · rw [List.filter_cons_of_pos (by simpa using h), if_pos h, List.length_cons]; omega
  · rw [List.filter_cons_of_neg (by simpa using h), if_neg h]; omega
theorem cnt_nonneg (vs : List Row) (k : Nat) (x : Int) : 0 ≤ cnt vs k x := by unfold cnt; omega
theorem cnt_le (vs : List Row) (k : Nat) (x : Int) : cnt vs k x ≤ (vs.length : Int) := by
  unfold cnt
  have := List.length_filter_le (fun v => decide (at_ v k = x)) vs
  omega
theorem total_eq (n : Nat) (r : Row) : ∀ vs : List Row, total n vs r = S (fun k => (vs.length : Int) - cnt vs k (at_ r k)) n
  | [] => by
    show (0 : Int) = _
    have : ∀ n, S (fun k => (([] : List Row).length : Int) - cnt [] k (at_ r k)) n = 0 := fun n => by
      induction n with
      | zero => rfl
      | succ n ih => show S _ n + _ = 0; rw [ih]; rfl
    rw [this]
  | v :: vs => by
    show apart n v r + total n vs r = _
    rw [total_eq n r vs]
    unfold apart
    rw [← S_add]
    refine S_congr fun k _ => ?_
    rw [cnt_cons]
    unfold dif
    by_cases h : at_ v k = at_ r k
    · rw [if_pos h, if_pos h, List.length_cons]; omega
    · rw [if_neg h, if_neg h, List.length_cons]; omega
theorem at_bit {n : Nat} {r : Row} (h : RowOf n r) (k : Nat) : at_ r k = 0 ∨ at_ r k = 1 := by
  unfold at_
  rw [List.getD_eq_getElem?_getD]
  cases e : r[k]? with
  | none => exact .inl rfl
  | some x => exact h.2 x (List.mem_of_getElem? e)
theorem cnt_two {n : Nat} : ∀ {vs : List Row}, (∀ v, v ∈ vs → RowOf n v) → ∀ k, cnt vs k 0 + cnt vs k 1 = (vs.length : Int)
  | [], _, k => rfl
  | v :: vs, h, k => by
    have ih := cnt_two (vs := vs) (fun u hu => h u (List.mem_cons_of_mem _ hu)) k
    have hb := at_bit (h v List.mem_cons_self) k
    rw [cnt_cons, cnt_cons, List.length_cons]
    rcases hb with z | z
    · rw [if_pos z, if_neg (by omega)]; omega
    · rw [if_neg (by omega), if_pos z]; omega

/-! ### the row of most -/
def mostAt (vs : List Row) (k : Nat) : Int := if (vs.length : Int) < 2 * (vs.map fun v => at_ v k).sum then 1 else 0
def most (n : Nat) (vs : List Row) : Row := (List.range n).map (mostAt vs)
theorem sum_cnt {n : Nat} : ∀ {vs : List Row}, (∀ v, v ∈ vs → RowOf n v) → ∀ k, (vs.map fun v => at_ v k).sum = cnt vs k 1
  | [], _, k => rfl
  | v :: vs, h, k => by
    have ih := sum_cnt (vs := vs) (fun u hu => h u (List.mem_cons_of_mem _ hu)) k
    have hb := at_bit (h v List.mem_cons_self) k
    show at_ v k + (vs.map fun v => at_ v k).sum = _
    rw [ih, cnt_cons]
    rcases hb with z | z
    · rw [z, if_neg (by omega)]
    · rw [z, if_pos rfl]
theorem mostAt_bit (vs : List Row) (k : Nat) : mostAt vs k = 0 ∨ mostAt vs k = 1 := by
  unfold mostAt
  by_cases h : (vs.length : Int) < 2 * (vs.map fun v => at_ v k).sum
  · rw [if_pos h]; exact .inr rfl
  · rw [if_neg h]; exact .inl rfl
theorem most_row (n : Nat) (vs : List Row) : RowOf n (most n vs) := by
  refine ⟨by unfold most; rw [List.length_map, List.length_range], fun x hx => ?_⟩
  obtain ⟨k, _, rfl⟩ := List.mem_map.mp hx
  exact mostAt_bit vs k
theorem at_most {n k : Nat} (vs : List Row) (hk : k < n) : at_ (most n vs) k = mostAt vs k := by
  unfold at_ most
  rw [List.getD_eq_getElem?_getD, List.getElem?_map, List.getElem?_range hk]
  rfl
/-- of an odd number the value of most has more than half -/
theorem most_more {n : Nat} {vs : List Row} (hv : ∀ v, v ∈ vs → RowOf n v) (ho : vs.length % 2 = 1) {k : Nat} : (vs.length : Int) < 2 * cnt vs k (mostAt vs k) := by
  have h2 := cnt_two hv k
  unfold mostAt
  rw [sum_cnt hv k]
  by_cases h : (vs.length : Int) < 2 * cnt vs k 1
  · rw [if_pos h]; exact h
  · rw [if_neg h]; omega
/-- two places at which more than half have something: some vote has both -/
theorem both_of : ∀ {vs : List Row} {j k : Nat} {x y : Int}, (vs.length : Int) < cnt vs j x + cnt vs k y → ∃ v, v ∈ vs ∧ at_ v j = x ∧ at_ v k = y
  | [], j, k, x, y, h => by
    rw [cnt_nil, cnt_nil] at h
    exact absurd h (by decide)
  | v :: vs, j, k, x, y, h => by
    rw [cnt_cons, cnt_cons, List.length_cons] at h
    by_cases h1 : at_ v j = x
    · by_cases h2 : at_ v k = y
      · exact ⟨v, List.mem_cons_self, h1, h2⟩
      · rw [if_pos h1, if_neg h2] at h
        obtain ⟨u, hu, z⟩ := both_of (vs := vs) (j := j) (k := k) (x := x) (y := y) (by omega)
        exact ⟨u, List.mem_cons_of_mem _ hu, z⟩
    · by_cases h2 : at_ v k = y
      · rw [if_neg h1, if_pos h2] at h
        obtain ⟨u, hu, z⟩ := both_of (vs := vs) (j := j) (k := k) (x := x) (y := y) (by omega)
        exact ⟨u, List.mem_cons_of_mem _ hu, z⟩
      · rw [if_neg h1, if_neg h2] at h
        obtain ⟨u, hu, z⟩ := both_of (vs := vs) (j := j) (k := k) (x := x) (y := y) (by omega)
        exact ⟨u, List.mem_cons_of_mem _ hu, z⟩
theorem most_keepsR {n : Nat} {vs : List Row} {u : Rule} (hv : ∀ v, v ∈ vs → RowOf n v) (ho : vs.length % 2 = 1) (hk : ∀ v, v ∈ vs → keepsR v u = true) (h1 : WantOk n u.1) (h2 : WantOk n u.2) : keepsR (most n vs) u = true := by
  cases e : keepsR (most n vs) u with
  | true => rfl
  | false =>
    unfold keepsR hasW at e
    simp only [Bool.or_eq_false_iff, decide_eq_false_iff_not] at e
    obtain ⟨e1, e2⟩ := e
    obtain ⟨a1, a2, a3⟩ := h1
    obtain ⟨b1, b2, b3⟩ := h2
    have m1 := most_more hv ho (k := u.1.1.toNat)
    have m2 := most_more hv ho (k := u.2.1.toNat)
    rw [at_most vs (by omega)] at e1 e2
    obtain ⟨v, hm, z1, z2⟩ := both_of (vs := vs) (j := u.1.1.toNat) (k := u.2.1.toNat) (x := mostAt vs u.1.1.toNat) (y := mostAt vs u.2.1.toNat) (by omega)
    have q := hk v hm
    unfold keepsR hasW at q
    simp only [Bool.or_eq_true, decide_eq_true_eq] at q
    rcases q with q | q
    · exact absurd (z1.symm.trans q) e1
    · exact absurd (z2.symm.trans q) e2
theorem most_keepsA {n : Nat} {vs : List Row} {us : List Rule} (hv : ∀ v, v ∈ vs → RowOf n v) (ho : vs.length % 2 = 1) (hk : ∀ v, v ∈ vs → keepsA us v = true) (hu : ∀ u, u ∈ us → WantOk n u.1 ∧ WantOk n u.2) : keepsA us (most n vs) = true := by
  unfold keepsA at hk ⊢
  rw [List.all_eq_true]
  intro u hm
  exact most_keepsR hv ho (fun v hvm => List.all_eq_true.mp (hk v hvm) u hm) (hu u hm).1 (hu u hm).2

/-! ### all rows -/
theorem mem_allRows : ∀ {n : Nat} {r : Row}, r ∈ allRows n ↔ RowOf n r
  | 0, r => by
    unfold allRows RowOf
    rw [List.mem_singleton]
    constructor
    · rintro rfl
      exact ⟨rfl, fun x hx => by cases hx⟩
    · rintro ⟨h, _⟩
      exact List.length_eq_zero_iff.mp h
  | n + 1, r => by
    unfold allRows
    rw [List.mem_flatMap]
    constructor
    · rintro ⟨q, hq, hr⟩
      have ih := mem_allRows.mp hq
      have hr' : r = q ++ [0] ∨ r = q ++ [1] := by simpa using hr
      rcases hr' with rfl | rfl
      · refine ⟨by rw [List.length_append, ih.1]; rfl, fun x hx => ?_⟩
        rcases List.mem_append.mp hx with z | z
        · exact ih.2 x z
        · exact .inl (by simpa using z)
      · refine ⟨by rw [List.length_append, ih.1]; rfl, fun x hx => ?_⟩
        rcases List.mem_append.mp hx with z | z
        · exact ih.2 x z
        · exact .inr (by simpa using z)
    · rintro ⟨h, hb⟩
      have hne : r ≠ [] := by
        intro z
        rw [z] at h
        cases h
      have e := List.dropLast_concat_getLast hne
      refine ⟨r.dropLast, mem_allRows.mpr ⟨by rw [List.length_dropLast, h]; rfl, fun x hx => hb x (List.dropLast_subset r hx)⟩, ?_⟩
      rcases hb _ (List.getLast_mem hne) with z | z
      · rw [z] at e
        rw [e.symm]
        simp
      · rw [z] at e
        rw [e.symm]
        simp
theorem mem_kept {n : Nat} {us : List Rule} {r : Row} : r ∈ kept n us ↔ RowOf n r ∧ keepsA us r = true := by
  unfold kept
  rw [List.mem_filter, mem_allRows]
theorem lt_app {a b : Row} (x y : Int) (hl : a.length = b.length) (h : a < b) : a ++ [x] < b ++ [y] := by
  induction a generalizing b with
  | nil =>
    cases b with
    | nil => exact absurd h (List.lt_irrefl _)
    | cons d b => cases hl
  | cons c a ih =>
    cases b with
    | nil => cases hl
    | cons d b =>
      have hl' : a.length = b.length := by simpa using hl
      show c :: (a ++ [x]) < d :: (b ++ [y])
      rw [List.cons_lt_cons_iff] at h ⊢
      rcases h with h | ⟨e, h⟩
      · exact .inl h
      · exact .inr ⟨e, ih hl' h⟩
theorem lt_app0 (a : Row) : a ++ [0] < a ++ [1] := by
  induction a with
  | nil => decide
  | cons c a ih =>
    show c :: (a ++ [0]) < c :: (a ++ [1])
    rw [List.cons_lt_cons_iff]
    exact .inr ⟨rfl, ih⟩
theorem pairwise_flat {l : List Row} {n : Nat} (hn : ∀ r, r ∈ l → r.length = n) (h : l.Pairwise (· < ·)) : (l.flatMap fun r => [r ++ [0], r ++ [1]]).Pairwise (· < ·) := by
  induction l with
  | nil => exact List.Pairwise.nil
  | cons r l ih =>
    rw [List.pairwise_cons] at h
    rw [List.flatMap_cons, List.pairwise_append]
    refine ⟨?_, ih (fun q hq => hn q (List.mem_cons_of_mem _ hq)) h.2, fun x hx y hy => ?_⟩
    · rw [List.pairwise_cons]
      refine ⟨fun y hy => ?_, by simp⟩
      have e : y = r ++ [1] := by simpa using hy
      rw [e]
      exact lt_app0 r
    · obtain ⟨q, hq, hy'⟩ := List.mem_flatMap.mp hy
      have hlq : r.length = q.length := (hn r List.mem_cons_self).trans (hn q (List.mem_cons_of_mem _ hq)).symm
      have hrq := h.1 q hq
      have ex : ∃ a, x = r ++ [a] := by
        have z : x = r ++ [0] ∨ x = r ++ [1] := by simpa using hx
        rcases z with z | z
        · exact ⟨_, z⟩
        · exact ⟨_, z⟩
      have ey : ∃ a, y = q ++ [a] := by
        have z : y = q ++ [0] ∨ y = q ++ [1] := by simpa using hy'
        rcases z with z | z
        · exact ⟨_, z⟩
        · exact ⟨_, z⟩
      obtain ⟨a, rfl⟩ := ex
      obtain ⟨b, rfl⟩ := ey
      exact lt_app a b hlq hrq
theorem allRows_lt : ∀ n : Nat, (allRows n).Pairwise (· < ·)
  | 0 => by
    unfold allRows
    exact List.pairwise_singleton _ _
  | n + 1 => by
    unfold allRows
    exact pairwise_flat (fun r hr => (mem_allRows.mp hr).1) (allRows_lt n)
theorem allRows_nd (n : Nat) : (allRows n).Nodup := (allRows_lt n).imp fun {a b} h e => by
  rw [e] at h
  exact List.lt_irrefl _ h
theorem kept_nd (n : Nat) (us : List Rule) : (kept n us).Nodup := (allRows_nd n).sublist List.filter_sublist
theorem allRows_len : ∀ n : Nat, (allRows n).length = 2 ^ n
  | 0 => rfl
  | n + 1 => by
    unfold allRows
    rw [List.length_flatMap]
    have : ∀ l : List Row, (l.map fun r => [r ++ [(0 : Int)], r ++ [1]].length).sum = l.length * 2 := fun l => by
      induction l with
      | nil => rfl
      | cons a l ih =>
        rw [List.map_cons, List.sum_cons, ih, List.length_cons]
        show 2 + l.length * 2 = (l.length + 1) * 2
        omega
    rw [this, allRows_len n, Nat.pow_succ]

/-! ### the law's own making of all rows -/
def lawRows : Nat → List Row
  | 0 => [[]]
  | n + 1 => ((lawRows n).map fun r => r ++ [0]) ++ (lawRows n).map fun r => r ++ [1]
theorem flat_perm {α β : Type} (f g : α → β) : ∀ l : List α, (l.flatMap fun r => [f r, g r]).Perm (l.map f ++ l.map g)
  | [] => List.Perm.refl _
  | a :: l => by
    rw [List.flatMap_cons, List.map_cons, List.map_cons]
    show (f a :: g a :: (l.flatMap fun r => [f r, g r])).Perm (f a :: (l.map f ++ g a :: l.map g))
    refine List.Perm.cons _ ?_
    refine (List.Perm.cons (g a) (flat_perm f g l)).trans ?_
    exact List.perm_middle.symm
theorem rows_perm : ∀ n : Nat, (allRows n).Perm (lawRows n)
  | 0 => List.Perm.refl _
  | n + 1 => by
    unfold allRows lawRows
    exact ((rows_perm n).flatMap_right _).trans (flat_perm _ _ _)

/-! ### which rows have the least total -/
/-- a place at which fewer than half of the votes have the row's value -/
def few (vs : List Row) (r : Row) (k : Nat) : Bool := decide (2 * cnt vs k (at_ r k) < (vs.length : Int))
def lower (n : Nat) (vs : List Row) : Int := S (fun k => (vs.length : Int) - (if cnt vs k 0 ≤ cnt vs k 1 then cnt vs k 1 else cnt vs k 0)) n
theorem lower_le {n : Nat} {vs : List Row} {r : Row} (hv : ∀ v, v ∈ vs → RowOf n v) (hr : RowOf n r) : lower n vs ≤ total n vs r := by
  rw [total_eq]
  unfold lower
  refine S_le fun k _ => ?_
  rcases at_bit hr k with z | z
  · rw [z]
    by_cases h : cnt vs k 0 ≤ cnt vs k 1
    · rw [if_pos h]; omega
    · rw [if_neg h]; omega
  · rw [z]
    by_cases h : cnt vs k 0 ≤ cnt vs k 1
    · rw [if_pos h]; omega
    · rw [if_neg h]; omega
theorem total_lower {n : Nat} {vs : List Row} {r : Row} (hv : ∀ v, v ∈ vs → RowOf n v) (hr : RowOf n r) : total n vs r = lower n vs ↔ ∀ k, k < n → few vs r k = false := by
  constructor
  · intro e k hk
    rw [total_eq] at e
    unfold lower at e
    have q := S_tight (f := fun k => (vs.length : Int) - (if cnt vs k 0 ≤ cnt vs k 1 then cnt vs k 1 else cnt vs k 0)) (g := fun k => (vs.length : Int) - cnt vs k (at_ r k)) (n := n) (fun k _ => by
      show (vs.length : Int) - (if cnt vs k 0 ≤ cnt vs k 1 then cnt vs k 1 else cnt vs k 0) ≤ (vs.length : Int) - cnt vs k (at_ r k)
      rcases at_bit hr k with z | z
      · rw [z]
        by_cases h : cnt vs k 0 ≤ cnt vs k 1
        · rw [if_pos h]; omega
        · rw [if_neg h]; omega
      · rw [z]
        by_cases h : cnt vs k 0 ≤ cnt vs k 1
        · rw [if_pos h]; omega
        · rw [if_neg h]; omega) (by omega) k hk
    have q' : (vs.length : Int) - (if cnt vs k 0 ≤ cnt vs k 1 then cnt vs k 1 else cnt vs k 0) = (vs.length : Int) - cnt vs k (at_ r k) := q
    have h2 := cnt_two hv k
    unfold few
    rw [decide_eq_false_iff_not]
    by_cases h : cnt vs k 0 ≤ cnt vs k 1
    · rw [if_pos h] at q'; omega
    · rw [if_neg h] at q'; omega
  · intro h
    rw [total_eq]
    unfold lower
    refine S_congr fun k hk => ?_
    have h1 := h k hk
    have h2 := cnt_two hv k
    unfold few at h1
    rw [decide_eq_false_iff_not] at h1
    rcases at_bit hr k with z | z
    · rw [z] at h1 ⊢
      by_cases h : cnt vs k 0 ≤ cnt vs k 1
      · rw [if_pos h]; omega
      · rw [if_neg h]
    · rw [z] at h1 ⊢
      by_cases h : cnt vs k 0 ≤ cnt vs k 1
      · rw [if_pos h]
      · rw [if_neg h]; omega
/-- some row that keeps the rules reaches it -/
theorem reached {n : Nat} {vs : List Row} {us : List Rule} (hv : ∀ v, v ∈ vs → v ∈ kept n us) (h0 : vs ≠ []) (hu : ∀ u, u ∈ us → WantOk n u.1 ∧ WantOk n u.2) : ∃ r, r ∈ kept n us ∧ ∀ k, k < n → few vs r k = false := by
  have hb : ∀ v, v ∈ vs → RowOf n v := fun v hm => (mem_kept.mp (hv v hm)).1
  by_cases ho : vs.length % 2 = 1
  · refine ⟨most n vs, mem_kept.mpr ⟨most_row n vs, most_keepsA hb ho (fun v hm => (mem_kept.mp (hv v hm)).2) hu⟩, fun k hk => ?_⟩
    unfold few
    rw [at_most vs hk, decide_eq_false_iff_not]
    have := most_more hb ho (k := k)
    omega
  · cases vs with
    | nil => exact absurd rfl h0
    | cons v vs =>
      have ho' : vs.length % 2 = 1 := by
        rw [List.length_cons] at ho
        omega
      have hb' : ∀ v, v ∈ vs → RowOf n v := fun u hm => hb u (List.mem_cons_of_mem _ hm)
      refine ⟨most n vs, mem_kept.mpr ⟨most_row n vs, most_keepsA hb' ho' (fun u hm => (mem_kept.mp (hv u (List.mem_cons_of_mem _ hm))).2) hu⟩, fun k hk => ?_⟩
      unfold few
      rw [at_most vs hk, decide_eq_false_iff_not, cnt_cons, List.length_cons]
      have := most_more hb' ho' (k := k)
      by_cases h : at_ v k = mostAt vs k
      · rw [if_pos h]; omega
      · rw [if_neg h]; omega
def leastOf (l : List Int) (m : Int) : Prop := m ∈ l ∧ ∀ y, y ∈ l → m ≤ y
def best (n : Nat) (us : List Rule) (vs : List Row) : List Row := (kept n us).filter fun r => decide (total n vs r = lower n vs)
theorem least_is {n : Nat} {vs : List Row} {us : List Rule} (hv : ∀ v, v ∈ vs → v ∈ kept n us) (h0 : vs ≠ []) (hu : ∀ u, u ∈ us → WantOk n u.1 ∧ WantOk n u.2) {m : Int} (hm : leastOf ((kept n us).map fun r => total n vs r) m) : m = lower n vs := by
  have hb : ∀ v, v ∈ vs → RowOf n v := fun v hm => (mem_kept.mp (hv v hm)).1
  obtain ⟨r, hr, hf⟩ := reached hv h0 hu
  have e := (total_lower hb (mem_kept.mp hr).1).mpr hf
  have h1 := hm.2 _ (List.mem_map.mpr ⟨r, hr, rfl⟩)
  obtain ⟨q, hq, eq⟩ := List.mem_map.mp hm.1
  have h2 := lower_le hb (mem_kept.mp hq).1
  have eq' : total n vs q = m := eq
  omega
theorem best_few {n : Nat} {vs : List Row} {us : List Rule} (hv : ∀ v, v ∈ vs → v ∈ kept n us) : best n us vs = (kept n us).filter fun r => ((List.range n).filter (few vs r)).isEmpty := by
  have hb : ∀ v, v ∈ vs → RowOf n v := fun v hm => (mem_kept.mp (hv v hm)).1
  unfold best
  refine List.filter_congr fun r hr => ?_
  have e := total_lower hb (mem_kept.mp hr).1
  have e2 : ((List.range n).filter (few vs r)).isEmpty = true ↔ ∀ k, k < n → few vs r k = false := by
    rw [List.isEmpty_iff, List.filter_eq_nil_iff]
    constructor
    · intro h k hk
      simpa using h k (List.mem_range.mpr hk)
    · intro h k hk
      simpa using h k (List.mem_range.mp hk)
  by_cases c : total n vs r = lower n vs
  · rw [decide_eq_true c]
    exact (e2.mpr (e.mp c)).symm
  · rw [decide_eq_false c]
    cases q : ((List.range n).filter (few vs r)).isEmpty with
    | false => rfl
    | true => exact absurd (e.mpr (e2.mp q)) c
theorem row_ext {n : Nat} {r s : Row} (hr : r.length = n) (hs : s.length = n) (h : ∀ k, k < n → at_ r k = at_ s k) : r = s := by
  refine List.ext_getElem (hr.trans hs.symm) fun k h1 h2 => ?_
  have := h k (by omega)
  unfold at_ at this
  rw [List.getD_eq_getElem?_getD, List.getD_eq_getElem?_getD, List.getElem?_eq_getElem h1, List.getElem?_eq_getElem h2] at this
  exact this
theorem filter_one {α : Type} [DecidableEq α] {p : α → Bool} {a : α} : ∀ {l : List α}, l.Nodup → a ∈ l → (∀ x, x ∈ l → (p x = true ↔ x = a)) → l.filter p = [a]
  | [], _, h, _ => by cases h
  | x :: l, nd, h, hp => by
    rw [List.nodup_cons] at nd
    by_cases e : x = a
    · subst e
      rw [List.filter_cons_of_pos ((hp x List.mem_cons_self).mpr rfl)]
      congr 1
      rw [List.filter_eq_nil_iff]
      intro y hy q
      have := (hp y (List.mem_cons_of_mem _ hy)).mp q
      subst this
      exact nd.1 hy
    · rw [List.filter_cons_of_neg fun q => e ((hp x List.mem_cons_self).mp q)]
      refine filter_one nd.2 ?_ fun y hy => hp y (List.mem_cons_of_mem _ hy)
      rcases List.mem_cons.mp h with z | z
      · exact absurd z.symm e
      · exact z
theorem most_mem {n : Nat} {vs : List Row} {us : List Rule} (hv : ∀ v, v ∈ vs → v ∈ kept n us) (ho : vs.length % 2 = 1) (hu : ∀ u, u ∈ us → WantOk n u.1 ∧ WantOk n u.2) : most n vs ∈ kept n us :=
  mem_kept.mpr ⟨most_row n vs, most_keepsA (fun v hm => (mem_kept.mp (hv v hm)).1) ho (fun v hm => (mem_kept.mp (hv v hm)).2) hu⟩
theorem best_odd {n : Nat} {vs : List Row} {us : List Rule} (hv : ∀ v, v ∈ vs → v ∈ kept n us) (ho : vs.length % 2 = 1) (hu : ∀ u, u ∈ us → WantOk n u.1 ∧ WantOk n u.2) : best n us vs = [most n vs] := by
  have hb : ∀ v, v ∈ vs → RowOf n v := fun v hm => (mem_kept.mp (hv v hm)).1
  unfold best
  refine filter_one (kept_nd n us) (most_mem hv ho hu) fun r hr => ?_
  have hrow := (mem_kept.mp hr).1
  rw [decide_eq_true_eq, total_lower hb hrow]
  constructor
  · intro h
    refine row_ext hrow.1 (most_row n vs).1 fun k hk => ?_
    rw [at_most vs hk]
    have h1 := h k hk
    have h2 := cnt_two hb k
    unfold few at h1
    rw [decide_eq_false_iff_not] at h1
    unfold mostAt
    rw [sum_cnt hb k]
    rcases at_bit hrow k with z | z
    · rw [z] at h1 ⊢
      rw [if_neg (by omega)]
    · rw [z] at h1 ⊢
      rw [if_pos (by omega)]
  · rintro rfl k hk
    unfold few
    rw [at_most vs hk, decide_eq_false_iff_not]
    have := most_more hb ho (k := k)
    omega
end MR

set_option Elab.async false
set_option linter.all false
set_option maxRecDepth 100000
set_option maxHeartbeats 0
/-! The head: the top by one kernel run, its facts by names. Printed by wip/genhead.py. -/
namespace MR
open PySem PySem.Spec PyProof.Rows L2
def top (i : Nat) : Stmt := PySem.Challenge.pw_middlerows_k03_whole_rows_of_most.main.body.getD i (.Pass ⟨0, 0, 0, 0⟩)
/-- the j-th statement of a class's body -/
def inCls (s : Stmt) (j : Nat) : Stmt := match s with
  | .ClassDef _ _ _ body _ _ _ _ _ _ _ => body.getD j (.Pass ⟨0, 0, 0, 0⟩)
  | _ => .Pass ⟨0, 0, 0, 0⟩
abbrev sInit : Stmt := inCls (top 15) 0
abbrev s_is_from : Stmt := top 11
abbrev s_is_want_of : Stmt := top 12
abbrev s_off : Stmt := top 13
abbrev s_is_rule_of : Stmt := top 14
abbrev s_need_rules : Stmt := top 16
abbrev s_is_row_of : Stmt := top 17
abbrev s_need_row : Stmt := top 18
abbrev s_has : Stmt := top 19
abbrev s_is_kept : Stmt := top 20
abbrev s_are_kept : Stmt := top 21
abbrev s_keeps : Stmt := top 22
abbrev s_all_rows : Stmt := top 23
abbrev s_kept_rows : Stmt := top 24
abbrev s_need_kept : Stmt := top 26
abbrev s_unlike : Stmt := top 27
abbrev s_need_votes : Stmt := top 30
abbrev s_need_odd : Stmt := top 31
abbrev s_steps_to : Stmt := top 32
abbrev s_total_steps : Stmt := top 33
abbrev s_least_totals : Stmt := top 34
abbrev s_most_of : Stmt := top 35
abbrev s_most_row : Stmt := top 36
abbrev s_law_taken : Stmt := top 38
abbrev s_law_all_rules : Stmt := top 39
abbrev s_law_pick : Stmt := top 40
abbrev s_law_rows : Stmt := top 41
abbrev s_law_keeps : Stmt := top 42
abbrev s_law_some_rules : Stmt := top 43
abbrev s_law_kept : Stmt := top 44
abbrev s_law_good_rules : Stmt := top 45
abbrev s_law_votes : Stmt := top 46
abbrev s_law_alike : Stmt := top 47
abbrev s_law_most : Stmt := top 48
abbrev s_law_apart : Stmt := top 49
abbrev s_law_told : Stmt := top 50
abbrev s_law : Stmt := top 51
/-- what isinstance asks of an own class, and whether errors of it are the clause's -/
def insB (K : PySem.W.Frag) (x : Str) : Bool := He.eqO (PySem.W.findIn K (.ref (He.ga K x)) "__class__") (some (some (.builtin "object.__class__"))) &&
  (He.eqO (PySem.W.specialIn K (.builtin "object.__class__") "__get__") (some (some (.builtin "getset_descriptor.__get__"))) &&
  (decide (PySem.W.takesIn K (.builtin "object.__class__") = some true) && (decide (PySem.W.mroIn K (He.ga K x) (.type "object") = some true) && decide (PySem.W.kitOne K (.ref (He.ga K x)) (.ref (He.ga K x)) = some true))))
def dI : He.DefD := ⟨("Rules", some "__init__"), "__init__", "Rules.__init__", defArgs sInit, defBody sInit, defScope sInit, [], []⟩
def d_is_from : He.DefD := ⟨("is_from", none), "is_from", "is_from", defArgs s_is_from, defBody s_is_from, defScope s_is_from, [], []⟩
def d_is_want_of : He.DefD := ⟨("is_want_of", none), "is_want_of", "is_want_of", defArgs s_is_want_of, defBody s_is_want_of, defScope s_is_want_of, [], []⟩
def d_off : He.DefD := ⟨("off", none), "off", "off", defArgs s_off, defBody s_off, defScope s_off, [], []⟩
def d_is_rule_of : He.DefD := ⟨("is_rule_of", none), "is_rule_of", "is_rule_of", defArgs s_is_rule_of, defBody s_is_rule_of, defScope s_is_rule_of, [], []⟩
def d_need_rules : He.DefD := ⟨("need_rules", none), "need_rules", "need_rules", defArgs s_need_rules, defBody s_need_rules, defScope s_need_rules, [], []⟩
def d_is_row_of : He.DefD := ⟨("is_row_of", none), "is_row_of", "is_row_of", defArgs s_is_row_of, defBody s_is_row_of, defScope s_is_row_of, [], []⟩
def d_need_row : He.DefD := ⟨("need_row", none), "need_row", "need_row", defArgs s_need_row, defBody s_need_row, defScope s_need_row, [], []⟩
def d_has : He.DefD := ⟨("has", none), "has", "has", defArgs s_has, defBody s_has, defScope s_has, [], []⟩
def d_is_kept : He.DefD := ⟨("is_kept", none), "is_kept", "is_kept", defArgs s_is_kept, defBody s_is_kept, defScope s_is_kept, [], []⟩
def d_are_kept : He.DefD := ⟨("are_kept", none), "are_kept", "are_kept", defArgs s_are_kept, defBody s_are_kept, defScope s_are_kept, [], []⟩
def d_keeps : He.DefD := ⟨("keeps", none), "keeps", "keeps", defArgs s_keeps, defBody s_keeps, defScope s_keeps, [], []⟩
def d_all_rows : He.DefD := ⟨("all_rows", none), "all_rows", "all_rows", defArgs s_all_rows, defBody s_all_rows, defScope s_all_rows, [], []⟩
def d_kept_rows : He.DefD := ⟨("kept_rows", none), "kept_rows", "kept_rows", defArgs s_kept_rows, defBody s_kept_rows, defScope s_kept_rows, [], []⟩
def d_need_kept : He.DefD := ⟨("need_kept", none), "need_kept", "need_kept", defArgs s_need_kept, defBody s_need_kept, defScope s_need_kept, [], []⟩
def d_unlike : He.DefD := ⟨("unlike", none), "unlike", "unlike", defArgs s_unlike, defBody s_unlike, defScope s_unlike, [], []⟩
def d_need_votes : He.DefD := ⟨("need_votes", none), "need_votes", "need_votes", defArgs s_need_votes, defBody s_need_votes, defScope s_need_votes, [], []⟩
def d_need_odd : He.DefD := ⟨("need_odd", none), "need_odd", "need_odd", defArgs s_need_odd, defBody s_need_odd, defScope s_need_odd, [], []⟩
def d_steps_to : He.DefD := ⟨("steps_to", none), "steps_to", "steps_to", defArgs s_steps_to, defBody s_steps_to, defScope s_steps_to, [], []⟩
def d_total_steps : He.DefD := ⟨("total_steps", none), "total_steps", "total_steps", defArgs s_total_steps, defBody s_total_steps, defScope s_total_steps, [], []⟩
def d_least_totals : He.DefD := ⟨("least_totals", none), "least_totals", "least_totals", defArgs s_least_totals, defBody s_least_totals, defScope s_least_totals, [], []⟩
def d_most_of : He.DefD := ⟨("most_of", none), "most_of", "most_of", defArgs s_most_of, defBody s_most_of, defScope s_most_of, [], []⟩
def d_most_row : He.DefD := ⟨("most_row", none), "most_row", "most_row", defArgs s_most_row, defBody s_most_row, defScope s_most_row, [], []⟩
def d_law_taken : He.DefD := ⟨("_law_taken", none), "_law_taken", "_law_taken", defArgs s_law_taken, defBody s_law_taken, defScope s_law_taken, [], []⟩
def d_law_all_rules : He.DefD := ⟨("_law_all_rules", none), "_law_all_rules", "_law_all_rules", defArgs s_law_all_rules, defBody s_law_all_rules, defScope s_law_all_rules, [], []⟩
def d_law_pick : He.DefD := ⟨("_law_pick", none), "_law_pick", "_law_pick", defArgs s_law_pick, defBody s_law_pick, defScope s_law_pick, [], []⟩
def d_law_rows : He.DefD := ⟨("_law_rows", none), "_law_rows", "_law_rows", defArgs s_law_rows, defBody s_law_rows, defScope s_law_rows, [], []⟩
def d_law_keeps : He.DefD := ⟨("_law_keeps", none), "_law_keeps", "_law_keeps", defArgs s_law_keeps, defBody s_law_keeps, defScope s_law_keeps, [], []⟩
def d_law_some_rules : He.DefD := ⟨("_law_some_rules", none), "_law_some_rules", "_law_some_rules", defArgs s_law_some_rules, defBody s_law_some_rules, defScope s_law_some_rules, [], []⟩
def d_law_kept : He.DefD := ⟨("_law_kept", none), "_law_kept", "_law_kept", defArgs s_law_kept, defBody s_law_kept, defScope s_law_kept, [], []⟩
def d_law_good_rules : He.DefD := ⟨("_law_good_rules", none), "_law_good_rules", "_law_good_rules", defArgs s_law_good_rules, defBody s_law_good_rules, defScope s_law_good_rules, [], []⟩
def d_law_votes : He.DefD := ⟨("_law_votes", none), "_law_votes", "_law_votes", defArgs s_law_votes, defBody s_law_votes, defScope s_law_votes, [], []⟩
def d_law_alike : He.DefD := ⟨("_law_alike", none), "_law_alike", "_law_alike", defArgs s_law_alike, defBody s_law_alike, defScope s_law_alike, [], []⟩
def d_law_most : He.DefD := ⟨("_law_most", none), "_law_most", "_law_most", defArgs s_law_most, defBody s_law_most, defScope s_law_most, [], []⟩
def d_law_apart : He.DefD := ⟨("_law_apart", none), "_law_apart", "_law_apart", defArgs s_law_apart, defBody s_law_apart, defScope s_law_apart, [], []⟩
def d_law_told : He.DefD := ⟨("_law_told", none), "_law_told", "_law_told", defArgs s_law_told, defBody s_law_told, defScope s_law_told, [], []⟩
def d_law : He.DefD := ⟨("law", none), "law", "law", defArgs s_law, defBody s_law, defScope s_law, [], []⟩
def fnA : List He.DefD := [dI, d_is_from, d_is_want_of, d_off, d_is_rule_of, d_need_rules, d_is_row_of, d_need_row, d_has, d_is_kept, d_are_kept, d_keeps, d_all_rows, d_kept_rows, d_need_kept, d_unlike, d_need_votes, d_need_odd]
def fnB : List He.DefD := [d_steps_to, d_total_steps, d_least_totals, d_most_of, d_most_row, d_law_taken, d_law_all_rules, d_law_pick, d_law_rows, d_law_keeps, d_law_some_rules, d_law_kept, d_law_good_rules, d_law_votes, d_law_alike, d_law_most, d_law_apart, d_law_told, d_law]
def fn : List He.DefD := fnA ++ fnB
def faA : List He.Fa := [.free "isinstance", .free "int", .free "bool", .free "tuple", .free "list", .free "str", .free "len", .free "all", .free "sum", .free "abs", .free "zip", .free "range", .free "enumerate", .free "min", .free "sorted", .free "set", .int "MOST_PLACES" 8, .int "MOST_VOTES" 15, .glo "Rules", .cls "Rules", .noat "Rules" "wide", .noat "Rules" "told", .mkr "Rules", .glo "EvenVotes", .exc "EvenVotes", .exm "EvenVotes" "EvenVotes" true]
def faB : List He.Fa := [.glo "is_from", .glo "is_want_of", .glo "off", .glo "is_rule_of", .glo "need_rules", .glo "is_row_of", .glo "need_row", .glo "has", .glo "is_kept", .glo "are_kept", .glo "keeps", .glo "all_rows", .glo "kept_rows", .glo "need_kept", .glo "unlike", .glo "need_votes", .glo "need_odd", .glo "steps_to"]
def faC : List He.Fa := [.glo "total_steps", .glo "least_totals", .glo "most_of", .glo "most_row", .glo "_law_taken", .glo "_law_all_rules", .glo "_law_pick", .glo "_law_rows", .glo "_law_keeps", .glo "_law_some_rules", .glo "_law_kept", .glo "_law_good_rules", .glo "_law_votes", .glo "_law_alike", .glo "_law_most", .glo "_law_apart", .glo "_law_told", .glo "law"]
def fa : List He.Fa := faA ++ (faB ++ faC)
def nmA : List PySem.Str := ["RowError", "BadMany", "BadRules", "NoRules", "BadRow", "NotKept", "BadVotes", "EvenVotes", "MOST_PLACES", "is_from", "is_want_of", "off", "is_rule_of", "Rules", "need_rules", "is_row_of", "need_row", "has", "is_kept", "are_kept", "keeps", "all_rows"]
def nmB : List PySem.Str := ["kept_rows", "need_kept", "unlike", "MOST_VOTES", "need_votes", "need_odd", "steps_to", "total_steps", "least_totals", "most_of", "most_row", "_law_taken", "_law_all_rules", "_law_pick", "_law_rows", "_law_keeps", "_law_some_rules", "_law_kept", "_law_good_rules", "_law_votes", "_law_alike", "_law_most", "_law_apart", "_law_told"]
def nms : List PySem.Str := nmA ++ nmB
abbrev R : PySem.W.OpenRow := PySem.W.OpenLaw.row PySem.Challenge.rw_middlerows_k03_whole_rows_of_most
abbrev AlX : Type := He.AlD × Bool
def obsX (K : PySem.W.Frag) : AlX := (He.obsD fa fn K, insB K "Rules")
def valX : AlX := (He.valD fn, true)
def obsXG (g : Addr → Option Obj) : AlX := obsX (He.frG g (He.asD g 5))
def hk : PySem.W.Hook where
  α := AlX
  obs := fun s => obsXG s.heap.get?
  val := fun _ => valX
  says := fun _ h => ∃ K : PySem.W.Frag, K.In h ∧ obsX K = valX
  of := fun _ _ e => ⟨_, He.frG_in, e⟩
  keeps := fun _ _ _ ⟨K, hK, c⟩ k => ⟨K, PySem.W.Frag.In.keeps hK k, c⟩
def ob (s : PySem.W.SharedT) : AlX := obsXG (HandSHeadRun.getT s)
theorem ob_eq (s : PySem.W.SharedT) : ob s = hk.obs s.abs := by
  have e : HandSHeadRun.getT s = s.abs.heap.get? := funext (HandSHeadRun.getT_eq s)
  show obsXG (HandSHeadRun.getT s) = obsXG s.abs.heap.get?
  rw [e]
theorem run (w : World) : HandSHeadRun.RunEq R (PySem.W.view R.prog [51]) hk ob 4000 nms w := by
  intro os
  kernel_rfl
end MR

set_option Elab.async false
set_option linter.all false
set_option maxRecDepth 100000
set_option maxHeartbeats 4000000
/-! for i, x in enumerate(t), t a tuple -/
namespace MR
open PySem PySem.Spec PyProof.Rows L2
open AutoSeq1 (wpAny_loadPart')
theorem cls_apart {h : Heap} {a b : Addr} {x y : Obj} (ha : h.get? a = some x) (hb : h.get? b = some y) (hc : x.cls ≠ y.cls) : a ≠ b := by
  rintro rfl
  exact hc (congrArg Obj.cls (Option.some.inj (ha.symm.trans hb)))
abbrev tupIt (t : Addr) : Obj := { cls := .type "tuple_iterator", data := .fields #[.ref t, .int 0 0] }
abbrev enumObj (it : Addr) : Obj := { cls := .type "enumerate", data := .fields #[.none, .bool false, .ref it, rawInt 0, .none, .none] }
section
variable {P : Program} {w : World} {A : Around} {E : Value → Shared → Prop} {s : Shared}
/-- the items that a tuple's iterator draws -/
theorem tup_draws (calm : A.handled = none) {it t : Addr} (apart : t ≠ it) (vs : Array Value) : Draws P w A it [it, t] vs.size (fun i v => vs[i]? = some v) (fun i h => h.IsTupleIter it t i ∧ h.IsTuple t vs) where
  live := fun _ _ c => c.1.elim fun o z => ⟨o, z.1⟩
  frame := fun _ _ _ c k => ⟨c.1.at (k it List.mem_cons_self), c.2.elim fun o z => ⟨o, k t (by simp) o z.1, z.2⟩⟩
  item := fun i _ _ _ lt c q => RZ.nextOf_tuple_item c.1 c.2 (Array.getElem?_eq_getElem lt) fun h' it' same =>
    q _ h' _ (Array.getElem?_eq_getElem lt) ⟨it', c.2.elim fun o z => ⟨o, same.extBut _ _ apart z.1, z.2⟩⟩ same
  done := fun _ _ _ c e => RZ.nextOf_tuple_end calm c.1 c.2 (Array.getElem?_eq_none (Nat.le_refl _)) e
theorem enum_starts (t : Addr) (vs : Array Value) (n : Nat) (dc : Option Addr) (sl : Array (Option Value)) : Meets (Builtin.«enumerate.__new__» ⟨[.type "enumerate", .ref t], []⟩) (fun _ R s =>
    s.heap.get? t = some { cls := .type "tuple", dict := dc, data := .seq vs n, slots := sl } ∧ R (.ok (.ret (.ref (s.heap.push (tupIt t)).objs.size))) { s with heap := (s.heap.push (tupIt t)).push (enumObj s.heap.objs.size) }) :=
  .of_wp fun prog w A R s h => by
    rcases s with ⟨hp, gs, dr, tk, os⟩
    rcases h with ⟨at_t, fin⟩
    have isT : Heap.IsTuple (Shared.heap ⟨hp, gs, dr, tk, os⟩) t vs := ⟨_, at_t, rfl, n, rfl⟩
    have sub := sub_enumerate
    wp_walk using wpAny_loadPart' at_t
    refine wpAny_stack_any fun _ => wpAny_pure ?_
    split
    · rename_i c _ _ _ _ _
      rcases Bool.eq_false_or_eq_true (c == Value.type "enumerate") with z | z <;> rw [z] <;> (wp_walk using wpAny_loadPart' at_t, wpAny_pyIter_tuple isT) <;> exact ⟨_, rfl, fin⟩
    · wp_walk using wpAny_loadPart' at_t, wpAny_pyIter_tuple isT
      exact ⟨_, rfl, fin⟩
/-- enumerate(t): its iterator, then itself, are new -/
theorem enum_of {t : Addr} {vs : Array Value} {Q : Value → Shared → Prop} (isT : s.heap.IsTuple t vs)
    (q : ∀ h', IsEnum h' (s.heap.objs.size + 1) s.heap.objs.size 0 .none → h'.IsTupleIter s.heap.objs.size t 0 → (∀ b o, s.heap.get? b = some o → h'.get? b = some o) → Q (.ref (s.heap.objs.size + 1)) { s with heap := h' }) : wpAny (model P w) A (call (.type "enumerate") [.ref t]) Q E s := by
  obtain ⟨⟨_, dc, _, sl⟩, at_t, rfl, n, rfl⟩ := isT
  have one : (s.heap.push (tupIt t)).objs.size = s.heap.objs.size + 1 := Heap.size_push ..
  have it0 : ((s.heap.push (tupIt t)).push (enumObj s.heap.objs.size)).get? s.heap.objs.size = some (tupIt t) := Heap.get?_push_of_some _ (Heap.get?_push_size _ rfl)
  have en0 : ((s.heap.push (tupIt t)).push (enumObj s.heap.objs.size)).get? (s.heap.objs.size + 1) = some (enumObj s.heap.objs.size) := by
    rw [← one]
    exact Heap.get?_push_size _ rfl
  refine callType_new F.called_enumerate (by decide) (F.typeCall_enumerate_1 _) (F.newCall_enumerate_1 _) (fun o => F.args_object_init_2 o _) F.entry_enumerate_new (enum_starts t vs n dc sl) ⟨at_t, ?_⟩
  simp only [one]
  exact ⟨⟨_, en0, rfl⟩, q _ en0 ⟨_, it0, rfl, rfl⟩ fun b o e => Heap.get?_push_of_some _ (Heap.get?_push_of_some _ e)⟩
end
/-- the tuple at a, each item in a new pair -/
def IteT (K : PySem.W.Frag) (a : Addr) : It where
  go := fun i H => ∃ (xs : List V) (x : V), SqT K H a xs ∧ xs[i]? = some x
  yld := fun i H v H' => ∃ T x, v = .ref T ∧ H T = none ∧ H' = upd H T (.tup [.int (i : Nat), x]) ∧ ∀ xs, SqT K H a xs → xs[i]? = some x
  stop := fun i H => ∃ xs : List V, SqT K H a xs ∧ xs.length = i
/-- the enumerate at e before its i-th turn, its iterator at it over the tuple at a -/
structure EnS (a e it : Addr) (i : Nat) (h : Heap) : Prop where
  en : ∃ old, IsEnum h e it ((i : Nat) : Int) old
  src : h.IsTupleIter it a i
  ne : e ≠ it
section
variable {P : Program} {w : World} {K : PySem.W.Frag} {elts : List Expr} {kk : Nat} {tpos : Pos} {a e it : Addr}
theorem EnS.stays {i : Nat} {h h' : Heap} (c : EnS a e it i h) (k : ∀ b, b ∈ [e, it] → ∀ o, h.get? b = some o → h'.get? b = some o) : EnS a e it i h' :=
  ⟨c.en.elim fun x z => ⟨x, k e (by simp) _ z⟩, c.src.at (k it (by simp)), c.ne⟩
theorem EnS.plain {i : Nat} {h : Heap} (c : EnS a e it i h) : ∀ b, b ∈ [e, it] → ∃ o, h.get? b = some o ∧ ∀ v, o.data ≠ .cell v := fun b hb => by
  obtain ⟨x, z⟩ := c.en
  obtain ⟨o, ho, _, hd⟩ := c.src
  rcases List.mem_cons.mp hb with rfl | hb
  · exact ⟨_, z, fun _ y => by cases y⟩
  · cases List.mem_singleton.mp hb
    exact ⟨o, ho, fun _ y => by rw [hd] at y; cases y⟩
theorem EnS.apart {i : Nat} {h : Heap} {vs : Array Value} (c : EnS a e it i h) (t : h.IsTuple a vs) : a ≠ it ∧ e ∉ [it, a] := by
  obtain ⟨x, z⟩ := c.en
  obtain ⟨o, ho, hc, _⟩ := c.src
  obtain ⟨o2, ho2, hc2, _⟩ := t
  refine ⟨cls_apart ho2 ho (by rw [hc, hc2]; decide), fun m => ?_⟩
  rcases List.mem_cons.mp m with y | m
  · exact c.ne y
  · exact cls_apart z ho2 (by rw [hc2]; show Value.type "enumerate" ≠ Value.type "tuple"; decide) (List.mem_singleton.mp m)
theorem turn_enumT (a e it : Addr) : Turn P w K (.Tuple elts kk tpos) (IteT K a) [e, it] e (EnS a e it) where
  mem := List.mem_cons_self
  obj := fun _ _ c => c.plain
  keep := fun _ _ _ c k => c.stays k
  item := by
    rintro X rfl rfl rfl calm i pins s σ H E I own c ⟨xs, x, at_a, hx⟩
    obtain ⟨vs, rel, isT, _⟩ := I.tuple at_a
    obtain ⟨u, hu, ru⟩ := rel.get hx
    obtain ⟨ne1, ne2⟩ := c.apart isT
    obtain ⟨old, en⟩ := c.en
    have hu2 : vs.toArray[i]? = some u := by simpa using hu
    have below : ∀ b, b ∈ [e, it] → b < s.heap.objs.size := fun b hb => (c.plain b hb).elim fun _ z => Heap.lt_size z.1
    refine wpAny_pyNext_enum_itemD (tup_draws (P := X.prog) (w := X.w) (A := X.A.in1) (I.ok.hd calm) ne1 vs.toArray) en ⟨c.src, isT⟩ (Array.getElem?_eq_some_iff.mp hu2).1 c.ne ne2 fun u' h1 tk got out st1 laid _ other => ?_
    obtain rfl : u' = u := Option.some.inj (got.symm.trans hu2)
    refine ⟨_, rfl, wpAny_letOwnedTupleGo_enum (s := { s with heap := h1, toks := tk + 1 }) out fun h2 en2 same => ?_⟩
    have pair : ObjOk X.prog X.w (upd H s.heap.objs.size (.tup [.int (i : Nat), x])) h2 s.heap.objs.size (.tup [.int (i : Nat), x]) :=
      ⟨by show 2 ≤ sizeLine; decide, _, .cons ⟨_, rfl⟩ (.cons ru .nil), _, (same.2 _ (Nat.ne_of_gt (below e (by simp)))).trans laid, rfl, _, rfl⟩
    have kept : ∀ b o, b ∉ [e, it] → s.heap.get? b = some o → h2.get? b = some o := fun b o hb z => by
      have h1e : b ≠ e := fun y => hb (by simp [y])
      have h2e : b ≠ it := fun y => hb (by simp [y])
      exact (same.2 b h1e).trans (other b o h1e h2e z)
    have next : EnS a e it (i + 1) h2 := ⟨⟨u', by rw [Int.natCast_add]; exact en2⟩, st1.1.at fun o z => (same.2 it c.ne.symm).trans z, c.ne⟩
    exact ⟨.ref s.heap.objs.size, _, I.turnedNew (t' := tk + 1) kept own (Nat.le_refl _) pair, rfl, ⟨_, x, rfl, I.hok.fresh (Nat.le_refl _), rfl, fun ys hy => I.tuple_inj hy at_a ▸ hx⟩, next, fun b hb => (upd_ne (Nat.ne_of_lt (below b hb))).trans (own b hb).1⟩
  done := by
    rintro X rfl rfl rfl calm i pins s σ H E I own c ⟨xs, at_a, rfl⟩
    obtain ⟨vs, rel, isT, _⟩ := I.tuple at_a
    obtain ⟨old, en⟩ := c.en
    obtain ⟨o0, o1, _, o3, o4, o5⟩ := own it (by simp)
    have size : vs.toArray.size = xs.length := by rw [List.size_toArray, rel.length]
    refine wpAny_pyNext_enum_endD (tup_draws (P := X.prog) (w := X.w) (A := X.A.in1) (I.ok.hd calm) (c.apart isT).1 vs.toArray) en ⟨by rw [size]; exact c.src, isT⟩ fun h1 same => ⟨rfl, ?_⟩
    exact I.turned (t' := s.toks) (fun b o hb z => same b o hb z) o0 o1 o3 o4 o5
  self := fun _ _ _ _ _ c q => c.en.elim fun _ z => wpAny_pyIter_enum z q
end
def iEnumT (K : PySem.W.Frag) (ta : TA) : TI := fun σ H R => ta σ H fun vs H1 => ∃ a xs, vs = [.ref a] ∧ SqT K H1 a xs ∧ R (IteT K a) H1
theorem pi_enumT {X : Cx} {e : Expr} {ta : TA} {p pos tpos : Pos} {elts : List Expr} {kk : Nat} (hg : Gl X "enumerate") (hm : X.mg "enumerate" = none) (ha : PA X [e] ta) (hs : starEach [e] X.env = [(false, eval e X.env)] := by rfl) :
    PI X (.Tuple elts kk tpos) (.Call (.Name "enumerate" p) [e] [] pos) (iEnumT X.K ta) := ⟨fun pins s σ H R I h => by
  refine Call_ (ld_blt I hg hm boot_enumerate (PyProof.Rows.callWith_type1 (thn (ha.run pos pins s σ H _ I h) fun us s1 z => ?_) hs rfl))
  obtain ⟨_, H1, I1, rel, a, xs, rfl, at_a, q⟩ := z
  obtain ⟨u, rfl, ru⟩ := vals1 rel
  cases (show u = Value.ref a from ru)
  obtain ⟨vs, _, isT, _⟩ := I1.tuple at_a
  refine enum_of isT fun h2 en it0 kept => wpAny_pyIter_enum en ⟨s1.heap.objs.size + 1, [s1.heap.objs.size + 1, s1.heap.objs.size], _, _, H1, rfl, I1.kept (t' := s1.toks) kept, turn_enumT a _ _, ⟨⟨.none, en⟩, it0, Nat.succ_ne_self _⟩, fun b hb => ?_, q⟩
  have young : s1.heap.objs.size ≤ b := by
    rcases List.mem_cons.mp hb with rfl | hb
    · exact Nat.le_succ _
    · exact Nat.le_of_eq (List.mem_singleton.mp hb).symm
  exact I1.fpOk young (I1.hok.fresh young)⟩
theorem walk_enumT {K : PySem.W.Frag} {a : Addr} {xs : List V} : Walk (IteT K a) xs.length (fun H => SqT K H a xs) (YPair (fun i => some (.int (i : Nat))) (fun i => xs[i]?)) where
  goes := fun _ _ lt q => ⟨xs, _, q, List.getElem?_eq_getElem lt⟩
  stops := fun _ q => ⟨xs, q, rfl⟩
  yields := fun i _ _ _ _ q ⟨T, x, e1, e2, e3, e4⟩ => ⟨T, .int (i : Nat), x, e1, e2, e3, rfl, e4 xs q⟩
end MR

set_option Elab.async false
set_option linter.all false
set_option maxRecDepth 100000
set_option maxHeartbeats 4000000
/-! zip(*rows), rows some tuples: each turn a new tuple of one item of each -/
namespace MR
open PySem PySem.Spec PyProof.Rows L2
/-- a zip at z of the iterators in the tuple at TI, its own tuple at TO; f0: what it has given out -/
abbrev ZipAt (h : Heap) (z TI TO : Addr) (f0 : Value) (f : Bool) : Prop :=
  h.get? z = some { cls := .type "zip", dict := none, data := .fields #[f0, .bool f, .bool false, .ref TI, .ref TO], slots := #[] }
abbrev SeqAtT (h : Heap) (T : Addr) (vs : Array Value) : Prop := h.get? T = some { cls := .type "tuple", data := .seq vs }
theorem typeCall_zip (vs : List Value) : checkTypeCall "zip" ⟨vs, []⟩ = pure () := by kernel_rfl
theorem newCall_zip : ∀ vs : List Value, 1 ≤ vs.length → vs.length ≤ 15 → checkBuiltinCall "zip.__new__" ⟨.type "zip" :: vs, []⟩ = pure ()
  | [], h, _ => absurd h (by decide)
  | [_], _, _ => by kernel_rfl
  | [_, _], _, _ => by kernel_rfl
  | [_, _, _], _, _ => by kernel_rfl
  | [_, _, _, _], _, _ => by kernel_rfl
  | [_, _, _, _, _], _, _ => by kernel_rfl
  | [_, _, _, _, _, _], _, _ => by kernel_rfl
  | [_, _, _, _, _, _, _], _, _ => by kernel_rfl
  | [_, _, _, _, _, _, _, _], _, _ => by kernel_rfl
  | [_, _, _, _, _, _, _, _, _], _, _ => by kernel_rfl
  | [_, _, _, _, _, _, _, _, _, _], _, _ => by kernel_rfl
  | [_, _, _, _, _, _, _, _, _, _, _], _, _ => by kernel_rfl
  | [_, _, _, _, _, _, _, _, _, _, _, _], _, _ => by kernel_rfl
  | [_, _, _, _, _, _, _, _, _, _, _, _, _], _, _ => by kernel_rfl
  | [_, _, _, _, _, _, _, _, _, _, _, _, _, _], _, _ => by kernel_rfl
  | [_, _, _, _, _, _, _, _, _, _, _, _, _, _, _], _, _ => by kernel_rfl
  | _ :: _ :: _ :: _ :: _ :: _ :: _ :: _ :: _ :: _ :: _ :: _ :: _ :: _ :: _ :: _ :: _, _, h => absurd h (by simp only [List.length_cons]; omega)
theorem args_init (a : Value) (vs : List Value) : argsOk "object.__init__" ⟨a :: vs, []⟩ := by
  unfold argsOk; rw [signature?_of (id := "object.__init__") (n := ['_', '_', 't', 'i', 'n', 'i', '_', '_']) (o := ['t', 'c', 'e', 'j', 'b', 'o']) (by kernel_rfl) F.owner_object]; kernel_rfl
def F0 (v : Value) : Prop := v = .none ∨ v = .ellipsis ∨ ∃ T : Nat, v = rawInt T
def itRefs (N n : Nat) : List Value := (List.range n).map fun j => Value.ref (N + j)
section
variable {prog : Program} {w : World} {A : Around} {E : Value → Shared → Prop} {s : Shared}
theorem zip_free {z TI TO : Addr} {f0 : Value} {f : Bool} {Q : Bool → Shared → Prop} (hz : ZipAt s.heap z TI TO f0 f) (h0 : F0 f0)
    (h : ∀ b h' f', ZipAt h' z TI TO f0 f' → Heap.SameBut z s.heap h' → Q b { s with heap := h' }) : wpAny (model prog w) A (Builtin.SmallTypes.ownedTupleIsFree (.ref z)) Q E s := by
  unfold Builtin.SmallTypes.ownedTupleIsFree
  refine wpAny_bind (wpAny_field hz rfl (x := f0) rfl ?_)
  rcases h0 with rfl | rfl | ⟨T, rfl⟩
  · exact wpAny_pure (h true s.heap f hz (Heap.SameBut.refl _ _))
  · exact wpAny_pure (h false s.heap f hz (Heap.SameBut.refl _ _))
  · show wpAny _ _ (loadIfAlive ((T : Int).toNat) >>= _) _ _ _
    rw [Int.toNat_natCast]
    have al : ∀ {Q' : Option Obj → Shared → Prop}, Q' (s.heap.get? T) s → wpAny (model prog w) A (loadIfAlive T) Q' E s := fun h' => fun _ _ _ => h'
    have asked : (Value.bool f != Value.bool true) = !f := by cases f <;> rfl
    refine wpAny_bind (al ?_)
    rcases s.heap.get? T with _ | _ <;> simp only [Option.isNone_none, Option.isNone_some, Bool.false_eq_true, ↓reduceIte]
    · exact wpAny_pure (h true s.heap f hz (Heap.SameBut.refl _ _))
    · refine wpAny_bind (wpAny_field hz (x := .bool f) rfl rfl ?_)
      rw [asked]
      rcases f with _ | _
      · exact wpAny_bind (wpAny_setField_rec hz (by simp) fun h₁ hz₁ hs₁ => wpAny_pure (h false h₁ true hz₁ hs₁))
      · exact wpAny_pure (h false s.heap true hz (Heap.SameBut.refl _ _))
/-- the state amid a turn: the first k iterators have gone on -/
structure ZL (h0 h : Heap) (N n i : Nat) (as : List Addr) (us : List Value) (own : Bool) (k : Nat) : Prop where
  zo : ∃ f0 f, ZipAt h (N + n + 2) (N + n) (N + n + 1) f0 f ∧ F0 f0
  ti : SeqAtT h (N + n) (itRefs N n).toArray
  to_ : ∃ kept, SeqAtT h (N + n + 1) kept ∧ kept.size = n ∧ (own = true → ∀ j, j < k → kept[j]? = us[j]?)
  itd : ∀ (j : Nat) (a : Addr), j < n → as[j]? = some a → h.IsTupleIter (N + j) a (if j < k then i + 1 else i)
  keep : ∀ c o, c ≠ N + n + 2 → c ≠ N + n + 1 → (∀ j, j < n → c ≠ N + j) → h0.get? c = some o → h.get? c = some o
  sz : h.objs.size = h0.objs.size
theorem upd_pair {T : Addr} {kept : Array Value} {x : Value} {k : Nat} {Q : Unit → Shared → Prop} (hT : SeqAtT s.heap T kept) (hz : kept.size ≤ 100000)
    (h : ∀ h', SeqAtT h' T (kept.setIfInBounds k x) → Heap.SameBut T s.heap h' → Q () { s with heap := h' }) :
    wpAny (model prog w) A (updateSeq T (·.setIfInBounds k x)) Q E s := by
  have hline : kept.size ≤ sizeLine := Nat.le_trans hz (by rw [sizeLine_eq]; decide)
  refine wpAny_updateSeq hT rfl (h _ ?_ (Heap.SameBut.update ..)) hline (by rw [Array.size_setIfInBounds]; omega)
  show (s.heap.update T (Obj.mapSeq fun y => y.setIfInBounds k x)).get? T = _
  rw [Heap.get?_update_self _ hT rfl]
  simp [Obj.mapSeq]
theorem ZL.adv {h0 h h' : Heap} {N n i k : Nat} {as : List Addr} {us : List Value} {own : Bool} {a : Addr} (Z : ZL h0 h N n i as us own k) (hk : k < n) (ha : as[k]? = some a) (hit : h'.IsTupleIter (N + k) a (i + 1)) (sb : Heap.SameBut (N + k) h h') : ZL h0 h' N n i as us false (k + 1) where
  zo := by
    obtain ⟨f0, f, hz, h0'⟩ := Z.zo
    exact ⟨f0, f, (sb.2 (N + n + 2) (by show (_ : Nat) ≠ _; omega)).trans hz, h0'⟩
  ti := (sb.2 (N + n) (by show (_ : Nat) ≠ _; omega)).trans Z.ti
  to_ := by
    obtain ⟨kept, hT, hz, _⟩ := Z.to_
    exact ⟨kept, (sb.2 (N + n + 1) (by show (_ : Nat) ≠ _; omega)).trans hT, hz, fun q => by cases q⟩
  itd := fun j b hj hb => by
    by_cases e : j = k
    · subst e
      rw [ha] at hb
      rw [← Option.some.inj hb, if_pos (by omega)]
      exact hit
    · have q := Z.itd j b hj hb
      have e2 : (if j < k + 1 then i + 1 else i) = (if j < k then i + 1 else i) := by
        by_cases c : j < k
        · rw [if_pos c, if_pos (by omega)]
        · rw [if_neg c, if_neg (by omega)]
      rw [e2]
      exact q.at fun o ho => (sb.2 (N + j) (by show (_ : Nat) ≠ _; omega)).trans ho
  keep := fun c o c1 c2 c3 e => (sb.2 c (c3 k hk)).trans (Z.keep c o c1 c2 c3 e)
  sz := sb.1.trans Z.sz
theorem ZL.put {h0 h h' : Heap} {N n i k : Nat} {as : List Addr} {us : List Value} {kept : Array Value} {x : Value} (Z : ZL h0 h N n i as us false (k + 1)) (hk : k < n) (hz : kept.size = n) (hp : ∀ j, j < k → kept[j]? = us[j]?) (hx : us[k]? = some x)
    (hT : SeqAtT h' (N + n + 1) (kept.setIfInBounds k x)) (sb : Heap.SameBut (N + n + 1) h h') : ZL h0 h' N n i as us true (k + 1) where
  zo := by
    obtain ⟨f0, f, hz, h0'⟩ := Z.zo
    exact ⟨f0, f, (sb.2 (N + n + 2) (by show (_ : Nat) ≠ _; omega)).trans hz, h0'⟩
  ti := (sb.2 (N + n) (by show (_ : Nat) ≠ _; omega)).trans Z.ti
  to_ := by
    refine ⟨_, hT, by rw [Array.size_setIfInBounds]; exact hz, fun _ j hj => ?_⟩
    by_cases e : j = k
    · subst e
      rw [Array.getElem?_setIfInBounds_self_of_lt (by omega), hx]
    · rw [Array.getElem?_setIfInBounds_ne (by omega)]
      exact hp j (by omega)
  itd := fun j b hj hb => (Z.itd j b hj hb).at fun o ho => (sb.2 (N + j) (by show (_ : Nat) ≠ _; omega)).trans ho
  keep := fun c o c1 c2 c3 e => (sb.2 c c2).trans (Z.keep c o c1 c2 c3 e)
  sz := sb.1.trans Z.sz
theorem ZL.zset {h0 h h' : Heap} {N n i k : Nat} {as : List Addr} {us : List Value} {own : Bool} {f0 : Value} {f : Bool} (Z : ZL h0 h N n i as us own k) (hz : ZipAt h' (N + n + 2) (N + n) (N + n + 1) f0 f) (q : F0 f0) (sb : Heap.SameBut (N + n + 2) h h') : ZL h0 h' N n i as us own k where
  zo := ⟨f0, f, hz, q⟩
  ti := (sb.2 (N + n) (by show (_ : Nat) ≠ _; omega)).trans Z.ti
  to_ := by
    obtain ⟨kept, hT, hz, hp⟩ := Z.to_
    exact ⟨kept, (sb.2 (N + n + 1) (by show (_ : Nat) ≠ _; omega)).trans hT, hz, hp⟩
  itd := fun j b hj hb => (Z.itd j b hj hb).at fun o ho => (sb.2 (N + j) (by show (_ : Nat) ≠ _; omega)).trans ho
  keep := fun c o c1 c2 c3 e => (sb.2 c c1).trans (Z.keep c o c1 c2 c3 e)
  sz := sb.1.trans Z.sz
theorem zip_ix (N n : Nat) : (itRefs N n).zipIdx = (List.range' 0 n).map fun j => (Value.ref (N + j), j) := by
  unfold itRefs
  rw [List.range_eq_range']
  refine List.ext_getElem (by simp) fun j h1 h2 => ?_
  simp
theorem lt3 {a N : Nat} (n : Nat) (h : a < N) : a ≠ N + n + 2 ∧ a ≠ N + n + 1 ∧ ∀ j, a ≠ N + j := ⟨by omega, by omega, fun j => by omega⟩
theorem src_at {N n i k : Nat} {as : List Addr} {us : List Value} {own : Bool} {h0 h : Heap} (Z : ZL h0 h N n i as us own k) (hn : as.length = n) (hk : k < n) (hlt : ∀ a, a ∈ as → a < N) (hsrc : ∀ (j : Nat) (a : Addr), as[j]? = some a → ∃ arr, h0.IsTuple a arr ∧ arr[i]? = us[j]?) (hus : us.length = n) :
    ∃ a arr x, as[k]? = some a ∧ h.IsTuple a arr ∧ arr[i]? = some x ∧ us[k]? = some x ∧ h.IsTupleIter (N + k) a i := by
  have ha : as[k]? = some (as[k]'(by omega)) := List.getElem?_eq_getElem (by omega)
  have hu : us[k]? = some (us[k]'(by omega)) := List.getElem?_eq_getElem (by omega)
  obtain ⟨arr, hT, e⟩ := hsrc k _ ha
  have hm := lt3 n (hlt _ (List.mem_of_getElem? ha))
  refine ⟨_, arr, _, ha, ?_, e.trans hu, hu, ?_⟩
  · obtain ⟨o, ho, r⟩ := hT
    exact ⟨o, Z.keep _ o hm.1 hm.2.1 (fun j _ => hm.2.2 j) ho, r⟩
  · have q := Z.itd k _ hk ha
    rw [if_neg (Nat.lt_irrefl _)] at q
    exact q
theorem zipN_next_item {N n i : Nat} {as : List Addr} {us : List Value} {Q : Value → Shared → Prop} (hn : as.length = n) (h1 : 1 ≤ n) (hn2 : n ≤ 100000) (hus : us.length = n) (hlt : ∀ a, a ∈ as → a < N)
    (hZ : ZL s.heap s.heap N n i as us false 0) (hsrc : ∀ (j : Nat) (a : Addr), as[j]? = some a → ∃ arr, s.heap.IsTuple a arr ∧ arr[i]? = us[j]?)
    (hQ : ∀ h', (∃ f0 f, ZipAt h' (N + n + 2) (N + n) (N + n + 1) f0 f ∧ F0 f0) → SeqAtT h' (N + n) (itRefs N n).toArray → (∃ kept, SeqAtT h' (N + n + 1) kept ∧ kept.size = n) →
      (∀ (j : Nat) (a : Addr), j < n → as[j]? = some a → h'.IsTupleIter (N + j) a (i + 1)) → SeqAtT h' s.heap.objs.size us.toArray → 
      (∀ c o, c ≠ N + n + 2 → c ≠ N + n + 1 → (∀ j, j < n → c ≠ N + j) → s.heap.get? c = some o → h'.get? c = some o) → Q (.ref s.heap.objs.size) { s with heap := h' }) :
    wpAny (model prog w) A (Builtin.«zip.__next__» ⟨[.ref (N + n + 2)], []⟩) (fun fin s' => ∃ v, fin = .done (.ret v) ∧ Q v s') E s := by
  obtain ⟨f0, f, hz, h0⟩ := hZ.zo
  have hTI := hZ.ti
  show wpAny _ _ (field (.ref (N + n + 2)) 2 >>= _) _ _ _
  refine wpAny_bind (wpAny_field hz rfl (x := .bool false) rfl ?_)
  show wpAny _ _ (field (.ref (N + n + 2)) 3 >>= _) _ _ _
  refine wpAny_bind (wpAny_field hz rfl (x := .ref (N + n)) rfl ?_)
  refine wpAny_bind (wpAny_seqItems hTI rfl ?_)
  have hne : (itRefs N n).toArray.isEmpty = false := by
    unfold itRefs
    cases n with
    | zero => omega
    | succ m => simp
  simp only [hne, Bool.false_eq_true, if_false]
  show wpAny _ _ (Builtin.SmallTypes.ownedTupleIsFree (.ref (N + n + 2)) >>= _) _ _ _
  refine wpAny_bind (zip_free hz h0 fun b h₁ f' hz₁ hs₁ => ?_)
  cases b with
  | true =>
    simp only [if_true]
    have Z1 := hZ.zset hz₁ h0 hs₁
    refine wpAny_bind (wpAny_rule ?_)
    refine wpAny_bind (wpAny_field hz₁ rfl (x := .ref (N + n + 1)) rfl ?_)
    refine wpAny_bind (wpAny_setField_rec hz₁ (by simp) fun h₂ hz₂ hs₂ => ?_)
    replace hz₂ : ZipAt h₂ (N + n + 2) (N + n) (N + n + 1) .ellipsis f' := hz₂
    have Z2 := Z1.zset hz₂ (.inr (.inl rfl)) hs₂
    have Z2' : ZL s.heap h₂ N n i as us true 0 := ⟨Z2.zo, Z2.ti, let ⟨kept, a, b, _⟩ := Z2.to_; ⟨kept, a, b, fun _ j hj => absurd hj (Nat.not_lt_zero _)⟩, Z2.itd, Z2.keep, Z2.sz⟩
    refine wpAny_bind ?_
    rw [zip_ix]
    refine wpAny_forIn_list _ (fun rest b s' => b.1 = none ∧ ∃ k m h, k + m = n ∧ rest = (List.range' k m).map (fun j => (Value.ref (N + j), j)) ∧ s' = { s with heap := h } ∧ ZL s.heap h N n i as us true k) _ ?_ ?_ _ _ ⟨rfl, 0, n, h₂, by omega, rfl, rfl, Z2'⟩
    · rintro x rest b s' ⟨hb, k, m, h, hkm, hr, rfl, Z⟩
      cases m with
      | zero => cases hr
      | succ m =>
        rw [List.range'_succ, List.map_cons] at hr
        injection hr with e1 e2
        subst e1 e2
        have hk : k < n := by omega
        obtain ⟨a, arr, y, ha, hT, hy, hu, hit⟩ := src_at Z hn hk hlt hsrc hus
        refine wpAny_bind (wpAny_onRaise ?_)
        show wpAny _ _ (Builtin.SmallTypes.nextOf (.ref (N + k)) >>= _) _ _ _
        refine wpAny_bind (RZ.nextOf_tuple_item (s := { s with heap := h }) hit hT hy fun h₃ hit₃ hs₃ => wpAny_pure ?_)
        obtain ⟨kept, hTO, hks, hkp⟩ := Z.to_
        have Z3 := Z.adv hk ha hit₃ hs₃
        have hTO₃ : SeqAtT h₃ (N + n + 1) kept := (hs₃.2 (N + n + 1) (by show (_ : Nat) ≠ _; omega)).trans hTO
        refine wpAny_bind (wpAny_seqItems hTO₃ rfl ?_)
        refine wpAny_bind (upd_pair (s := { s with heap := h₃ }) hTO₃ (by omega) fun h₄ hTO₄ hs₄ => ?_)
        refine wpAny_bind (wpAny_letGo (wpAny_pure ?_))
        exact ⟨rfl, k + 1, m, h₄, by omega, rfl, rfl, Z3.put hk hks (hkp rfl) hu hTO₄ hs₄⟩
    · rintro ⟨b1, b2⟩ s' ⟨hb, k, m, h, hkm, hr, rfl, Z⟩
      have hm : m = 0 := by
        cases m with
        | zero => rfl
        | succ m => cases hr
      have hb' : b1 = none := hb
      subst hb' hm
      have hkn : k = n := by omega
      subst hkn
      obtain ⟨kept, hTO, hks, hkp⟩ := Z.to_
      have hke : kept.toList = us := by
        refine List.ext_getElem? fun j => ?_
        rcases Nat.lt_or_ge j k with c | c
        · rw [Array.getElem?_toList]; exact hkp rfl j c
        · rw [List.getElem?_eq_none (by rw [Array.length_toList]; omega), List.getElem?_eq_none (by omega)]
      dsimp only
      refine wpAny_bind (wpAny_seqItems hTO rfl ?_)
      dsimp only
      rw [hke]
      have hline : us.length ≤ sizeLine := by rw [hus, sizeLine_eq]; omega
      refine wpAny_bind (wpAny_newTuple ?_ hline)
      obtain ⟨f2, f3, hz₅, hf5⟩ := Z.zo
      have hsz : h.objs.size = s.heap.objs.size := Z.sz
      refine wpAny_bind ?_
      show wpAny _ _ (Builtin.SmallTypes.ownedTupleHandOut (.ref (N + k + 2)) (.ref h.objs.size)) _ _ _
      unfold Builtin.SmallTypes.ownedTupleHandOut
      have hz₆ : ZipAt (h.push { cls := .type "tuple", data := .seq us.toArray }) (N + k + 2) (N + k) (N + k + 1) f2 f3 := Heap.get?_push_of_some _ hz₅
      refine wpAny_bind (wpAny_setField_rec hz₆ (by simp) fun h₇ hz₇ hs₇ => ?_)
      replace hz₇ : ZipAt h₇ (N + k + 2) (N + k) (N + k + 1) (rawInt h.objs.size) f3 := hz₇
      refine wpAny_setField_rec hz₇ (by simp) fun h₈ hz₈ hs₈ => ?_
      replace hz₈ : ZipAt h₈ (N + k + 2) (N + k) (N + k + 1) (rawInt h.objs.size) false := hz₈
      have up : ∀ c o, c ≠ N + k + 2 → h.get? c = some o → h₈.get? c = some o := fun c o c1 e => hs₈.extBut _ _ c1 (hs₇.extBut _ _ c1 (Heap.get?_push_of_some _ e))
      have hzl : (N + k + 2 : Nat) < h.objs.size := Heap.lt_size hz₅
      refine wpAny_pure ⟨_, rfl, ?_⟩
      show Q (.ref h.objs.size) _
      rw [hsz] at hz₈ hzl ⊢
      refine hQ h₈ ⟨_, _, hz₈, .inr (.inr ⟨_, rfl⟩)⟩ (up _ _ (by show (_ : Nat) ≠ _; omega) Z.ti) ⟨kept, up _ _ (by show (_ : Nat) ≠ _; omega) hTO, hks⟩ (fun j a hj ha => ?_) ?_ fun c o c1 c2 c3 e => up c o c1 (Z.keep c o c1 c2 c3 e)
      · have q := Z.itd j a hj ha
        rw [if_pos hj] at q
        exact q.at fun o ho => up _ o (by show (_ : Nat) ≠ _; omega) ho
      · have g : (h.push { cls := .type "tuple", data := .seq us.toArray }).get? s.heap.objs.size = some { cls := .type "tuple", data := .seq us.toArray } := by
          rw [← hsz]
          exact Heap.get?_push_size _ rfl
        exact hs₈.extBut _ _ (by show (_ : Nat) ≠ _; omega) (hs₇.extBut _ _ (by show (_ : Nat) ≠ _; omega) g)
  | false =>
    simp only [Bool.false_eq_true, if_false]
    have Z1 := hZ.zset hz₁ h0 hs₁
    refine wpAny_bind ?_
    rw [← Array.forIn_toList]
    have el : (itRefs N n).toArray.toList = (List.range' 0 n).map fun j => Value.ref (N + j) := by
      unfold itRefs
      rw [List.range_eq_range']
    rw [el]
    refine wpAny_forIn_list _ (fun rest b s' => b.1 = none ∧ ∃ k m h, k + m = n ∧ rest = (List.range' k m).map (fun j => Value.ref (N + j)) ∧ s' = { s with heap := h } ∧ ZL s.heap h N n i as us false k ∧ b.2.toList = us.take k) _ ?_ ?_ _ _ ⟨rfl, 0, n, h₁, by omega, rfl, rfl, Z1, rfl⟩
    · rintro x rest b s' ⟨hb, k, m, h, hkm, hr, rfl, Z, hacc⟩
      cases m with
      | zero => cases hr
      | succ m =>
        rw [List.range'_succ, List.map_cons] at hr
        injection hr with e1 e2
        subst e1 e2
        have hk : k < n := by omega
        obtain ⟨a, arr, y, ha, hT, hy, hu, hit⟩ := src_at Z hn hk hlt hsrc hus
        refine wpAny_bind (wpAny_holding ?_)
        show wpAny _ _ (Builtin.SmallTypes.nextOf (.ref (N + k)) >>= _) _ _ _
        refine wpAny_bind (RZ.nextOf_tuple_item (s := { s with heap := h }) hit hT hy fun h₃ hit₃ hs₃ => wpAny_pure ?_)
        have Z3 := Z.adv hk ha hit₃ hs₃
        refine wpAny_pure ⟨rfl, k + 1, m, h₃, by omega, rfl, rfl, Z3, ?_⟩
        rw [Array.toList_push, hacc, List.take_add_one, hu]
        rfl
    · rintro ⟨b1, b2⟩ s' ⟨hb, k, m, h, hkm, hr, rfl, Z, hacc⟩
      have hm : m = 0 := by
        cases m with
        | zero => rfl
        | succ m => cases hr
      have hb' : b1 = none := hb
      subst hb' hm
      have hkn : k = n := by omega
      subst hkn
      have hacc' : b2.toList = us := by
        have q : b2.toList = us.take k := hacc
        rw [q, List.take_of_length_le (by omega)]
      dsimp only
      rw [hacc']
      have hline : us.length ≤ sizeLine := by rw [hus, sizeLine_eq]; omega
      refine wpAny_bind (wpAny_newTuple ?_ hline)
      have hsz : h.objs.size = s.heap.objs.size := Z.sz
      refine wpAny_pure ⟨_, rfl, ?_⟩
      show Q (.ref h.objs.size) _
      obtain ⟨f2, f3, hz₅, hf5⟩ := Z.zo
      obtain ⟨kept, hTO, hks, _⟩ := Z.to_
      rw [hsz]
      refine hQ _ ⟨f2, f3, Heap.get?_push_of_some _ hz₅, hf5⟩ (Heap.get?_push_of_some _ Z.ti) ⟨kept, Heap.get?_push_of_some _ hTO, hks⟩ (fun j a hj ha => ?_) ?_ fun c o c1 c2 c3 e => Heap.get?_push_of_some _ (Z.keep c o c1 c2 c3 e)
      · have q := Z.itd j a hj ha
        rw [if_pos hj] at q
        exact q.at fun o ho => Heap.get?_push_of_some _ ho
      · rw [← hsz]
        exact Heap.get?_push_size _ rfl
theorem zipN_next_end {N n i : Nat} {as : List Addr} {us : List Value} {Q : Fin → Shared → Prop} (hh : A.handled = none) (h1 : 1 ≤ n)
    (hZ : ZL s.heap s.heap N n i as us false 0) {a : Addr} {arr : Array Value} (ha : as[0]? = some a) (hlt : a < N) (hT : s.heap.IsTuple a arr) (hend : arr[i]? = none)
    (hE : ∀ h' e, (∀ c o, c ≠ N + n + 2 → c ≠ N + n + 1 → (∀ j, j < n → c ≠ N + j) → s.heap.get? c = some o → h'.get? c = some o) → (∃ o, h'.get? e = some o ∧ o.cls = .type "StopIteration") → E (.ref e) { s with heap := h' }) :
    wpAny (model prog w) A (Builtin.«zip.__next__» ⟨[.ref (N + n + 2)], []⟩) Q E s := by
  obtain ⟨f0, f, hz, h0⟩ := hZ.zo
  have hTI := hZ.ti
  show wpAny _ _ (field (.ref (N + n + 2)) 2 >>= _) _ _ _
  refine wpAny_bind (wpAny_field hz rfl (x := .bool false) rfl ?_)
  show wpAny _ _ (field (.ref (N + n + 2)) 3 >>= _) _ _ _
  refine wpAny_bind (wpAny_field hz rfl (x := .ref (N + n)) rfl ?_)
  refine wpAny_bind (wpAny_seqItems hTI rfl ?_)
  have hne : (itRefs N n).toArray.isEmpty = false := by
    unfold itRefs
    cases n with
    | zero => omega
    | succ m => simp
  simp only [hne, Bool.false_eq_true, if_false]
  have hm := lt3 n hlt
  obtain ⟨m, rfl⟩ : ∃ m, n = m + 1 := ⟨n - 1, by omega⟩
  show wpAny _ _ (Builtin.SmallTypes.ownedTupleIsFree (.ref (N + (m + 1) + 2)) >>= _) _ _ _
  refine wpAny_bind (zip_free hz h0 fun b h₁ f' hz₁ hs₁ => ?_)
  have Z1 := hZ.zset hz₁ h0 hs₁
  have it1 : h₁.IsTupleIter (N + 0) a i := by
    have q := Z1.itd 0 a (by omega) ha
    rw [if_neg (Nat.lt_irrefl _)] at q
    exact q
  have T1 : h₁.IsTuple a arr := let ⟨o, ho, r⟩ := hT; ⟨o, (hs₁.2 a hm.1).trans ho, r⟩
  cases b with
  | true =>
    simp only [if_true]
    refine wpAny_bind (wpAny_rule ?_)
    refine wpAny_bind (wpAny_field hz₁ rfl (x := .ref (N + (m + 1) + 1)) rfl ?_)
    refine wpAny_bind (wpAny_setField_rec hz₁ (by simp) fun h₂ hz₂ hs₂ => ?_)
    replace hz₂ : ZipAt h₂ (N + (m + 1) + 2) (N + (m + 1)) (N + (m + 1) + 1) .ellipsis f' := hz₂
    have it2 : h₂.IsTupleIter (N + 0) a i := it1.at fun o ho => (hs₂.2 (N + 0) (by show (_ : Nat) ≠ _; omega)).trans ho
    have T2 : h₂.IsTuple a arr := let ⟨o, ho, r⟩ := T1; ⟨o, (hs₂.2 a hm.1).trans ho, r⟩
    refine wpAny_bind ?_
    rw [zip_ix, List.range'_succ, List.map_cons, List.forIn_cons]
    refine wpAny_bind (wpAny_bind (wpAny_onRaise ?_))
    show wpAny _ _ (Builtin.SmallTypes.nextOf (.ref (N + 0)) >>= _) _ _ _
    refine wpAny_bind (RZ.nextOf_tuple_end (s := { s with heap := h₂ }) hh it2 T2 hend fun h₃ e hs₃ he => ?_)
    obtain ⟨oe, hoe, hce⟩ := he
    have hz₃ : ZipAt h₃ (N + (m + 1) + 2) (N + (m + 1)) (N + (m + 1) + 1) .ellipsis f' := hs₃ _ _ (by show (_ : Nat) ≠ _; omega) hz₂
    have hez : e ≠ N + (m + 1) + 2 := fun x => by subst x; rw [hz₃] at hoe; cases hoe; simp at hce
    exact wpAny_setField_rec hz₃ (by simp) fun h₄ _ hs₄ => hE h₄ e (fun c o c1 c2 c3 x => hs₄.extBut _ _ c1 (hs₃ _ _ (c3 0 (by omega)) (hs₂.extBut _ _ c1 (hs₁.extBut _ _ c1 x)))) ⟨oe, hs₄.extBut _ _ hez hoe, hce⟩
  | false =>
    simp only [Bool.false_eq_true, if_false]
    refine wpAny_bind ?_
    rw [← Array.forIn_toList]
    have el : (itRefs N (m + 1)).toArray.toList = (List.range' 0 (m + 1)).map fun j => Value.ref (N + j) := by
      unfold itRefs
      rw [List.range_eq_range']
    rw [el, List.range'_succ, List.map_cons, List.forIn_cons]
    refine wpAny_bind (wpAny_bind (wpAny_holding ?_))
    show wpAny _ _ (Builtin.SmallTypes.nextOf (.ref (N + 0)) >>= _) _ _ _
    refine wpAny_bind (RZ.nextOf_tuple_end (s := { s with heap := h₁ }) hh it1 T1 hend fun h₃ e hs₃ he => ?_)
    exact hE h₃ e (fun c o c1 c2 c3 x => hs₃ _ _ (c3 0 (by omega)) (hs₁.extBut _ _ c1 x)) he
/-- what zip(*rows) leaves -/
structure ZMade (h0 h' : Heap) (N n : Nat) (as : List Addr) : Prop where
  zo : ZipAt h' (N + n + 2) (N + n) (N + n + 1) .none false
  ti : SeqAtT h' (N + n) (itRefs N n).toArray
  to_ : ∃ kept, SeqAtT h' (N + n + 1) kept ∧ kept.size = n
  itd : ∀ (j : Nat) (a : Addr), j < n → as[j]? = some a → h'.IsTupleIter (N + j) a 0
  keep : ∀ c o, h0.get? c = some o → h'.get? c = some o
structure ZPre (h0 h : Heap) (N k : Nat) (as : List Addr) : Prop where
  sz : h.objs.size = N + k
  itd : ∀ (j : Nat) (a : Addr), j < k → as[j]? = some a → h.IsTupleIter (N + j) a 0
  keep : ∀ c o, h0.get? c = some o → h.get? c = some o
theorem meets_zipN (as : List Addr) (N n : Nat) (hn : as.length = n) (hn2 : n ≤ 100000) :
    Meets (Builtin.«zip.__new__» ⟨.type "zip" :: as.map Value.ref, []⟩) (fun _ R s => s.heap.objs.size = N ∧ (∀ a, a ∈ as → ∃ items, s.heap.IsTuple a items) ∧
      ∀ h', ZMade s.heap h' N n as → R (.ok (.ret (.ref (N + n + 2)))) { s with heap := h' }) :=
  .of_wp fun prog w A R s h => by
    obtain ⟨hp, g, d, tk, os⟩ := s; obtain ⟨hN, hl, h⟩ := h
    have hsub := sub_zip
    wp_walk using wpAny_forIn_list _ (fun rest (b : Array Value) s' => ∃ k m hk, k + m = n ∧ rest = (as.drop k).map Value.ref ∧ s' = ⟨hk, g, d, tk, os⟩ ∧ b.toList = itRefs N k ∧ ZPre hp hk N k as) _
    case turn =>
      rintro x rest b s ⟨k, m, hk, hkm, hr, rfl, hb, Z⟩
      cases e : as.drop k with
      | nil => rw [e] at hr; cases hr
      | cons a as' =>
        rw [e, List.map_cons] at hr
        injection hr with e1 e2
        subst e1 e2
        have hkl : k < as.length := by
          rcases Nat.lt_or_ge k as.length with c | c
          · exact c
          · rw [List.drop_of_length_le c] at e; cases e
        have ha : as[k]? = some a := by
          have q := congrArg (fun l : List Addr => l[0]?) e
          simpa using q
        have e3 : as.drop (k + 1) = as' := by
          have q := congrArg (fun l : List Addr => l.drop 1) e
          simpa using q
        obtain ⟨items, hT⟩ := hl a (List.mem_of_getElem? ha)
        have hT' : hk.IsTuple a items := let ⟨o, ho, r⟩ := hT; ⟨o, Z.keep _ _ ho, r⟩
        refine wpAny_bind (wpAny_holding (wpAny_pyIter_tuple (s := ⟨hk, g, d, tk, os⟩) hT' (wpAny_pure ?_)))
        refine ⟨k + 1, m - 1, _, by omega, by rw [e3], rfl, ?_, ?_⟩
        · rw [Array.toList_push, hb]
          show itRefs N k ++ [Value.ref hk.objs.size] = itRefs N (k + 1)
          rw [Z.sz]
          unfold itRefs
          rw [List.range_succ, List.map_append]
          rfl
        · refine ⟨by rw [Heap.size_push, Z.sz]; omega, fun j b' hj hb' => ?_, fun c o ho => Heap.get?_push_of_some _ (Z.keep c o ho)⟩
          by_cases ej : j = k
          · subst ej
            rw [ha] at hb'
            have eb := Option.some.inj hb'
            subst eb
            refine ⟨{ cls := .type "tuple_iterator", data := .fields #[.ref a, .int 0 0] }, ?_, rfl, rfl⟩
            rw [← Z.sz]
            exact Heap.get?_push_size _ rfl
          · exact (Z.itd j b' (by omega) hb').at fun o ho => Heap.get?_push_of_some _ ho
    case fin =>
      rintro b s ⟨k, m, hk, hkm, hr, rfl, hb, Z⟩
      have hkl : as.length ≤ k := by
        rcases Nat.lt_or_ge k as.length with c | c
        · rw [List.drop_eq_getElem_cons c] at hr; cases hr
        · exact c
      have ek : k = n := by omega
      subst ek
      dsimp only
      refine wpAny_pure ?_
      rw [hb]
      have l1 : (itRefs N k).length ≤ sizeLine := by
        unfold itRefs
        rw [List.length_map, List.length_range, sizeLine_eq]
        omega
      refine wpAny_bind (wpAny_newTuple ?_ l1)
      refine wpAny_bind (wpAny_newTuple ?_ (by rw [List.length_map]; exact l1))
      show wpAny _ _ (newObj (.type "zip") (.fields #[.none, .bool false, .bool false, .ref _, .ref _]) >>= _) _ _ _
      refine wpAny_bind (wpAny_newObj_type ?_ (by size_fits))
      have z1 : (hk.push { cls := .type "tuple", data := .seq (itRefs N k).toArray }).objs.size = N + k + 1 := by rw [Heap.size_push, Z.sz]
      have z2 : ((hk.push { cls := .type "tuple", data := .seq (itRefs N k).toArray }).push { cls := .type "tuple", data := .seq ((itRefs N k).map fun _ => Value.none).toArray }).objs.size = N + k + 2 := by rw [Heap.size_push, z1]
      refine wpAny_pure ⟨_, rfl, ?_⟩
      dsimp only
      rw [z2]
      refine h _ ⟨?_, ?_, ⟨((itRefs N k).map fun _ => Value.none).toArray, ?_, ?_⟩, fun j a hj ha => ?_, fun c o ho => ?_⟩
      · have q := Heap.get?_push_size ((hk.push { cls := .type "tuple", data := .seq (itRefs N k).toArray }).push { cls := .type "tuple", data := .seq ((itRefs N k).map fun _ => Value.none).toArray }) (o := { cls := .type "zip", dict := none, data := .fields #[.none, .bool false, .bool false, .ref (N + k), .ref (N + k + 1)], slots := #[] }) rfl
        rw [z2] at q
        rw [Z.sz, z1]
        exact q
      · have q := Heap.get?_push_size hk (o := { cls := .type "tuple", data := .seq (itRefs N k).toArray }) rfl
        rw [Z.sz] at q
        exact Heap.get?_push_of_some _ (Heap.get?_push_of_some _ q)
      · have q := Heap.get?_push_size (hk.push { cls := .type "tuple", data := .seq (itRefs N k).toArray }) (o := { cls := .type "tuple", data := .seq ((itRefs N k).map fun _ => Value.none).toArray }) rfl
        rw [z1] at q
        exact Heap.get?_push_of_some _ q
      · unfold itRefs
        simp
      · exact (Z.itd j a hj ha).at fun o ho => Heap.get?_push_of_some _ (Heap.get?_push_of_some _ (Heap.get?_push_of_some _ ho))
      · exact Heap.get?_push_of_some _ (Heap.get?_push_of_some _ (Heap.get?_push_of_some _ (Z.keep c o ho)))
    case h =>
      exact ⟨0, n, hp, by omega, rfl, rfl, rfl, hN, fun j a hj _ => absurd hj (Nat.not_lt_zero _), fun c o ho => ho⟩
theorem call_zipN {as : List Addr} {n : Nat} {Q : Value → Shared → Prop} (hn : as.length = n) (h1 : 1 ≤ n) (h15 : n ≤ 15) (hl : ∀ a, a ∈ as → ∃ items, s.heap.IsTuple a items)
    (h : ∀ h', ZMade s.heap h' s.heap.objs.size n as → Q (.ref (s.heap.objs.size + n + 2)) { s with heap := h' }) : wpAny (model prog w) A (call (.type "zip") (as.map Value.ref)) Q E s := by
  refine callType_new F.called_zip (by decide) (typeCall_zip _) (newCall_zip _ (by rw [List.length_map]; omega) (by rw [List.length_map]; omega)) (fun obj => args_init obj _) F.entry_zip_new
    (meets_zipN as s.heap.objs.size n hn (by omega)) ⟨rfl, hl, fun h' Z => ?_⟩
  exact ⟨⟨_, Z.zo, rfl⟩, h h' Z⟩
theorem pyNext_zipN_item {N n i : Nat} {as : List Addr} {us : List Value} {Q : Option Value → Shared → Prop} (hn : as.length = n) (h1 : 1 ≤ n) (hn2 : n ≤ 100000) (hus : us.length = n) (hlt : ∀ a, a ∈ as → a < N)
    (hZ : ZL s.heap s.heap N n i as us false 0) (hsrc : ∀ (j : Nat) (a : Addr), as[j]? = some a → ∃ arr, s.heap.IsTuple a arr ∧ arr[i]? = us[j]?)
    (hQ : ∀ h', (∃ f0 f, ZipAt h' (N + n + 2) (N + n) (N + n + 1) f0 f ∧ F0 f0) → SeqAtT h' (N + n) (itRefs N n).toArray → (∃ kept, SeqAtT h' (N + n + 1) kept ∧ kept.size = n) →
      (∀ (j : Nat) (a : Addr), j < n → as[j]? = some a → h'.IsTupleIter (N + j) a (i + 1)) → SeqAtT h' s.heap.objs.size us.toArray → 
      (∀ c o, c ≠ N + n + 2 → c ≠ N + n + 1 → (∀ j, j < n → c ≠ N + j) → s.heap.get? c = some o → h'.get? c = some o) → Q (some (.ref s.heap.objs.size)) { s with heap := h' }) :
    wpAny (model prog w) A (pyNext (.ref (N + n + 2))) Q E s := by
  obtain ⟨f0, f, hz, _⟩ := hZ.zo
  have hT : s.TypeIs (.ref (N + n + 2)) "zip" := ⟨_, hz, rfl⟩
  unfold pyNext
  exact wpAny_bind (wpAny_attempt (wpAny_callSpecial?_slot (name := Str.ofString "__next__") hT F.slot_zip_next
    (wpAny_call_entry F.slot_zip_next hT F.entry_zip_next
      (zipN_next_item hn h1 hn2 hus hlt hZ hsrc fun h' a1 a2 a3 a4 a5 a6 => wpAny_pure (hQ h' a1 a2 a3 a4 a5 a6)) (F.args_zip_next_1 _))))
theorem pyNext_zipN_end {N n i : Nat} {as : List Addr} {us : List Value} {Q : Option Value → Shared → Prop} (hh : A.handled = none) (h1 : 1 ≤ n)
    (hZ : ZL s.heap s.heap N n i as us false 0) {a : Addr} {arr : Array Value} (ha : as[0]? = some a) (hlt : a < N) (hT : s.heap.IsTuple a arr) (hend : arr[i]? = none)
    (hQ : ∀ h', (∀ c o, c ≠ N + n + 2 → c ≠ N + n + 1 → (∀ j, j < n → c ≠ N + j) → s.heap.get? c = some o → h'.get? c = some o) → Q none { s with heap := h' }) : wpAny (model prog w) A (pyNext (.ref (N + n + 2))) Q E s := by
  obtain ⟨f0, f, hz, _⟩ := hZ.zo
  have hTy : s.TypeIs (.ref (N + n + 2)) "zip" := ⟨_, hz, rfl⟩
  unfold pyNext
  refine wpAny_bind (wpAny_attempt (wpAny_callSpecial?_slot (name := Str.ofString "__next__") hTy F.slot_zip_next
    (wpAny_call_entry F.slot_zip_next hTy F.entry_zip_next (zipN_next_end (A := A.in1) hh h1 hZ ha hlt hT hend fun h' e hk he => ?_) (F.args_zip_next_1 _))))
  obtain ⟨o, ho, hc⟩ := he
  refine wpAny_bind (wpAny_isInstance (T := "StopIteration") (b := true) ⟨o, ho, hc⟩ isSubtype_stop ?_)
  exact wpAny_pure (hQ _ hk)
theorem pyIter_zipN {z TI TO : Addr} {f0 : Value} {f : Bool} {Q : Value → Shared → Prop} (hz : ZipAt s.heap z TI TO f0 f) (h : Q (.ref z) s) : wpAny (model prog w) A (pyIter (.ref z)) Q E s := by
  have hT : s.TypeIs (.ref z) "zip" := ⟨_, hz, rfl⟩
  refine wpAny_pyIter_slot hT F.slot_zip_iter (wpAny_call_entry F.slot_zip_iter hT F.entry_zip_iter ?_ (F.args_zip_iter_1 _))
  show wpAny _ _ (ret (.ref z)) _ _ s
  exact wpAny_pure ⟨_, rfl, "zip", _, hT, F.slot_zip_next.lookup, h⟩
end
/-- the tuples at as; each turn gives a new tuple of one item of each -/
def ItzN (K : PySem.W.Frag) (as : List Addr) : It :=
  ⟨fun i H => ∀ a, a ∈ as → ∃ xs, SqT K H a xs ∧ i < xs.length,
    fun i H v H' => ∃ T ys, v = .ref T ∧ H T = none ∧ H' = upd H T (.tup ys) ∧ ys.length = as.length ∧ ∀ (j : Nat) (a : Addr), as[j]? = some a → ∀ xs, SqT K H a xs → ys[j]? = xs[i]?,
    fun i H => ∀ a, as[0]? = some a → ∃ xs, SqT K H a xs ∧ xs.length ≤ i⟩
def fpZ (N n : Nat) : List Addr := (N + n + 2) :: (N + n) :: (N + n + 1) :: (List.range n).map fun j => N + j
theorem mem_fpZ {N n : Nat} {b : Addr} : b ∈ fpZ N n ↔ b = N + n + 2 ∨ b = N + n ∨ b = N + n + 1 ∨ ∃ j, j < n ∧ b = N + j := by
  unfold fpZ
  simp only [List.mem_cons, List.mem_map, List.mem_range]
  constructor
  · rintro (h | h | h | ⟨j, hj, e⟩)
    · exact .inl h
    · exact .inr (.inl h)
    · exact .inr (.inr (.inl h))
    · exact .inr (.inr (.inr ⟨j, hj, e.symm⟩))
  · rintro (h | h | h | ⟨j, hj, e⟩)
    · exact .inl h
    · exact .inr (.inl h)
    · exact .inr (.inr (.inl h))
    · exact .inr (.inr (.inr ⟨j, hj, e.symm⟩))
theorem pick_src {X : Cx} {pins : List (Addr × Obj)} {σ : L2.St} {H : Hp} {s : Shared} {i : Nat} (I : Inv X pins σ H s) : ∀ {as : List Addr}, (∀ a, a ∈ as → ∃ xs, SqT X.K H a xs ∧ i < xs.length) →
    ∃ (us : List Value) (ys : List V), us.length = as.length ∧ ys.length = as.length ∧ Vals ys us ∧ (∀ (j : Nat) (a : Addr), as[j]? = some a → ∃ arr, s.heap.IsTuple a arr ∧ arr[i]? = us[j]?) ∧ ∀ (j : Nat) (a : Addr), as[j]? = some a → ∀ xs, SqT X.K H a xs → ys[j]? = xs[i]?
  | [], _ => ⟨[], [], rfl, rfl, .nil, fun j a h => by simp at h, fun j a h => by simp at h⟩
  | a :: as, h => by
    obtain ⟨us, ys, l1, l2, r, h1, h2⟩ := pick_src I (as := as) fun b hb => h b (List.mem_cons_of_mem _ hb)
    obtain ⟨xs, hx, hi⟩ := h a List.mem_cons_self
    obtain ⟨its, rv, p, hz⟩ := I.tuple hx
    have hxi : xs[i]? = some (xs[i]) := List.getElem?_eq_getElem hi
    obtain ⟨u, hu, ru⟩ := rv.get hxi
    refine ⟨u :: us, xs[i] :: ys, by rw [List.length_cons, List.length_cons, l1], by rw [List.length_cons, List.length_cons, l2], .cons ru r, fun j b hj => ?_, fun j b hj zs hzs => ?_⟩
    · cases j with
      | zero =>
        have e : a = b := by simpa using hj
        subst e
        exact ⟨its.toArray, p, by simpa using hu⟩
      | succ j => exact h1 j b (by simpa using hj)
    · cases j with
      | zero =>
        have e : a = b := by simpa using hj
        subst e
        rw [I.tuple_inj hzs hx]
        simp [hi]
      | succ j => simpa using h2 j b (by simpa using hj) zs hzs
theorem turn_zipN {P : Program} {w : World} {K : PySem.W.Frag} {x : Str} {xp : Pos} {as : List Addr} {N n : Nat} (hn : as.length = n) (h1 : 1 ≤ n) (hn2 : n ≤ 100000) (hlt : ∀ a, a ∈ as → a < N) :
    Turn P w K (.Name x xp) (ItzN K as) (fpZ N n) (N + n + 2) (fun i h => (∃ f0 f, ZipAt h (N + n + 2) (N + n) (N + n + 1) f0 f ∧ F0 f0) ∧ SeqAtT h (N + n) (itRefs N n).toArray ∧ (∃ kept, SeqAtT h (N + n + 1) kept ∧ kept.size = n) ∧
      ∀ (j : Nat) (a : Addr), j < n → as[j]? = some a → h.IsTupleIter (N + j) a i) where
  mem := mem_fpZ.mpr (.inl rfl)
  obj := fun i h st b hb => by
    obtain ⟨⟨f0, f, hz, _⟩, hTI, ⟨kept, hTO, _⟩, hit⟩ := st
    rcases mem_fpZ.mp hb with rfl | rfl | rfl | ⟨j, hj, rfl⟩
    · exact ⟨_, hz, fun v q => nomatch q⟩
    · exact ⟨_, hTI, fun v q => nomatch q⟩
    · exact ⟨_, hTO, fun v q => nomatch q⟩
    · have ha : as[j]? = some (as[j]'(by omega)) := List.getElem?_eq_getElem (by omega)
      obtain ⟨o, e1, _, d1⟩ := hit j _ hj ha
      exact ⟨o, e1, fun v q => by rw [d1] at q; cases q⟩
  keep := fun i h h' st k => by
    obtain ⟨⟨f0, f, hz, h0⟩, hTI, ⟨kept, hTO, hk⟩, hit⟩ := st
    refine ⟨⟨f0, f, k _ (mem_fpZ.mpr (.inl rfl)) _ hz, h0⟩, k _ (mem_fpZ.mpr (.inr (.inl rfl))) _ hTI, ⟨kept, k _ (mem_fpZ.mpr (.inr (.inr (.inl rfl)))) _ hTO, hk⟩, fun j a hj ha => (hit j a hj ha).at fun o q => k _ (mem_fpZ.mpr (.inr (.inr (.inr ⟨j, hj, rfl⟩)))) _ q⟩
  item := by
    intro X hP hw hK hc i pins s σ H E I hf st hg
    subst hP hw hK
    obtain ⟨⟨f0, f, hz, h0⟩, hTI, ⟨kept, hTO, hk⟩, hit⟩ := st
    obtain ⟨us, ys, l1, l2, rv, h3, h4⟩ := pick_src I hg
    have Z : ZL s.heap s.heap N n i as us false 0 := ⟨⟨f0, f, hz, h0⟩, hTI, ⟨kept, hTO, hk, fun q => by cases q⟩, fun j a hj ha => by rw [if_neg (Nat.not_lt_zero _)]; exact hit j a hj ha, fun _ _ _ _ _ e => e, rfl⟩
    have hzl : (N + n + 2 : Nat) < s.heap.objs.size := Heap.lt_size hz
    refine pyNext_zipN_item hn h1 hn2 (l1.trans hn) hlt Z h3 fun h' a1 a2 a3 a4 a5 a6 => ?_
    refine ⟨_, rfl, wpAny_pure ?_⟩
    have new : ObjOk X.prog X.w (upd H s.heap.objs.size (.tup ys)) h' s.heap.objs.size (.tup ys) :=
      ⟨by rw [l2, hn, sizeLine_eq]; omega, us, rv, ⟨_, a5, rfl, _, rfl⟩⟩
    have I1 : Inv X pins σ (upd H s.heap.objs.size (.tup ys)) { s with heap := h' } :=
      I.turnedNew (t' := s.toks) (ch := fpZ N n) (fun c o hb q => a6 c o (fun e => hb (mem_fpZ.mpr (.inl e))) (fun e => hb (mem_fpZ.mpr (.inr (.inr (.inl e))))) (fun j hj e => hb (mem_fpZ.mpr (.inr (.inr (.inr ⟨j, hj, e⟩))))) q) hf (Nat.le_refl _) new
    refine ⟨.ref s.heap.objs.size, _, I1, rfl, ⟨_, ys, rfl, I.hok.fresh (Nat.le_refl _), rfl, l2, h4⟩, ⟨a1, a2, a3, a4⟩, fun c hcm => ?_⟩
    have hne : c ≠ s.heap.objs.size := by
      rcases mem_fpZ.mp hcm with rfl | rfl | rfl | ⟨j, hj, rfl⟩
      · show (_ : Nat) ≠ _; omega
      · show (_ : Nat) ≠ _; omega
      · show (_ : Nat) ≠ _; omega
      · show (_ : Nat) ≠ _; omega
    rw [upd_ne hne]
    exact (hf c hcm).1
  done := by
    intro X hP hw hK hc i pins s σ H E I hf st hg
    subst hP hw hK
    obtain ⟨⟨f0, f, hz, h0⟩, hTI, ⟨kept, hTO, hk⟩, hit⟩ := st
    have Z : ZL s.heap s.heap N n i as [] false 0 := ⟨⟨f0, f, hz, h0⟩, hTI, ⟨kept, hTO, hk, fun q => by cases q⟩, fun j a hj ha => by rw [if_neg (Nat.not_lt_zero _)]; exact hit j a hj ha, fun _ _ _ _ _ e => e, rfl⟩
    have ha : as[0]? = some (as[0]'(by omega)) := List.getElem?_eq_getElem (by omega)
    obtain ⟨xs, hx, hi⟩ := hg _ ha
    obtain ⟨its, rv, p, _⟩ := I.tuple hx
    have lr := rv.length
    exact pyNext_zipN_end (I.ok.hd hc) h1 Z ha (hlt _ (List.mem_of_getElem? ha)) (show s.heap.IsTuple _ its.toArray from p) (by simp; omega) fun h' hk' => ⟨rfl, I.turnedL (t' := s.toks) (ch := fpZ N n) (fun c o hb q =>
      hk' c o (fun e => hb (mem_fpZ.mpr (.inl e))) (fun e => hb (mem_fpZ.mpr (.inr (.inr (.inl e))))) (fun j hj e => hb (mem_fpZ.mpr (.inr (.inr (.inr ⟨j, hj, e⟩))))) q) hf⟩
  self := fun A i s Q E st h => by
    obtain ⟨⟨f0, f, hz, _⟩, _⟩ := st
    exact pyIter_zipN hz h
/-- zip(*y), y a tuple of tuples -/
def iZipN (K : PySem.W.Frag) (te : TE) : TI := fun σ H R => te σ H fun y H1 => ∃ (a : Addr) (as : List Addr), y = V.ref a ∧ SqT K H1 a (as.map V.ref) ∧ 1 ≤ as.length ∧ as.length ≤ 15 ∧ (∀ b, b ∈ as → ∃ xs, SqT K H1 b xs) ∧ R (ItzN K as) H1
theorem vals_refs' : ∀ {as : List Addr} {us : List Value}, Vals (as.map V.ref) us → us = as.map Value.ref
  | [], _, .nil => rfl
  | a :: as, _, .cons r t => by
    cases (show _ = Value.ref a from r)
    rw [vals_refs' t]
    rfl
theorem pi_zipN {X : Cx} {e : Expr} {te : TE} {x : Str} {xp p sp pos : Pos} (hg : Gl X "zip") (hm : X.mg "zip" = none) (he : PE X e te)
    (hst : starEach [.Starred e sp] X.env = [(true, eval e X.env)] := by rfl) :
    PI X (.Name x xp) (.Call (.Name "zip" p) [.Starred e sp] [] pos) (iZipN X.K te) := by
  refine ⟨fun pins s σ H R I h => ?_⟩
  refine Call_ (ld_blt I hg hm PyProof.Rows.boot_zip ?_)
  rw [hst]
  refine PySem.W.ks_call (P := fun _ => True) rfl (fun _ _ => ⟨Keeper.machine, .inr (.inl rfl), PySem.W.Looks.of_pure rfl⟩) (PySem.W.ks_lone (thn (he.run pins s σ H _ I h) fun v s1 ⟨y, H1, I1, ry, a, as, ey, hx, l1, l15, hxs, q⟩ => ?_))
  subst ey
  obtain rfl : v = Value.ref a := ry
  refine StX.star_any I1 (.inl hx) fun us s2 I2 rv => ⟨trivial, ?_⟩
  have eu := vals_refs' rv
  subst eu
  have hsrc : ∀ b, b ∈ as → ∃ items, s2.heap.IsTuple b items := fun b hb => by
    obtain ⟨xs, hq⟩ := hxs b hb
    obtain ⟨its, _, p, _⟩ := I2.tuple hq
    exact ⟨_, p⟩
  refine call_zipN (n := as.length) rfl l1 l15 hsrc fun h' Z => pyIter_zipN Z.zo ?_
  have I3 : Inv X pins σ H1 { s2 with heap := h' } := I2.kept (t' := s2.toks) Z.keep
  refine ⟨s2.heap.objs.size + as.length + 2, fpZ s2.heap.objs.size as.length, _, _, H1, rfl, I3, turn_zipN rfl l1 (by omega) fun b hb => ?_, ⟨⟨_, _, Z.zo, .inl rfl⟩, Z.ti, Z.to_, Z.itd⟩, fun b hb => ?_, q⟩
  · obtain ⟨items, o, ho, _⟩ := hsrc b hb
    exact Heap.lt_size ho
  · have hle : s2.heap.objs.size ≤ b := by
      rcases mem_fpZ.mp hb with rfl | rfl | rfl | ⟨j, hj, rfl⟩
      · show (_ : Nat) ≤ _; omega
      · show (_ : Nat) ≤ _; omega
      · show (_ : Nat) ≤ _; omega
      · show (_ : Nat) ≤ _; omega
    exact I2.fpOk hle (I2.hok.fresh hle)
/-- the walk: n turns where all tuples have n items -/
theorem walk_zipN {K : PySem.W.Frag} {as : List Addr} {n : Nat} {rows : Nat → List V} (h1 : 1 ≤ as.length) (hl : ∀ j, j < as.length → (rows j).length = n) :
    Walk (ItzN K as) n (fun H => ∀ (j : Nat) (a : Addr), as[j]? = some a → SqT K H a (rows j)) (fun i H v H' => ∃ T ys, v = .ref T ∧ H T = none ∧ H' = upd H T (.tup ys) ∧ ys.length = as.length ∧ ∀ j, j < as.length → ys[j]? = (rows j)[i]?) := by
  refine ⟨fun i H hi q a ha => ?_, fun H q a ha => ?_, fun i H v H' hi q y => ?_⟩
  · obtain ⟨j, hj, e⟩ := List.getElem_of_mem ha
    exact ⟨rows j, q j a (by rw [List.getElem?_eq_getElem hj, e]), by rw [hl j hj]; exact hi⟩
  · exact ⟨rows 0, q 0 a ha, by rw [hl 0 (by omega)]; exact Nat.le_refl _⟩
  · obtain ⟨T, ys, e1, e2, e3, e4, e5⟩ := y
    exact ⟨T, ys, e1, e2, e3, e4, fun j hj => e5 j (as[j]'hj) (List.getElem?_eq_getElem hj) _ (q j _ (List.getElem?_eq_getElem hj))⟩
end MR

set_option Elab.async false
set_option linter.all false
set_option maxRecDepth 100000
set_option maxHeartbeats 4000000
/-! Rows, wants, rules as they stand in the heap; a def by its promise; loops and comprehensions over walks. -/
namespace MR
open PySem PySem.Spec PyProof.Rows L2
/-! ### tuples stay -/
def Keep (H H' : Hp) : Prop := ∀ b xs, H b = some (.tup xs) → H' b = some (.tup xs)
theorem Keep.refl (H : Hp) : Keep H H := fun _ _ h => h
theorem Keep.trans {H H1 H2 : Hp} (a : Keep H H1) (b : Keep H1 H2) : Keep H H2 := fun c o h => b c o (a c o h)
theorem keep_of {H H' : Hp} (s : Same H H') : Keep H H' := fun b xs h => s b _ h
theorem same_new {H : Hp} {p : Addr} {o : HO} (hp : H p = none) : Same H (upd H p o) := fun b u e => by
  rw [upd_ne (ne_of_none e hp)]
  exact e
theorem keep_new {H : Hp} {p : Addr} {o : HO} (hp : H p = none) : Keep H (upd H p o) := keep_of (same_new hp)
theorem keep_lst {H : Hp} {l : Addr} {xs : List V} {o : HO} (h : H l = some (.lst xs)) : Keep H (upd H l o) := fun b ys e => by
  rw [upd_ne (ne_of e h (by intro z; cases z))]
  exact e
theorem same_seqT {K : PySem.W.Frag} {H H' : Hp} {a : Addr} {xs : List V} (e : Same H H') (h : SqT K H a xs) : SqT K H' a xs := by
  rcases h with (h | ⟨o, h⟩) | h
  · exact .inl (.inl (e _ _ h))
  · exact .inl (.inr ⟨o, e _ _ h⟩)
  · exact .inr h
/-! ### rows, wants, rules in the heap -/
def TupAt (H : Hp) (v : V) (xs : List V) : Prop := ∃ a, v = .ref a ∧ H a = some (.tup xs)
def RowAt (H : Hp) (v : V) (r : Row) : Prop := TupAt H v (r.map V.int)
def WantAt (H : Hp) (v : V) (w : Want) : Prop := TupAt H v [.int w.1, .int w.2]
def RuleAt (H : Hp) (v : V) (u : Rule) : Prop := ∃ a b, TupAt H v [a, b] ∧ WantAt H a u.1 ∧ WantAt H b u.2
theorem TupAt.keep {H H' : Hp} {v : V} {xs : List V} (k : Keep H H') (h : TupAt H v xs) : TupAt H' v xs := let ⟨a, e, q⟩ := h; ⟨a, e, k a xs q⟩
theorem RowAt.keep {H H' : Hp} {v : V} {r : Row} (k : Keep H H') (h : RowAt H v r) : RowAt H' v r := TupAt.keep k h
theorem WantAt.keep {H H' : Hp} {v : V} {w : Want} (k : Keep H H') (h : WantAt H v w) : WantAt H' v w := TupAt.keep k h
theorem RuleAt.keep {H H' : Hp} {v : V} {u : Rule} (k : Keep H H') (h : RuleAt H v u) : RuleAt H' v u := let ⟨a, b, h1, h2, h3⟩ := h; ⟨a, b, h1.keep k, h2.keep k, h3.keep k⟩
abbrev Each {α : Type} (P : V → α → Prop) : List V → List α → Prop := Paired P
theorem Each.mono {α : Type} {P Q : V → α → Prop} {vs : List V} {as : List α} (h : Each P vs as) (f : ∀ v a, P v a → Q v a) : Each Q vs as := Paired.mapP h f
theorem Each.get {α : Type} {P : V → α → Prop} : ∀ {vs : List V} {as : List α} {i : Nat} {v : V}, Each P vs as → vs[i]? = some v → ∃ a, as[i]? = some a ∧ P v a
  | _, _, _, _, .nil, e => by simp at e
  | _, _, 0, _, .cons r _, e => by simp at e; subst e; exact ⟨_, rfl, r⟩
  | _, _, i + 1, x, .cons _ t, e => by
    obtain ⟨u, h1, h2⟩ := Each.get (i := i) (v := x) t (by simpa using e)
    exact ⟨u, by simpa using h1, h2⟩
theorem Each.at {α : Type} {P : V → α → Prop} : ∀ {vs : List V} {as : List α} {i : Nat} {a : α}, Each P vs as → as[i]? = some a → ∃ v, vs[i]? = some v ∧ P v a
  | _, _, _, _, .nil, e => by simp at e
  | _, _, 0, _, .cons r _, e => by simp at e; subst e; exact ⟨_, rfl, r⟩
  | _, _, i + 1, x, .cons _ t, e => by
    obtain ⟨u, h1, h2⟩ := Each.at (i := i) (a := x) t (by simpa using e)
    exact ⟨u, by simpa using h1, h2⟩
theorem Each.app {α : Type} {P : V → α → Prop} : ∀ {vs ws : List V} {as bs : List α}, Each P vs as → Each P ws bs → Each P (vs ++ ws) (as ++ bs)
  | _, _, _, _, .nil, s => s
  | _, _, _, _, .cons r t, s => .cons r (Each.app t s)
theorem Each.one {α : Type} {P : V → α → Prop} {v : V} {a : α} (h : P v a) : Each P [v] [a] := .cons h .nil
theorem Each.snoc {α : Type} {P : V → α → Prop} {vs : List V} {as : List α} {v : V} {a : α} (h : Each P vs as) (q : P v a) : Each P (vs ++ [v]) (as ++ [a]) := Each.app h (.one q)
theorem Each.take {α : Type} {P : V → α → Prop} : ∀ {vs : List V} {as : List α} (n : Nat), Each P vs as → Each P (vs.take n) (as.take n)
  | _, _, 0, _ => .nil
  | _, _, _ + 1, .nil => .nil
  | _, _, n + 1, .cons r t => .cons r (Each.take n t)
theorem Each.drop {α : Type} {P : V → α → Prop} : ∀ {vs : List V} {as : List α} (n : Nat), Each P vs as → Each P (vs.drop n) (as.drop n)
  | _, _, 0, r => r
  | _, _, _ + 1, .nil => .nil
  | _, _, n + 1, .cons _ t => Each.drop n t
theorem Each.len {α : Type} {P : V → α → Prop} {vs : List V} {as : List α} (h : Each P vs as) : vs.length = as.length := Paired.length h
abbrev RowsAt (H : Hp) : List V → List Row → Prop := Each (RowAt H)
abbrev RulesAt (H : Hp) : List V → List Rule → Prop := Each (RuleAt H)
theorem RowsAt.keep {H H' : Hp} {vs : List V} {rs : List Row} (k : Keep H H') (h : RowsAt H vs rs) : RowsAt H' vs rs := Each.mono h fun _ _ q => q.keep k
theorem RulesAt.keep {H H' : Hp} {vs : List V} {rs : List Rule} (k : Keep H H') (h : RulesAt H vs rs) : RulesAt H' vs rs := Each.mono h fun _ _ q => q.keep k
/-- a tuple, a list of rows -/
def RowsT (H : Hp) (v : V) (rs : List Row) : Prop := ∃ vs, TupAt H v vs ∧ RowsAt H vs rs
def RowsL (H : Hp) (v : V) (rs : List Row) : Prop := ∃ a vs, v = .ref a ∧ H a = some (.lst vs) ∧ RowsAt H vs rs
def RulesT (H : Hp) (v : V) (us : List Rule) : Prop := ∃ vs, TupAt H v vs ∧ RulesAt H vs us
theorem RowsT.keep {H H' : Hp} {v : V} {rs : List Row} (k : Keep H H') (h : RowsT H v rs) : RowsT H' v rs := let ⟨vs, a, b⟩ := h; ⟨vs, a.keep k, b.keep k⟩
theorem RulesT.keep {H H' : Hp} {v : V} {rs : List Rule} (k : Keep H H') (h : RulesT H v rs) : RulesT H' v rs := let ⟨vs, a, b⟩ := h; ⟨vs, a.keep k, b.keep k⟩
theorem RowsL.same {H H' : Hp} {v : V} {rs : List Row} (k : Same H H') (h : RowsL H v rs) : RowsL H' v rs := let ⟨a, vs, e, q, b⟩ := h; ⟨a, vs, e, k _ _ q, b.keep (keep_of k)⟩
theorem row_get {r : Row} {k : Nat} (h : k < r.length) : (r.map V.int)[k]? = some (.int (at_ r k)) := by
  rw [List.getElem?_map, List.getElem?_eq_getElem h]
  unfold at_
  rw [List.getD_eq_getElem?_getD, List.getElem?_eq_getElem h]
  rfl
theorem row_at {r : Row} {p : Int} (h0 : 0 ≤ p) (h : p < (r.length : Int)) : atI (r.map V.int) p = some (.int (at_ r p.toNat)) := by
  have e : p = (p.toNat : Int) := by omega
  have z := atI_nat (row_get (r := r) (k := p.toNat) (by omega))
  rw [← e] at z
  exact z
theorem line_of {n : Nat} (h : n ≤ 1000000) : n ≤ sizeLine := by
  rw [sizeLine_eq]
  omega
theorem line_lt {n : Nat} (h : n ≤ 1000000) : n < sizeLine := by
  rw [sizeLine_eq]
  omega
/-! ### a def by its promise -/
abbrev Df (K : PySem.W.Frag) (mg : Str → Option Value) (x : Str) (st : Stmt) : Prop := ∃ f fd, mg x = some (.ref f) ∧ FunD K x x (defArgs st) (defBody st) (defScope st) [] [] f fd
/-- a def of the module that keeps its promise, by at most level k -/
structure Cal (P : Program) (w : World) (K : PySem.W.Frag) (mg : Str → Option Value) (base : Heap) (CX : CXT) (k : Nat) (x : Str) (sp : Sp) : Prop where
  ex : ∃ f fd ps, FnOk P w K mg base CX k f fd ps sp ∧ mg x = some (.ref f) ∧ PySem.W.keepIn K (.ref f) = true ∧ Binds K fd ps []
section
variable {P : Program} {w : World} {K : PySem.W.Frag} {mg : Str → Option Value} {base : Heap}
theorem cal_of {x : Str} {st : Stmt} {N ps : List Str} {k : Nat} {sp : Sp} (D : Df K mg x st) (S : FnScope N ps (defScope st))
    (hb : ∀ (kV doc pm : Value) (an : Option Addr) (cdv ct : Value) (us : List Value), us.length = ps.length → bindArgs (PySem.W.fnOf x x (defArgs st) (defBody st) (defScope st) .none kV doc pm an cdv ct) ⟨us, []⟩ = pure (ps.zip us))
    (len : ∀ vs H Q E, sp vs H Q E → vs.length = ps.length)
    (hbody : ∀ (f : Addr) (cdv : Value) (A : Around) (outer : List Env) (s : Shared) (H : Hp) (vs : List V) (Q : VK) (E : XK), Room k (A.deeper (envOfC x (defScope st) s.heap.objs.size f cdv)) → sp vs H Q E →
      ∃ t, PSs (cxOf CX0 P w K mg base N x (defScope st) f cdv A outer s H E).nox (defBody st) t ∧ t { nx := fun _ H' => Q .non H', rt := Q } (start N vs) H) : Cal P w K mg base CX0 (k + 1) x sp := by
  obtain ⟨f, fd, hm, F⟩ := D
  refine ⟨f, fd, ps, F.ok S len (fun cdv A outer s H vs Q E hr h => ?_), hm, F.kp, F.bindsN hb⟩
  obtain ⟨t, h1, h2⟩ := hbody f cdv A outer s H vs Q E hr h
  exact ⟨t, h1.nox, h2⟩
theorem cal_ofX {x : Str} {st : Stmt} {N ps : List Str} {k : Nat} {sp : Sp} (D : Df K mg x st) (S : FnScope N ps (defScope st))
    (hb : ∀ (kV doc pm : Value) (an : Option Addr) (cdv ct : Value) (us : List Value), us.length = ps.length → bindArgs (PySem.W.fnOf x x (defArgs st) (defBody st) (defScope st) .none kV doc pm an cdv ct) ⟨us, []⟩ = pure (ps.zip us))
    (len : ∀ vs H Q E, sp vs H Q E → vs.length = ps.length)
    (hbody : ∀ (f : Addr) (cdv : Value) (A : Around) (outer : List Env) (s : Shared) (H : Hp) (vs : List V) (Q : VK) (E : XK), Room k (A.deeper (envOfC x (defScope st) s.heap.objs.size f cdv)) → sp vs H Q E →
      ∃ t, PSs (cxOf (L2.CX P w) P w K mg base N x (defScope st) f cdv A outer s H E) (defBody st) t ∧ t { nx := fun _ H' => Q .non H', rt := Q } (start N vs) H) : Cal P w K mg base (L2.CX P w) (k + 1) x sp := by
  obtain ⟨f, fd, hm, F⟩ := D
  exact ⟨f, fd, ps, F.ok S len (fun cdv A outer s H vs Q E hr h => hbody f cdv A outer s H vs Q E hr h), hm, F.kp, F.bindsN hb⟩
end
theorem pe_c {X : Cx} {k j : Nat} {x : Str} {sp : Sp} {e : Expr} {es : List Expr} {t : TA} {p pos : Pos} (c : Cal X.prog X.w X.K X.mg X.base CX0 k x sp) (hr : Room j X.A) (hk : k ≤ j) (hg : Gl X x) (ha : PA X (e :: es) t)
    (hdb : (x == ("__debug__" : Str)) = false := by decide) (he : starEach (e :: es) X.env = (false, eval e X.env) :: starEach es X.env := by rfl) (hpl : (backTo pos (starEach es X.env)).any (·.1) = false := by rfl) :
    PE X (.Call (.Name x p) (e :: es) [] pos) (tCall sp [] E0 t) := by
  obtain ⟨f, fd, ps, F, hm, kp, b⟩ := c.ex
  exact pe_call F (hr.mono hk) hg hm kp b .nil pass0 ha hdb he hpl
/-- the built-in names that the program leaves alone -/
structure Bl (mg : Str → Option Value) : Prop where
  isinstance : mg "isinstance" = none
  int : mg "int" = none
  bool : mg "bool" = none
  tuple : mg "tuple" = none
  list : mg "list" = none
  str : mg "str" = none
  len : mg "len" = none
  all : mg "all" = none
  sum : mg "sum" = none
  abs : mg "abs" = none
  zip : mg "zip" = none
  range : mg "range" = none
  enumerate : mg "enumerate" = none
  min : mg "min" = none
  sorted : mg "sorted" = none
  set : mg "set" = none
/-! ### comprehensions by what their list holds -/
/-- at D stands a list acc, all that stood in H1 stands, R holds -/
def Lp (H1 : Hp) (D : Addr) (R : Nat → List V → Hp → Prop) : Nat → Hp → Prop := fun i H => ∃ acc, H D = some (.lst acc) ∧ Same H1 H ∧ acc.length ≤ i ∧ R i acc H
theorem Lp.yes {H1 H : Hp} {D : Addr} {R : Nat → List V → Hp → Prop} {i : Nat} {acc : List V} {y : V} (hD : H1 D = none) (hR : ∀ i acc H H', Keep H H' → R i acc H → R i acc H') (e : H D = some (.lst acc)) (s : Same H1 H) (hl : acc.length ≤ i) (hi : i < 1000000) (r : R (i + 1) (acc ++ [y]) H) :
    ∃ acc, H D = some (.lst acc) ∧ acc.length < sizeLine ∧ Lp H1 D R (i + 1) (upd H D (.lst (acc ++ [y]))) := by
  refine ⟨acc, e, line_lt (by omega), acc ++ [y], upd_same, fun b o hb => ?_, by rw [List.length_append]; show acc.length + 1 ≤ i + 1; omega, hR _ _ _ _ (keep_lst e) r⟩
  rw [upd_ne (ne_of_none hb hD)]
  exact s b o hb
theorem Lp.no {H1 H : Hp} {D : Addr} {R : Nat → List V → Hp → Prop} {i : Nat} {acc : List V} (e : H D = some (.lst acc)) (s : Same H1 H) (hl : acc.length ≤ i) (r : R (i + 1) acc H) : Lp H1 D R (i + 1) H := ⟨acc, e, s, by omega, r⟩
/-- what a comprehension over J is to be shown of: its list at D, Qd behind it -/
abbrev Turns (J : It) (g : TG) (tt : TT) (te : TE) (vs : List Nat) (σ : L2.St) (H1 : Hp) (D : Addr) (Qd : Hp → Prop) : Prop :=
  ∃ W : Nat → Nat → Hp → Prop, (∃ m, W 0 m (upd H1 D (.lst []))) ∧ ∀ i m H, W i m H → (J.stop i H ∧ Qd H) ∨ (J.go i H ∧ ∃ Nx : Hp → Prop, (∀ H', Nx H' → ∃ m', m' < m ∧ W (i + 1) m' H') ∧
    ∀ x H', J.yld i H x H' → g x (wipe σ vs) H' fun σ2 H2 => wipe σ2 vs = wipe σ vs ∧ tt σ2 H2 fun b H3 => if b = true then te σ2 H3 fun y H4 => ∃ acc, H4 D = some (.lst acc) ∧ acc.length < sizeLine ∧ Nx (upd H4 D (.lst (acc ++ [y]))) else Nx H3)
theorem lc_go {J : It} {n : Nat} {G : Hp → Prop} {Y : Nat → Hp → V → Hp → Prop} (w : Walk J n G Y) {g : TG} {tt : TT} {te : TE} {vs : List Nat} {σ : L2.St} {H1 : Hp} {D : Addr} {Qd : Hp → Prop} (R : Nat → List V → Hp → Prop) (hD : H1 D = none)
    (hG : ∀ H, Same H1 H → G H) (hR : ∀ i acc H H', Keep H H' → R i acc H → R i acc H') (h0 : R 0 [] H1)
    (hs : ∀ i x H H' acc, i < n → H D = some (.lst acc) → Same H1 H → acc.length ≤ i → R i acc H → Y i H x H' → g x (wipe σ vs) H' fun σ2 H2 => wipe σ2 vs = wipe σ vs ∧ tt σ2 H2 fun b H3 =>
      if b = true then te σ2 H3 fun y H4 => ∃ acc, H4 D = some (.lst acc) ∧ acc.length < sizeLine ∧ Lp H1 D R (i + 1) (upd H4 D (.lst (acc ++ [y]))) else Lp H1 D R (i + 1) H3)
    (hd : ∀ acc H, H D = some (.lst acc) → Same H1 H → R n acc H → Qd H) :
    Turns J g tt te vs σ H1 D Qd :=
  lc_it w (Lp H1 D R) ⟨[], upd_same, same_new hD, Nat.le_refl _, hR _ _ _ _ (keep_new hD) h0⟩ (fun i H _ ⟨_, _, s, _, _⟩ => hG H s)
    (fun i x H H' hi ⟨acc, e, s, hl, r⟩ y => hs i x H H' acc hi e s hl r y) fun H ⟨acc, e, s, _, r⟩ => hd acc H e s r
end MR

set_option Elab.async false
set_option linter.all false
set_option maxRecDepth 100000
set_option maxHeartbeats 4000000
/-! Rows and rules as data: ==, >= of rules, sorted at any length. -/
namespace MR
open PySem PySem.Spec PyProof.Rows L2
def rowD (r : Row) : PyData := .tuple (r.map .int)
def wantD (w : Want) : PyData := .tuple [.int w.1, .int w.2]
def ruleD (u : Rule) : PyData := .tuple [wantD u.1, wantD u.2]
section
variable {K : PySem.W.Frag} {H : Hp}
theorem dp_ints : ∀ r : Row, DpAll K H (r.map V.int) (r.map .int)
  | [] => .nil
  | x :: r => .cons (.int x) (dp_ints r)
theorem RowAt.dp {v : V} {r : Row} (h : RowAt H v r) : Dp K H v (rowD r) := by
  obtain ⟨a, rfl, e⟩ := h
  exact .tup (SqT.of e) (dp_ints r)
theorem WantAt.dp {v : V} {w : Want} (h : WantAt H v w) : Dp K H v (wantD w) := by
  obtain ⟨a, rfl, e⟩ := h
  exact .tup (SqT.of e) (.cons (.int _) (.cons (.int _) .nil))
theorem RuleAt.dp {v : V} {u : Rule} (h : RuleAt H v u) : Dp K H v (ruleD u) := by
  obtain ⟨a, b, ⟨c, rfl, e⟩, h1, h2⟩ := h
  exact .tup (SqT.of e) (.cons h1.dp (.cons h2.dp .nil))
theorem RowsAt.dp : ∀ {vs : List V} {rs : List Row}, RowsAt H vs rs → DpAll K H vs (rs.map rowD)
  | _, _, .nil => .nil
  | _, _, .cons r t => .cons r.dp (RowsAt.dp t)
end
theorem eqv_ints : ∀ r s : Row, PyData.eqvAll (r.map .int) (s.map .int) = decide (r = s)
  | [], [] => rfl
  | [], _ :: _ => rfl
  | _ :: _, [] => rfl
  | x :: r, y :: s => by
    show (PyData.eqv (.int x) (.int y) && PyData.eqvAll (r.map .int) (s.map .int)) = _
    rw [eqv_ints r s]
    show ((x == y) && decide (r = s)) = _
    by_cases h : x = y
    · by_cases h2 : r = s
      · subst h h2; simp
      · simp [h, h2]
    · simp [h]
theorem eqv_row (r s : Row) : PyData.eqv (rowD r) (rowD s) = decide (r = s) := by
  show PyData.eqvAll (r.map .int) (s.map .int) = _
  exact eqv_ints r s
theorem eqv_rows : ∀ rs ss : List Row, PyData.eqvAll (rs.map rowD) (ss.map rowD) = decide (rs = ss)
  | [], [] => rfl
  | [], _ :: _ => rfl
  | _ :: _, [] => rfl
  | x :: r, y :: s => by
    show (PyData.eqv (rowD x) (rowD y) && PyData.eqvAll (r.map rowD) (s.map rowD)) = _
    rw [eqv_rows r s, eqv_row]
    by_cases h : x = y
    · by_cases h2 : r = s
      · subst h h2; simp
      · simp [h, h2]
    · simp [h]
theorem eqv_want (a b : Want) : PyData.eqv (wantD a) (wantD b) = decide (a = b) := by
  obtain ⟨x, y⟩ := a
  obtain ⟨z, t⟩ := b
  show ((x == z) && ((y == t) && true)) = _
  by_cases h : x = z
  · by_cases h2 : y = t
    · subst h h2; simp
    · simp [h, h2]
  · simp [h]
theorem eqv_rule (a b : Rule) : PyData.eqv (ruleD a) (ruleD b) = decide (a = b) := by
  obtain ⟨x, y⟩ := a
  obtain ⟨z, t⟩ := b
  show (PyData.eqv (wantD x) (wantD z) && (PyData.eqv (wantD y) (wantD t) && true)) = _
  rw [eqv_want, eqv_want]
  by_cases h : x = z
  · by_cases h2 : y = t
    · subst h h2; simp
    · simp [h, h2]
  · simp [h]
theorem lay_ints : ∀ r : Row, PyData.canLayAll0 (r.map .int) = true
  | [] => rfl
  | x :: r => by
    show (PyData.canLay0 (.int x) && PyData.canLayAll0 (r.map .int)) = true
    rw [lay_ints r]
    rfl
theorem depth_rowD (r : Row) : (rowD r).depth = 1 := by
  show PyData.depthAll (r.map .int) + 1 = 1
  rw [PySem.W.depth_ints]
theorem shaped_row (r : Row) : SeqAt.shaped (rowD r) = true := by
  unfold SeqAt.shaped
  rw [depth_rowD]
  show (PyData.canLayAll0 (r.map .int) && decide (1 ≤ 64)) = true
  rw [lay_ints]
  rfl
theorem lay_rows : ∀ rs : List Row, PyData.canLayAll0 (rs.map rowD) = true
  | [] => rfl
  | x :: r => by
    show (PyData.canLay0 (rowD x) && PyData.canLayAll0 (r.map rowD)) = true
    rw [lay_rows r]
    show (PyData.canLayAll0 (x.map .int) && true) = true
    rw [lay_ints]
    rfl
theorem depth_rows : ∀ rs : List Row, PyData.depthAll (rs.map rowD) ≤ 1
  | [] => Nat.zero_le _
  | x :: r => by
    have h := depth_rows r
    show max (rowD x).depth (PyData.depthAll (r.map rowD)) ≤ 1
    rw [depth_rowD]
    omega
theorem shaped_rows (rs : List Row) : SeqAt.shaped (.list (rs.map rowD)) = true := by
  unfold SeqAt.shaped
  have h := depth_rows rs
  have h2 : (PyData.list (rs.map rowD)).depth = PyData.depthAll (rs.map rowD) + 1 := rfl
  rw [h2]
  show (PyData.canLayAll0 (rs.map rowD) && decide _) = true
  rw [lay_rows, decide_eq_true (by omega)]
  rfl
theorem shaped_want (w : Want) : SeqAt.shaped (wantD w) = true := rfl
theorem shaped_rule (u : Rule) : SeqAt.shaped (ruleD u) = true := rfl
/-! ### the order -/
def wlt (a b : Want) : Prop := a.1 < b.1 ∨ (a.1 = b.1 ∧ a.2 < b.2)
def rlt (u v : Rule) : Prop := wlt u.1 v.1 ∨ (u.1 = v.1 ∧ wlt u.2 v.2)
theorem wlt_ne {a b : Want} (h : wlt a b) : a ≠ b := by
  rintro rfl
  rcases h with h | ⟨_, h⟩ <;> omega
theorem rlt_ne {a b : Rule} (h : rlt a b) : a ≠ b := by
  rintro rfl
  rcases h with h | ⟨_, h⟩
  · exact wlt_ne h rfl
  · exact wlt_ne h rfl
def geB (a b : Want) : Bool := if a.1 = b.1 then (if a.2 = b.2 then true else decide (b.2 ≤ a.2)) else decide (b.1 ≤ a.1)
theorem geB_lt {a b : Want} (h : wlt a b) : geB a b = false := by
  unfold geB
  rcases h with h | ⟨h1, h2⟩
  · rw [if_neg (by omega), decide_eq_false (by omega)]
  · rw [if_pos h1, if_neg (by omega), decide_eq_false (by omega)]
theorem ge_want {X : Cx} {pins : List (Addr × Obj)} {σ : L2.St} {H : Hp} {s : Shared} (I : Inv X pins σ H s) {A : Around} (hu : A.units < cLine) {x y : V} {v u : Value} {a b : Want} (hx : WantAt H x a) (hy : WantAt H y b) (rx : RelV x v) (ry : RelV y u) : Ob.RcOp .GtE A s v u (geB a b) := by
  obtain ⟨p, rfl, e⟩ := hx
  obtain ⟨q, rfl, e2⟩ := hy
  cases (show v = Value.ref p from rx)
  cases (show u = Value.ref q from ry)
  obtain ⟨its, rv, hp, _⟩ := I.tuple (SqT.of e)
  obtain ⟨its2, rv2, hq, _⟩ := I.tuple (SqT.of e2)
  obtain ⟨v1, v2, rfl, ⟨t1, rfl⟩, ⟨t2, rfl⟩⟩ := vals2 rv
  obtain ⟨u1, u2, rfl, ⟨t3, rfl⟩, ⟨t4, rfl⟩⟩ := vals2 rv2
  have R := Ob.RcOp.tuples_ge (A := A) (s := s) (e := fun j => if j = 0 then (a.1 == b.1) else (a.2 == b.2)) (r := fun j => if j = 0 then decide (b.1 ≤ a.1) else decide (b.2 ≤ a.2)) hp hq hu (fun j h1 h2 => by
    have hj : j < 2 := by simpa using h1
    rcases (by omega : j = 0 ∨ j = 1) with rfl | rfl
    · exact SeqAt.EqAt.int_int _ _ _ _
    · exact SeqAt.EqAt.int_int _ _ _ _) (fun j h1 h2 _ => by
    have hj : j < 2 := by simpa using h1
    rcases (by omega : j = 0 ∨ j = 1) with rfl | rfl
    · exact Ob.RcOp.ge_int _ _ _ _
    · exact Ob.RcOp.ge_int _ _ _ _)
  have z : Ob.lexAt (fun j => if j = 0 then (a.1 == b.1) else (a.2 == b.2)) (fun j => if j = 0 then decide (b.1 ≤ a.1) else decide (b.2 ≤ a.2)) (decide ((#[Value.int a.1 t1, Value.int a.2 t2] : Array Value).size ≥ (#[Value.int b.1 t3, Value.int b.2 t4] : Array Value).size)) 0 (min (#[Value.int a.1 t1, Value.int a.2 t2] : Array Value).size (#[Value.int b.1 t3, Value.int b.2 t4] : Array Value).size) = geB a b := by
    show (if (a.1 == b.1) = true then (if (a.2 == b.2) = true then true else decide (b.2 ≤ a.2)) else decide (b.1 ≤ a.1)) = geB a b
    unfold geB
    by_cases h1 : a.1 = b.1
    · rw [if_pos (by simp [h1]), if_pos h1]
      by_cases h2 : a.2 = b.2
      · rw [if_pos (by simp [h2]), if_pos h2]
      · rw [if_neg (by simp [h2]), if_neg h2]
    · rw [if_neg (by simp [h1]), if_neg h1]
  rw [← z]
  exact R
/-- u >= v of two rules of which the first is less -/
def rGeU : R2 := fun x y H Q => ∃ u v, RuleAt H x u ∧ RuleAt H y v ∧ rlt u v ∧ Q (.bl false) H
theorem op_geU {X : Cx} (hu : X.A.units + 64 < cLine) : OpR X (compareOp .GtE) rGeU := by
  intro pins s σ H x y v u Q I rx ry h
  obtain ⟨a, b, hx, hy, hlt, q⟩ := h
  obtain ⟨x1, x2, ⟨p, rfl, e⟩, hx1, hx2⟩ := hx
  obtain ⟨y1, y2, ⟨p2, rfl, e2⟩, hy1, hy2⟩ := hy
  cases (show v = Value.ref p from rx)
  cases (show u = Value.ref p2 from ry)
  obtain ⟨its, rv, hp, _⟩ := I.tuple (SqT.of e)
  obtain ⟨its2, rv2, hq, _⟩ := I.tuple (SqT.of e2)
  obtain ⟨v1, v2, rfl, s1, s2⟩ := vals2 rv
  obtain ⟨u1, u2, rfl, s3, s4⟩ := vals2 rv2
  obtain ⟨_, d1⟩ := Dp.reads I _ _ _ (hx1.dp (K := X.K)) s1
  obtain ⟨_, d2⟩ := Dp.reads I _ _ _ (hx2.dp (K := X.K)) s2
  obtain ⟨_, d3⟩ := Dp.reads I _ _ _ (hy1.dp (K := X.K)) s3
  obtain ⟨_, d4⟩ := Dp.reads I _ _ _ (hy2.dp (K := X.K)) s4
  have hu1 : X.A.in1.units + 1 < cLine := by
    show X.A.units + 1 + 1 < cLine
    omega
  have hd : ∀ w : Want, (wantD w).depth = 1 := fun w => rfl
  have R := Ob.RcOp.tuples_ge (A := X.A) (s := s) (e := fun j => if j = 0 then decide (a.1 = b.1) else decide (a.2 = b.2)) (r := fun j => if j = 0 then geB a.1 b.1 else geB a.2 b.2) hp hq (by omega) (fun j h1 h2 => by
    have hj : j < 2 := by simpa using h1
    rcases (by omega : j = 0 ∨ j = 1) with rfl | rfl
    · have z := SeqAt.eqAt_reads (wantD a.1) (wantD b.1) X.A.in1 s v1 u1 _ _ d1 d3 rfl rfl (by rw [hd, hd]; exact hu1)
      rw [eqv_want] at z
      exact z
    · have z := SeqAt.eqAt_reads (wantD a.2) (wantD b.2) X.A.in1 s v2 u2 _ _ d2 d4 rfl rfl (by rw [hd, hd]; exact hu1)
      rw [eqv_want] at z
      exact z) (fun j h1 h2 _ => by
    have hj : j < 2 := by simpa using h1
    rcases (by omega : j = 0 ∨ j = 1) with rfl | rfl
    · exact ge_want I (by omega) hx1 hy1 s1 s3
    · exact ge_want I (by omega) hx2 hy2 s2 s4)
  have z : Ob.lexAt (fun j => if j = 0 then decide (a.1 = b.1) else decide (a.2 = b.2)) (fun j => if j = 0 then geB a.1 b.1 else geB a.2 b.2) (decide ((#[v1, v2] : Array Value).size ≥ (#[u1, u2] : Array Value).size)) 0 (min (#[v1, v2] : Array Value).size (#[u1, u2] : Array Value).size) = false := by
    show (if decide (a.1 = b.1) = true then (if decide (a.2 = b.2) = true then true else geB a.2 b.2) else geB a.1 b.1) = false
    rcases hlt with h | ⟨h1, h2⟩
    · rw [if_neg (by simp [wlt_ne h]), geB_lt h]
    · rw [if_pos (by simp [h1]), if_neg (by simp [wlt_ne h2]), geB_lt h2]
  exact R X.prog X.w X.xe (EP X pins σ Q) (by rw [z]; exact ⟨.bl false, H, I, rfl, q⟩)
/-! ### sorted, any length -/
theorem each_vals {P : V → α → Prop} : ∀ {out : List Value} {bs : List α}, PySem.W.EachIs (fun u b => ∃ v, RelV v u ∧ P v b) out bs → ∃ vs, Vals vs out ∧ Each P vs bs
  | _, _, .nil => ⟨[], .nil, .nil⟩
  | _, _, .cons h t => by
    obtain ⟨v, r, p⟩ := h
    obtain ⟨vs, a, b⟩ := each_vals t
    exact ⟨v :: vs, .cons r a, .cons p b⟩
theorem each_is {P : V → α → Prop} : ∀ {vs : List V} {us : List Value} {bs : List α}, Vals vs us → Each P vs bs → PySem.W.EachIs (fun u b => ∃ v, RelV v u ∧ P v b) us bs
  | _, _, _, .nil, .nil => .nil
  | _, _, _, .cons r t, .cons p q => .cons ⟨_, r, p⟩ (each_is t q)
/-- sorted(xs), the items data of one kind -/
def rSortD {α : Type} (K : PySem.W.Frag) (P : Hp → V → α → Prop) (enc : α → PyData) : List V → Hp → VK → Prop := fun vs H Q => ∃ (a : Addr) (xs : List V) (bs : List α), vs = [V.ref a] ∧ SqL K H a xs ∧ Each (P H) xs bs ∧ (∀ v b, P H v b → Dp K H v (enc b)) ∧
  PySem.W.AllAlike (bs.map enc) ∧ PySem.W.Sortable (bs.map enc) ∧ bs.length ≤ 1000000 ∧ (∀ b, b ∈ bs → (enc b).depth ≤ 8) ∧ ∀ p out, H p = none → Each (P H) out (bs.mergeSort (PySem.W.dataLe false enc)) → Q (.ref p) (upd H p (.lst out))
theorem cr_sortD {α : Type} {X : Cx} (P : Hp → V → α → Prop) (enc : α → PyData) (hu : X.A.units + 64 < cLine) : CallR X (.builtin "sorted") (rSortD X.K P enc) := by
  intro pins s σ H vs us Q I r h
  obtain ⟨a, xs, bs, rfl, hl, hx, hdp, hal, hs, hlen, hdep, q⟩ := h
  rw [Vals.ref1 r]
  obtain ⟨its, rv, pl, hz⟩ := I.list hl
  have e1 := each_is rv hx
  have er : PySem.W.EachIs (fun v b => ∃ as, Reads s.heap v (enc b) as) its bs := e1.mono fun u b ⟨v, r1, p1⟩ => Dp.reads I _ _ _ (hdp v b p1) r1
  refine PySem.W.sorted_data pl.isList e1 er hal hs (line_of hlen) (fun b hb => by have := hdep b hb; omega) fun out ho eo => ?_
  obtain ⟨ys, ry, ey⟩ := each_vals eo
  obtain ⟨c, hc⟩ := PyProof.Rows.sortedAll_at s.heap its out.toArray
  have hp : s.heap.objs.size ≤ s.heap.objs.size + 1 := Nat.le_succ _
  have hn : H (s.heap.objs.size + 1) = none := I.hok.fresh hp
  have hyl : ys.length ≤ sizeLine := by
    rw [ry.length, ho]
    exact line_of hlen
  exact ⟨.ref (s.heap.objs.size + 1), _, I.laid (t' := s.toks) (o := .lst ys) (fun b o e => PyProof.Rows.sortedAll_old e) hp ⟨hyl, out, c, ry, hc⟩, rfl, q _ ys hn ey⟩
end MR

set_option Elab.async false
set_option linter.all false
set_option maxRecDepth 100000
set_option maxHeartbeats 4000000
/-! A set of rules: what its questions of a rule answer; where a rule is looked for; a rule added; set(list). The table's own laws are the library's. -/
namespace MR
open PySem PySem.Spec PyProof.Rows L2
/-! ### a loop whose turns leave nothing -/
theorem for_same {M : Model} {A : Around} {E : Value → Shared → Prop} {α β : Type} {f : α → β → Sem (ForInStep β)} {b : β} {s : Shared} {Q : β → Shared → Prop} (hq : Q b s) : ∀ {l : List α}, (∀ x, x ∈ l → ∀ R : ForInStep β → Shared → Prop, R (.yield b) s → wpAny M A (f x b) R E s) → wpAny M A (forIn l b f) Q E s
  | [], _ => by
    rw [List.forIn_nil]
    exact wpAny_pure hq
  | x :: l, h => by
    rw [List.forIn_cons]
    exact wpAny_bind (h x List.mem_cons_self _ (for_same hq fun y hy => h y (List.mem_cons_of_mem _ hy)))
/-! ### rules as keys -/
def ruleKey (u : Rule) : NestedKey := .tup [.tup [.num u.1.1, .num u.1.2], .tup [.num u.2.1, .num u.2.2]]
theorem ruleKey_inj {u v : Rule} (h : ruleKey u = ruleKey v) : u = v := by
  obtain ⟨⟨a, b⟩, ⟨c, d⟩⟩ := u
  obtain ⟨⟨a', b'⟩, ⟨c', d'⟩⟩ := v
  unfold ruleKey at h
  simp only [NestedKey.tup.injEq, NestedKey.num.injEq, List.cons.injEq, and_true] at h
  obtain ⟨⟨h1, h2⟩, h3, h4⟩ := h
  subst h1 h2 h3 h4
  rfl
abbrev rhash (w : World) (u : Rule) : Int := (ruleKey u).hash w
/-- the tuple at a is the rule u -/
abbrev IsN (P : Program) (w : World) (h : Heap) (u : Rule) (a : Addr) : Prop := (nestedKind P w).is h (ruleKey u) a
abbrev NumV (z : Value) : Prop := (∃ i t, z = Value.int i t) ∨ ∃ c, z = Value.bool c
/-- a tuple whose items are numbers -/
def NumsT (h : Heap) (v : Value) : Prop := ∃ b o vs n, v = .ref b ∧ h.get? b = some o ∧ o.cls = .type "tuple" ∧ o.data = .seq vs n ∧ ∀ z, z ∈ vs.toList → NumV z
theorem numV_of {h : Heap} {k : Int} {u : Value} (q : NestedIs h (.num k) u) : NumV u := by
  cases q with
  | bool c => exact .inr ⟨_, rfl⟩
  | int i t => exact .inl ⟨_, _, rfl⟩
theorem pair_each {h : Heap} {a b : NestedKey} {l : List Value} {T : Value → Prop} (x : NestedAll h [a, b] l) (ha : ∀ v, NestedIs h a v → T v) (hb : ∀ v, NestedIs h b v → T v) : ∀ z, z ∈ l → T z := by
  cases x with
  | cons p r =>
    cases r with
    | cons p2 r =>
      cases r
      intro z hz
      rcases List.mem_cons.mp hz with e | hz
      · exact e ▸ ha _ p
      · exact List.mem_singleton.mp hz ▸ hb _ p2
theorem numsT_of {h : Heap} {i j : Int} {v : Value} (x : NestedIs h (.tup [.num i, .num j]) v) : NumsT h v := by
  cases x with
  | tup h1 h2 h3 h4 => exact ⟨_, _, _, _, rfl, h1, h2, h3, pair_each h4 (fun _ => numV_of) fun _ => numV_of⟩
theorem rule_parts {P : Program} {w : World} {h : Heap} {u : Rule} {b : Addr} (x : IsN P w h u b) : ∃ o vs n, h.get? b = some o ∧ o.cls = .type "tuple" ∧ o.data = .seq vs n ∧ ∀ z, z ∈ vs.toList → NumsT h z := by
  obtain ⟨x, _⟩ := x
  cases x with
  | tup h1 h2 h3 h4 => exact ⟨_, _, _, h1, h2, h3, pair_each h4 (fun _ => numsT_of) fun _ => numsT_of⟩
section
variable {P : Program} {w : World} {A : Around} {E : Value → Shared → Prop} {s : Shared}
theorem isN_eq {u v : Rule} {a b : Addr} {Q : Bool → Shared → Prop} (hu : A.units + 8 < cLine) (hx : IsN P w s.heap u a) (hy : IsN P w s.heap v b) (h : Q (decide (u = v)) s) : wpAny (model P w) A (eqBool (.ref a) (.ref b)) Q E s := by
  have e : decide (ruleKey u = ruleKey v) = decide (u = v) := by
    rw [Bool.eq_iff_iff, decide_eq_true_eq, decide_eq_true_eq]
    exact ⟨ruleKey_inj, congrArg ruleKey⟩
  exact (nestedKind P w).eqBool hu hx hy (by rw [e]; exact h)
/-- is one of its items, so many levels down, of an own class? -/
theorem own_tuple {n : Nat} {b : Addr} {o : Obj} {vs : Array Value} {m : Nat} {Q : Bool → Shared → Prop} (ho : s.heap.get? b = some o) (hc : o.cls = .type "tuple") (hd : o.data = .seq vs m)
    (hi : ∀ v, v ∈ vs.toList → ∀ R : Bool → Shared → Prop, R false s → wpAny (model P w) A (ofAClassStatement n v) R E s) (h : Q false s) : wpAny (model P w) A (ofAClassStatement (n + 1) (.ref b)) Q E s := by
  rw [ofAClassStatement]
  refine wpAny_bind (wpAny_typeOf (T := "tuple") ⟨o, ho, hc⟩ ?_)
  simp only [beq_self_eq_true, ↓reduceIte, pure_bind, Bool.not_true, Bool.false_eq_true]
  refine wpAny_bind (wpAny_seqItems ho hd ?_)
  simp only []
  refine wpAny_bind ?_
  rw [← Array.forIn_toList]
  refine for_same ?_ fun v hv R hR => wpAny_bind (hi v hv _ ?_)
  · exact wpAny_pure h
  · simp only [Bool.false_eq_true, ↓reduceIte]
    exact wpAny_pure hR
/-- is it hashed by its value, so many levels down? -/
theorem byvalue_tuple {n : Nat} {b : Addr} {o : Obj} {vs : Array Value} {m : Nat} {Q : Bool → Shared → Prop} (ho : s.heap.get? b = some o) (hc : o.cls = .type "tuple") (hd : o.data = .seq vs m)
    (hi : ∀ v, v ∈ vs.toList → ∀ R : Bool → Shared → Prop, R true s → wpAny (model P w) A (hashByValue n v) R E s) (h : Q true s) : wpAny (model P w) A (hashByValue (n + 1) (.ref b)) Q E s := by
  rw [hashByValue]
  refine wpAny_bind (wpAny_specialOf (T := "tuple") ⟨o, ho, hc⟩ F.slot_tuple_hash.lookup ?_)
  simp only []
  refine wpAny_bind (wpAny_seqItems ho hd ?_)
  simp only [Option.getD_some]
  refine wpAny_bind ?_
  rw [← Array.forIn_toList]
  refine for_same ?_ fun v hv R hR => wpAny_bind (hi v hv _ ?_)
  · exact wpAny_pure h
  · simp only [Bool.not_true, Bool.false_eq_true, ↓reduceIte]
    exact wpAny_pure hR
theorem rule_own {u : Rule} {b : Addr} {Q : Bool → Shared → Prop} (hk : IsN P w s.heap u b) (h : Q false s) : wpAny (model P w) A (ofAClassStatement 8 (.ref b)) Q E s := by
  obtain ⟨o, vs, m, ho, hc, hd, hi⟩ := rule_parts hk
  refine own_tuple ho hc hd (fun v hv R hR => ?_) h
  obtain ⟨b2, o2, vs2, m2, rfl, ho2, hc2, hd2, hi2⟩ := hi v hv
  refine own_tuple ho2 hc2 hd2 (fun z hz R2 hR2 => ?_) hR
  rcases hi2 z hz with ⟨i, t, rfl⟩ | ⟨c, rfl⟩ <;> exact wpAny_pure hR2
theorem rule_byvalue {u : Rule} {b : Addr} {Q : Bool → Shared → Prop} (hk : IsN P w s.heap u b) (h : Q true s) : wpAny (model P w) A (hashByValue 8 (.ref b)) Q E s := by
  obtain ⟨o, vs, m, ho, hc, hd, hi⟩ := rule_parts hk
  refine byvalue_tuple ho hc hd (fun v hv R hR => ?_) h
  obtain ⟨b2, o2, vs2, m2, rfl, ho2, hc2, hd2, hi2⟩ := hi v hv
  refine byvalue_tuple ho2 hc2 hd2 (fun z hz R2 hR2 => ?_) hR
  rcases hi2 z hz with ⟨i, t, rfl⟩ | ⟨c, rfl⟩ <;> exact wpAny_pure hR2
/-- a search for a rule among rules is seen by no class of the program -/
theorem unseen {u : Rule} {b : Addr} {ys : List Value} {Q : Bool → Shared → Prop} (hk : IsN P w s.heap u b) (hy : ∀ y, y ∈ ys → ∃ v c, y = Value.ref c ∧ IsN P w s.heap v c) (h : Q false s) : wpAny (model P w) A (searchCouldBeSeen (.ref b) ys) Q E s := by
  rw [searchCouldBeSeen]
  refine wpAny_bind (for_same ?_ fun y hm R hR => ?_)
  · exact wpAny_pure h
  obtain ⟨v, c, rfl, hc⟩ := hy y hm
  simp only []
  split
  · exact wpAny_pure hR
  · refine wpAny_bind ((nestedKind P w).quiet hk ?_)
    simp only [Bool.not_true, Bool.false_eq_true, ↓reduceIte]
    refine wpAny_bind ((nestedKind P w).quiet hc ?_)
    simp only [Bool.not_true, Bool.false_eq_true, ↓reduceIte]
    refine wpAny_bind (rule_own hk ?_)
    simp only [Bool.false_eq_true, ↓reduceIte]
    refine wpAny_bind (rule_own hc ?_)
    simp only [Bool.false_eq_true, ↓reduceIte]
    exact wpAny_pure hR
end
/-! ### where a rule is looked for -/
/-- the c-th place that a search for this hash asks at -/
def ask (m : Nat) (h : Int) (c : Nat) : SetTable.Probe := nth m (runAt m (SetTable.bits h % (m + 1)) (SetTable.bits h)) c
theorem ask_more (m : Nat) (h : Int) (c q : Nat) : nth m (ask m h c) q = ask m h (c + q) := (nth_add m c _ q).symm
theorem ask_j (m : Nat) (h : Int) (c : Nat) : (ask m h c).j = way m h c := rfl
theorem nth_clean (m : Nat) : ∀ (c : Nat) (p : SetTable.Probe), (nth m p c).dummy = p.dummy
  | 0, _ => rfl
  | c + 1, p => (nth_clean m c (adv m p)).trans (by unfold adv; split <;> rfl)
theorem ask_clean (m : Nat) (h : Int) (c : Nat) : (ask m h c).dummy = none := (nth_clean m c _).trans rfl
/-- the entries es and the table t hold the rules of L, in this order -/
structure Lies (w : World) (L : List (Addr × Rule)) (es : Array (Int × Value)) (t : SetTable) : Prop where
  rows : es.toList = L.map fun p => (rhash w p.2, Value.ref p.1)
  ok : TabOk t (L.map fun p => rhash w p.2)
  val : t.plain = true
  told : w.params.followText "set-order" = true ∨ t.led = true
  loose : L.length * 5 < t.mask * 3
section
variable {w : World} {L : List (Addr × Rule)} {es : Array (Int × Value)} {t : SetTable}
abbrev hashOf (es : Array (Int × Value)) (i : Nat) : Int := (es[i]?.map (·.1)).getD 0
theorem rows_size (e : es.toList = L.map fun p => (rhash w p.2, Value.ref p.1)) : es.size = L.length := by
  have := congrArg List.length e
  simpa using this
theorem rows_get (e : es.toList = L.map fun p => (rhash w p.2, Value.ref p.1)) {i : Nat} {p : Addr × Rule} (h : L[i]? = some p) : es[i]? = some (rhash w p.2, Value.ref p.1) := by
  have := congrArg (fun l => l[i]?) e
  simpa [h] using this
theorem Lies.size (T : Lies w L es t) : es.size = L.length := rows_size T.rows
theorem Lies.places (T : Lies w L es t) : t.place.toList.length = L.length := by simpa using T.ok.sz
theorem Lies.fits (T : Lies w L es t) : t.fits es.size = true := by
  have h1 := T.places
  have h2 := T.loose
  rw [Array.length_toList] at h1
  simp [SetTable.fits, SetTable.fill, T.ok.dm, T.size, h1]
  omega
theorem Lies.odd (T : Lies w L es t) : t.gaveWay = false := by simp [SetTable.gaveWay, mask_odd T.ok.mok]
theorem Lies.hash (T : Lies w L es t) {i : Nat} {p : Addr × Rule} (h : L[i]? = some p) : hashOf es i = rhash w p.2 := by
  unfold hashOf
  rw [rows_get T.rows h, Option.map_some, Option.getD_some]
theorem Lies.some (T : Lies w L es t) {i j : Nat} (h : t.place.toList[i]? = some j) : ∃ p, L[i]? = some p := by
  have h1 := (List.getElem?_eq_some_iff.mp h).1
  rw [T.places] at h1
  exact ⟨_, List.getElem?_eq_getElem h1⟩
theorem probe_go_eq (t : SetTable) (f : Nat → Int) (h : Int) (p : SetTable.Probe) : t.probe f h p = SetTable.probe.go t f h (10 * SetTable.turns t.mask) p := rfl
/-- what the table answers to a search from its c-th step on, K the first empty place of its way -/
theorem seek (T : Lies w L es t) {h : Int} {K c : Nat} (hf : K < 10 * SetTable.turns t.mask) (hK : way t.mask h K ∉ t.place.toList) (hb : ∀ d, d < K → way t.mask h d ∈ t.place.toList) (hc : c ≤ K) :
    (∃ d i p, c ≤ d ∧ d < K ∧ L[i]? = some p ∧ t.place.toList[i]? = some (way t.mask h d) ∧ (∀ e j, c ≤ e → e < d → t.place.toList[j]? = some (way t.mask h e) → hashOf es j ≠ h) ∧
      t.probe (hashOf es) h (ask t.mask h c) = some (.candidate (way t.mask h d) i (ask t.mask h (d + 1)))) ∨
    ((∀ e j, c ≤ e → e < K → t.place.toList[j]? = some (way t.mask h e) → hashOf es j ≠ h) ∧ t.probe (hashOf es) h (ask t.mask h c) = some (.empty (way t.mask h K) none)) := by
  have place : ∀ q, (nth t.mask (ask t.mask h c) q).j = way t.mask h (c + q) := fun q => by rw [ask_more, ask_j]
  have back : ∀ e, c ≤ e → (nth t.mask (ask t.mask h c) (e - c)).j = way t.mask h e := fun e he => by rw [place, Nat.add_sub_cancel' he]
  rcases go_spec t T.ok.ris T.ok.dm (hashOf es) h (10 * SetTable.turns t.mask) (K - c) (ask t.mask h c) (ask_clean _ _ _) (by omega) (fun q hq => by rw [place]; exact hb _ (by omega)) (by rw [back K hc]; exact hK) with ⟨q, i, hq, hi, _, hno, hp⟩ | ⟨hno, hp⟩
  · rw [place] at hi
    obtain ⟨p, hL⟩ := T.some hi
    refine .inl ⟨c + q, i, p, by omega, by omega, hL, hi, fun e j h1 h2 hj => hno (e - c) j (by omega) (by rw [back e h1]; exact hj), ?_⟩
    rw [place, ask_more] at hp
    rw [probe_go_eq]
    exact hp
  · refine .inr ⟨fun e j h1 h2 hj => hno (e - c) j (by omega) (by rw [back e h1]; exact hj), ?_⟩
    rw [back K hc] at hp
    rw [probe_go_eq]
    exact hp
end
/-- a set stands at a -/
def Stands (h : Heap) (a : Addr) (es : Array (Int × Value)) (ep : Nat) (t : SetTable) : Prop := ∃ o, h.get? a = some o ∧ o.ExactSet ∧ o.data = .set es ep t
def KeysIn (P : Program) (w : World) (h : Heap) (L : List (Addr × Rule)) : Prop := ∀ p, p ∈ L → IsN P w h p.2 p.1
section
variable {P : Program} {w : World} {A : Around} {E : Value → Shared → Prop} {s : Shared} {a x : Addr} {k : Rule} {L : List (Addr × Rule)} {es : Array (Int × Value)} {ep : Nat} {t : SetTable}
/-- one question of a search -/
theorem look (T : Lies w L es t) (S : Stands s.heap a es ep t) (B : KeysIn P w s.heap L) (hx : IsN P w s.heap k x) (hu : A.units + 8 < cLine) {K c f : Nat} {stand : Option SetTable.Probe} {Q : SetFound → Shared → Prop}
    (hf : K < 10 * SetTable.turns t.mask) (hK : way t.mask (rhash w k) K ∉ t.place.toList) (hb : ∀ d, d < K → way t.mask (rhash w k) d ∈ t.place.toList) (hc : c ≤ K) (hst : stand.getD (t.probeStart (rhash w k)) = ask t.mask (rhash w k) c)
    (free : (∀ e j, c ≤ e → e < K → t.place.toList[j]? = some (way t.mask (rhash w k) e) → hashOf es j ≠ rhash w k) → Q (.free (way t.mask (rhash w k) K) false) s)
    (met : ∀ (d i : Nat) (p : Addr × Rule), c ≤ d → d < K → L[i]? = some p → t.place.toList[i]? = some (way t.mask (rhash w k) d) → (∀ e j, c ≤ e → e < d → t.place.toList[j]? = some (way t.mask (rhash w k) e) → hashOf es j ≠ rhash w k) →
      (p.2 = k → Q (.there none) s) ∧ (p.2 ≠ k → wpAny (model P w) A (setSearchFrom a (.ref x) (rhash w k) true f (some (ask t.mask (rhash w k) (d + 1)))) Q E s)) :
    wpAny (model P w) A (setSearchFrom a (.ref x) (rhash w k) true (f + 1) stand) Q E s := by
  obtain ⟨o, ho, hex, hd⟩ := S
  rw [setSearchFrom_succ]
  refine wpAny_bind (wpAny_setState_of ho hd T.fits ?_)
  simp only [T.odd, Bool.false_eq_true, ↓reduceIte, hst]
  rcases seek T hf hK hb hc with ⟨d, i, p, h1, h2, hL, hi, hno, hp⟩ | ⟨hno, hp⟩
  · obtain ⟨yes, no⟩ := met d i p h1 h2 hL hi hno
    rw [show (fun i => (es[i]?.map (·.1)).getD 0) = hashOf es from rfl, hp]
    simp only []
    have rest : wpAny (model P w) A (searchRest a (.ref x) (rhash w k) true f es t (way t.mask (rhash w k) d) i (ask t.mask (rhash w k) (d + 1))) Q E s := by
      unfold searchRest
      rw [rows_get T.rows hL]
      refine wpAny_bind (wpAny_holding (isN_eq hu (B p (List.mem_of_getElem? hL)) hx ?_))
      refine wpAny_bind (wpAny_setState_of ho hd T.fits ?_)
      by_cases e : p.2 = k
      · simp only [decide_eq_true e, Bool.and_self, ↓reduceIte]
        exact wpAny_pure (yes e)
      · simp only [decide_eq_false e, Bool.and_false, Bool.false_eq_true, ↓reduceIte, sameMem, slot_live T.ok.ris hi, rows_get T.rows hL]
        refine wpAny_bind (wpAny_isSame_ref_self ?_)
        exact wpAny_bind (wpAny_pure (no e))
    cases hl : t.led with
    | true => exact rest
    | false =>
      refine wpAny_bind (unseen hx (fun y hy => ?_) rest)
      obtain ⟨en, hen, rfl⟩ := List.mem_map.mp hy
      have he : en ∈ es.toList := by
        rw [Array.toList_filter] at hen
        exact (List.mem_filter.mp hen).1
      rw [T.rows] at he
      obtain ⟨q, hq, rfl⟩ := List.mem_map.mp he
      exact ⟨q.2, q.1, rfl, B q hq⟩
  · rw [show (fun i => (es[i]?.map (·.1)).getD 0) = hashOf es from rfl, hp]
    exact wpAny_pure (free hno)
/-- a rule that is not there: the search ends at the first empty place -/
theorem miss (T : Lies w L es t) (S : Stands s.heap a es ep t) (B : KeysIn P w s.heap L) (hx : IsN P w s.heap k x) (hu : A.units + 8 < cLine) {K : Nat} {Q : SetFound → Shared → Prop}
    (hf : K < 10 * SetTable.turns t.mask) (hK : way t.mask (rhash w k) K ∉ t.place.toList) (hb : ∀ d, d < K → way t.mask (rhash w k) d ∈ t.place.toList) (hn : k ∉ L.map (·.2)) (q : Q (.free (way t.mask (rhash w k) K) false) s) :
    ∀ (f c : Nat) (stand : Option SetTable.Probe), c ≤ K → K - c < f → stand.getD (t.probeStart (rhash w k)) = ask t.mask (rhash w k) c → wpAny (model P w) A (setSearchFrom a (.ref x) (rhash w k) true f stand) Q E s
  | 0, _, _, _, h, _ => absurd h (Nat.not_lt_zero _)
  | f + 1, c, stand, hc, hfu, hst => look T S B hx hu hf hK hb hc hst (fun _ => q) fun d i p h1 h2 hL _ _ =>
      ⟨fun e => absurd (List.mem_map.mpr ⟨p, List.mem_of_getElem? hL, e⟩) hn, fun _ => miss T S B hx hu hf hK hb hn q f (d + 1) _ (by omega) (by omega) rfl⟩
/-- a rule that is there, at the step g of its way: the search ends there at the latest -/
theorem hit (T : Lies w L es t) (S : Stands s.heap a es ep t) (B : KeysIn P w s.heap L) (hx : IsN P w s.heap k x) (hu : A.units + 8 < cLine) {K g m : Nat} {p0 : Addr × Rule} {Q : SetFound → Shared → Prop}
    (hf : K < 10 * SetTable.turns t.mask) (hK : way t.mask (rhash w k) K ∉ t.place.toList) (hb : ∀ d, d < K → way t.mask (rhash w k) d ∈ t.place.toList) (hg : g < K) (h0 : L[m]? = some p0) (hk : p0.2 = k) (hm : t.place.toList[m]? = some (way t.mask (rhash w k) g)) (q : Q (.there none) s) :
    ∀ (f c : Nat) (stand : Option SetTable.Probe), c ≤ g → g - c < f → stand.getD (t.probeStart (rhash w k)) = ask t.mask (rhash w k) c → wpAny (model P w) A (setSearchFrom a (.ref x) (rhash w k) true f stand) Q E s
  | 0, _, _, _, h, _ => absurd h (Nat.not_lt_zero _)
  | f + 1, c, stand, hc, hfu, hst => by
    have hh : hashOf es m = rhash w k := by rw [T.hash h0, hk]
    refine look T S B hx hu hf hK hb (by omega) hst (fun no => absurd hh (no g m hc hg hm)) fun d i p h1 h2 hL hi no => ⟨fun _ => q, fun hne => ?_⟩
    have hd : d ≤ g := by
      rcases Nat.lt_or_ge g d with z | z
      · exact absurd hh (no g m hc z hm)
      · exact z
    have hd2 : d ≠ g := by
      rintro rfl
      have e := slot_live T.ok.ris hi
      rw [slot_live T.ok.ris hm] at e
      injection e with e
      subst e
      rw [h0] at hL
      cases hL
      exact hne hk
    exact hit T S B hx hu hf hK hb hg h0 hk hm q f (d + 1) _ (by omega) (by omega) rfl
/-- the search of an adding -/
theorem search (T : Lies w L es t) (S : Stands s.heap a es ep t) (B : KeysIn P w s.heap L) (hx : IsN P w s.heap k x) (hu : A.units + 8 < cLine) {Q : SetFound → Shared → Prop} (there : k ∈ L.map (·.2) → Q (.there none) s)
    (free : ∀ K, k ∉ L.map (·.2) → way t.mask (rhash w k) K ∉ t.place.toList → (∀ d, d < K → way t.mask (rhash w k) d ∈ t.place.toList) → Q (.free (way t.mask (rhash w k) K) false) s) : wpAny (model P w) A (setSearch a (.ref x) (rhash w k) true) Q E s := by
  have hr := T.loose
  obtain ⟨K, hf, hK, hb⟩ := T.ok.first (by rw [List.length_map]; omega) (rhash w k)
  have hbig : 10 * SetTable.turns t.mask ≤ 1420 := by
    unfold SetTable.turns
    rcases T.ok.mok with e | e | e <;> omega
  unfold setSearch
  by_cases hm : k ∈ L.map (·.2)
  · obtain ⟨p0, hp, hk⟩ := List.mem_map.mp hm
    obtain ⟨m, h0⟩ := List.mem_iff_getElem?.mp hp
    have hml : m < t.place.toList.length := by
      rw [T.places]
      exact (List.getElem?_eq_some_iff.mp h0).1
    have hj := List.getElem?_eq_getElem hml
    obtain ⟨g, hg, e⟩ := T.ok.before (h := rhash w k) (i := m) hK (by rw [List.getElem?_map, h0, ← hk, Option.map_some]) hj
    exact hit T S B hx hu hf hK hb hg h0 hk (by rw [hj, e]) (there hm) 100000 0 none (Nat.zero_le _) (by omega) rfl
  · exact miss T S B hx hu hf hK hb hm (free K hm hK hb) 100000 0 none (Nat.zero_le _) (by omega) rfl
end
/-! ### a rule added -/
theorem picked_rows {w : World} {L : List (Addr × Rule)} {es : Array (Int × Value)} (e : es.toList = L.map fun p => (rhash w p.2, Value.ref p.1)) (l : List Nat) : l.filterMap (fun i => es[i]?) = (l.filterMap fun i => L[i]?).map fun p => (rhash w p.2, Value.ref p.1) := by
  have get : ∀ i : Nat, es[i]? = (L[i]?).map fun p => (rhash w p.2, Value.ref p.1) := fun i => by
    rw [← Array.getElem?_toList, e, List.getElem?_map]
  rw [List.map_filterMap]
  exact congrArg (fun g => List.filterMap g l) (funext get)
theorem picked_hashes {w : World} {L : List (Addr × Rule)} {es : Array (Int × Value)} (e : es.toList = L.map fun p => (rhash w p.2, Value.ref p.1)) : ∀ l : List Nat, (∀ i, i ∈ l → i < L.length) → (l.filterMap fun i => L[i]?).map (fun p => rhash w p.2) = l.map fun i => (es.map (·.1)).getD i 0
  | [], _ => rfl
  | i :: l, h => by
    have hi := List.getElem?_eq_getElem (h i List.mem_cons_self)
    have hg : (es.map (·.1)).getD i 0 = rhash w (L[i]'(h i List.mem_cons_self)).2 := by
      rw [Array.getD_eq_getD_getElem?, Array.getElem?_map, rows_get e hi, Option.map_some, Option.getD_some]
    rw [List.filterMap_cons_some hi, List.map_cons, List.map_cons, picked_hashes e l (fun j hj => h j (List.mem_cons_of_mem _ hj)), hg]
section
variable {P : Program} {w : World} {A : Around} {E : Value → Shared → Prop} {s : Shared} {a x : Addr} {k : Rule} {L : List (Addr × Rule)} {es : Array (Int × Value)} {ep : Nat} {t : SetTable}
/-- the table laid anew, with more room -/
theorem relay (S : Stands s.heap a es ep t) (rows : es.toList = L.map fun p => (rhash w p.2, Value.ref p.1)) (fits : t.fits es.size = true) (val : t.plain = true) (told : w.params.followText "set-order" = true ∨ t.led = true) {n M : Nat}
    (hM : SetTable.sizeAbove n - 1 = M) (ok : MaskOk M) (small : SetTable.sizeAbove n ≤ 128) (few : L.length * 5 < M * 3) {Q : Unit → Shared → Prop}
    (q : ∀ h' L' es' ep' t', Heap.SameBut a s.heap h' → Stands h' a es' ep' t' → Lies w L' es' t' → L'.Perm L → Q () { s with heap := h' }) : wpAny (model P w) A (setRelay a n) Q E s := by
  obtain ⟨o, ho, hex, hd⟩ := S
  have hsz := rows_size rows
  have hlt : es.size * 5 < M * 3 := by rw [hsz]; exact few
  obtain ⟨t', order, e, hp, T, em, el, ev, _⟩ := relaid_ok t (hs := es.map (·.1)) hM ok (by rw [Array.size_map]; omega)
  rw [Array.size_map, hsz] at hp
  have inr : ∀ i, i ∈ order.toList → i < L.length := fun i hi => List.mem_range.mp (hp.mem_iff.mp hi)
  have rows2 : (order.filterMap (es[·]?)).toList = (order.toList.filterMap fun i => L[i]?).map fun p => (rhash w p.2, Value.ref p.1) := by
    rw [Array.toList_filterMap]
    exact picked_rows rows _
  have pm : (order.toList.filterMap fun i => L[i]?).Perm L := by
    have z := hp.filterMap (fun i => L[i]?)
    rw [List.filterMap_getElem?_range_length] at z
    exact z
  rw [← picked_hashes rows _ inr] at T
  have hs2 : (order.filterMap (es[·]?)).size = es.size := by rw [rows_size rows2, pm.length_eq, hsz]
  rw [setRelay_eq]
  refine wpAny_bind (wpAny_setState_of ho hd fits ?_)
  have c1 : ¬ SetTable.sizeAbove n > sizeLine := by rw [sizeLine_eq]; omega
  simp only [c1, ↓reduceIte, e, hs2, bne_self_eq_false, Bool.false_eq_true, pure_bind]
  refine wpAny_storeSet_of ho hd ?_ (by rw [hs2, sizeLine_eq]; rcases ok with c | c | c <;> omega)
  exact q _ _ _ _ _ (Heap.SameBut.update ..) ⟨_, store_at ho hd, ⟨hex.1, hex.2.1, hex.2.2⟩, rfl⟩ ⟨rows2, T, ev.trans val, by rw [el]; exact told, by rw [pm.length_eq, em]; exact few⟩ pm
theorem key_beside {h h' : Heap} {k : Rule} {a b : Addr} {es : Array (Int × Value)} {ep : Nat} {t : SetTable} (S : Stands h a es ep t) (m : Heap.SameBut a h h') (x : IsN P w h k b) : IsN P w h' k b := by
  obtain ⟨o, ho, _, hd⟩ := S
  refine nestedKind_stays.stays (fun c oc vs n hc hv => ?_) x
  by_cases e : c = a
  · rw [e, ho] at hc
    cases hc
    rw [hd] at hv
    cases hv
  · exact (m.2 c e).trans hc
/-- one more rule, of those that the set holds or not -/
theorem add (T : Lies w L es t) (S : Stands s.heap a es ep t) (B : KeysIn P w s.heap L) (hx : IsN P w s.heap k x) (hu : A.units + 8 < cLine) (few : L.length + 1 < 64) {Q : Bool → Shared → Prop}
    (q : ∀ r h' L' es' ep' t', Heap.SameBut a s.heap h' → Stands h' a es' ep' t' → Lies w L' es' t' → (L' = L ∨ (k ∉ L.map (·.2) ∧ L'.Perm ((x, k) :: L))) → Q r { s with heap := h' }) :
    wpAny (model P w) A (setAddHashed a (.ref x) (rhash w k)) Q E s := by
  have S0 := S
  obtain ⟨o, ho, hex, hd⟩ := S
  have hsz := T.size
  unfold setAddHashed
  refine wpAny_holding ?_
  rw [show (100000 : Nat) = 99999 + 1 from rfl, setAddHashedIn_succ]
  refine wpAny_bind (wpAny_setState_of ho hd T.fits ?_)
  simp only [byScan, Value.scannable, Bool.false_and, Bool.false_eq_true, ↓reduceIte]
  refine wpAny_bind (search T S0 B hx hu (fun hm => ?_) fun K hm hK hb => ?_)
  · exact wpAny_pure (q false s.heap L es ep t (Heap.SameBut.refl a s.heap) S0 T (.inl rfl))
  refine wpAny_bind (wpAny_setState_of ho hd T.fits ?_)
  obtain ⟨e1, _, T1, e4, e5, e6, _, _, e9⟩ := T.ok.put hK hb
  obtain ⟨j, hj⟩ : ∃ j, SetTable.below t.place (way t.mask (rhash w k) K) = j := ⟨_, rfl⟩
  rw [hj] at e1 T1
  rcases hput : t.put (way t.mask (rhash w k) K) with ⟨t1, j1⟩
  rw [hput] at e1 T1 e4 e5 e6 e9
  cases e1
  have val1 : t1.plain = true := e6.trans T.val
  simp only [val1, ↓reduceIte]
  refine wpAny_bind (rule_byvalue hx ?_)
  simp only [↓reduceIte, Bool.not_false, Bool.true_and]
  have pm : (L.take j1 ++ (x, k) :: L.drop j1).Perm ((x, k) :: L) := by
    have z : (L.take j1 ++ (x, k) :: L.drop j1).Perm ((x, k) :: (L.take j1 ++ L.drop j1)) := List.perm_middle
    rwa [List.take_append_drop] at z
  have rows1 : (SetTable.insertAt es j1 (rhash w k, Value.ref x)).toList = (L.take j1 ++ (x, k) :: L.drop j1).map fun p => (rhash w p.2, Value.ref p.1) := by
    rw [SetTable.toList_insertAt, T.rows, List.map_append, List.map_cons, List.map_take, List.map_drop]
  have ok1 : TabOk t1 ((L.take j1 ++ (x, k) :: L.drop j1).map fun p => rhash w p.2) := by
    rw [List.map_append, List.map_cons, List.map_take, List.map_drop]
    exact T1
  have len1 := pm.length_eq
  have q2 : ∀ r h' L' es' ep' t', Heap.SameBut a s.heap h' → Stands h' a es' ep' t' → Lies w L' es' t' → L'.Perm (L.take j1 ++ (x, k) :: L.drop j1) → Q r { s with heap := h' } := fun r h' L' es' ep' t' m S T p => q r h' L' es' ep' t' m S T (.inr ⟨hm, p.trans pm⟩)
  generalize SetTable.insertAt es j1 (rhash w k, Value.ref x) = es1 at rows1 ⊢
  generalize L.take j1 ++ (x, k) :: L.drop j1 = L1 at pm rows1 ok1 len1 q2
  rw [List.length_cons] at len1
  have sz1 := rows_size rows1
  have told1 : w.params.followText "set-order" = true ∨ t1.led = true := by
    rw [show t1.led = t.led from e5]
    exact T.told
  have fill1 : t1.fill = L.length + 1 := by
    rw [List.length_map] at e9
    exact e9
  have mask1 : t1.mask = t.mask := e4
  have hl := T.loose
  refine wpAny_bind (wpAny_storeSet_of ho hd ?_ (by rw [sz1, sizeLine_eq]; omega))
  have m1 : Heap.SameBut a s.heap (s.heap.update a (Obj.putSet es1 t1)) := Heap.SameBut.update ..
  have S1 : Stands (s.heap.update a (Obj.putSet es1 t1)) a es1 (ep + 1) t1 := ⟨_, store_at ho hd, ⟨hex.1, hex.2.1, hex.2.2⟩, rfl⟩
  generalize s.heap.update a (Obj.putSet es1 t1) = h1 at m1 S1 ⊢
  by_cases full : t1.tooFull = true
  · simp only [full, ↓reduceIte]
    have hfull : t1.mask * 3 ≤ (L.length + 1) * 5 := by
      have z := of_decide_eq_true full
      rw [fill1] at z
      exact z
    have fits1 : t1.fits es1.size = true := by
      have z := ok1.sz
      rw [List.length_map] at z
      have d := ok1.dm
      simp [SetTable.fits, SetTable.fill, d, z, sz1]
      rcases T.ok.mok with c | c | c <;> omega
    refine wpAny_bind ?_
    rw [hsz]
    have go : ∀ M, SetTable.sizeAbove (SetTable.grown (L.length + 1)) - 1 = M → MaskOk M → SetTable.sizeAbove (SetTable.grown (L.length + 1)) ≤ 128 → L1.length * 5 < M * 3 → wpAny (model P w) A (setRelay a (SetTable.grown (L.length + 1))) (fun _ s' => wpAny (model P w) A (pure true) Q E s') E { s with heap := h1 } := fun M c1 c2 c3 c4 =>
      relay (s := { s with heap := h1 }) S1 rows1 fits1 val1 told1 c1 c2 c3 c4 fun h' L' es' ep' t' m S T p => wpAny_pure (q2 true h' L' es' ep' t' (m1.trans m) S T p)
    rcases (by rcases T.ok.mok with c | c | c <;> omega : L.length = 4 ∨ L.length = 18) with c | c
    · refine go 31 ?_ (.inr (.inl rfl)) ?_ (by omega) <;> rw [c, size_20]
      decide
    · refine go 127 ?_ (.inr (.inr rfl)) ?_ (by omega) <;> rw [c, size_76]
      decide
  · simp only [full, Bool.false_eq_true, ↓reduceIte]
    refine wpAny_pure (q2 true h1 L1 es1 (ep + 1) t1 m1 S1 ⟨rows1, ok1, val1, told1, ?_⟩ (List.Perm.refl _))
    have z : ¬ (t1.fill * 5 ≥ t1.mask * 3) := fun h => full (decide_eq_true h)
    rw [fill1] at z
    omega
end
/-! ### set(list) -/
def Keeps (h h' : Heap) : Prop := ∀ b o, h.get? b = some o → h'.get? b = some o
/-- the set at S holds some of the rules ks, each once, at most i -/
def Fill (w : World) (h : Heap) (S : Addr) (ks : List (Addr × Rule)) (i : Nat) : Prop := ∃ L es ep t, Stands h S es ep t ∧ Lies w L es t ∧ (L.map (·.2)).Nodup ∧ (∀ p, p ∈ L → p ∈ ks) ∧ L.length ≤ i
theorem Fill.stays {w : World} {h h' : Heap} {S : Addr} {ks : List (Addr × Rule)} {i : Nat} (f : Fill w h S ks i) (k : ∀ o, h.get? S = some o → h'.get? S = some o) : Fill w h' S ks i := by
  obtain ⟨L, es, ep, t, ⟨o, ho, r⟩, q⟩ := f
  exact ⟨L, es, ep, t, ⟨o, k o ho, r⟩, q⟩
abbrev freshSet (w : World) : Obj := { cls := .type "set", dict := none, data := .set #[] 0 (.fresh 0 0 (!w.params.followText "set-order")) }
theorem Fill.start {w : World} {h : Heap} {S : Addr} {ks : List (Addr × Rule)} (e : h.get? S = some (freshSet w)) : Fill w h S ks 0 := by
  have empty : TabOk (.fresh 0 0 (!w.params.followText "set-order")) (([] : List (Addr × Rule)).map fun p => rhash w p.2) := by
    refine ⟨.nil, rfl, rfl, .inl rfl, fun x hx => ?_, fun i h j hi => ?_⟩
    · cases hx
    · simp at hi
  refine ⟨[], #[], 0, _, ⟨_, e, ⟨rfl, rfl, rfl⟩, rfl⟩, ⟨rfl, empty, rfl, ?_, by show 0 * 5 < 7 * 3; decide⟩, .nil, fun p hp => ?_, Nat.le_refl _⟩
  · show _ ∨ (!w.params.followText "set-order") = true
    cases w.params.followText "set-order" <;> simp
  · cases hp
theorem Fill.put {w : World} {h' : Heap} {S x : Addr} {u : Rule} {ks L L' : List (Addr × Rule)} {es : Array (Int × Value)} {ep i : Nat} {t : SetTable} (St : Stands h' S es ep t) (T : Lies w L' es t) (nd : (L.map (·.2)).Nodup) (sub : ∀ p, p ∈ L → p ∈ ks) (hl : L.length ≤ i) (hx : (x, u) ∈ ks)
    (c : L' = L ∨ (u ∉ L.map (·.2) ∧ L'.Perm ((x, u) :: L))) : Fill w h' S ks (i + 1) := by
  rcases c with rfl | ⟨hn, pm⟩
  · exact ⟨L', es, ep, t, St, T, nd, sub, Nat.le_succ_of_le hl⟩
  · refine ⟨L', es, ep, t, St, T, (pm.map (·.2)).nodup_iff.mpr (List.nodup_cons.mpr ⟨hn, nd⟩), fun p hp => ?_, by rw [pm.length_eq]; exact Nat.succ_le_succ hl⟩
    rcases List.mem_cons.mp (pm.mem_iff.mp hp) with rfl | h
    · exact hx
    · exact sub p h
section
variable {P : Program} {w : World} {A : Around} {E : Value → Shared → Prop} {s : Shared}
/-- the loop that fills a set, over any walk whose items are the rules ks -/
theorem fill_loop {I S : Addr} {fp wr : List Addr} {G : Array GenState → Array GenState → Prop} {n : Nat} {Pv : Nat → Value → Prop} {St : Nat → Shared → Prop} {R : Result → Shared → Prop} {ks : List (Addr × Rule)} {h0 : Heap}
    (W : WalksS P w A.in1 I fp wr G n Pv St) (out : S ∉ fp) (size : n = ks.length) (few : ks.length < 64) (val : ∀ i v, Pv i v → ∃ p, ks[i]? = some p ∧ v = .ref p.1) (keys : KeysIn P w h0 ks) (new : h0.get? S = none) (newW : ∀ b, b ∈ wr → h0.get? b = none) (hu : A.in1.units + 8 < cLine) :
    ∀ (m i : Nat) (s : Shared), i + m = n → St i s → Keeps h0 s.heap → Fill w s.heap S ks i → (∀ s', Moved (S :: wr) G s s' → Fill w s'.heap S ks n → Keeps h0 s'.heap → R (.ok (.ret .none)) s') →
      codeAny (model P w) A (.builtin "set.update.loop" ⟨[.ref S, .ref I], []⟩) R s := by
  have outW : S ∉ wr := fun h => out (W.sub _ h)
  have wide : ∀ {s s' : Shared}, Moved wr G s s' → Moved (S :: wr) G s s' := fun m => m.mono fun b hb => List.mem_cons_of_mem _ hb
  have kept : ∀ {s s' : Shared}, Moved wr G s s' → Keeps h0 s.heap → Keeps h0 s'.heap := fun m k b o e => m.heap b o (fun hb => by rw [newW b hb] at e; cases e) (k b o e)
  intro m
  induction m with
  | zero =>
    intro i s hi st k f q
    obtain rfl : i = n := hi
    refine codeAny_builtin F.entry_set_update_loop ?_
    rw [Around.under_plainId F.plain_set_update_loop]
    refine wpAny_bind (W.done s _ _ st fun s' mv => wpAny_pure (q s' (wide mv) (f.stays fun o e => mv.heap S o outW e) (kept mv k)))
  | succ m ih =>
    intro i s hi st k f q
    refine codeAny_builtin F.entry_set_update_loop ?_
    rw [Around.under_plainId F.plain_set_update_loop]
    refine wpAny_bind (W.item i s _ _ (by omega) st fun v s' hv st' mv => ?_)
    obtain ⟨p, hp, rfl⟩ := val i v hv
    have k' := kept mv k
    obtain ⟨L, es, ep, t, S1, T, nd, sub, hl⟩ := f.stays (h' := s'.heap) fun o e => mv.heap S o outW e
    have later : ∀ u b, IsN P w h0 u b → IsN P w s'.heap u b := fun u b x => nestedKind_stays.stays (fun c o _ _ e _ => k' c o e) x
    have hpm := List.mem_of_getElem? hp
    refine wpAny_bind (wpAny_holding (wpAny_holding (wpAny_bind ((nestedKind P w).pyHash hu (later _ _ (keys p hpm)) ?_))))
    refine add (s := { s' with toks := s'.toks + (ruleKey p.2).draws }) T S1 (fun z hz => later _ _ (keys z (sub z hz))) (later _ _ (keys p hpm)) hu (by omega) fun r h' L' es' ep' t' same S2 T2 c => ?_
    have k2 : Keeps h0 h' := fun b o e => (same.2 b (by rintro rfl; rw [new] at e; cases e)).trans (k' b o e)
    refine wpAny_pure ⟨plainId_quiet F.plain_set_update_loop _, ih (i + 1) _ (by omega) (W.frame _ s' _ _ st' (Nat.le_add_right _ _) fun b hb o e => (same.2 b (by rintro rfl; exact out hb)).trans e) k2 (Fill.put S2 T2 nd sub hl hpm c) fun s2 mv2 f2 k3 => ?_⟩
    refine q s2 (Moved.trans W.gtrans ((wide mv).then_heap (Nat.le_add_right _ _) fun b o hb e => ?_) mv2) f2 k3
    exact (same.2 b (by rintro rfl; exact hb List.mem_cons_self)).trans e
/-- set.__init__ of an empty set at S by the list at l -/
theorem init_set {S l : Addr} {items : Array Value} {ks : List (Addr × Rule)} {Q : Fin → Shared → Prop} (hh : A.handled = none) (hs : s.heap.get? S = some (freshSet w)) (hl : s.heap.IsList l items) (hit : items.toList = ks.map fun p => Value.ref p.1) (h0 : Heap) (h0k : Keeps h0 s.heap) (new : h0.get? S = none) (last : ∀ b, s.heap.objs.size ≤ b → h0.get? b = none)
    (keys : KeysIn P w h0 ks) (few : ks.length < 64) (hu : A.units + 12 < cLine) (q : ∀ h' tk, Fill w h' S ks ks.length → Keeps h0 h' → Q (.done (.ret .none)) { s with heap := h', toks := tk }) :
    wpAny (model P w) A (Builtin.«set.__init__» ⟨[.ref S, .ref l], []⟩) Q E s := by
  have size : items.size = ks.length := by
    have z := congrArg List.length hit
    simpa using z
  have hT : s.TypeIs (.ref S) "set" := ⟨_, hs, rfl⟩
  have hL := hl
  obtain ⟨⟨cl, dc, dt, sl⟩, hol, hcl, nl, hdl⟩ := hl
  simp only at hcl hdl
  subst hcl hdl
  have f1 := F.sub_list_set
  have f2 := F.sub_list_frozenset
  have f3 : (Value.type "list" == Value.type "dict") = false := by decide
  have beside : l ≠ S := by
    rintro rfl
    have z := hol.symm.trans hs
    simp at z
  unfold Builtin.«set.__init__» noKeywords Builtin.Frozenset.updateFrom
  generalize hit2 : pyIter = PI
  wp_walk
  subst hit2
  refine wpAny_pyIter_list hL (wpAny_bind (wpAny_runValue ?_))
  have far : l ≠ s.heap.objs.size := Nat.ne_of_lt (Heap.lt_size hol)
  have farS : S ≠ s.heap.objs.size := Nat.ne_of_lt (Heap.lt_size hs)
  refine fill_loop (h0 := h0) (ks := ks) ((Walks.list (by simp [hh]) _ l far items).toS) ?_ size few (fun i v hv => ?_) keys new (fun b hb => ?_) (show A.units + 1 + 8 < cLine by omega) items.size 0 _ (Nat.zero_add _) ⟨⟨_, Heap.get?_push_size _ rfl, rfl, rfl⟩, hL.push _⟩ (fun b o e => Heap.get?_push_of_some _ (h0k b o e)) (Fill.start (Heap.get?_push_of_some _ hs)) fun s' mv f k => ?_
  · simp only [List.mem_cons, List.not_mem_nil, or_false, not_or]
    exact ⟨farS, beside.symm⟩
  · have z : items.toList[i]? = some v := by rw [Array.getElem?_toList]; exact hv
    rw [hit, List.getElem?_map] at z
    obtain ⟨p, hp, e⟩ := Option.map_eq_some_iff.mp z
    exact ⟨p, hp, e.symm⟩
  · rw [List.mem_singleton.mp hb]
    exact last _ (Nat.le_refl _)
  · obtain ⟨h2, g2, d2, tk2, os2⟩ := s'
    obtain rfl : g2 = s.gens := mv.gens
    obtain rfl : d2 = s.drawn := mv.drawn
    obtain rfl : os2 = s.os := mv.os
    rw [size] at f
    exact wpAny_pure (wpAny_pure (q h2 tk2 f k))
/-- set(xs), xs a list of rules -/
theorem call_set {l : Addr} {items : Array Value} {ks : List (Addr × Rule)} {Q : Value → Shared → Prop} (hh : A.handled = none) (hl : s.heap.IsList l items) (hit : items.toList = ks.map fun p => Value.ref p.1) (keys : KeysIn P w s.heap ks) (few : ks.length < 64) (hu : A.units + 16 < cLine)
    (q : ∀ h' tk, Fill w h' s.heap.objs.size ks ks.length → Keeps s.heap h' → Q (.ref s.heap.objs.size) { s with heap := h', toks := tk }) : wpAny (model P w) A (call (.type "set") [.ref l]) Q E s := by
  have CF := F.called_set
  obtain ⟨_, _, g1⟩ := CF.mro
  have g2 := CF.made
  have g3 := CF.sub
  have g4 := CF.notType
  have g5 := CF.canCreate
  have g6 := F.typeCall_set_1 (.ref l)
  refine wpAny_call (codeAny_of_tree (wpAny_pure ⟨Code.quiet_builtin _ (by decide +kernel), codeAny_builtin F.entry_type_call ?_⟩))
  rw [Around.under_plain (weight_type_call_type "set" [.ref l] []) rfl]
  repeat (any_goals (first | assumption | wp_step))
  refine codeAny_mono (code_set_led1 (.ref l) (E := E) (Q₁ := fun v s1 => v = .ref s.heap.objs.size ∧ s1 = { s with heap := s.heap.push (freshSet w) }) ⟨rfl, rfl⟩) fun r s1 hr => ?_
  obtain e | f := r
  · exact hr
  cases f with
  | ret v =>
    obtain ⟨rfl, rfl⟩ := hr
    have g7 := CF.init.lookup
    have g8 := CF.init.bind (.ref s.heap.objs.size)
    have at0 : (s.heap.push (freshSet w)).get? s.heap.objs.size = some (freshSet w) := Heap.get?_push_size _ rfl
    have g9 : Shared.TypeIs { s with heap := s.heap.push (freshSet w) } (.ref s.heap.objs.size) "set" := ⟨_, at0, rfl⟩
    repeat (any_goals (first | assumption | wp_step))
    have free : ∀ b, s.heap.objs.size ≤ b → s.heap.get? b = none := fun b hb => by
      cases z : s.heap.get? b with
      | none => rfl
      | some o => exact absurd (Heap.lt_size z) (Nat.not_lt.mpr hb)
    refine codeAny_mono (codeAny_call_builtin (R := wants (fun r s2 => r = .none ∧ ∃ h' tk, s2 = { s with heap := h', toks := tk } ∧ Fill w h' s.heap.objs.size ks ks.length ∧ Keeps s.heap h') E) CF.init.plain F.entry_set_init (check_set_init_1 g9 ?_)) fun r2 s2 hr2 => ?_
    · exact init_set (s := { s with heap := s.heap.push (freshSet w) }) (by simp [hh]) at0 (hl.push _) hit s.heap (fun b o e => Heap.get?_push_of_some _ e) (free _ (Nat.le_refl _)) (fun b hb => free b (Nat.le_trans (by rw [Heap.size_push]; exact Nat.le_succ _) hb)) keys few (show A.units + 1 + 1 + 12 < cLine by omega) fun h' tk f k => ⟨rfl, h', tk, rfl, f, k⟩
    · obtain e | f := r2
      · exact hr2
      cases f with
      | ret v =>
        obtain ⟨rfl, h', tk, rfl, f, k⟩ := hr2
        repeat (any_goals (first | assumption | wp_step))
        exact q h' tk f k
      | next => exact hr2.elim
      | brk => exact hr2.elim
      | cont => exact hr2.elim
  | next => exact hr.elim
  | brk => exact hr.elim
  | cont => exact hr.elim
end
end MR

set_option Elab.async false
set_option linter.all false
set_option maxRecDepth 100000
set_option maxHeartbeats 4000000
/-! the order of rules; set(list), sorted(set) of rules -/
namespace MR
open PySem PySem.Spec PyProof.Rows L2
/-! ### the order of rules -/
theorem lt_want (a b : Want) : PySem.W.dataLt (wantD a) (wantD b) = true ↔ wlt a b := by
  show PySem.W.dataLt (.tuple [.int a.1, .int a.2]) (.tuple [.int b.1, .int b.2]) = true ↔ _
  rw [PySem.W.dataLt_ii, decide_eq_true_eq]
  exact Iff.rfl
theorem alike_want (a b : Want) : PySem.W.alike (wantD a) (wantD b) = true := rfl
theorem lt_rule (u v : Rule) : PySem.W.dataLt (ruleD u) (ruleD v) = true ↔ rlt u v := by
  show PySem.W.dataLt (.tuple [wantD u.1, wantD u.2]) (.tuple [wantD v.1, wantD v.2]) = true ↔ _
  rw [PySem.W.dataLt_pair (alike_want _ _) (alike_want _ _), eqv_want, eqv_want]
  unfold rlt
  by_cases h1 : u.1 = v.1
  · rw [if_pos (decide_eq_true h1)]
    by_cases h2 : u.2 = v.2
    · rw [if_pos (decide_eq_true h2)]
      constructor
      · intro h; cases h
      · rintro (h | ⟨_, h⟩)
        · exact absurd h1 (wlt_ne h)
        · exact absurd h2 (wlt_ne h)
    · rw [if_neg (by simp [h2]), lt_want]
      constructor
      · exact fun h => .inr ⟨h1, h⟩
      · rintro (h | ⟨_, h⟩)
        · exact absurd h1 (wlt_ne h)
        · exact h
  · rw [if_neg (by simp [h1]), lt_want]
    constructor
    · exact fun h => .inl h
    · rintro (h | ⟨h, _⟩)
      · exact h
      · exact absurd h h1
theorem wlt_total {a b : Want} (h : a ≠ b) : wlt a b ∨ wlt b a := by
  obtain ⟨x, y⟩ := a
  obtain ⟨z, t⟩ := b
  unfold wlt
  dsimp only
  rcases Int.lt_trichotomy x z with c | c | c
  · exact .inl (.inl c)
  · subst c
    rcases Int.lt_trichotomy y t with d | d | d
    · exact .inl (.inr ⟨rfl, d⟩)
    · subst d; exact absurd rfl h
    · exact .inr (.inr ⟨rfl, d⟩)
  · exact .inr (.inl c)
theorem wlt_trans {a b c : Want} (h : wlt a b) (k : wlt b c) : wlt a c := by
  unfold wlt at *
  omega
theorem wlt_asymm {a b : Want} (h : wlt a b) (k : wlt b a) : False := by
  unfold wlt at *
  omega
theorem rlt_total {a b : Rule} (h : a ≠ b) : rlt a b ∨ rlt b a := by
  by_cases c : a.1 = b.1
  · have d : a.2 ≠ b.2 := fun z => h (Prod.ext c z)
    rcases wlt_total d with e | e
    · exact .inl (.inr ⟨c, e⟩)
    · exact .inr (.inr ⟨c.symm, e⟩)
  · rcases wlt_total c with e | e
    · exact .inl (.inl e)
    · exact .inr (.inl e)
theorem rlt_trans {a b c : Rule} (h : rlt a b) (k : rlt b c) : rlt a c := by
  rcases h with h | ⟨h1, h2⟩
  · rcases k with k | ⟨k1, k2⟩
    · exact .inl (wlt_trans h k)
    · exact .inl (k1 ▸ h)
  · rcases k with k | ⟨k1, k2⟩
    · exact .inl (h1 ▸ k)
    · exact .inr ⟨h1.trans k1, wlt_trans h2 k2⟩
theorem rlt_asymm {a b : Rule} (h : rlt a b) (k : rlt b a) : False := by
  rcases h with h | ⟨h1, h2⟩
  · rcases k with k | ⟨k1, _⟩
    · exact wlt_asymm h k
    · exact wlt_ne h k1.symm
  · rcases k with k | ⟨_, k2⟩
    · exact wlt_ne k h1.symm
    · exact wlt_asymm h2 k2
def ruleLe : Rule → Rule → Bool := PySem.W.dataLe false ruleD
theorem ruleLe_iff (u v : Rule) : ruleLe u v = true ↔ ¬ rlt v u := by
  unfold ruleLe PySem.W.dataLe
  show (!PySem.W.dataLt (ruleD v) (ruleD u)) = true ↔ _
  rw [← lt_rule]
  cases PySem.W.dataLt (ruleD v) (ruleD u) <;> simp
theorem sorted_rules {l : List Rule} (nd : l.Nodup) : (l.mergeSort ruleLe).Pairwise rlt := by
  have tr : ∀ a b c : Rule, ruleLe a b = true → ruleLe b c = true → ruleLe a c = true := fun a b c h k => by
    rw [ruleLe_iff] at *
    intro z
    by_cases e : a = b
    · subst e; exact k z
    · rcases rlt_total e with q | q
      · exact k (rlt_trans z q)
      · exact h q
  have tt : ∀ a b : Rule, (ruleLe a b || ruleLe b a) = true := fun a b => by
    rw [Bool.or_eq_true, ruleLe_iff, ruleLe_iff]
    by_cases c : rlt b a
    · exact .inr fun z => rlt_asymm c z
    · exact .inl c
  have p := List.pairwise_mergeSort (le := ruleLe) tr tt l
  have nd2 : (l.mergeSort ruleLe).Nodup := (List.mergeSort_perm l ruleLe).nodup_iff.mpr nd
  refine List.Pairwise.imp₂ (fun a b h hne => ?_) p nd2
  rw [ruleLe_iff] at h
  rcases rlt_total hne with q | q
  · exact q
  · exact absurd q h
theorem perm_pre {α β : Type} {f : α → β} {vs ws : List β} (p : vs.Perm ws) : ∀ L : List α, ws = L.map f → ∃ L1 : List α, L1.Perm L ∧ vs = L1.map f := by
  induction p with
  | nil =>
    intro L h
    have e : L = [] := by
      cases L with
      | nil => rfl
      | cons a L => cases h
    subst e
    exact ⟨[], List.Perm.refl _, rfl⟩
  | cons x p ih =>
    intro L h
    cases L with
    | nil => cases h
    | cons a L =>
      injection h with h1 h2
      obtain ⟨L1, q, e⟩ := ih L h2
      exact ⟨a :: L1, q.cons a, by rw [List.map_cons, h1, e]⟩
  | swap x y l =>
    intro L h
    cases L with
    | nil => cases h
    | cons a L =>
      injection h with h1 h2
      cases L with
      | nil => cases h2
      | cons b L =>
        injection h2 with h2 h3
        exact ⟨b :: a :: L, List.Perm.swap a b L, by rw [List.map_cons, List.map_cons, ← h1, ← h2, ← h3]⟩
  | trans p q ih1 ih2 =>
    intro L h
    obtain ⟨L2, r, e⟩ := ih2 L h
    obtain ⟨L1, r1, e1⟩ := ih1 L2 e
    exact ⟨L1, r1.trans r, e1⟩
/-! ### the set of rules, tracked -/
/-- the set at a holds the rules of L, each once, fewer than 64 -/
def Held (w : World) (h : Heap) (a : Addr) (L : List (Addr × Rule)) : Prop := ∃ es ep t, Stands h a es ep t ∧ Lies w L es t ∧ (L.map (·.2)).Nodup ∧ L.length < 64
theorem Held.stays {w : World} {h h' : Heap} {a : Addr} {L : List (Addr × Rule)} (x : Held w h a L) (k : ∀ o, h.get? a = some o → h'.get? a = some o) : Held w h' a L := by
  obtain ⟨es, ep, t, ⟨o, ho, z⟩, r⟩ := x
  exact ⟨es, ep, t, ⟨o, k o ho, z⟩, r⟩
def SetUO (P : Program) (w : World) (a : Addr) (L : List (Addr × Rule)) : HO := .ext fun h => Held w h a L
theorem setUO_new {P : Program} {w : World} {H : Hp} {h : Heap} {a : Addr} {L : List (Addr × Rule)} (R : Held w h a L) : ObjOk P w H h a (SetUO P w a L) :=
  ⟨R, let ⟨_, _, _, ⟨o, ho, _⟩, _⟩ := R; ⟨o, ho⟩, fun _ _ p k => Held.stays p k⟩
section
variable {X : Cx} {pins : List (Addr × Obj)} {σ : L2.St} {H : Hp} {s : Shared}
theorem want_nested (I : Inv X pins σ H s) {v : V} {u : Value} {w : Want} (h : WantAt H v w) (r : RelV v u) : NestedIs s.heap (.tup [.num w.1, .num w.2]) u := by
  obtain ⟨a, rfl, e⟩ := h
  cases (show u = Value.ref a from r)
  obtain ⟨its, rv, ⟨o, ho, hc, n, hd⟩, _⟩ := I.tuple (SqT.of e)
  obtain ⟨v1, v2, rfl, ⟨t1, rfl⟩, ⟨t2, rfl⟩⟩ := vals2 rv
  exact .tup ho hc hd (.cons (.int _ _) (.cons (.int _ _) .nil))
theorem isN_of (I : Inv X pins σ H s) {b : Addr} {u : Rule} (h : RuleAt H (.ref b) u) : IsN X.prog X.w s.heap u b := by
  obtain ⟨x, y, ⟨a, e0, e⟩, h1, h2⟩ := h
  injection e0 with e0
  subst e0
  obtain ⟨its, rv, ⟨o, ho, hc, n, hd⟩, _⟩ := I.tuple (SqT.of e)
  obtain ⟨v1, v2, rfl, r1, r2⟩ := vals2 rv
  exact ⟨.tup ho hc hd (.cons (want_nested I h1 r1) (.cons (want_nested I h2 r2) .nil)), by show 2 ≤ 8; decide⟩
theorem refs_of : ∀ {vs : List V} {us : List Rule}, RulesAt H vs us → ∃ ks : List (Addr × Rule), vs = ks.map (fun p => V.ref p.1) ∧ us = ks.map (·.2) ∧ ∀ p ∈ ks, RuleAt H (.ref p.1) p.2
  | _, _, .nil => ⟨[], rfl, rfl, fun p hp => by cases hp⟩
  | _, _, .cons r t => by
    obtain ⟨ks, e1, e2, hk⟩ := refs_of t
    obtain ⟨x, y, ⟨a, e, q⟩, r1, r2⟩ := id r
    subst e
    refine ⟨(a, _) :: ks, by rw [List.map_cons, e1], by rw [List.map_cons, e2], fun p hp => ?_⟩
    rcases List.mem_cons.mp hp with z | z
    · rw [z]; exact r
    · exact hk p z
end
theorem vals_ks : ∀ {ks : List (Addr × Rule)} {us : List Value}, Vals (ks.map fun p => V.ref p.1) us → us = ks.map fun p => Value.ref p.1
  | [], _, .nil => rfl
  | p :: ks, _, .cons r t => by
    cases (show _ = Value.ref p.1 from r)
    rw [vals_ks t]
    rfl
/-- set(xs), xs a list of rules -/
def rSetOfU (K : PySem.W.Frag) (P : Program) (w : World) : List V → Hp → VK → Prop := fun xs H Q => ∃ (l : Addr) (vs : List V) (us : List Rule), xs = [V.ref l] ∧ H l = some (.lst vs) ∧ RulesAt H vs us ∧ us.length < 64 ∧
  ∀ a L, H a = none → (∀ p ∈ L, RuleAt H (.ref p.1) p.2 ∧ p.2 ∈ us) → (L.map (·.2)).Nodup → L.length < 64 → Q (.ref a) (upd H a (SetUO P w a L))
theorem cr_setOfU {X : Cx} (hc : X.calm = true) (hu : X.A.units + 64 < cLine) : CallR X (.type "set") (rSetOfU X.K X.prog X.w) := by
  intro pins s σ H xs us Q I r h
  obtain ⟨l, vs, rs, rfl, hl, hk, hf, q⟩ := h
  rw [Vals.ref1 r]
  obtain ⟨ks, e1, e2, hks⟩ := refs_of hk
  subst e1 e2
  obtain ⟨its, rv, pl, hz⟩ := I.list (SqL.of hl)
  have hn : H s.heap.objs.size = none := I.hok.fresh (Nat.le_refl _)
  rw [List.length_map] at hf
  refine call_set (I.ok.hd hc) pl.isList (by simpa using vals_ks rv) (fun p hp => isN_of I (hks p hp)) hf (by omega) fun h' tk ⟨L, es, ep, t, S, T, nd, sub, hl⟩ k => ?_
  have few : L.length < 64 := Nat.lt_of_le_of_lt hl hf
  exact ⟨.ref s.heap.objs.size, upd H s.heap.objs.size (SetUO X.prog X.w s.heap.objs.size L), I.laid (t' := tk) k (Nat.le_refl _) (setUO_new ⟨es, ep, t, S, T, nd, few⟩), rfl, q _ L hn (fun p hp => ⟨hks p (sub p hp), List.mem_map.mpr ⟨p, sub p hp, rfl⟩⟩) nd few⟩
theorem ruleD_depth (u : Rule) : (ruleD u).depth = 2 := rfl
theorem reads_want {h : Heap} {v : Value} {w : Want} {as : List Addr} (r : Reads h v (wantD w) as) : as = [] := by
  cases r with
  | @tuple _ _ vs _ _ _ _ _ _ hr =>
    generalize vs.toList = l at hr
    cases hr with
    | cons r1 hr =>
      cases r1
      cases hr with
      | cons r2 hr =>
        cases r2
        cases hr
        rfl
theorem reads_rule {h : Heap} {v : Value} {u : Rule} {as : List Addr} (r : Reads h v (ruleD u) as) : as = [] := by
  cases r with
  | @tuple _ _ vs _ _ _ _ _ _ hr =>
    generalize vs.toList = l at hr
    cases hr with
    | cons r1 hr =>
      cases hr with
      | cons r2 hr =>
        cases hr
        rw [reads_want r1, reads_want r2]
        rfl
theorem each_map2 {α β γ : Type} {R : β → γ → Prop} {f : α → β} {g : α → γ} : ∀ {l : List α}, (∀ a, a ∈ l → R (f a) (g a)) → PySem.W.EachIs R (l.map f) (l.map g)
  | [], _ => .nil
  | a :: l, h => .cons (h a List.mem_cons_self) (each_map2 fun b hb => h b (List.mem_cons_of_mem _ hb))
/-- sorted(set): the rules of the set in ascending order -/
def rSortedU (P : Program) (w : World) : List V → Hp → VK → Prop := fun vs H Q => ∃ (a : Addr) (L : List (Addr × Rule)), vs = [V.ref a] ∧ H a = some (SetUO P w a L) ∧ (∀ p ∈ L, RuleAt H (.ref p.1) p.2) ∧ (L.map (·.2)).Nodup ∧ L.length < 64 ∧
  ∀ p out us, H p = none → RulesAt H out us → us.Pairwise rlt → (∀ u, u ∈ us → u ∈ L.map (·.2)) → us.length < 64 → Q (.ref p) (upd H p (.lst out))
theorem cr_sortedU {X : Cx} (hc : X.calm = true) (hu : X.A.units + 64 < cLine) : CallR X (.builtin "sorted") (rSortedU X.prog X.w) := by
  intro pins s σ H vs us Q I r h
  obtain ⟨a, L, rfl, ha, hk, hnd, hfew, q⟩ := h
  obtain ⟨es, ep, t, ⟨o, ho, hex, hd⟩, R, _, _⟩ : Held X.w s.heap a L := (I.hok a _ ha).1
  rw [Vals.ref1 r]
  have hsz := R.size
  refine Calls.call_function_entry kind_sorted plain_sorted entry_sorted (args_sorted1 _) ?_
  unfold Builtin.«sorted»
  refine wpAny_bind (m := checkCount "sorted" 1 1 _) (wpAny_pure ?_)
  refine wpAny_bind (collect_set (A := X.A.in1) (I.ok.hd hc) ⟨o, ho, hex.1, hd⟩ R.fits (by unfold scanBound; omega) R.ok.ris R.told fun s1 ws k1 hz g1 o1 pm => ?_)
  have hes : es.toList.map (·.2) = L.map fun q => Value.ref q.1 := by
    rw [R.rows, List.map_map]
    rfl
  rw [hes] at pm
  obtain ⟨L1, p1, e1⟩ := perm_pre pm L rfl
  subst e1
  have hl1 : L1.length < 64 := by rw [p1.length_eq]; exact hfew
  refine wpAny_bind (wpAny_newList ?_ (by rw [List.length_map, sizeLine_eq]; omega))
  have hoL : (s1.heap.push (seqObj "list" (L1.map fun q => Value.ref q.1).toArray 0)).get? s1.heap.objs.size = some (seqObj "list" (L1.map fun q => Value.ref q.1).toArray 0) := Heap.get?_push_size _ rfl
  have hin : ∀ p, p ∈ L1 → RuleAt H (.ref p.1) p.2 := fun p hp => hk p (p1.mem_iff.mp hp)
  have ee : PySem.W.EachIs (fun u (b : Rule) => ∃ v, RelV v u ∧ RuleAt H v b) (L1.map fun q => Value.ref q.1) (L1.map (·.2)) := each_map2 fun p hp => ⟨.ref p.1, rfl, hin p hp⟩
  have er : PySem.W.EachIs (fun u (b : Rule) => ∃ as, Reads (s1.heap.push (seqObj "list" (L1.map fun q => Value.ref q.1).toArray 0)) u (ruleD b) as ∧ s1.heap.objs.size ∉ as) (L1.map fun q => Value.ref q.1) (L1.map (·.2)) := each_map2 fun p hp => by
    obtain ⟨as, rd⟩ := Dp.reads I _ _ (Value.ref p.1) ((hin p hp).dp (K := X.K)) rfl
    have ea := reads_rule rd
    subst ea
    exact ⟨[], PyProof.Rows.Reads.keeps (fun b u e => Heap.get?_push_of_some _ (k1 b u e)) rd, by simp⟩
  have hal : PySem.W.AllAlike ((L1.map (·.2)).map ruleD) := PySem.W.AllAlike.of fun _ _ => rfl
  have hsb : PySem.W.Sortable ((L1.map (·.2)).map ruleD) := PySem.W.Sortable.tuples fun b => ⟨_, _, rfl⟩
  refine wpAny_bind (wpAny_holding (PySem.W.list_sort_data (s := { s1 with heap := s1.heap.push (seqObj "list" (L1.map fun q => Value.ref q.1).toArray 0) }) (enc := ruleD) hoL ee er hal hsb (by rw [List.length_map, sizeLine_eq]; omega) (fun b _ => by
    show X.A.units + 1 + 1 + (ruleD b).depth < cLine
    rw [ruleD_depth]
    omega) fun out ho2 eo => ?_))
  obtain ⟨c, hc2⟩ := sortedHeap_at (vs := L1.map fun q => Value.ref q.1) (out := out.toArray) hoL
  obtain ⟨ys, ry, ey⟩ := each_vals eo
  have hn : H s1.heap.objs.size = none := I.hok.fresh hz
  have kp : ∀ b u, s.heap.get? b = some u → (sortedHeap (s1.heap.push (seqObj "list" (L1.map fun q => Value.ref q.1).toArray 0)) s1.heap.objs.size (L1.map fun q => Value.ref q.1) out.toArray).get? b = some u := fun b u e => by
    have q := k1 b u e
    have hlt := Heap.lt_size q
    rw [sortedHeap_old (Nat.ne_of_lt hlt) (by rw [size_push']; exact Nat.lt_succ_of_lt hlt)]
    exact Heap.get?_push_of_some _ q
  have hyl : ys.length = L1.length := by rw [ry.length, ho2, List.length_map]
  have hlen : ys.length ≤ sizeLine := by rw [hyl, sizeLine_eq]; omega
  have nd1 : (L1.map (·.2)).Nodup := (p1.map (·.2)).nodup_iff.mpr hnd
  refine wpAny_pure ⟨_, rfl, ?_⟩
  obtain ⟨h1, gn1, d1, tk1, os1⟩ := s1
  have eg : gn1 = s.gens := g1
  have eo1 : os1 = s.os := o1
  subst eg eo1
  have J : Inv X pins σ (upd H h1.objs.size (.lst ys)) { s with heap := sortedHeap (h1.push (seqObj "list" (L1.map fun q => Value.ref q.1).toArray 0)) h1.objs.size (L1.map fun q => Value.ref q.1) out.toArray, gens := s.gens, drawn := d1, toks := tk1 } :=
    I.call (ch := []) (Un.laid kp hz hn) (I.hok.laid kp hz ⟨hlen, out, c, ry, hc2⟩) I.bare (fun _ z => nomatch z)
  refine ⟨.ref h1.objs.size, upd H h1.objs.size (.lst ys), J, rfl, ?_⟩
  refine q _ ys _ hn ey (sorted_rules nd1) (fun u hu => ?_) (by rw [(List.mergeSort_perm _ _).length_eq, List.length_map]; exact hl1)
  have h2 := (List.mergeSort_perm (L1.map (·.2)) ruleLe).mem_iff.mp hu
  exact (p1.map (·.2)).mem_iff.mp h2
end MR

set_option Elab.async false
set_option linter.all false
set_option maxRecDepth 100000
set_option maxHeartbeats 4000000
/-! What the top has left, as the defs' proofs ask it; boot names; the Rules object. -/
namespace MR
open PySem PySem.Spec PyProof.Rows L2
theorem bt_len : bootBuiltins "len" = some (.builtin "len") := by decide +kernel
theorem bt_all : bootBuiltins "all" = some (.builtin "all") := by decide +kernel
theorem bt_sum : bootBuiltins "sum" = some (.builtin "sum") := by decide +kernel
theorem bt_min : bootBuiltins "min" = some (.builtin "min") := by decide +kernel
theorem bt_abs : bootBuiltins "abs" = some (.builtin "abs") := by decide +kernel
theorem bt_sorted : bootBuiltins "sorted" = some (.builtin "sorted") := by decide +kernel
theorem bt_isinstance : bootBuiltins "isinstance" = some (.builtin "isinstance") := by decide +kernel
theorem bt_int : bootBuiltins "int" = some (.type "int") := by decide +kernel
theorem bt_bool : bootBuiltins "bool" = some (.type "bool") := by decide +kernel
theorem bt_tuple : bootBuiltins "tuple" = some (.type "tuple") := by decide +kernel
theorem bt_list : bootBuiltins "list" = some (.type "list") := by decide +kernel
theorem bt_str : bootBuiltins "str" = some (.type "str") := by decide +kernel
theorem bt_set : bootBuiltins "set" = some (.type "set") := by decide +kernel
structure Tx (K : PySem.W.Frag) (mg : Str → Option Value) (C : Addr) : Prop where
  b : Bl mg
  MOST_PLACES : ∃ t, mg "MOST_PLACES" = some (.int 8 t)
  MOST_VOTES : ∃ t, mg "MOST_VOTES" = some (.int 15 t)
  mgC : mg "Rules" = some (.ref C)
  cl : Cls K C
  nW : NoAttr K C "wide"
  nT : NoAttr K C "told"
  ins : C8.InsC K C
theorem pe_int_glob {X : Cx} {x : Str} {i : Int} {pos : Pos} (hg : Gl X x) (h : ∃ t, X.mg x = some (.int i t)) (hd : (x == ("__debug__" : Str)) = false := by decide) : PE X (.Name x pos) (tC (.int i)) := by
  obtain ⟨t, hm⟩ := h
  exact pe_glob hg hm ⟨t, rfl⟩ hd
/-! ### the Rules object -/
theorem kwt : ¬ (("wide" : Str) = "told") := by decide +kernel
def flds (many : Int) (t : V) : List (Str × V) := putF "told" t (putF "wide" (.int many) [])
theorem flds_wide (many : Int) (t : V) : (flds many t).lookup ("wide" : Str) = some (.int many) := by
  unfold flds
  rw [lookup_putF, if_neg kwt, lookup_putF, if_pos rfl]
theorem flds_told (many : Int) (t : V) : (flds many t).lookup ("told" : Str) = some t := by
  unfold flds
  rw [lookup_putF, if_pos rfl]
/-- a Rules object at p: so many places, the rules us -/
def RObj (C : Addr) (H : Hp) (v : V) (many : Nat) (us : List Rule) : Prop := ∃ p dx t, v = .ref p ∧ H p = some (.ins C dx (flds (many : Int) t)) ∧ RulesT H t us
theorem RObj.same {C : Addr} {H H' : Hp} {v : V} {many : Nat} {us : List Rule} (s : Same H H') (h : RObj C H v many us) : RObj C H' v many us := let ⟨p, dx, t, e, q, r⟩ := h; ⟨p, dx, t, e, s _ _ q, r.keep (keep_of s)⟩
/-- the rules us stand in order and are rules of so many places -/
def RuleOk (n : Nat) (u : Rule) : Prop := WantOk n u.1 ∧ WantOk n u.2 ∧ (wlt u.1 u.2 ∨ u.1 = u.2) ∧ u.2 ≠ (u.1.1, 1 - u.1.2)
def RulesOk (n : Nat) (us : List Rule) : Prop := (∀ u, u ∈ us → RuleOk n u) ∧ us.Pairwise rlt
/-! ### isinstance -/
theorem tyx_tup {K : PySem.W.Frag} {H : Hp} {a : Addr} {xs : List V} (h : H a = some (.tup xs)) : TyX K H (.ref a) (.type "tuple") := .base (.tup h)
theorem tyx_lst {K : PySem.W.Frag} {H : Hp} {a : Addr} {xs : List V} (h : H a = some (.lst xs)) : TyX K H (.ref a) (.type "list") := .base (.lst h)
theorem tyx_int {K : PySem.W.Frag} {H : Hp} (i : Int) : TyX K H (.int i) (.type "int") := .base (.int i)
theorem tyx_str {K : PySem.W.Frag} {H : Hp} (x : Str) : TyX K H (.str x) (.type "str") := .base (.str x)
theorem kit_tuple_tuple (K : PySem.W.Frag) : PySem.W.kitOne K (.type "tuple") (.type "tuple") = some true := kit_ty (by decide +kernel)
theorem kit_list_list (K : PySem.W.Frag) : PySem.W.kitOne K (.type "list") (.type "list") = some true := kit_ty (by decide +kernel)
theorem kit_tuple_list (K : PySem.W.Frag) : PySem.W.kitOne K (.type "tuple") (.type "list") = some false := kit_ty (by decide +kernel)
theorem kit_int_int (K : PySem.W.Frag) : PySem.W.kitOne K (.type "int") (.type "int") = some true := kit_ty (by decide +kernel)
theorem kit_int_bool (K : PySem.W.Frag) : PySem.W.kitOne K (.type "int") (.type "bool") = some false := kit_ty (by decide +kernel)
theorem kit_int_str (K : PySem.W.Frag) : PySem.W.kitOne K (.type "int") (.type "str") = some false := kit_ty (by decide +kernel)
theorem kit_str_str (K : PySem.W.Frag) : PySem.W.kitOne K (.type "str") (.type "str") = some true := kit_ty (by decide +kernel)
end MR

set_option Elab.async false
set_option linter.all false
set_option maxRecDepth 100000
set_option maxHeartbeats 4000000
/-! Comprehensions by what their list holds, for bodies that leave all that stood. -/
namespace MR
open PySem PySem.Spec PyProof.Rows L2
theorem take_nxt {α : Type} {as : List α} {i : Nat} {a : α} (h : as[i]? = some a) : as.take (i + 1) = as.take i ++ [a] := by
  rw [List.take_succ, h]
  rfl
/-- over a walk whose turn i stands for as[i]: the list holds what f gives of each -/
theorem lc_fm {J : It} {n : Nat} {G : Hp → Prop} {Y : Nat → Hp → V → Hp → Prop} (w : Walk J n G Y) {g : TG} {tt : TT} {te : TE} {vs : List Nat} {σ : L2.St} {H1 : Hp} {D : Addr} {Qd : Hp → Prop} {α β : Type} (as : List α) (f : α → Option β) (P : Hp → V → β → Prop)
    (hP : ∀ H H' v b, Keep H H' → P H v b → P H' v b) (hn : as.length = n) (hb : n ≤ 1000000) (hD : H1 D = none) (hG : ∀ H, Same H1 H → G H)
    (hs : ∀ i x H H' a (Qy : VK) (Qn : Hp → Prop), as[i]? = some a → Same H1 H → Y i H x H' → (∀ b y H4, f a = some b → Same H H4 → P H4 y b → Qy y H4) → (f a = none → ∀ H4, Same H H4 → Qn H4) →
      g x (wipe σ vs) H' fun σ2 H2 => wipe σ2 vs = wipe σ vs ∧ tt σ2 H2 fun b H3 => if b = true then te σ2 H3 Qy else Qn H3)
    (hd : ∀ acc H, H D = some (.lst acc) → Same H1 H → Each (P H) acc (as.filterMap f) → Qd H) :
    Turns J g tt te vs σ H1 D Qd := by
  have hR : ∀ (i : Nat) (acc : List V) (H H' : Hp), Keep H H' → Each (P H) acc ((as.take i).filterMap f) → Each (P H') acc ((as.take i).filterMap f) := fun i acc H H' k h => Each.mono h fun v b q => hP H H' v b k q
  refine lc_go w (fun i acc H => Each (P H) acc ((as.take i).filterMap f)) hD hG hR ?_ (fun i x H H' acc hi e s hl r y => ?_) fun acc H e s r => ?_
  · rw [List.take_zero]
    exact .nil
  · have ha : as[i]? = some (as[i]'(by omega)) := List.getElem?_eq_getElem (by omega)
    refine hs i x H H' _ _ _ ha s y (fun b z H4 hf sm hp => ?_) fun hf H4 sm => ?_
    · refine Lp.yes hD hR (sm _ _ e) (s.trans sm) hl (by omega) ?_
      rw [take_nxt ha, List.filterMap_append]
      refine Each.app (hR i acc H H4 (keep_of sm) r) ?_
      rw [List.filterMap_cons, hf]
      exact .one hp
    · refine Lp.no (sm _ _ e) (s.trans sm) hl ?_
      rw [take_nxt ha, List.filterMap_append, List.filterMap_cons, hf, List.filterMap_nil, List.append_nil]
      exact hR i acc H H4 (keep_of sm) r
  · rw [List.take_of_length_le (by omega)] at r
    exact hd acc H e s r
theorem tyes {te : TE} {σ : L2.St} {H : Hp} {Q : VK} {Qn : Hp → Prop} (h : te σ H Q) : tYes σ H fun b H3 => if b = true then te σ H3 Q else Qn H3 := by
  show (if true = true then te σ H Q else Qn H)
  rw [if_pos rfl]
  exact h
theorem tyes2 {σ : L2.St} {H : Hp} {A B : Hp → Prop} (h : A H) : tYes σ H fun b H3 => if b = true then A H3 else B H3 := by
  show (if true = true then A H else B H)
  rw [if_pos rfl]
  exact h
theorem each_int : ∀ {acc : List V} {ns : List Int}, Each (fun v n => v = .int n) acc ns → acc = ns.map V.int
  | _, _, .nil => rfl
  | _, _, .cons r t => by rw [r, each_int t]; rfl
theorem each_bl : ∀ {acc : List V} {ns : List Bool}, Each (fun v n => v = .bl n) acc ns → acc = ns.map V.bl
  | _, _, .nil => rfl
  | _, _, .cons r t => by rw [r, each_bl t]; rfl
theorem fm_some {α β : Type} (f : α → β) (as : List α) : as.filterMap (fun a => some (f a)) = as.map f := by
  induction as with
  | nil => rfl
  | cons a as ih =>
    rw [List.filterMap_cons, ih]
    rfl
theorem fm_if {α : Type} (p : α → Bool) : ∀ as : List α, as.filterMap (fun a => if p a = true then some a else none) = as.filter p
  | [] => rfl
  | a :: as => by
    rw [List.filterMap_cons, List.filter_cons, fm_if p as]
    cases p a <;> rfl
/-- every turn gives an element: h of what stands there -/
theorem lc_map {J : It} {n : Nat} {G : Hp → Prop} {Y : Nat → Hp → V → Hp → Prop} (w : Walk J n G Y) {g : TG} {tt : TT} {te : TE} {vs : List Nat} {σ : L2.St} {H1 : Hp} {D : Addr} {Qd : Hp → Prop} {α β : Type} (as : List α) (h : α → β) (P : Hp → V → β → Prop)
    (hP : ∀ H H' v b, Keep H H' → P H v b → P H' v b) (hn : as.length = n) (hb : n ≤ 1000000) (hD : H1 D = none) (hG : ∀ H, Same H1 H → G H)
    (hs : ∀ i x H H' a (Q : VK) (Qn : Hp → Prop), as[i]? = some a → Same H1 H → Y i H x H' → (∀ y H4, Same H H4 → P H4 y (h a) → Q y H4) → g x (wipe σ vs) H' fun σ2 H2 => wipe σ2 vs = wipe σ vs ∧ tt σ2 H2 fun b H3 => if b = true then te σ2 H3 Q else Qn H3)
    (hd : ∀ acc H, H D = some (.lst acc) → Same H1 H → Each (P H) acc (as.map h) → Qd H) :
    Turns J g tt te vs σ H1 D Qd :=
  lc_fm w as (fun a => some (h a)) P hP hn hb hD hG (fun i x H H' a Qy Qn ha s y q1 _ => hs i x H H' a Qy Qn ha s y fun z H4 sm p => q1 (h a) z H4 rfl sm p)
    fun acc H e s r => hd acc H e s (by rw [← fm_some]; exact r)
end MR
namespace MR
open PySem PySem.Spec PyProof.Rows L2
/-- the second for's own turns, Nx behind them -/
abbrev Within (J1 : It) (g1 : TG) (tt1 : TT) (te : TE) (vs1 : List Nat) (σ2 : L2.St) (H4 : Hp) (D : Addr) (Nx : Hp → Prop) : Prop :=
  ∃ W1 : Nat → Nat → Hp → Prop, (∃ m, W1 0 m H4) ∧ ∀ j k H, W1 j k H → (J1.stop j H ∧ Nx H) ∨ (J1.go j H ∧ ∃ Nx1 : Hp → Prop, (∀ H', Nx1 H' → ∃ k', k' < k ∧ W1 (j + 1) k' H') ∧
    ∀ x H', J1.yld j H x H' → g1 x (wipe σ2 vs1) H' fun σ3 H5 => wipe σ3 vs1 = wipe σ2 vs1 ∧ tt1 σ3 H5 fun b H6 => if b = true then te σ3 H6 fun y H7 => ∃ acc, H7 D = some (.lst acc) ∧ acc.length < sizeLine ∧ Nx1 (upd H7 D (.lst (acc ++ [y]))) else Nx1 H6)
/-- a comprehension by its walk and a measured invariant, the second for within -/
theorem lc2_it {J : It} {n : Nat} {G : Hp → Prop} {Y : Nat → Hp → V → Hp → Prop} (w : Walk J n G Y) {g g1 : TG} {tt tt1 : TT} {te : TE} {wi1 : TI} {vs vs1 : List Nat} {σ : L2.St} {H1 : Hp} {D : Addr} {Qd : Hp → Prop} (Pv : Nat → Hp → Prop) (h0 : Pv 0 (upd H1 D (.lst []))) (hG : ∀ i H, i ≤ n → Pv i H → G H)
    (hs : ∀ i x H H', i < n → Pv i H → Y i H x H' → g x (wipe σ vs) H' fun σ2 H2 => wipe σ2 vs = wipe σ vs ∧ tt σ2 H2 fun b H3 =>
      if b = true then wi1 σ2 H3 fun J1 H4 => Within J1 g1 tt1 te vs1 σ2 H4 D (Pv (i + 1))
      else Pv (i + 1) H3) (hd : ∀ H, Pv n H → Qd H) :
    ∃ W : Nat → Nat → Hp → Prop, (∃ m, W 0 m (upd H1 D (.lst []))) ∧ ∀ i m H, W i m H →
      (J.stop i H ∧ Qd H) ∨ (J.go i H ∧ ∃ Nx : Hp → Prop, (∀ H', Nx H' → ∃ m', m' < m ∧ W (i + 1) m' H') ∧ ∀ x H', J.yld i H x H' → g x (wipe σ vs) H' fun σ2 H2 => wipe σ2 vs = wipe σ vs ∧ tt σ2 H2 fun b H3 =>
        if b = true then wi1 σ2 H3 fun J1 H4 => Within J1 g1 tt1 te vs1 σ2 H4 D Nx
        else Nx H3) := by
  refine ⟨fun i m H => m = n - i ∧ i ≤ n ∧ Pv i H, ⟨n, by simp, Nat.zero_le _, h0⟩, ?_⟩
  rintro i m H ⟨rfl, hi, p⟩
  have q := hG i H hi p
  by_cases hlt : i < n
  · exact .inr ⟨w.goes i H hlt q, Pv (i + 1), fun H' p' => ⟨n - (i + 1), by omega, rfl, hlt, p'⟩, fun x H' y => hs i x H H' hlt p (w.yields i H x H' hlt q y)⟩
  · have e : i = n := by omega
    subst e
    exact .inl ⟨w.stops H q, hd H p⟩
theorem in_it {J1 : It} {n : Nat} {G : Hp → Prop} {Y : Nat → Hp → V → Hp → Prop} (w : Walk J1 n G Y) {g1 : TG} {tt1 : TT} {te : TE} {vs1 : List Nat} {σ2 : L2.St} {H4 : Hp} {D : Addr} {Nx : Hp → Prop} (Pv : Nat → Hp → Prop) (h0 : Pv 0 H4) (hG : ∀ i H, i ≤ n → Pv i H → G H)
    (hs : ∀ j x H H', j < n → Pv j H → Y j H x H' → g1 x (wipe σ2 vs1) H' fun σ3 H5 => wipe σ3 vs1 = wipe σ2 vs1 ∧ tt1 σ3 H5 fun b H6 =>
      if b = true then te σ3 H6 fun y H7 => ∃ acc, H7 D = some (.lst acc) ∧ acc.length < sizeLine ∧ Pv (j + 1) (upd H7 D (.lst (acc ++ [y]))) else Pv (j + 1) H6) (hd : ∀ H, Pv n H → Nx H) :
    Within J1 g1 tt1 te vs1 σ2 H4 D Nx := by
  refine ⟨fun i m H => m = n - i ∧ i ≤ n ∧ Pv i H, ⟨n, by simp, Nat.zero_le _, h0⟩, ?_⟩
  rintro i m H ⟨rfl, hi, p⟩
  have q := hG i H hi p
  by_cases hlt : i < n
  · exact .inr ⟨w.goes i H hlt q, Pv (i + 1), fun H' p' => ⟨n - (i + 1), by omega, rfl, hlt, p'⟩, fun x H' y => hs i x H H' hlt p (w.yields i H x H' hlt q y)⟩
  · have e : i = n := by omega
    subst e
    exact .inl ⟨w.stops H q, hd H p⟩
end MR
/-! rules whose reading names the kit, told with the kit's name: for the block of a comprehension -/
namespace MR
open PySem PySem.Spec PyProof.Rows L2
section
variable {X : Cx} {K : PySem.W.Frag}
theorem pe_fldB {e : Expr} {f : Str} {pos : Pos} {ta : TE} (hK : X.K = K) (he : PE X e ta) (hb : attributeBase e f X.env (eval e X.env) = eval e X.env := by rfl) : PE X (.Attribute e f pos) (tFld K ta f) := hK ▸ pe_fld he hb
theorem pa_starB {e : Expr} {es : List Expr} {p : Pos} {te : TE} {t : TA} (hK : X.K = K) (he : PE X e te) (hr : PA X es t) (hs : starEach (.Starred e p :: es) X.env = (true, eval e X.env) :: starEach es X.env := by rfl) : PA X (.Starred e p :: es) (StX.tStar K te t) := hK ▸ StX.pa_star he hr hs
theorem ix_tupB (hK : X.K = K) : IxR X (rIxT K) := hK ▸ ix_tup
theorem ix_listB (hK : X.K = K) : IxR X (rIxL K) := hK ▸ ix_list
theorem op_catAB (hK : X.K = K) : OpR X (binaryOp .Add) (rCatA K) := hK ▸ op_catA
theorem op_eqDB (hK : X.K = K) (hu : X.A.units + 64 < cLine) : OpR X (compareOp .Eq) (rEqD K) := hK ▸ op_eqD hu
theorem op_neDB (hK : X.K = K) (hu : X.A.units + 64 < cLine) : OpR X (compareOp .NotEq) (rNeD K) := hK ▸ op_neD hu
theorem call_lenB (hK : X.K = K) : CallR X (.builtin "len") (fun xs H Q => ∃ p ys, xs = [.ref p] ∧ (SqL K H p ys ∨ SqT K H p ys) ∧ Q (.int ys.length) H) := hK ▸ call_len_seq
theorem cr_sumB (hK : X.K = K) (hc : X.calm = true) : CallR X (.builtin "sum") (rSum K) := hK ▸ cr_sum hc
theorem cr_minB (hK : X.K = K) (hc : X.calm = true) : CallR X (.builtin "min") (rMin K) := hK ▸ cr_min hc
theorem call_list_ofB (hK : X.K = K) : CallR X (.type "list") (fun xs H Q => ∃ p ys, xs = [.ref p] ∧ (SqL K H p ys ∨ SqT K H p ys) ∧ ∀ l, H l = none → Q (.ref l) (upd H l (.lst ys))) := hK ▸ call_list_of
theorem pi_listB {tg l : Expr} {tl : TE} (hK : X.K = K) (hl : PE X l tl) : PI X tg l (iList K tl) := hK ▸ pi_list hl
theorem pi_tupB {tg l : Expr} {tl : TE} (hK : X.K = K) (hl : PE X l tl) : PI X tg l (iTup K tl) := hK ▸ pi_tup hl
theorem pg_tupB {es : List Expr} {k : Nat} {t : TGs} {n : Nat} {pos : Pos} (hK : X.K = K) (hc : X.calm = true) (h : PGs X es t)
    (hn : (assignEach es X.env).length = n := by rfl) (hst : (assignEach es X.env).findIdx? (·.1) = none := by rfl) : PG X (.Tuple es k pos) (gTup K n t) := hK ▸ pg_tup hc h hn hst
end
end MR

set_option Elab.async false
set_option linter.all false
set_option maxRecDepth 100000
set_option maxHeartbeats 4000000
namespace MR
open PySem PySem.Spec PyProof.Rows L2
section
variable {P : Program} {w : World} {K : PySem.W.Frag} {mg : Str → Option Value} {base : Heap} {C : Addr}
/-! ### is_from -/
def spFrom : Sp := fun vs H Q _ => ∃ v lo hi : Int, vs = [.int v, .int lo, .int hi] ∧ Q (.bl (decide (lo ≤ v) && decide (v ≤ hi))) H
def n_is_from : List Str := ["value", "low", "high"]
theorem sc_is_from : FnScope n_is_from ["value", "low", "high"] (defScope s_is_from) := ⟨rfl, rfl, rfl, by decide +kernel, rfl, by decide +kernel, by decide +kernel⟩

theorem cal_is_from (D : Df K mg "is_from" s_is_from) (T : Tx K mg C) : Cal P w K mg base CX0 1 "is_from" spFrom := by
  refine cal_of D sc_is_from (fun _ _ _ _ _ _ us hl => match us, hl with | [_, _, _], _ => rfl) (fun vs H Q E h => ?_) (fun f cdv A outer s H vs Q E hr h => ?_)
  · obtain ⟨_, _, _, rfl, _⟩ := h
    rfl
  · obtain ⟨v, lo, hi, rfl, q⟩ := h
    refine ⟨_, (pss_one (ps_ret (pe_and (pe_callB call_isi (by rfl) T.b.isinstance bt_isinstance (pa_cons (pv 0) (pa_cons (pe_bltn (v := .ty "int") (by rfl) T.b.int bt_int rfl) pa_nil))) (pe_and (pe_not (pe_callB call_isi (by rfl) T.b.isinstance bt_isinstance (pa_cons (pv 0) (pa_cons (pe_bltn (v := .ty "bool") (by rfl) T.b.bool bt_bool rfl) pa_nil)))) (pe_one (pe_chain op_le op_le (pv 1) (pv 0) (pv 2))))))), ?_⟩
    refine ⟨_, rfl, _, _, _, _, true, rfl, .ty "int", tyx_int v, kit_int_int K, true, rfl, iteT ?_⟩
    refine ⟨_, rfl, _, _, _, _, false, rfl, .ty "bool", tyx_int v, kit_int_bool K, false, rfl, true, rfl, iteT ?_⟩
    refine ⟨_, rfl, _, rfl, _, _, rfl, rfl, _, rfl, ?_⟩
    by_cases c : lo ≤ v
    · rw [decide_eq_true c] at q ⊢
      refine iteT ?_
      exact ⟨_, rfl, _, _, rfl, rfl, q⟩
    · rw [decide_eq_false c] at q ⊢
      exact iteF q
/-! ### is_want_of -/
def spWant : Sp := fun vs H Q _ => ∃ (n : Nat) (v : V) (a : Want), vs = [.int n, v] ∧ WantAt H v a ∧ WantOk n a ∧ Q (.bl true) H
def n_is_want_of : List Str := ["many", "value"]
theorem sc_is_want_of : FnScope n_is_want_of ["many", "value"] (defScope s_is_want_of) := ⟨rfl, rfl, rfl, by decide +kernel, rfl, by decide +kernel, by decide +kernel⟩

theorem cal_is_want_of (D : Df K mg "is_want_of" s_is_want_of) (T : Tx K mg C) (c_is_from : Cal P w K mg base CX0 1 "is_from" spFrom) : Cal P w K mg base CX0 2 "is_want_of" spWant := by
  refine cal_of D sc_is_want_of (fun _ _ _ _ _ _ us hl => match us, hl with | [_, _], _ => rfl) (fun vs H Q E h => ?_) (fun f cdv A outer s H vs Q E hr h => ?_)
  · obtain ⟨_, _, _, rfl, _⟩ := h
    rfl
  · obtain ⟨n, v, a, rfl, ⟨p, rfl, hp⟩, ⟨o1, o2, o3⟩, q⟩ := h
    refine ⟨_, (pss_cons (ps_if (PW.pt (pw_or (pt_not (pt_val (pe_callB call_isi (by rfl) T.b.isinstance bt_isinstance (pa_cons (pv 1) (pa_cons (pe_bltn (v := .ty "tuple") (by rfl) T.b.tuple bt_tuple rfl) pa_nil))))) (pw_or1 (pt_cmpR op_ne (pe_callB call_len_seq (by rfl) T.b.len bt_len (pa_cons (pv 1) pa_nil)) pe_int (nomark _))))) (pss_one (ps_ret pe_bl)) pss_nil)
      (pss_one (ps_ret (pe_and (pe_c c_is_from hr (by decide) (by rfl) (pa_cons (pe_ix ix_tup (pv 1) pe_int (fun _ _ => rfl)) (pa_cons pe_int (pa_cons (pe_op op_sub (pv 0) pe_int) pa_nil)))) (pe_one (pe_c c_is_from hr (by decide) (by rfl) (pa_cons (pe_ix ix_tup (pv 1) pe_int (fun _ _ => rfl)) (pa_cons pe_int (pa_cons pe_int pa_nil))))))))), ?_⟩
    refine ⟨_, rfl, _, _, _, _, true, rfl, .ty "tuple", tyx_tup hp, kit_tuple_tuple K, true, rfl, iteF ?_⟩
    refine ⟨_, rfl, p, _, rfl, .inr (SqT.of hp), rfl, _, rfl, iteF ?_⟩
    refine ⟨_, rfl, p, _, _, _, rfl, rfl, SqT.of hp, rfl, _, rfl, _, _, rfl, rfl, a.1, 0, (n : Int) - 1, rfl, ?_⟩
    rw [decide_eq_true o1, decide_eq_true (by omega : a.1 ≤ (n : Int) - 1)]
    refine ⟨true, rfl, iteT ?_⟩
    refine ⟨_, rfl, p, _, _, _, rfl, rfl, SqT.of hp, rfl, a.2, 0, 1, rfl, ?_⟩
    rw [decide_eq_true (by omega : 0 ≤ a.2), decide_eq_true (by omega : a.2 ≤ 1)]
    exact q
/-! ### off -/
def spOff : Sp := fun vs H Q _ => ∃ (v : V) (a : Want), vs = [v] ∧ WantAt H v a ∧ ∀ t, H t = none → Q (.ref t) (upd H t (.tup [.int a.1, .int (1 - a.2)]))
def n_off : List Str := ["want"]
theorem sc_off : FnScope n_off ["want"] (defScope s_off) := ⟨rfl, rfl, rfl, by decide +kernel, rfl, by decide +kernel, by decide +kernel⟩

theorem cal_off (D : Df K mg "off" s_off) : Cal P w K mg base CX0 1 "off" spOff := by
  refine cal_of D sc_off (fun _ _ _ _ _ _ us hl => match us, hl with | [_], _ => rfl) (fun vs H Q E h => ?_) (fun f cdv A outer s H vs Q E hr h => ?_)
  · obtain ⟨_, _, rfl, _⟩ := h
    rfl
  · obtain ⟨v, a, rfl, ⟨p, rfl, hp⟩, q⟩ := h
    refine ⟨_, (pss_one (ps_ret (pe_tup (pa_cons (pe_ix ix_tup (pv 0) pe_int (fun _ _ => rfl)) (pa_cons (pe_op op_sub pe_int (pe_ix ix_tup (pv 0) pe_int (fun _ _ => rfl))) pa_nil))))), ?_⟩
    refine ⟨_, rfl, p, _, _, _, rfl, rfl, SqT.of hp, rfl, _, rfl, p, _, _, _, rfl, rfl, SqT.of hp, rfl, _, _, rfl, rfl, (by show 2 ≤ sizeLine; decide), q⟩
/-! ### has, is_kept -/
def spHas : Sp := fun vs H Q _ => ∃ (v u : V) (r : Row) (a : Want), vs = [v, u] ∧ RowAt H v r ∧ WantAt H u a ∧ 0 ≤ a.1 ∧ a.1 < (r.length : Int) ∧ Q (.bl (hasW r a)) H
def n_has : List Str := ["row", "want"]
theorem sc_has : FnScope n_has ["row", "want"] (defScope s_has) := ⟨rfl, rfl, rfl, by decide +kernel, rfl, by decide +kernel, by decide +kernel⟩

theorem cal_has (D : Df K mg "has" s_has) : Cal P w K mg base CX0 1 "has" spHas := by
  refine cal_of D sc_has (fun _ _ _ _ _ _ us hl => match us, hl with | [_, _], _ => rfl) (fun vs H Q E h => ?_) (fun f cdv A outer s H vs Q E hr h => ?_)
  · obtain ⟨_, _, _, _, rfl, _⟩ := h
    rfl
  · obtain ⟨v, u, r, a, rfl, ⟨p, rfl, hp⟩, ⟨p2, rfl, hp2⟩, h0, h1, q⟩ := h
    refine ⟨_, (pss_one (ps_ret (pe_cmpR op_eq (pe_ix ix_tup (pv 0) (pe_ix ix_tup (pv 1) pe_int (fun _ _ => rfl)) (fun _ _ => rfl)) (pe_ix ix_tup (pv 1) pe_int (fun _ _ => rfl)) (nomark _)))), ?_⟩
    refine ⟨_, rfl, _, rfl, p2, _, _, _, rfl, rfl, SqT.of hp2, rfl, p, _, _, _, rfl, rfl, SqT.of hp, row_at h0 h1, _, rfl, p2, _, _, _, rfl, rfl, SqT.of hp2, rfl, rfl, ?_⟩
    have e : decide (V.int (at_ r a.1.toNat) = V.int a.2) = hasW r a := by
      unfold hasW
      by_cases c : at_ r a.1.toNat = a.2
      · rw [c, decide_eq_true rfl, decide_eq_true rfl]
      · rw [decide_eq_false c, decide_eq_false fun z => c (by injection z)]
    rw [e]
    exact q
def spKept : Sp := fun vs H Q _ => ∃ (v u : V) (r : Row) (a : Rule) (n : Nat), vs = [u, v] ∧ RowAt H v r ∧ RuleAt H u a ∧ r.length = n ∧ WantOk n a.1 ∧ WantOk n a.2 ∧ Q (.bl (keepsR r a)) H
def n_is_kept : List Str := ["rule", "row"]
theorem sc_is_kept : FnScope n_is_kept ["rule", "row"] (defScope s_is_kept) := ⟨rfl, rfl, rfl, by decide +kernel, rfl, by decide +kernel, by decide +kernel⟩

theorem cal_is_kept (D : Df K mg "is_kept" s_is_kept) (c_has : Cal P w K mg base CX0 1 "has" spHas) : Cal P w K mg base CX0 2 "is_kept" spKept := by
  refine cal_of D sc_is_kept (fun _ _ _ _ _ _ us hl => match us, hl with | [_, _], _ => rfl) (fun vs H Q E h => ?_) (fun f cdv A outer s H vs Q E hr h => ?_)
  · obtain ⟨_, _, _, _, _, rfl, _⟩ := h
    rfl
  · obtain ⟨v, u, r, a, n, rfl, hv, ⟨x, y, ⟨p, rfl, hp⟩, hx, hy⟩, hn, w1, w2, q⟩ := h
    refine ⟨_, (pss_one (ps_ret (pe_or (pe_c c_has hr (by decide) (by rfl) (pa_cons (pv 1) (pa_cons (pe_ix ix_tup (pv 0) pe_int (fun _ _ => rfl)) pa_nil))) (pe_one (pe_c c_has hr (by decide) (by rfl) (pa_cons (pv 1) (pa_cons (pe_ix ix_tup (pv 0) pe_int (fun _ _ => rfl)) pa_nil))))))), ?_⟩
    refine ⟨_, rfl, _, rfl, p, _, _, _, rfl, rfl, SqT.of hp, rfl, v, x, r, a.1, rfl, hv, hx, w1.1, by rw [hn]; exact w1.2.1, hasW r a.1, rfl, ?_⟩
    have e : keepsR r a = (hasW r a.1 || hasW r a.2) := rfl
    rw [e] at q
    cases c : hasW r a.1 with
    | true =>
      rw [c] at q
      exact iteT q
    | false =>
      rw [c] at q
      refine iteF ?_
      exact ⟨_, rfl, _, rfl, p, _, _, _, rfl, rfl, SqT.of hp, rfl, v, y, r, a.2, rfl, hv, hy, w2.1, by rw [hn]; exact w2.2.1, q⟩
end
end MR

set_option Elab.async false
set_option linter.all false
set_option maxRecDepth 100000
set_option maxHeartbeats 4000000
namespace MR
open PySem PySem.Spec PyProof.Rows L2
theorem Each.both {α : Type} {P : V → α → Prop} {vs : List V} {as : List α} {i : Nat} {v : V} {a : α} (h : Each P vs as) (h1 : vs[i]? = some v) (h2 : as[i]? = some a) : P v a := by
  obtain ⟨b, e, q⟩ := h.get h1
  rw [h2] at e
  cases e
  exact q
theorem all_true {α : Type} (as : List α) : (as.map fun _ => true).all id = true := by
  rw [List.all_map, List.all_eq_true]
  intro x _
  rfl
theorem le_want {a b : Want} (h : wlt a b ∨ a = b) : Ob.lexAt (fun j => decide (([a.1, a.2] : List Int).getD j 0 = ([b.1, b.2] : List Int).getD j 0)) (fun j => decide (([a.1, a.2] : List Int).getD j 0 ≤ ([b.1, b.2] : List Int).getD j 0)) (decide (([a.1, a.2] : List Int).length ≤ ([b.1, b.2] : List Int).length)) 0 (min ([a.1, a.2] : List Int).length ([b.1, b.2] : List Int).length) = true := by
  show (if decide (a.1 = b.1) = true then (if decide (a.2 = b.2) = true then true else decide (a.2 ≤ b.2)) else decide (a.1 ≤ b.1)) = true
  rcases h with (h | ⟨h1, h2⟩) | rfl
  · rw [if_neg (by simp; omega), decide_eq_true (by omega)]
  · rw [if_pos (by simp [h1]), if_neg (by simp; omega), decide_eq_true (by omega)]
  · simp
section
variable {P : Program} {w : World} {K : PySem.W.Frag} {mg : Str → Option Value} {base : Heap} {C : Addr}
/-! ### is_rule_of -/
def spRuleOf : Sp := fun vs H Q _ => ∃ (n : Nat) (v : V) (u : Rule), vs = [.int n, v] ∧ RuleAt H v u ∧ RuleOk n u ∧ ∀ H', Same H H' → Q (.bl true) H'
def n_is_rule_of : List Str := ["many", "value", "want"]
theorem sc_is_rule_of : FnScope n_is_rule_of ["many", "value"] (defScope s_is_rule_of) := ⟨rfl, rfl, rfl, by decide +kernel, rfl, by decide +kernel, by decide +kernel⟩

theorem cal_is_rule_of (D : Df K mg "is_rule_of" s_is_rule_of) (T : Tx K mg C) (c_is_want_of : Cal P w K mg base CX0 2 "is_want_of" spWant) (c_off : Cal P w K mg base CX0 1 "off" spOff) : Cal P w K mg base CX0 3 "is_rule_of" spRuleOf := by
  refine cal_of D sc_is_rule_of (fun _ _ _ _ _ _ us hl => match us, hl with | [_, _], _ => rfl) (fun vs H Q E h => ?_) (fun f cdv A outer s H vs Q E hr h => ?_)
  · obtain ⟨_, _, _, rfl, _⟩ := h
    rfl
  · obtain ⟨n, v, u, rfl, ⟨x, y, ⟨p, rfl, hp⟩, hx, hy⟩, ⟨o1, o2, o3, o4⟩, q⟩ := h
    refine ⟨_, (pss_cons (ps_if (PW.pt (pw_or (pt_not (pt_val (pe_callB call_isi (by rfl) T.b.isinstance bt_isinstance (pa_cons (pv 1) (pa_cons (pe_bltn (v := .ty "tuple") (by rfl) T.b.tuple bt_tuple rfl) pa_nil))))) (pw_or (pt_cmpR op_ne (pe_callB call_len_seq (by rfl) T.b.len bt_len (pa_cons (pv 1) pa_nil)) pe_int (nomark _)) (pw_or1 (pt_not (pt_val (pe_callB (cr_all rfl) (by rfl) T.b.all bt_all (pa_cons (pe_lc (own := [("want", 2)]) rfl sc_is_rule_of.nd (pi_tup (pv 1)) (blkOk_by (N := n_is_rule_of) (sc := defScope s_is_rule_of) (by decide +kernel)) (fun _ _ _ _ _ => (pg_name (i := 2) sc_is_rule_of.nd rfl (Or.inl rfl))) (fun _ _ _ _ _ => pts_nil) (fun _ _ _ _ _ => (pe_c c_is_want_of hr (by decide) (by rfl) (pa_cons (pv 0) (pa_cons (pv 2) pa_nil))))) pa_nil)))))))) (pss_one (ps_ret pe_bl)) pss_nil)
      (pss_one (ps_ret (pe_and (pe_cmpR (op_leT hr.units0) (pe_ix ix_tup (pv 1) pe_int (fun _ _ => rfl)) (pe_ix ix_tup (pv 1) pe_int (fun _ _ => rfl)) (nomark _)) (pe_one (pe_cmpR (op_neD hr.units) (pe_ix ix_tup (pv 1) pe_int (fun _ _ => rfl)) (pe_c c_off hr (by decide) (by rfl) (pa_cons (pe_ix ix_tup (pv 1) pe_int (fun _ _ => rfl)) pa_nil)) (nomark _))))))), ?_⟩
    refine ⟨_, rfl, _, _, _, _, true, rfl, .ty "tuple", tyx_tup hp, kit_tuple_tuple K, true, rfl, iteF ?_⟩
    refine ⟨_, rfl, p, _, rfl, .inr (SqT.of hp), rfl, _, rfl, iteF ?_⟩
    refine ⟨_, rfl, p, rfl, ⟨_, SqT.of hp⟩, fun D hD => ?_⟩
    have hw : ∀ H', Same H H' → Each (WantAt H') [x, y] [u.1, u.2] := fun H' s => .cons (hx.keep (keep_of s)) (.cons (hy.keep (keep_of s)) .nil)
    refine lc_map (walk_tup (xs := [x, y])) [u.1, u.2] (fun _ => true) (fun _ v b => v = .bl b) (fun _ _ _ _ _ h => h) rfl (by show 2 ≤ _; omega) hD (fun H' s => SqT.of (s _ _ hp)) (fun i z H1 H2 a Qy Qn ha s1 ⟨e1, e2⟩ q1 => ?_) fun acc H' hl s1 r => ?_
    · subst e1
      refine ⟨rfl, tyes ?_⟩
      refine ⟨_, rfl, _, rfl, n, z, a, rfl, (hw _ s1).both e2 ha, ?_, q1 _ _ (Same.refl _) rfl⟩
      match i, ha with
      | 0, ha => cases ha; exact o1
      | 1, ha => cases ha; exact o2
    · rw [each_bl r] at hl
      refine ⟨D, _, rfl, SqL.of hl, ?_⟩
      refine ⟨_, rfl, iteF ?_⟩
      have hp' := s1 _ _ hp
      obtain ⟨a, rfl, ha⟩ := hx.keep (keep_of s1)
      obtain ⟨b, rfl, hb⟩ := hy.keep (keep_of s1)
      refine ⟨_, rfl, p, _, _, _, rfl, rfl, SqT.of hp', rfl, _, rfl, p, _, _, _, rfl, rfl, SqT.of hp', rfl, a, b, [u.1.1, u.1.2], [u.2.1, u.2.2], rfl, rfl, SqT.of ha, SqT.of hb, ?_⟩
      rw [le_want o3]
      refine ⟨_, rfl, iteT ?_⟩
      refine ⟨_, rfl, p, _, _, _, rfl, rfl, SqT.of hp', rfl, _, rfl, p, _, _, _, rfl, rfl, SqT.of hp', rfl, _, u.1, rfl, ⟨a, rfl, ha⟩, fun t ht => ?_⟩
      have s2 : Same H' (upd H' t (.tup [.int u.1.1, .int (1 - u.1.2)])) := same_new ht
      refine ⟨wantD u.2, wantD (u.1.1, 1 - u.1.2), WantAt.dp ⟨b, rfl, s2 _ _ hb⟩, WantAt.dp ⟨t, rfl, upd_same⟩, shaped_want _, shaped_want _, ?_⟩
      rw [eqv_want, decide_eq_false o4]
      exact q _ (s1.trans s2)
/-! ### are_kept -/
def spAre : Sp := fun vs H Q _ => ∃ (n : Nat) (t v : V) (us : List Rule) (r : Row), vs = [t, v] ∧ RulesT H t us ∧ RowAt H v r ∧ r.length = n ∧ (∀ u, u ∈ us → WantOk n u.1 ∧ WantOk n u.2) ∧ us.length ≤ 1000000 ∧ ∀ H', Same H H' → Q (.bl (keepsA us r)) H'
def n_are_kept : List Str := ["told", "row", "rule"]
theorem sc_are_kept : FnScope n_are_kept ["told", "row"] (defScope s_are_kept) := ⟨rfl, rfl, rfl, by decide +kernel, rfl, by decide +kernel, by decide +kernel⟩

theorem cal_are_kept (D : Df K mg "are_kept" s_are_kept) (T : Tx K mg C) (c_is_kept : Cal P w K mg base CX0 2 "is_kept" spKept) : Cal P w K mg base CX0 3 "are_kept" spAre := by
  refine cal_of D sc_are_kept (fun _ _ _ _ _ _ us hl => match us, hl with | [_, _], _ => rfl) (fun vs H Q E h => ?_) (fun f cdv A outer s H vs Q E hr h => ?_)
  · obtain ⟨_, _, _, _, _, rfl, _⟩ := h
    rfl
  · obtain ⟨n, t, v, us, r, rfl, ⟨xs, ⟨p, rfl, hp⟩, hu⟩, hv, hn, ho, hz, q⟩ := h
    refine ⟨_, (pss_one (ps_ret (pe_callB (cr_all rfl) (by rfl) T.b.all bt_all (pa_cons (pe_lc (own := [("rule", 2)]) rfl sc_are_kept.nd (pi_tup (pv 0)) (blkOk_by (N := n_are_kept) (sc := defScope s_are_kept) (by decide +kernel)) (fun _ _ _ _ _ => (pg_name (i := 2) sc_are_kept.nd rfl (Or.inl rfl))) (fun _ _ _ _ _ => pts_nil) (fun _ _ _ _ _ => (pe_c c_is_kept hr (by decide) (by rfl) (pa_cons (pv 2) (pa_cons (pv 1) pa_nil))))) pa_nil)))), ?_⟩
    refine ⟨_, rfl, p, rfl, ⟨_, SqT.of hp⟩, fun D hD => ?_⟩
    refine lc_map (walk_tup (xs := xs)) us (fun u => keepsR r u) (fun _ v b => v = .bl b) (fun _ _ _ _ _ h => h) hu.len.symm (by rw [hu.len]; exact hz) hD (fun H' s => SqT.of (s _ _ hp)) (fun i z H1 H2 a Qy Qn ha s1 ⟨e1, e2⟩ q1 => ?_) fun acc H' hl s1 r => ?_
    · subst e1
      refine ⟨rfl, tyes ?_⟩
      have hm := ho a (List.mem_of_getElem? ha)
      exact ⟨_, rfl, _, rfl, v, z, r, a, n, rfl, hv.keep (keep_of s1), (hu.keep (keep_of s1)).both e2 ha, hn, hm.1, hm.2, q1 _ _ (Same.refl _) rfl⟩
    · rw [each_bl r] at hl
      refine ⟨D, _, rfl, SqL.of hl, ?_⟩
      rw [List.all_map]
      exact q H' s1
/-! ### is_row_of, need_row, need_rules -/
def spRowOf : Sp := fun vs H Q _ => ∃ (n : Nat) (v : V) (r : Row), vs = [.int n, v] ∧ RowAt H v r ∧ RowOf n r ∧ n ≤ 1000000 ∧ ∀ H', Same H H' → Q (.bl true) H'
def n_is_row_of : List Str := ["many", "value", "one"]
theorem sc_is_row_of : FnScope n_is_row_of ["many", "value"] (defScope s_is_row_of) := ⟨rfl, rfl, rfl, by decide +kernel, rfl, by decide +kernel, by decide +kernel⟩

theorem cal_is_row_of (D : Df K mg "is_row_of" s_is_row_of) (T : Tx K mg C) (c_is_from : Cal P w K mg base CX0 1 "is_from" spFrom) : Cal P w K mg base CX0 2 "is_row_of" spRowOf := by
  refine cal_of D sc_is_row_of (fun _ _ _ _ _ _ us hl => match us, hl with | [_, _], _ => rfl) (fun vs H Q E h => ?_) (fun f cdv A outer s H vs Q E hr h => ?_)
  · obtain ⟨_, _, _, rfl, _⟩ := h
    rfl
  · obtain ⟨n, v, r, rfl, ⟨p, rfl, hp⟩, ⟨o1, o2⟩, hz, q⟩ := h
    refine ⟨_, (pss_one (ps_ret (pe_and (pe_callB call_isi (by rfl) T.b.isinstance bt_isinstance (pa_cons (pv 1) (pa_cons (pe_bltn (v := .ty "tuple") (by rfl) T.b.tuple bt_tuple rfl) pa_nil))) (pe_and (pe_cmpR op_eq (pe_callB call_len_seq (by rfl) T.b.len bt_len (pa_cons (pv 1) pa_nil)) (pv 0) (nomark _)) (pe_one (pe_callB (cr_all rfl) (by rfl) T.b.all bt_all (pa_cons (pe_lc (own := [("one", 2)]) rfl sc_is_row_of.nd (pi_tup (pv 1)) (blkOk_by (N := n_is_row_of) (sc := defScope s_is_row_of) (by decide +kernel)) (fun _ _ _ _ _ => (pg_name (i := 2) sc_is_row_of.nd rfl (Or.inl rfl))) (fun _ _ _ _ _ => pts_nil) (fun _ _ _ _ _ => (pe_c c_is_from hr (by decide) (by rfl) (pa_cons (pv 2) (pa_cons pe_int (pa_cons pe_int pa_nil)))))) pa_nil))))))), ?_⟩
    refine ⟨_, rfl, _, _, _, _, true, rfl, .ty "tuple", tyx_tup hp, kit_tuple_tuple K, true, rfl, iteT ?_⟩
    refine ⟨_, rfl, p, _, rfl, .inr (SqT.of hp), _, rfl, rfl, ?_⟩
    rw [List.length_map, o1, decide_eq_true rfl]
    refine ⟨_, rfl, iteT ?_⟩
    refine ⟨_, rfl, p, rfl, ⟨_, SqT.of hp⟩, fun D hD => ?_⟩
    have hl : (r.map V.int).length = n := by rw [List.length_map, o1]
    refine lc_map (walk_tup (xs := r.map V.int)) r (fun _ => true) (fun _ v b => v = .bl b) (fun _ _ _ _ _ h => h) (List.length_map _).symm (by rw [hl]; exact hz) hD (fun H' s => SqT.of (s _ _ hp)) (fun i z H1 H2 a Qy Qn ha s1 ⟨e1, e2⟩ q1 => ?_) fun acc H' hl s1 r => ?_
    · subst e1
      refine ⟨rfl, tyes ?_⟩
      rw [List.getElem?_map, ha] at e2
      cases e2
      refine ⟨_, rfl, a, 0, 1, rfl, ?_⟩
      have := o2 a (List.mem_of_getElem? ha)
      rw [decide_eq_true (by omega : 0 ≤ a), decide_eq_true (by omega : a ≤ 1)]
      exact q1 _ _ (Same.refl _) rfl
    · rw [each_bl r] at hl
      refine ⟨D, _, rfl, SqL.of hl, ?_⟩
      rw [all_true]
      exact q H' s1
def spNeedRow : Sp := fun vs H Q _ => ∃ (n : Nat) (us : List Rule) (o v : V) (r : Row), vs = [o, v] ∧ RObj C H o n us ∧ RowAt H v r ∧ RowOf n r ∧ n ≤ 1000000 ∧ ∀ H', Same H H' → Q .non H'
def n_need_row : List Str := ["rules", "row"]
theorem sc_need_row : FnScope n_need_row ["rules", "row"] (defScope s_need_row) := ⟨rfl, rfl, rfl, by decide +kernel, rfl, by decide +kernel, by decide +kernel⟩

theorem cal_need_row (D : Df K mg "need_row" s_need_row) (T : Tx K mg C) (c_is_row_of : Cal P w K mg base CX0 2 "is_row_of" spRowOf) : Cal P w K mg base CX0 3 "need_row" (spNeedRow (C := C)) := by
  refine cal_of D sc_need_row (fun _ _ _ _ _ _ us hl => match us, hl with | [_, _], _ => rfl) (fun vs H Q E h => ?_) (fun f cdv A outer s H vs Q E hr h => ?_)
  · obtain ⟨_, _, _, _, _, rfl, _⟩ := h
    rfl
  · obtain ⟨n, us, o, v, r, rfl, ⟨p, dx, t, rfl, hp, ht⟩, hv, hn, hz, q⟩ := h
    refine ⟨_, (pss_one (ps_if (pt_not (pt_val (pe_c c_is_row_of hr (by decide) (by rfl) (pa_cons (pe_fld (pv 0) rfl) (pa_cons (pv 1) pa_nil))))) (pss_one ps_never) pss_nil)), ?_⟩
    refine ⟨_, rfl, p, C, dx, _, _, rfl, hp, T.cl, T.nW, flds_wide _ _, _, rfl, n, v, r, rfl, hv, hn, hz, fun H' s1 => ⟨_, rfl, iteF (q H' s1)⟩⟩
def spNeedRules : Sp := fun vs H Q _ => ∃ (n : Nat) (us : List Rule) (o : V), vs = [o] ∧ RObj C H o n us ∧ Q .non H
def n_need_rules : List Str := ["rules"]
theorem sc_need_rules : FnScope n_need_rules ["rules"] (defScope s_need_rules) := ⟨rfl, rfl, rfl, by decide +kernel, rfl, by decide +kernel, by decide +kernel⟩

theorem cal_need_rules (D : Df K mg "need_rules" s_need_rules) (T : Tx K mg C) : Cal P w K mg base CX0 1 "need_rules" (spNeedRules (C := C)) := by
  refine cal_of D sc_need_rules (fun _ _ _ _ _ _ us hl => match us, hl with | [_], _ => rfl) (fun vs H Q E h => ?_) (fun f cdv A outer s H vs Q E hr h => ?_)
  · obtain ⟨_, _, _, rfl, _⟩ := h
    rfl
  · obtain ⟨n, us, o, rfl, ⟨p, dx, t, rfl, hp, ht⟩, q⟩ := h
    refine ⟨_, (pss_one (ps_if (pt_not (pt_val (pe_callB (C8.call_isC T.ins) (by rfl) T.b.isinstance bt_isinstance (pa_cons (pv 0) (pa_cons (pe_glob (v := .ref C) (by rfl) T.mgC rfl) pa_nil))))) (pss_one ps_never) pss_nil)), ?_⟩
    exact ⟨_, rfl, p, dx, _, rfl, hp, _, rfl, iteF q⟩
/-! ### keeps -/
def spKeeps : Sp := fun vs H Q _ => ∃ (n : Nat) (us : List Rule) (o v : V) (r : Row), vs = [o, v] ∧ RObj C H o n us ∧ RowAt H v r ∧ RowOf n r ∧ n ≤ 1000000 ∧ (∀ u, u ∈ us → WantOk n u.1 ∧ WantOk n u.2) ∧ us.length ≤ 1000000 ∧ ∀ H', Same H H' → Q (.bl (keepsA us r)) H'
def n_keeps : List Str := ["rules", "row"]
theorem sc_keeps : FnScope n_keeps ["rules", "row"] (defScope s_keeps) := ⟨rfl, rfl, rfl, by decide +kernel, rfl, by decide +kernel, by decide +kernel⟩

theorem cal_keeps (D : Df K mg "keeps" s_keeps) (T : Tx K mg C) (c_need_rules : Cal P w K mg base CX0 1 "need_rules" (spNeedRules (C := C))) (c_need_row : Cal P w K mg base CX0 3 "need_row" (spNeedRow (C := C))) (c_are_kept : Cal P w K mg base CX0 3 "are_kept" spAre) : Cal P w K mg base CX0 4 "keeps" (spKeeps (C := C)) := by
  refine cal_of D sc_keeps (fun _ _ _ _ _ _ us hl => match us, hl with | [_, _], _ => rfl) (fun vs H Q E h => ?_) (fun f cdv A outer s H vs Q E hr h => ?_)
  · obtain ⟨_, _, _, _, _, rfl, _⟩ := h
    rfl
  · obtain ⟨n, us, o, v, r, rfl, ho, hv, hn, hz, hw, hl, q⟩ := h
    refine ⟨_, (pss_cons (ps_expr (pe_c c_need_rules hr (by decide) (by rfl) (pa_cons (pv 0) pa_nil)))
      (pss_cons (ps_expr (pe_c c_need_row hr (by decide) (by rfl) (pa_cons (pv 0) (pa_cons (pv 1) pa_nil))))
      (pss_one (ps_ret (pe_c c_are_kept hr (by decide) (by rfl) (pa_cons (pe_fld (pv 0) rfl) (pa_cons (pv 1) pa_nil))))))), ?_⟩
    refine ⟨_, rfl, n, us, o, rfl, ho, _, rfl, _, rfl, n, us, o, v, r, rfl, ho, hv, hn, hz, fun H1 s1 => ?_⟩
    obtain ⟨p, dx, t, rfl, hp, ht⟩ := ho.same s1
    exact ⟨_, rfl, p, C, dx, _, _, rfl, hp, T.cl, T.nT, flds_told _ _, _, rfl, n, t, v, us, r, rfl, ht, hv.keep (keep_of s1), hn.1, hw, hl, fun H2 s2 => q H2 (s1.trans s2)⟩
end
end MR

set_option Elab.async false
set_option linter.all false
set_option maxRecDepth 100000
set_option maxHeartbeats 4000000
namespace MR
open PySem PySem.Spec PyProof.Rows L2
theorem allRows_small {n i : Nat} (hn : n ≤ 8) (h : i < n) : (allRows i).length ≤ 128 := by
  rw [allRows_len]
  calc 2 ^ i ≤ 2 ^ 7 := Nat.pow_le_pow_right (by omega) (by omega)
    _ = 128 := by rfl
theorem allRows_big {n : Nat} (hn : n ≤ 8) : (allRows n).length ≤ 256 := by
  rw [allRows_len]
  calc 2 ^ n ≤ 2 ^ 8 := Nat.pow_le_pow_right (by omega) (by omega)
    _ = 256 := by rfl
theorem row_len {n : Nat} {r : Row} (h : r ∈ allRows n) : r.length = n := (mem_allRows.mp h).1
section
variable {P : Program} {w : World} {K : PySem.W.Frag} {mg : Str → Option Value} {base : Heap} {C : Addr}
/-! ### all_rows -/
def spAll : Sp := fun vs H Q _ => ∃ n : Nat, vs = [.int n] ∧ n ≤ 8 ∧ ∀ v H', RowsL H' v (allRows n) → Same H H' → Q v H'
def n_all_rows : List Str := ["many", "found", "place", "row", "value"]
theorem sc_all_rows : FnScope n_all_rows ["many"] (defScope s_all_rows) := ⟨rfl, rfl, rfl, by decide +kernel, rfl, by decide +kernel, by decide +kernel⟩

theorem cal_all_rows (D : Df K mg "all_rows" s_all_rows) (T : Tx K mg C) : Cal P w K mg base CX0 1 "all_rows" spAll := by
  refine cal_of D sc_all_rows (fun _ _ _ _ _ _ us hl => match us, hl with | [_], _ => rfl) (fun vs H Q E h => ?_) (fun f cdv A outer s H vs Q E hr h => ?_)
  · obtain ⟨_, rfl, _⟩ := h
    rfl
  · obtain ⟨n, rfl, hn, q⟩ := h
    refine ⟨_, (pss_cons (ps_set (i := 1) sc_all_rows.nd rfl (Or.inl rfl) (pe_lst (pa_cons (pe_tup pa_nil) pa_nil)))
      (pss_cons (ps_for PassesOwn.never rfl (pi_range1 (by rfl) T.b.range (pa_cons (pv 0) pa_nil)) (pg_name (i := 2) sc_all_rows.nd rfl (Or.inl rfl)) (pss_one (ps_setLc2 (i := 1) (own := [("row", 3), ("value", 4)]) (vs1 := [4]) rfl sc_all_rows.nd rfl rfl (sw_true rfl rfl rfl (by decide +kernel)) (pi_list (pv 1)) (blkOk_by (N := n_all_rows) (sc := defScope s_all_rows) (by decide +kernel)) (by decide) (fun _ _ _ _ _ => (pg_name (i := 3) sc_all_rows.nd rfl (Or.inl rfl))) (fun _ _ _ _ _ => pts_nil) (fun _ _ _ _ _ => (pi_tupB (K := K) (by rfl) (pe_tup (pa_cons pe_int (pa_cons pe_int pa_nil))))) (fun _ _ _ _ _ => (pg_name (i := 4) sc_all_rows.nd rfl (Or.inl rfl))) (fun _ _ _ _ _ => pts_nil) (fun _ _ _ _ _ => (pe_tup (pa_starB (K := K) (by rfl) (pv 3) (pa_cons (pv 4) pa_nil)))))))
      (pss_one (ps_ret (pv 1))))), ?_⟩
    refine ⟨by show 0 ≤ _; omega, fun t ht => ⟨by show 1 ≤ sizeLine; decide, fun l hl => ?_⟩⟩
    refine ⟨_, rfl, n, rfl, by omega, by omega, ?_⟩
    refine for_it (n := ((n : Nat) : Int).toNat) walk_range (fun i σ H' => ∃ v o, σ = [some (.int n), some v, o, none, none] ∧ RowsL H' v (allRows i) ∧ Same H H') ?_ (fun _ _ _ _ _ => trivial) (fun i x σ H1 H2 hi p y => ?_) fun σ H' p => ?_
    · refine ⟨_, none, rfl, ⟨l, _, rfl, upd_same, .one ⟨t, rfl, ?_⟩⟩, (same_new ht).trans (same_new hl)⟩
      exact same_new hl _ _ upd_same
    · obtain ⟨v, o, rfl, ⟨a, xs, rfl, ha, hx⟩, s1⟩ := p
      obtain ⟨rfl, rfl⟩ := y
      refine ⟨_, rfl, a, rfl, ⟨xs, SqL.of ha⟩, fun D hD => ?_⟩
      have hin : i < n := by omega
      have hxl : xs.length ≤ 128 := by rw [hx.len]; exact allRows_small hn hin
      have hne : a ≠ D := by rintro rfl; rw [ha] at hD; cases hD
      refine lc2_it (walk_list (xs := xs)) (fun j H' => ∃ acc, H' D = some (.lst acc) ∧ Same H2 H' ∧ acc.length ≤ 2 * j ∧ RowsAt H' acc (((allRows i).take j).flatMap fun r => [r ++ [0], r ++ [1]])) ⟨[], upd_same, same_new hD, by simp, .nil⟩ (fun j H' _ ⟨_, _, s2, _⟩ => SqL.of (s2 _ _ ha)) (fun j z H3 H4 hj ⟨acc, hacc, s2, hal, hrows⟩ y => ?_) fun H' ⟨acc, hacc, s2, hal, hrows⟩ => ?_
      · obtain ⟨rfl, hz⟩ := y
        refine ⟨rfl, tyes2 ?_⟩
        refine ⟨by show 2 ≤ sizeLine; decide, fun t2 ht2 => ⟨t2, rfl, ⟨_, SqT.of upd_same⟩, ?_⟩⟩
        obtain ⟨r, hr1, hr2⟩ := (hx.keep (keep_of s2)).get hz
        obtain ⟨b, rfl, hb⟩ := hr2
        have hrl : r.length = i := row_len (List.mem_of_getElem? hr1)
        refine in_it (walk_tup (xs := [V.int 0, V.int 1])) (fun k H' => ∃ acc, H' D = some (.lst acc) ∧ Same H2 H' ∧ H' b = some (.tup (r.map V.int)) ∧ H' t2 = some (.tup [.int 0, .int 1]) ∧ acc.length ≤ 2 * j + k ∧ RowsAt H' acc (((allRows i).take j).flatMap (fun r => [r ++ [0], r ++ [1]]) ++ [r ++ [0], r ++ [1]].take k)) ?_ (fun k H' _ ⟨_, _, _, _, h, _⟩ => SqT.of h) (fun k x H5 H6 hk ⟨acc, hacc, s3, hb3, ht3, hal, hrows⟩ y => ?_) fun H' ⟨acc, hacc, s3, hb3, ht3, hal, hrows⟩ => ?_
        · have sm := same_new (o := .tup [V.int 0, V.int 1]) ht2
          refine ⟨acc, sm _ _ hacc, s2.trans sm, sm _ _ hb, upd_same, hal, ?_⟩
          rw [List.take_zero, List.append_nil]
          exact hrows.keep (keep_of sm)
        · obtain ⟨rfl, hx2⟩ := y
          refine ⟨rfl, tyes ?_⟩
          have hk2 : k < 2 := hk
          obtain ⟨c, hc, rfl⟩ : ∃ c : Int, [(0 : Int), 1][k]? = some c ∧ x = .int c := by
            match k, hk, hx2 with
            | 0, _, hx2 => cases hx2; exact ⟨0, rfl, rfl⟩
            | 1, _, hx2 => cases hx2; exact ⟨1, rfl, rfl⟩
          refine ⟨_, rfl, b, _, rfl, .inl (SqT.of hb3), _, rfl, ?_, fun p hp => ?_⟩
          · rw [List.length_append, List.length_map, hrl]
            exact line_of (by show i + 1 ≤ _; omega)
          · have sm := same_new (o := .tup (r.map V.int ++ [V.int c])) hp
            have kp : Keep (upd H6 p (.tup (r.map V.int ++ [V.int c]))) (upd (upd H6 p (.tup (r.map V.int ++ [V.int c]))) D (.lst (acc ++ [.ref p]))) := keep_lst (sm _ _ hacc)
            refine ⟨acc, sm _ _ hacc, line_lt (by omega), acc ++ [.ref p], upd_same, fun d o hd => ?_, kp _ _ (sm _ _ hb3), kp _ _ (sm _ _ ht3), ?_, ?_⟩
            · rw [upd_ne (ne_of_none hd hD)]
              exact sm _ _ (s3 _ _ hd)
            · rw [List.length_append]
              show acc.length + 1 ≤ _
              omega
            · rw [take_nxt (a := r ++ [c]) (by
                match k, hk, hc with
                | 0, _, hc => cases hc; rfl
                | 1, _, hc => cases hc; rfl), ← List.append_assoc]
              refine (hrows.keep ((keep_of sm).trans kp)).snoc ⟨p, rfl, kp _ _ ?_⟩
              rw [List.map_append]
              exact upd_same
        · refine ⟨acc, hacc, s3, by omega, ?_⟩
          rw [take_nxt hr1, List.flatMap_append]
          exact hrows
      · refine ⟨_, _, rfl, ⟨D, acc, rfl, hacc, ?_⟩, s1.trans s2⟩
        rw [List.take_of_length_le (Nat.le_of_eq hx.len.symm)] at hrows
        exact hrows
    · obtain ⟨v, o, rfl, h, s1⟩ := p
      exact ⟨_, rfl, q v H' h s1⟩
/-! ### kept_rows -/
def spKeptRows : Sp := fun vs H Q _ => ∃ (n : Nat) (us : List Rule) (o : V), vs = [o] ∧ RObj C H o n us ∧ n ≤ 8 ∧ (∀ u, u ∈ us → WantOk n u.1 ∧ WantOk n u.2) ∧ us.length ≤ 1000000 ∧ ∀ v H', RowsL H' v (kept n us) → Same H H' → Q v H'
def n_kept_rows : List Str := ["rules", "row"]
theorem sc_kept_rows : FnScope n_kept_rows ["rules"] (defScope s_kept_rows) := ⟨rfl, rfl, rfl, by decide +kernel, rfl, by decide +kernel, by decide +kernel⟩

theorem cal_kept_rows (D : Df K mg "kept_rows" s_kept_rows) (T : Tx K mg C) (c_all_rows : Cal P w K mg base CX0 1 "all_rows" spAll) (c_are_kept : Cal P w K mg base CX0 3 "are_kept" spAre) : Cal P w K mg base CX0 4 "kept_rows" (spKeptRows (C := C)) := by
  refine cal_of D sc_kept_rows (fun _ _ _ _ _ _ us hl => match us, hl with | [_], _ => rfl) (fun vs H Q E h => ?_) (fun f cdv A outer s H vs Q E hr h => ?_)
  · obtain ⟨_, _, _, rfl, _⟩ := h
    rfl
  · obtain ⟨n, us, o, rfl, ho, hn, hw, hz, q⟩ := h
    refine ⟨_, (pss_one (ps_ret (pe_lc (own := [("row", 1)]) rfl sc_kept_rows.nd (pi_list (pe_c c_all_rows hr (by decide) (by rfl) (pa_cons (pe_fld (pv 0) rfl) pa_nil))) (blkOk_by (N := n_kept_rows) (sc := defScope s_kept_rows) (by decide +kernel)) (fun _ _ _ _ _ => (pg_name (i := 1) sc_kept_rows.nd rfl (Or.inl rfl))) (fun _ _ _ _ _ => pts_one (pt_val (pe_c c_are_kept hr (by decide) (by rfl) (pa_cons (pe_fldB (K := K) (by rfl) (pv 0) rfl) (pa_cons (pv 1) pa_nil))))) (fun _ _ _ _ _ => (pv 1))))), ?_⟩
    obtain ⟨p, dx, t, rfl, hp, ht⟩ := id ho
    refine ⟨_, rfl, p, C, dx, _, _, rfl, hp, T.cl, T.nW, flds_wide _ _, n, rfl, hn, fun v H1 ⟨a, xs, e, ha, hx⟩ s1 => ⟨a, e, ⟨xs, SqL.of ha⟩, fun D hD => ?_⟩⟩
    subst e
    refine lc_fm (walk_list (xs := xs)) (allRows n) (fun r => if keepsA us r = true then some r else none) (fun H v r => RowAt H v r) (fun H H' v r k h => h.keep k) hx.len.symm (by rw [hx.len]; have := allRows_big hn; omega) hD (fun H' s => SqL.of (s _ _ ha)) (fun i z H2 H3 r Qy Qn hr s2 y qy qn => ?_) fun acc H' hl s2 hr => ?_
    · obtain ⟨rfl, hz2⟩ := y
      refine ⟨rfl, ?_⟩
      have hv := (hx.keep (keep_of s2)).both hz2 hr
      obtain ⟨p', dx', t', e', hp', ht'⟩ := ho.same (s1.trans s2)
      cases e'
      refine ⟨_, rfl, p, C, dx', _, _, rfl, hp', T.cl, T.nT, flds_told _ _, _, rfl, n, t', z, us, r, rfl, ht', hv, row_len (List.mem_of_getElem? hr), hw, hz, fun H4 s4 => ?_⟩
      refine ⟨_, rfl, ?_⟩
      cases hk : keepsA us r with
      | true => exact iteT ⟨_, rfl, qy r z H4 (by rw [hk]; rfl) s4 (hv.keep (keep_of s4))⟩
      | false => exact iteF (qn (by rw [hk]; rfl) H4 s4)
    · rw [fm_if] at hr
      exact q _ _ ⟨D, acc, rfl, hl, hr⟩ (s1.trans s2)
end
end MR

set_option Elab.async false
set_option linter.all false
set_option maxRecDepth 100000
set_option maxHeartbeats 4000000
namespace MR
open PySem PySem.Spec PyProof.Rows L2
theorem walk_zipT {K : PySem.W.Frag} {a b : Addr} {xs ys : List V} {n : Nat} (h1 : xs.length = n) (h2 : ys.length = n) : Walk (RZ.ItzT K a b) n (fun H => SqT K H a xs ∧ SqT K H b ys) (YPair (fun i => xs[i]?) (fun i => ys[i]?)) := by
  refine ⟨fun i _ hi q => ?_, fun _ q => ⟨xs, ys, q.1, q.2, by omega⟩, fun i H v H' _ q y => ?_⟩
  · exact ⟨xs, ys, xs[i]'(by omega), ys[i]'(by omega), q.1, q.2, List.getElem?_eq_getElem (by omega), List.getElem?_eq_getElem (by omega)⟩
  · obtain ⟨T, x, z, e1, e2, e3, e4, e5⟩ := y
    exact ⟨T, x, z, e1, e2, e3, e4 xs q.1, e5 ys q.2⟩
theorem at_get {r : Row} {k : Nat} (h : k < r.length) {v : V} (e : (r.map V.int)[k]? = some v) : v = .int (at_ r k) := by
  rw [row_get h] at e
  cases e
  rfl
theorem dif_abs {n : Nat} {r s : Row} (hr : RowOf n r) (hs : RowOf n s) (k : Nat) : (if at_ r k - at_ s k < 0 then -(at_ r k - at_ s k) else at_ r k - at_ s k) = dif r s k := by
  unfold dif
  rcases at_bit hr k with h | h <;> rcases at_bit hs k with h2 | h2 <;> rw [h, h2] <;> decide
theorem rows_refs {H : Hp} : ∀ {xs : List V} {rs : List Row}, RowsAt H xs rs → ∃ as : List Addr, xs = as.map V.ref ∧ as.length = rs.length ∧ ∀ (j : Nat) (a : Addr), as[j]? = some a → ∃ r, rs[j]? = some r ∧ H a = some (.tup (r.map V.int))
  | _, _, .nil => ⟨[], rfl, rfl, fun j a h => by simp at h⟩
  | _, _, .cons h t => by
    obtain ⟨as, e, l, q⟩ := rows_refs t
    obtain ⟨a, rfl, ha⟩ := h
    refine ⟨a :: as, by rw [e]; rfl, by rw [List.length_cons, List.length_cons, l], fun j b hb => ?_⟩
    cases j with
    | zero =>
      simp at hb
      subst hb
      exact ⟨_, rfl, ha⟩
    | succ j => simpa using q j b (by simpa using hb)
section
variable {P : Program} {w : World} {K : PySem.W.Frag} {mg : Str → Option Value} {base : Heap} {C : Addr}
/-- votes: rows of so many places that keep the rules -/
def VotesOk (n : Nat) (us : List Rule) (rs : List Row) : Prop := 1 ≤ rs.length ∧ rs.length ≤ 15 ∧ ∀ r, r ∈ rs → RowOf n r ∧ keepsA us r = true
def UsOk (n : Nat) (us : List Rule) : Prop := n ≤ 8 ∧ (∀ u, u ∈ us → WantOk n u.1 ∧ WantOk n u.2) ∧ us.length ≤ 1000000
/-! ### need_kept -/
def spNeedKept : Sp := fun vs H Q _ => ∃ (n : Nat) (us : List Rule) (o v : V) (r : Row), vs = [o, v] ∧ RObj C H o n us ∧ RowAt H v r ∧ RowOf n r ∧ UsOk n us ∧ keepsA us r = true ∧ ∀ H', Same H H' → Q .non H'
def n_need_kept : List Str := ["rules", "row"]
theorem sc_need_kept : FnScope n_need_kept ["rules", "row"] (defScope s_need_kept) := ⟨rfl, rfl, rfl, by decide +kernel, rfl, by decide +kernel, by decide +kernel⟩

theorem cal_need_kept (D : Df K mg "need_kept" s_need_kept) (T : Tx K mg C) (c_need_row : Cal P w K mg base CX0 3 "need_row" (spNeedRow (C := C))) (c_are_kept : Cal P w K mg base CX0 3 "are_kept" spAre) : Cal P w K mg base CX0 4 "need_kept" (spNeedKept (C := C)) := by
  refine cal_of D sc_need_kept (fun _ _ _ _ _ _ us hl => match us, hl with | [_, _], _ => rfl) (fun vs H Q E h => ?_) (fun f cdv A outer s H vs Q E hr h => ?_)
  · obtain ⟨_, _, _, _, _, rfl, _⟩ := h
    rfl
  · obtain ⟨n, us, o, v, r, rfl, ho, hv, hn, ⟨h8, hw, hl⟩, hk, q⟩ := h
    refine ⟨_, (pss_cons (ps_expr (pe_c c_need_row hr (by decide) (by rfl) (pa_cons (pv 0) (pa_cons (pv 1) pa_nil))))
      (pss_one (ps_if (pt_not (pt_val (pe_c c_are_kept hr (by decide) (by rfl) (pa_cons (pe_fld (pv 0) rfl) (pa_cons (pv 1) pa_nil))))) (pss_one ps_never) pss_nil))), ?_⟩
    refine ⟨_, rfl, _, rfl, n, us, o, v, r, rfl, ho, hv, hn, by omega, fun H1 s1 => ?_⟩
    obtain ⟨p, dx, t, rfl, hp, ht⟩ := ho.same s1
    refine ⟨_, rfl, p, C, dx, _, _, rfl, hp, T.cl, T.nT, flds_told _ _, _, rfl, n, t, v, us, r, rfl, ht, hv.keep (keep_of s1), hn.1, hw, hl, fun H2 s2 => ⟨_, rfl, ?_⟩⟩
    rw [hk]
    exact iteF (q H2 (s1.trans s2))
/-! ### unlike -/
def spUnlike : Sp := fun vs H Q _ => ∃ (n : Nat) (v u : V) (r s : Row), vs = [v, u] ∧ RowAt H v r ∧ RowAt H u s ∧ RowOf n r ∧ RowOf n s ∧ n ≤ 8 ∧ ∀ H', Same H H' → Q (.int (apart n r s)) H'
def n_unlike : List Str := ["one", "other", "first", "second"]
theorem sc_unlike : FnScope n_unlike ["one", "other"] (defScope s_unlike) := ⟨rfl, rfl, rfl, by decide +kernel, rfl, by decide +kernel, by decide +kernel⟩

theorem cal_unlike (D : Df K mg "unlike" s_unlike) (T : Tx K mg C) : Cal P w K mg base CX0 1 "unlike" spUnlike := by
  refine cal_of D sc_unlike (fun _ _ _ _ _ _ us hl => match us, hl with | [_, _], _ => rfl) (fun vs H Q E h => ?_) (fun f cdv A outer s H vs Q E hr h => ?_)
  · obtain ⟨_, _, _, _, _, rfl, _⟩ := h
    rfl
  · obtain ⟨n, v, u, r, s', rfl, ⟨a, rfl, ha⟩, ⟨b, rfl, hb⟩, hn, hn2, h8, q⟩ := h
    refine ⟨_, (pss_one (ps_ret (pe_callB (cr_sum rfl) (by rfl) T.b.sum bt_sum (pa_cons (pe_lc (own := [("first", 2), ("second", 3)]) rfl sc_unlike.nd (RZ.pi_zipA (by rfl) T.b.zip (pa_cons (pv 0) (pa_cons (pv 1) pa_nil))) (blkOk_by (N := n_unlike) (sc := defScope s_unlike) (by decide +kernel)) (fun _ _ _ _ _ => (pg_tupB (K := K) (by rfl) (n := 2) rfl (pgs_cons (pg_name (i := 2) sc_unlike.nd rfl (Or.inl rfl)) (pgs_cons (pg_name (i := 3) sc_unlike.nd rfl (Or.inl rfl)) pgs_nil)))) (fun _ _ _ _ _ => pts_nil) (fun _ _ _ _ _ => (pe_callB call_abs (by rfl) T.b.abs bt_abs (pa_cons (pe_op op_sub (pv 2) (pv 3)) pa_nil)))) pa_nil)))), ?_⟩
    refine ⟨_, rfl, _, rfl, a, b, _, _, rfl, .inr ⟨SqT.of ha, SqT.of hb, fun D hD => ?_⟩⟩
    refine lc_map (walk_zipT (n := n) (by rw [List.length_map]; exact hn.1) (by rw [List.length_map]; exact hn2.1)) (List.range n) (fun k => dif r s' k) (fun _ v b => v = .int b) (fun _ _ _ _ _ h => h) List.length_range (by omega) hD (fun H' sm => ⟨SqT.of (sm _ _ ha), SqT.of (sm _ _ hb)⟩) (fun i z H1 H2 k Qy Qn hk s1 y q1 => ?_) fun acc H' hl s1 r => ?_
    · obtain ⟨T', x, y, rfl, hT, rfl, hx, hy⟩ := y
      have hkn : i < n ∧ i = k := by
        rw [List.getElem?_eq_some_iff] at hk
        obtain ⟨h1, h2⟩ := hk
        rw [List.getElem_range] at h2
        rw [List.length_range] at h1
        exact ⟨h1, h2⟩
      obtain ⟨hin, rfl⟩ := hkn
      cases at_get (by rw [hn.1]; exact hin) hx
      cases at_get (by rw [hn2.1]; exact hin) hy
      refine ⟨T', _, rfl, SqT.of upd_same, rfl, _, _, rfl, _, _, rfl, rfl, rfl, tyes ?_⟩
      refine ⟨_, rfl, _, rfl, _, _, rfl, rfl, _, rfl, ?_⟩
      rw [dif_abs hn hn2]
      exact q1 _ _ (same_new hT) rfl
    · rw [each_int r] at hl
      refine ⟨D, _, rfl, SqL.of hl, ?_⟩
      rw [sum_range]
      exact q H' s1
/-! ### steps_to -/
def spSteps : Sp := fun vs H Q _ => ∃ (n : Nat) (t v : V) (rs : List Row) (r : Row), vs = [t, v] ∧ RowsT H t rs ∧ RowAt H v r ∧ (∀ x, x ∈ rs → RowOf n x) ∧ rs.length ≤ 15 ∧ RowOf n r ∧ n ≤ 8 ∧ ∀ H', Same H H' → Q (.int (total n rs r)) H'
def n_steps_to : List Str := ["votes", "row", "vote"]
theorem sc_steps_to : FnScope n_steps_to ["votes", "row"] (defScope s_steps_to) := ⟨rfl, rfl, rfl, by decide +kernel, rfl, by decide +kernel, by decide +kernel⟩

theorem cal_steps_to (D : Df K mg "steps_to" s_steps_to) (T : Tx K mg C) (c_unlike : Cal P w K mg base CX0 1 "unlike" spUnlike) : Cal P w K mg base CX0 2 "steps_to" spSteps := by
  refine cal_of D sc_steps_to (fun _ _ _ _ _ _ us hl => match us, hl with | [_, _], _ => rfl) (fun vs H Q E h => ?_) (fun f cdv A outer s H vs Q E hr h => ?_)
  · obtain ⟨_, _, _, _, _, rfl, _⟩ := h
    rfl
  · obtain ⟨n, t, v, rs, r, rfl, ⟨xs, ⟨a, rfl, ha⟩, hx⟩, hv, hrs, hz, hn, h8, q⟩ := h
    refine ⟨_, (pss_one (ps_ret (pe_callB (cr_sum rfl) (by rfl) T.b.sum bt_sum (pa_cons (pe_lc (own := [("vote", 2)]) rfl sc_steps_to.nd (pi_tup (pv 0)) (blkOk_by (N := n_steps_to) (sc := defScope s_steps_to) (by decide +kernel)) (fun _ _ _ _ _ => (pg_name (i := 2) sc_steps_to.nd rfl (Or.inl rfl))) (fun _ _ _ _ _ => pts_nil) (fun _ _ _ _ _ => (pe_c c_unlike hr (by decide) (by rfl) (pa_cons (pv 2) (pa_cons (pv 1) pa_nil))))) pa_nil)))), ?_⟩
    refine ⟨_, rfl, a, rfl, ⟨_, SqT.of ha⟩, fun D hD => ?_⟩
    refine lc_map (walk_tup (xs := xs)) rs (fun x => apart n x r) (fun _ v b => v = .int b) (fun _ _ _ _ _ h => h) hx.len.symm (by rw [hx.len]; omega) hD (fun H' sm => SqT.of (sm _ _ ha)) (fun i z H1 H2 x Qy Qn hk s1 y q1 => ?_) fun acc H' hl s1 r => ?_
    · obtain ⟨rfl, hz2⟩ := y
      refine ⟨rfl, tyes ?_⟩
      exact ⟨_, rfl, _, rfl, n, z, v, x, r, rfl, (hx.keep (keep_of s1)).both hz2 hk, hv.keep (keep_of s1), hrs _ (List.mem_of_getElem? hk), hn, h8, fun H4 s4 => q1 _ _ s4 rfl⟩
    · rw [each_int r] at hl
      exact ⟨D, _, rfl, SqL.of hl, q H' s1⟩
/-! ### need_votes -/
def spNeedVotes : Sp := fun vs H Q _ => ∃ (n : Nat) (us : List Rule) (o t : V) (rs : List Row), vs = [o, t] ∧ RObj C H o n us ∧ RowsT H t rs ∧ UsOk n us ∧ VotesOk n us rs ∧ ∀ H', Same H H' → Q .non H'
def n_need_votes : List Str := ["rules", "votes", "index", "row"]
theorem sc_need_votes : FnScope n_need_votes ["rules", "votes"] (defScope s_need_votes) := ⟨rfl, rfl, rfl, by decide +kernel, rfl, by decide +kernel, by decide +kernel⟩

theorem cal_need_votes (D : Df K mg "need_votes" s_need_votes) (T : Tx K mg C) (c_need_rules : Cal P w K mg base CX0 1 "need_rules" (spNeedRules (C := C))) (c_is_row_of : Cal P w K mg base CX0 2 "is_row_of" spRowOf) (c_are_kept : Cal P w K mg base CX0 3 "are_kept" spAre) : Cal P w K mg base CX0 4 "need_votes" (spNeedVotes (C := C)) := by
  refine cal_of D sc_need_votes (fun _ _ _ _ _ _ us hl => match us, hl with | [_, _], _ => rfl) (fun vs H Q E h => ?_) (fun f cdv A outer s H vs Q E hr h => ?_)
  · obtain ⟨_, _, _, _, _, rfl, _⟩ := h
    rfl
  · obtain ⟨n, us, o, t, rs, rfl, ho, ⟨xs, ⟨a, rfl, ha⟩, hx⟩, ⟨h8, hw, hl⟩, ⟨v1, v2, v3⟩, q⟩ := h
    refine ⟨_, (pss_cons (ps_expr (pe_c c_need_rules hr (by decide) (by rfl) (pa_cons (pv 0) pa_nil)))
      (pss_cons (ps_if (PW.pt (pw_or (pt_not (pt_val (pe_callB call_isi (by rfl) T.b.isinstance bt_isinstance (pa_cons (pv 1) (pa_cons (pe_bltn (v := .ty "tuple") (by rfl) T.b.tuple bt_tuple rfl) pa_nil))))) (pw_or1 (pt_not (pt_chain op_le op_le pe_int (pe_callB call_len_seq (by rfl) T.b.len bt_len (pa_cons (pv 1) pa_nil)) (pe_int_glob (by rfl) T.MOST_VOTES)))))) (pss_one ps_never) pss_nil)
      (pss_one (ps_for PassesOwn.never rfl (pi_enumT (by rfl) T.b.enumerate (pa_cons (pv 1) pa_nil)) (pg_tup rfl (pgs_cons (pg_name (i := 2) sc_need_votes.nd rfl (Or.inl rfl)) (pgs_cons (pg_name (i := 3) sc_need_votes.nd rfl (Or.inl rfl)) pgs_nil))) (pss_one (ps_if (PW.pt (pw_or (pt_not (pt_val (pe_c c_is_row_of hr (by decide) (by rfl) (pa_cons (pe_fld (pv 0) rfl) (pa_cons (pv 3) pa_nil))))) (pw_or1 (pt_not (pt_val (pe_c c_are_kept hr (by decide) (by rfl) (pa_cons (pe_fld (pv 0) rfl) (pa_cons (pv 3) pa_nil)))))))) (pss_one ps_never) pss_nil)))))), ?_⟩
    refine ⟨_, rfl, n, us, o, rfl, ho, ?_⟩
    refine ⟨_, rfl, _, _, _, _, true, rfl, .ty "tuple", tyx_tup ha, kit_tuple_tuple K, true, rfl, iteF ?_⟩
    obtain ⟨tk, hm⟩ := T.MOST_VOTES
    refine ⟨_, rfl, a, _, rfl, .inr (SqT.of ha), _, _, rfl, rfl, true, ?_, iteT ⟨_, _, rfl, rfl, true, ?_, iteF ?_⟩⟩
    · rw [hx.len]
      exact congrArg V.bl (decide_eq_true (by omega))
    · rw [hx.len]
      exact congrArg V.bl (decide_eq_true (by omega))
    refine ⟨_, rfl, a, xs, rfl, SqT.of ha, ?_⟩
    refine for_it (walk_enumT (xs := xs)) (fun i σ H' => ∃ o3 o4, σ = [some o, some (.ref a), o3, o4] ∧ Same H H') ⟨none, none, rfl, Same.refl _⟩ (fun i σ H' _ ⟨_, _, _, s1⟩ => SqT.of (s1 _ _ ha)) (fun i x σ H1 H2 hi p y => ?_) fun σ H' p => ?_
    · obtain ⟨o3, o4, rfl, s1⟩ := p
      obtain ⟨T', x, y, rfl, hT, rfl, hx2, hy⟩ := y
      cases hx2
      refine ⟨T', _, rfl, SqT.of upd_same, rfl, _, _, rfl, _, _, rfl, rfl, ?_⟩
      have s2 : Same H (upd H1 T' (.tup [.int (i : Nat), y])) := s1.trans (same_new hT)
      obtain ⟨r, hr1, hr2⟩ := (hx.keep (keep_of s2)).get hy
      have hrr := v3 r (List.mem_of_getElem? hr1)
      obtain ⟨p, dx, t, rfl, hp, ht⟩ := id ho
      refine ⟨_, rfl, p, C, dx, _, _, rfl, s2 _ _ hp, T.cl, T.nW, flds_wide _ _, _, rfl, n, y, r, rfl, hr2, hrr.1, by omega, fun H3 s3 => ⟨_, rfl, iteF ?_⟩⟩
      have s3 := s2.trans s3
      refine ⟨_, rfl, p, C, dx, _, _, rfl, s3 _ _ hp, T.cl, T.nT, flds_told _ _, _, rfl, n, t, y, us, r, rfl, ht.keep (keep_of s3), hr2.keep (keep_of ‹Same (upd H1 T' _) H3›), hrr.1.1, hw, hl, fun H4 s4 => ⟨_, rfl, ?_⟩⟩
      rw [hrr.2]
      exact iteF ⟨_, _, rfl, s3.trans s4⟩
    · obtain ⟨o3, o4, rfl, s1⟩ := p
      exact q H' s1
/-! ### total_steps -/
def spTotal : Sp := fun vs H Q _ => ∃ (n : Nat) (us : List Rule) (o t v : V) (rs : List Row) (r : Row), vs = [o, t, v] ∧ RObj C H o n us ∧ RowsT H t rs ∧ RowAt H v r ∧ UsOk n us ∧ VotesOk n us rs ∧ RowOf n r ∧ keepsA us r = true ∧ ∀ H', Same H H' → Q (.int (total n rs r)) H'
def n_total_steps : List Str := ["rules", "votes", "row"]
theorem sc_total_steps : FnScope n_total_steps ["rules", "votes", "row"] (defScope s_total_steps) := ⟨rfl, rfl, rfl, by decide +kernel, rfl, by decide +kernel, by decide +kernel⟩

theorem cal_total_steps (D : Df K mg "total_steps" s_total_steps) (T : Tx K mg C) (c_need_votes : Cal P w K mg base CX0 4 "need_votes" (spNeedVotes (C := C))) (c_need_kept : Cal P w K mg base CX0 4 "need_kept" (spNeedKept (C := C))) (c_steps_to : Cal P w K mg base CX0 2 "steps_to" spSteps) : Cal P w K mg base CX0 5 "total_steps" (spTotal (C := C)) := by
  refine cal_of D sc_total_steps (fun _ _ _ _ _ _ us hl => match us, hl with | [_, _, _], _ => rfl) (fun vs H Q E h => ?_) (fun f cdv A outer s H vs Q E hr h => ?_)
  · obtain ⟨_, _, _, _, _, _, _, rfl, _⟩ := h
    rfl
  · obtain ⟨n, us, o, t, v, rs, r, rfl, ho, ht, hv, hu, hvo, hn, hk, q⟩ := h
    refine ⟨_, (pss_cons (ps_expr (pe_c c_need_votes hr (by decide) (by rfl) (pa_cons (pv 0) (pa_cons (pv 1) pa_nil))))
      (pss_cons (ps_expr (pe_c c_need_kept hr (by decide) (by rfl) (pa_cons (pv 0) (pa_cons (pv 2) pa_nil))))
      (pss_one (ps_ret (pe_c c_steps_to hr (by decide) (by rfl) (pa_cons (pv 1) (pa_cons (pv 2) pa_nil))))))), ?_⟩
    refine ⟨_, rfl, _, rfl, n, us, o, t, rs, rfl, ho, ht, hu, hvo, fun H1 s1 => ?_⟩
    refine ⟨_, rfl, _, rfl, n, us, o, v, r, rfl, ho.same s1, hv.keep (keep_of s1), hn, hu, hk, fun H2 s2 => ?_⟩
    have s2 := s1.trans s2
    exact ⟨_, rfl, _, rfl, n, t, v, rs, r, rfl, ht.keep (keep_of s2), hv.keep (keep_of s2), fun x hx => (hvo.2.2 x hx).1, hvo.2.1, hn, hu.1, fun H3 s3 => q H3 (s2.trans s3)⟩
/-! ### least_totals -/
def spLeast : Sp := fun vs H Q _ => ∃ (n : Nat) (us : List Rule) (o t : V) (rs : List Row), vs = [o, t] ∧ RObj C H o n us ∧ RowsT H t rs ∧ UsOk n us ∧ VotesOk n us rs ∧ ∀ a xs H', H a = none → H' a = some (.lst xs) → RowsAt H' xs (best n us rs) → Same H H' → Q (.ref a) H'
def n_least_totals : List Str := ["rules", "votes", "rows", "least", "row"]
theorem sc_least_totals : FnScope n_least_totals ["rules", "votes"] (defScope s_least_totals) := ⟨rfl, rfl, rfl, by decide +kernel, rfl, by decide +kernel, by decide +kernel⟩

theorem cal_least_totals (D : Df K mg "least_totals" s_least_totals) (T : Tx K mg C) (c_need_votes : Cal P w K mg base CX0 4 "need_votes" (spNeedVotes (C := C))) (c_kept_rows : Cal P w K mg base CX0 4 "kept_rows" (spKeptRows (C := C))) (c_steps_to : Cal P w K mg base CX0 2 "steps_to" spSteps) : Cal P w K mg base CX0 5 "least_totals" (spLeast (C := C)) := by
  refine cal_of D sc_least_totals (fun _ _ _ _ _ _ us hl => match us, hl with | [_, _], _ => rfl) (fun vs H Q E h => ?_) (fun f cdv A outer s H vs Q E hr h => ?_)
  · obtain ⟨_, _, _, _, _, rfl, _⟩ := h
    rfl
  · obtain ⟨n, us, o, t, rs, rfl, ho, ht, hu, hvo, q⟩ := h
    have hvm : ∀ v, v ∈ rs → v ∈ kept n us := fun v hv => mem_kept.mpr (hvo.2.2 v hv)
    have hrow : ∀ x, x ∈ rs → RowOf n x := fun x hx => (hvo.2.2 x hx).1
    have hne : rs ≠ [] := by rintro rfl; have := hvo.1; simp at this
    have hkz : (kept n us).length ≤ 256 := Nat.le_trans (List.length_filter_le _ _) (allRows_big hu.1)
    refine ⟨_, (pss_cons (ps_expr (pe_c c_need_votes hr (by decide) (by rfl) (pa_cons (pv 0) (pa_cons (pv 1) pa_nil))))
      (pss_cons (ps_set (i := 2) sc_least_totals.nd rfl (Or.inl rfl) (pe_c c_kept_rows hr (by decide) (by rfl) (pa_cons (pv 0) pa_nil)))
      (pss_cons (ps_set (i := 3) sc_least_totals.nd rfl (Or.inr rfl) (pe_callB (cr_min rfl) (by rfl) T.b.min bt_min (pa_cons (pe_lc (own := [("row", 4)]) rfl sc_least_totals.nd (pi_list (pv 2)) (blkOk_by (N := n_least_totals) (sc := defScope s_least_totals) (by decide +kernel)) (fun _ _ _ _ _ => (pg_name (i := 4) sc_least_totals.nd rfl (Or.inl rfl))) (fun _ _ _ _ _ => pts_nil) (fun _ _ _ _ _ => (pe_c c_steps_to hr (by decide) (by rfl) (pa_cons (pv 1) (pa_cons (pv 4) pa_nil))))) pa_nil)))
      (pss_one (ps_ret (pe_lc (own := [("row", 4)]) rfl sc_least_totals.nd (pi_list (pv 2)) (blkOk_by (N := n_least_totals) (sc := defScope s_least_totals) (by decide +kernel)) (fun _ _ _ _ _ => (pg_name (i := 4) sc_least_totals.nd rfl (Or.inl rfl))) (fun _ _ _ _ _ => pts_one (pt_cmpR op_eq (pe_c c_steps_to hr (by decide) (by rfl) (pa_cons (pv 1) (pa_cons (pv 4) pa_nil))) (pv 3) (nomark _))) (fun _ _ _ _ _ => (pv 4)))))))), ?_⟩
    refine ⟨_, rfl, _, rfl, n, us, o, t, rs, rfl, ho, ht, hu, hvo, fun H1 s1 => ?_⟩
    refine ⟨_, rfl, n, us, o, rfl, ho.same s1, hu.1, hu.2.1, hu.2.2, fun v H2 ⟨a, xs, e, ha, hx⟩ s2 => ?_⟩
    subst e
    have s2 := s1.trans s2
    have hxl : xs.length ≤ 1000000 := by rw [hx.len]; omega
    refine ⟨_, rfl, a, rfl, ⟨_, SqL.of ha⟩, fun D hD => ?_⟩
    refine lc_map (walk_list (xs := xs)) (kept n us) (fun r => total n rs r) (fun _ v b => v = .int b) (fun _ _ _ _ _ h => h) hx.len.symm hxl hD (fun H' sm => SqL.of (sm _ _ ha)) (fun i z H3 H4 r Qy Qn hk s3 y q1 => ?_) fun acc H3 hl s3 hr3 => ?_
    · obtain ⟨rfl, hz⟩ := y
      refine ⟨rfl, tyes ?_⟩
      have s4 := s2.trans s3
      exact ⟨_, rfl, _, rfl, n, t, z, rs, r, rfl, ht.keep (keep_of s4), (hx.keep (keep_of s3)).both hz hk, hrow, hvo.2.1, (mem_kept.mp (List.mem_of_getElem? hk)).1, hu.1, fun H5 s5 => q1 _ _ s5 rfl⟩
    · rw [each_int hr3] at hl
      refine ⟨D, _, rfl, SqL.of hl, ?_, fun m hm1 hm2 => ?_⟩
      · rw [List.length_map]
        exact List.length_pos_of_mem (hvm _ (List.head_mem hne))
      have hm := least_is hvm hne hu.2.1 (m := m) ⟨hm1, hm2⟩
      have s4 := s2.trans s3
      have ha3 := s3 _ _ ha
      have hx3 := hx.keep (keep_of s3)
      refine ⟨_, rfl, a, rfl, ⟨_, SqL.of ha3⟩, fun D2 hD2 => ?_⟩
      refine lc_fm (walk_list (xs := xs)) (kept n us) (fun r => if decide (total n rs r = lower n rs) = true then some r else none) (fun H v r => RowAt H v r) (fun H H' v r k h => h.keep k) hx.len.symm hxl hD2 (fun H' sm => SqL.of (sm _ _ ha3)) (fun i z H5 H6 r Qy Qn hk s5 y qy qn => ?_) fun acc2 H5 hl5 s5 hr5 => ?_
      · obtain ⟨rfl, hz⟩ := y
        refine ⟨rfl, ?_⟩
        have s6 := s4.trans s5
        have hv := (hx3.keep (keep_of s5)).both hz hk
        refine ⟨_, rfl, _, rfl, n, t, z, rs, r, rfl, ht.keep (keep_of s6), hv, hrow, hvo.2.1, (mem_kept.mp (List.mem_of_getElem? hk)).1, hu.1, fun H7 s7 => ?_⟩
        refine ⟨_, rfl, rfl, ?_⟩
        rw [hm]
        refine ⟨_, rfl, ?_⟩
        rw [dec_int]
        by_cases c : total n rs r = lower n rs
        · rw [c, beq_self_eq_true]
          exact iteT ⟨_, rfl, qy r z H7 (by rw [c, decide_eq_true rfl]; rfl) s7 (hv.keep (keep_of s7))⟩
        · rw [beq_eq_false_iff_ne.mpr c]
          exact iteF (qn (by rw [decide_eq_false c]; rfl) H7 s7)
      · rw [fm_if] at hr5
        exact q D2 acc2 H5 (s4.free hD2) hl5 hr5 (s4.trans s5)
/-! ### most_of -/
def spMostOf : Sp := fun vs H Q _ => ∃ (n : Nat) (t : V) (rs : List Row), vs = [t] ∧ RowsT H t rs ∧ (∀ x, x ∈ rs → RowOf n x) ∧ 1 ≤ rs.length ∧ rs.length ≤ 15 ∧ n ≤ 8 ∧ ∀ v H', RowAt H' v (most n rs) → Same H H' → Q v H'
def n_most_of : List Str := ["votes", "values"]
theorem sc_most_of : FnScope n_most_of ["votes"] (defScope s_most_of) := ⟨rfl, rfl, rfl, by decide +kernel, rfl, by decide +kernel, by decide +kernel⟩

theorem cal_most_of (D : Df K mg "most_of" s_most_of) (T : Tx K mg C) : Cal P w K mg base CX0 1 "most_of" spMostOf := by
  refine cal_of D sc_most_of (fun _ _ _ _ _ _ us hl => match us, hl with | [_], _ => rfl) (fun vs H Q E h => ?_) (fun f cdv A outer s H vs Q E hr h => ?_)
  · obtain ⟨_, _, _, rfl, _⟩ := h
    rfl
  · obtain ⟨n, t, rs, rfl, ⟨xs, ⟨a, rfl, ha⟩, hx⟩, hrow, v1, v2, h8, q⟩ := h
    refine ⟨_, (pss_one (ps_ret (pe_callTy call_tuple_of (by rfl) T.b.tuple bt_tuple (pa_cons (pe_lc (own := [("values", 1)]) rfl sc_most_of.nd (pi_zipN (by rfl) T.b.zip (pv 0)) (blkOk_by (N := n_most_of) (sc := defScope s_most_of) (by decide +kernel)) (fun _ _ _ _ _ => (pg_name (i := 1) sc_most_of.nd rfl (Or.inl rfl))) (fun _ _ _ _ _ => pts_nil) (fun _ _ _ _ _ => (pe_callTy call_int1 (by rfl) T.b.int bt_int (pa_cons (pe_cmpR op_gt (pe_op op_mul pe_int (pe_callB (cr_sumB (K := K) (by rfl) rfl) (by rfl) T.b.sum bt_sum (pa_cons (pe_callTy (call_list_ofB (K := K) (by rfl)) (by rfl) T.b.list bt_list (pa_cons (pv 1) pa_nil)) pa_nil))) (pe_callB (call_lenB (K := K) (by rfl)) (by rfl) T.b.len bt_len (pa_cons (pv 0) pa_nil)) (nomark _)) pa_nil)))) pa_nil)))), ?_⟩
    obtain ⟨as, rfl, hal, has⟩ := rows_refs hx
    refine ⟨_, rfl, a, as, rfl, SqT.of ha, by omega, by omega, fun b hb => ?_, fun D hD => ?_⟩
    · obtain ⟨j, hj, e⟩ := List.getElem_of_mem hb
      obtain ⟨r, _, h⟩ := has j b (by rw [List.getElem?_eq_getElem hj, e])
      exact ⟨_, SqT.of h⟩
    · have hget : ∀ j, j < as.length → ∃ r, rs[j]? = some r ∧ rs.getD j [] = r ∧ r.length = n := fun j hj => by
        have : j < rs.length := by omega
        refine ⟨rs[j], List.getElem?_eq_getElem this, by rw [List.getD_eq_getElem?_getD, List.getElem?_eq_getElem this]; rfl, (hrow _ (List.getElem_mem this)).1⟩
      refine lc_map (walk_zipN (as := as) (n := n) (rows := fun j => (rs.getD j []).map V.int) (by omega) fun j hj => ?_) (List.range n) (mostAt rs) (fun _ v b => v = .int b) (fun _ _ _ _ _ h => h) List.length_range (by omega) hD (fun H' sm j b hb => ?_) (fun i z H1 H2 k Qy Qn hk s1 y q1 => ?_) fun acc H' hl s1 hr2 => ?_
      · obtain ⟨r, _, e, l⟩ := hget j hj
        rw [e, List.length_map, l]
      · obtain ⟨r, hr1, h⟩ := has j b hb
        have : rs.getD j [] = r := by rw [List.getD_eq_getElem?_getD, hr1]; rfl
        rw [this]
        exact SqT.of (sm _ _ h)
      · obtain ⟨T', ys, rfl, hT, rfl, hyl, hys⟩ := y
        have hkn : i < n ∧ i = k := by
          rw [List.getElem?_eq_some_iff] at hk
          obtain ⟨h1, h2⟩ := hk
          rw [List.getElem_range] at h2
          rw [List.length_range] at h1
          exact ⟨h1, h2⟩
        obtain ⟨hin, rfl⟩ := hkn
        have ey : ys = (rs.map fun r => at_ r i).map V.int := by
          refine List.ext_getElem? fun j => ?_
          by_cases hj : j < as.length
          · obtain ⟨r, hr1, e, l⟩ := hget j hj
            rw [hys j hj, e, row_get (by omega), List.getElem?_map, List.getElem?_map, hr1]
            rfl
          · rw [List.getElem?_eq_none (by omega), List.getElem?_eq_none (by rw [List.length_map, List.length_map]; omega)]
        subst ey
        refine ⟨rfl, tyes ?_⟩
        have s2 := same_new (o := .tup ((rs.map fun r => at_ r i).map V.int)) hT
        refine ⟨_, rfl, T', _, rfl, .inr (SqT.of upd_same), fun l hl => ⟨l, _, rfl, SqL.of upd_same, _, _, rfl, rfl, .inl ⟨by decide, by decide⟩, ?_⟩⟩
        have s3 := s2.trans (same_new (o := .lst ((rs.map fun r => at_ r i).map V.int)) hl)
        refine ⟨_, rfl, a, _, rfl, .inr (SqT.of ((s1.trans s3) _ _ ha)), _, _, rfl, rfl, .inr ⟨_, rfl, q1 _ _ s3 ?_⟩⟩
        unfold mostAt
        rw [List.length_map, hal]
        by_cases c : (rs.length : Int) < 2 * (rs.map fun r => at_ r i).sum
        · rw [decide_eq_true c, if_pos c]; rfl
        · rw [decide_eq_false c, if_neg c]; rfl
      · rw [each_int hr2] at hl
        refine ⟨D, _, rfl, .inl ⟨SqL.of hl, fun l hl2 => ?_⟩⟩
        exact q _ _ ⟨l, rfl, upd_same⟩ (s1.trans (same_new hl2))
end
end MR

set_option Elab.async false
set_option linter.all false
set_option maxRecDepth 100000
set_option maxHeartbeats 4000000
namespace MR
open PySem PySem.Spec PyProof.Rows L2
/-- what stands of the class EvenVotes -/
structure Ev (K : PySem.W.Frag) (mg : Str → Option Value) (CE : Addr) : Prop where
  gE : mg "EvenVotes" = some (.ref CE)
  ex : PySem.W.excIn K CE He.veBase "ValueError.__new__" = true
  kp : PySem.W.keepIn K (.ref CE) = true
  sub : PySem.W.subIn K (.ref CE) (.type "BaseException") = some true
  ty : PySem.W.typeIn K (.ref CE) = some (.type "type")
  exm : PySem.W.exmOne K (.ref CE) (.ref CE) = some true
/-- X() -/
theorem pmk_own0 {X : Cx} {C : Addr} {bmB : List Value} {B newId initId : String} {x : Str} {p pos : Pos} (F : ExcBaseFacts B newId initId bmB) (q : PySem.W.excIn X.K C bmB newId = true) (gC : X.mg x = some (.ref C)) (kC : PySem.W.keepIn X.K (.ref C) = true) (r : Raises X (.ref C)) (hg : Gl X x)
    (hdb : (x == ("__debug__" : Str)) = false := by decide) : PMk X (.Call (.Name x p) [] [] pos) (fun _ H Q => Q (.ref C) none H) := by
  intro pins s σ H Q I h
  refine wpAny_Call_Name_kw (ld_glob I hg gC ?_ hdb)
  refine PySem.W.callWith_K0 I.kIn kC ?_
  show wpAny _ _ (call (.ref C) []) _ _ _
  obtain ⟨bm, N, nm, qn, bs, hdct, sn, sub, ab, col, dd, k0, k1, k2, k3, k5, mN, hC, hN, hni, T⟩ := exc_obj I.kIn q
  refine wpAny_call_exc_subT F T hC hN hni (fun h' e hm => ?_) (Nat.zero_le _)
  exact mk_of I hm r h (I.hok.gone hm.new)
section
variable {P : Program} {w : World} {K : PySem.W.Frag} {mg : Str → Option Value} {base : Heap} {C CE : Addr}
/-! ### Rules.__init__ -/
def spInit : Sp := fun vs H Q _ => ∃ (n : Nat) (us : List Rule) (p dx : Addr) (t : V), vs = [.ref p, .int n, t] ∧ H p = some (.ins C dx []) ∧ 1 ≤ n ∧ n ≤ 8 ∧ RulesT H t us ∧ RulesOk n us ∧ us.length ≤ 1000000 ∧
  ∀ H', (∀ b o, b ≠ p → H b = some o → H' b = some o) → H' p = some (.ins C dx (flds (n : Int) t)) → Q .non H'
def n_Rules___init : List Str := ["self", "many", "rules", "index", "rule"]
theorem sc_Rules___init : FnScope n_Rules___init ["self", "many", "rules"] (defScope sInit) := ⟨rfl, rfl, rfl, by decide +kernel, rfl, by decide +kernel, by decide +kernel⟩

theorem ok_init {f : Addr} {fd : FuncData} (F : FunD K "__init__" "Rules.__init__" (defArgs sInit) (defBody sInit) (defScope sInit) [] [] f fd) (T : Tx K mg C) (c_is_from : Cal P w K mg base CX0 1 "is_from" spFrom) (c_is_rule_of : Cal P w K mg base CX0 3 "is_rule_of" spRuleOf) : FnOk P w K mg base CX0 4 f fd ["self", "many", "rules"] (spInit (C := C)) ∧ Binds K fd ["self", "many", "rules"] [] := by
  refine ⟨F.ok sc_Rules___init (fun vs H Q E h => ?_) (fun cdv A outer s H vs Q E hr h => ?_), F.bindsN (fun _ _ _ _ _ _ us hl => match us, hl with | [_, _, _], _ => rfl)⟩
  · obtain ⟨_, _, _, _, _, rfl, _⟩ := h
    rfl
  · suffices z : ∃ t, PSs (cxOf CX0 P w K mg base n_Rules___init "Rules.__init__" (defScope sInit) f cdv A outer s H E).nox (defBody sInit) t ∧ t { nx := fun _ H' => Q .non H', rt := Q } (start n_Rules___init vs) H by
      obtain ⟨t, h1, h2⟩ := z
      exact ⟨t, h1.nox, h2⟩
    obtain ⟨n, us, p, dx, t, rfl, hp, h1, h8, ⟨xs, ⟨a, rfl, ha⟩, hx⟩, ⟨ok, pw⟩, hz, q⟩ := h
    refine ⟨_, (pss_cons (ps_if (pt_not (pt_val (pe_c c_is_from hr (by decide) (by rfl) (pa_cons (pv 1) (pa_cons pe_int (pa_cons (pe_int_glob (by rfl) T.MOST_PLACES) pa_nil)))))) (pss_one ps_never) pss_nil)
      (pss_cons (ps_if (pt_not (pt_val (pe_callB call_isi (by rfl) T.b.isinstance bt_isinstance (pa_cons (pv 2) (pa_cons (pe_bltn (v := .ty "tuple") (by rfl) T.b.tuple bt_tuple rfl) pa_nil))))) (pss_one ps_never) pss_nil)
      (pss_cons (ps_for PassesOwn.never rfl (pi_enumT (by rfl) T.b.enumerate (pa_cons (pv 2) pa_nil)) (pg_tup rfl (pgs_cons (pg_name (i := 3) sc_Rules___init.nd rfl (Or.inl rfl)) (pgs_cons (pg_name (i := 4) sc_Rules___init.nd rfl (Or.inl rfl)) pgs_nil))) (pss_one (ps_if (PW.pt (pw_or (pt_not (pt_val (pe_c c_is_rule_of hr (by decide) (by rfl) (pa_cons (pv 1) (pa_cons (pv 4) pa_nil))))) (pw_or1 (PW.pt (pw_and (pt_cmpR op_gt (pv 3) pe_int (nomark _)) (pw_and1 (pt_cmpR (op_geU hr.units) (pe_ix ix_tup (pv 2) (pe_op op_sub (pv 3) pe_int) (fun _ _ => rfl)) (pv 4) (nomark _)))))))) (pss_one ps_never) pss_nil)))
      (pss_cons (ps_fld (pv 0) (pv 1) rfl)
      (pss_one (ps_fld (pv 0) (pv 2) rfl)))))), ?_⟩
    obtain ⟨tk, hm⟩ := T.MOST_PLACES
    refine ⟨_, rfl, n, 1, 8, rfl, _, rfl, ?_⟩
    rw [decide_eq_true (by omega : (1 : Int) ≤ n), decide_eq_true (by omega : (n : Int) ≤ 8)]
    refine iteF ?_
    refine ⟨_, rfl, _, _, _, _, true, rfl, .ty "tuple", tyx_tup ha, kit_tuple_tuple K, true, rfl, iteF ?_⟩
    refine ⟨_, rfl, a, xs, rfl, SqT.of ha, ?_⟩
    refine for_it (walk_enumT (xs := xs)) (fun i σ H' => ∃ o3 o4, σ = [some (.ref p), some (.int n), some (.ref a), o3, o4] ∧ Same H H') ⟨none, none, rfl, Same.refl _⟩ (fun i σ H' _ ⟨_, _, _, s1⟩ => SqT.of (s1 _ _ ha)) (fun i x σ H1 H2 hi pp y => ?_) fun σ H' pp => ?_
    · obtain ⟨o3, o4, rfl, s1⟩ := pp
      obtain ⟨T', x, y, rfl, hT, rfl, hx2, hy⟩ := y
      cases hx2
      refine ⟨T', _, rfl, SqT.of upd_same, rfl, _, _, rfl, _, _, rfl, rfl, ?_⟩
      have s2 : Same H (upd H1 T' (.tup [.int (i : Nat), y])) := s1.trans (same_new hT)
      obtain ⟨u, hu1, hu2⟩ := (hx.keep (keep_of s2)).get hy
      refine ⟨_, rfl, _, rfl, n, y, u, rfl, hu2, ok u (List.mem_of_getElem? hu1), fun H3 s3 => ⟨_, rfl, iteF ?_⟩⟩
      refine ⟨_, rfl, _, _, rfl, rfl, _, rfl, ?_⟩
      by_cases c : (0 : Int) < (i : Nat)
      · rw [decide_eq_true c]
        refine iteT ?_
        have s4 := s2.trans s3
        have hi' : i - 1 < us.length := by have := hx.len; omega
        obtain ⟨v, hv1, hv2⟩ := (hx.keep (keep_of s4)).at (List.getElem?_eq_getElem hi')
        refine ⟨_, rfl, _, rfl, _, _, rfl, rfl, a, xs, _, v, rfl, rfl, SqT.of (s4 _ _ ha), ?_, _, rfl, _, u, hv2, hu2.keep (keep_of s3), ?_, false, rfl, iteF ⟨_, _, rfl, s4⟩⟩
        · have z := atI_nat hv1
          have e : ((i : Nat) : Int) - 1 = ((i - 1 : Nat) : Int) := by omega
          rw [e]
          exact z
        · rw [List.pairwise_iff_getElem] at pw
          have hi2 : i < us.length := by have := hx.len; omega
          have e := List.getElem?_eq_getElem hi2
          rw [hu1] at e
          cases e
          exact pw (i - 1) i hi' hi2 (by omega)
      · rw [decide_eq_false c]
        exact iteF (iteF ⟨_, _, rfl, s2.trans s3⟩)
    · obtain ⟨o3, o4, rfl, s1⟩ := pp
      have hp' := s1 _ _ hp
      refine ⟨_, rfl, _, rfl, p, C, dx, [], rfl, hp', T.cl, T.nW, by decide, ?_⟩
      refine ⟨_, rfl, _, rfl, p, C, dx, _, rfl, upd_same, T.cl, T.nT, (by show (1 : Nat) < 1000; decide), ?_⟩
      refine q _ (fun b o hb e => ?_) upd_same
      rw [upd_ne hb, upd_ne hb]
      exact s1 _ _ e
/-! ### need_odd, most_row -/
def spNeedOdd : Sp := fun vs H Q E => ∃ (n : Nat) (us : List Rule) (o t : V) (rs : List Row), vs = [o, t] ∧ RObj C H o n us ∧ RowsT H t rs ∧ UsOk n us ∧ VotesOk n us rs ∧ (rs.length % 2 = 1 → ∀ H', Same H H' → Q .non H') ∧ (rs.length % 2 = 0 → ∀ H', Same H H' → E (.ref CE) none H')
def n_need_odd : List Str := ["rules", "votes"]
theorem sc_need_odd : FnScope n_need_odd ["rules", "votes"] (defScope s_need_odd) := ⟨rfl, rfl, rfl, by decide +kernel, rfl, by decide +kernel, by decide +kernel⟩

theorem cal_need_odd (D : Df K mg "need_odd" s_need_odd) (T : Tx K mg C) (V : Ev K mg CE) (c_need_votes : Cal P w K mg base CX0 4 "need_votes" (spNeedVotes (C := C))) : Cal P w K mg base (L2.CX P w) 5 "need_odd" (spNeedOdd (C := C) (CE := CE)) := by
  refine cal_ofX D sc_need_odd (fun _ _ _ _ _ _ us hl => match us, hl with | [_, _], _ => rfl) (fun vs H Q E h => ?_) (fun f cdv A outer s H vs Q E hr h => ?_)
  · obtain ⟨_, _, _, _, _, rfl, _⟩ := h
    rfl
  · obtain ⟨n, us, o, t, rs, rfl, ho, ht, hu, hvo, q1, q2⟩ := h
    refine ⟨_, (pss_cons (ps_expr (pe_c c_need_votes hr (by decide) (by rfl) (pa_cons (pv 0) (pa_cons (pv 1) pa_nil))))
      (pss_one (ps_if (pt_cmpR op_eq (pe_op op_mod (pe_callB call_len_seq (by rfl) T.b.len bt_len (pa_cons (pv 1) pa_nil)) pe_int) pe_int (nomark _)) (pss_one (ps_raise rfl (takes_of rfl rfl rfl rfl) (pmk_own0 PySem.F.excBase_ValueError V.ex V.gE V.kp (raises_own V.sub V.ty) rfl))) pss_nil))), ?_⟩
    refine ⟨_, rfl, _, rfl, n, us, o, t, rs, rfl, ho, ht, hu, hvo, fun H1 s1 => ?_⟩
    obtain ⟨xs, ⟨a, rfl, ha⟩, hx⟩ := ht.keep (keep_of s1)
    refine ⟨_, rfl, a, _, rfl, .inr (SqT.of ha), _, _, rfl, rfl, (by show (0 : Int) < 2; decide), rfl, _, rfl, ?_⟩
    rw [dec_int, hx.len]
    by_cases c : rs.length % 2 = 0
    · rw [beq_iff_eq.mpr (by omega : (rs.length : Int) % 2 = 0)]
      exact iteT (q2 c H1 s1)
    · rw [beq_eq_false_iff_ne.mpr (by omega : (rs.length : Int) % 2 ≠ 0)]
      exact iteF (q1 (by omega) H1 s1)
def spMostRow : Sp := fun vs H Q E => ∃ (n : Nat) (us : List Rule) (o t : V) (rs : List Row), vs = [o, t] ∧ RObj C H o n us ∧ RowsT H t rs ∧ UsOk n us ∧ VotesOk n us rs ∧ (rs.length % 2 = 1 → ∀ v H', RowAt H' v (most n rs) → Same H H' → Q v H') ∧ (rs.length % 2 = 0 → ∀ H', Same H H' → E (.ref CE) none H')
def n_most_row : List Str := ["rules", "votes"]
theorem sc_most_row : FnScope n_most_row ["rules", "votes"] (defScope s_most_row) := ⟨rfl, rfl, rfl, by decide +kernel, rfl, by decide +kernel, by decide +kernel⟩

theorem cal_most_row (D : Df K mg "most_row" s_most_row) (T : Tx K mg C) (c_need_odd : Cal P w K mg base (L2.CX P w) 5 "need_odd" (spNeedOdd (C := C) (CE := CE))) (c_most_of : Cal P w K mg base CX0 1 "most_of" spMostOf) : Cal P w K mg base (L2.CX P w) 6 "most_row" (spMostRow (C := C) (CE := CE)) := by
  refine cal_ofX D sc_most_row (fun _ _ _ _ _ _ us hl => match us, hl with | [_, _], _ => rfl) (fun vs H Q E h => ?_) (fun f cdv A outer s H vs Q E hr h => ?_)
  · obtain ⟨_, _, _, _, _, rfl, _⟩ := h
    rfl
  · obtain ⟨n, us, o, t, rs, rfl, ho, ht, hu, hvo, q1, q2⟩ := h
    obtain ⟨fO, fdO, psO, FO, mO, kO, bO⟩ := c_need_odd.ex
    refine ⟨_, (pss_cons (ps_expr (pe_callS (E := WE fun cls d _ H => E cls d H) FO hr rfl mO kO bO (fun σ => passAt (takes_of rfl rfl rfl rfl) σ) (by exact (pa_cons (pv 0) (pa_cons (pv 1) pa_nil))))) (pss_one (ps_ret (pe_c c_most_of hr (by decide) (by rfl) (pa_cons (pv 1) pa_nil))))), ?_⟩
    refine ⟨_, rfl, _, rfl, n, us, o, t, rs, rfl, ho, ht, hu, hvo, fun c H1 s1 => ?_, fun c H1 s1 => q2 c H1 s1⟩
    exact ⟨_, rfl, n, t, rs, rfl, ht.keep (keep_of s1), fun x hx => (hvo.2.2 x hx).1, hvo.1, hvo.2.1, hu.1, fun v H2 hv s2 => q1 c v H2 hv (s1.trans s2)⟩
/-! ### _law_told -/
def spTold : Sp := fun vs H Q _ => ∃ (n : Nat) (us : List Rule) (o t : V) (rs : List Row), vs = [o, t] ∧ RObj C H o n us ∧ RowsT H t rs ∧ UsOk n us ∧ VotesOk n us rs ∧ (rs.length % 2 = 1 → ∀ v H', RowAt H' v (most n rs) → Same H H' → Q v H') ∧ (rs.length % 2 = 0 → ∀ H', Same H H' → Q (.str "even") H')
def n_law_told : List Str := ["_law_rules", "_law_votes_here"]
theorem sc_law_told : FnScope n_law_told ["_law_rules", "_law_votes_here"] (defScope s_law_told) := ⟨rfl, rfl, rfl, by decide +kernel, rfl, by decide +kernel, by decide +kernel⟩

theorem cal_law_told (D : Df K mg "_law_told" s_law_told) (T : Tx K mg C) (V : Ev K mg CE) (c_most_row : Cal P w K mg base (L2.CX P w) 6 "most_row" (spMostRow (C := C) (CE := CE))) : Cal P w K mg base CX0 7 "_law_told" (spTold (C := C)) := by
  refine cal_of D sc_law_told (fun _ _ _ _ _ _ us hl => match us, hl with | [_, _], _ => rfl) (fun vs H Q E h => ?_) (fun f cdv A outer s H vs Q E hr h => ?_)
  · obtain ⟨_, _, _, _, _, rfl, _⟩ := h
    rfl
  · obtain ⟨n, us, o, t, rs, rfl, ho, ht, hu, hvo, q1, q2⟩ := h
    obtain ⟨fM, fdM, psM, FM, mM, kM, bM⟩ := c_most_row.ex
    refine ⟨_, (pss_one (ps_try_only (tb := fun W => tRet (tCallS (spMostRow (C := C) (CE := CE)) (WE W) (tCons (tVar 0) (tCons (tVar 1) tNil)))) (ts := fun _ _ _ => tRet (tC (.str "even"))) (Wout := fun _ _ _ _ => False) rfl rfl ⟨rfl, by decide, Or.inl V.gE⟩ takes0 (fun W pn xe tk _ => pss_one (ps_ret (by exact (pe_callS FM hr rfl mM kM bM (fun σ => passAt tk σ) (by exact (pa_cons (pv 0) (pa_cons (pv 1) pa_nil))))))) (fun a oe cls d pn hz hf => pss_one (ps_ret pe_str)))), ?_⟩
    refine ⟨_, rfl, _, rfl, n, us, o, t, rs, rfl, ho, ht, hu, hvo, fun c v H1 hv s1 => q1 c v H1 hv s1, fun c H1 s1 => ⟨true, V.exm, fun _ a ha => q2 c H1 s1, fun z => Bool.noConfusion z⟩⟩
/-! ### need_odd, most_row of an odd number of votes -/
def spNeedOdd0 : Sp := fun vs H Q _ => ∃ (n : Nat) (us : List Rule) (o t : V) (rs : List Row), vs = [o, t] ∧ RObj C H o n us ∧ RowsT H t rs ∧ UsOk n us ∧ VotesOk n us rs ∧ rs.length % 2 = 1 ∧ ∀ H', Same H H' → Q .non H'
theorem cal_need_odd0 (D : Df K mg "need_odd" s_need_odd) (T : Tx K mg C) (c_need_votes : Cal P w K mg base CX0 4 "need_votes" (spNeedVotes (C := C))) : Cal P w K mg base CX0 5 "need_odd" (spNeedOdd0 (C := C)) := by
  refine cal_of D sc_need_odd (fun _ _ _ _ _ _ us hl => match us, hl with | [_, _], _ => rfl) (fun vs H Q E h => ?_) (fun f cdv A outer s H vs Q E hr h => ?_)
  · obtain ⟨_, _, _, _, _, rfl, _⟩ := h
    rfl
  · obtain ⟨n, us, o, t, rs, rfl, ho, ht, hu, hvo, c, q⟩ := h
    refine ⟨_, (pss_cons (ps_expr (pe_c c_need_votes hr (by decide) (by rfl) (pa_cons (pv 0) (pa_cons (pv 1) pa_nil))))
      (pss_one (ps_if (pt_cmpR op_eq (pe_op op_mod (pe_callB call_len_seq (by rfl) T.b.len bt_len (pa_cons (pv 1) pa_nil)) pe_int) pe_int (nomark _)) (pss_one ps_never) pss_nil))), ?_⟩
    refine ⟨_, rfl, _, rfl, n, us, o, t, rs, rfl, ho, ht, hu, hvo, fun H1 s1 => ?_⟩
    obtain ⟨xs, ⟨a, rfl, ha⟩, hx⟩ := ht.keep (keep_of s1)
    refine ⟨_, rfl, a, _, rfl, .inr (SqT.of ha), _, _, rfl, rfl, (by show (0 : Int) < 2; decide), rfl, _, rfl, ?_⟩
    rw [dec_int, hx.len, beq_eq_false_iff_ne.mpr (by omega : (rs.length : Int) % 2 ≠ 0)]
    exact iteF (q H1 s1)
def spMostRow0 : Sp := fun vs H Q _ => ∃ (n : Nat) (us : List Rule) (o t : V) (rs : List Row), vs = [o, t] ∧ RObj C H o n us ∧ RowsT H t rs ∧ UsOk n us ∧ VotesOk n us rs ∧ rs.length % 2 = 1 ∧ ∀ v H', RowAt H' v (most n rs) → Same H H' → Q v H'
theorem cal_most_row0 (D : Df K mg "most_row" s_most_row) (T : Tx K mg C) (c_need_odd : Cal P w K mg base CX0 5 "need_odd" (spNeedOdd0 (C := C))) (c_most_of : Cal P w K mg base CX0 1 "most_of" spMostOf) : Cal P w K mg base CX0 6 "most_row" (spMostRow0 (C := C)) := by
  refine cal_of D sc_most_row (fun _ _ _ _ _ _ us hl => match us, hl with | [_, _], _ => rfl) (fun vs H Q E h => ?_) (fun f cdv A outer s H vs Q E hr h => ?_)
  · obtain ⟨_, _, _, _, _, rfl, _⟩ := h
    rfl
  · obtain ⟨n, us, o, t, rs, rfl, ho, ht, hu, hvo, c, q⟩ := h
    refine ⟨_, (pss_cons (ps_expr (pe_c c_need_odd hr (by decide) (by rfl) (pa_cons (pv 0) (pa_cons (pv 1) pa_nil))))
      (pss_one (ps_ret (pe_c c_most_of hr (by decide) (by rfl) (pa_cons (pv 1) pa_nil))))), ?_⟩
    refine ⟨_, rfl, _, rfl, n, us, o, t, rs, rfl, ho, ht, hu, hvo, c, fun H1 s1 => ?_⟩
    exact ⟨_, rfl, n, t, rs, rfl, ht.keep (keep_of s1), fun x hx => (hvo.2.2 x hx).1, hvo.1, hvo.2.1, hu.1, fun v H2 hv s2 => q v H2 hv (s1.trans s2)⟩
end
end MR

set_option Elab.async false
set_option linter.all false
set_option maxRecDepth 100000
set_option maxHeartbeats 4000000
namespace MR
open PySem PySem.Spec PyProof.Rows L2
/-- all but L stands -/
def Mv (L : Addr) (H H' : Hp) : Prop := ∀ b o, b ≠ L → H b = some o → H' b = some o
theorem Mv.refl (L : Addr) (H : Hp) : Mv L H H := fun _ _ _ h => h
theorem Mv.trans {L : Addr} {H H1 H2 : Hp} (a : Mv L H H1) (b : Mv L H1 H2) : Mv L H H2 := fun c o n h => b c o n (a c o n h)
theorem mv_same {L : Addr} {H H' : Hp} (s : Same H H') : Mv L H H' := fun b o _ h => s b o h
theorem mv_upd {L : Addr} {H : Hp} {o : HO} : Mv L H (upd H L o) := fun b u n h => by rw [upd_ne n]; exact h
theorem Mv.lst {L a : Addr} {H H' : Hp} {xs ys : List V} (m : Mv L H H') (hn : a ≠ L) (h : H a = some (.lst xs)) : H' a = some (.lst xs) := m _ _ hn h
theorem Mv.keep {L : Addr} {H H' : Hp} {xs : List V} (m : Mv L H H') (h : H L = some (.lst xs)) : Keep H H' := fun b ys e => m _ _ (by rintro rfl; rw [h] at e; cases e) e
/-- a list of the given fragment, or not at l -/
def Fr (K : PySem.W.Frag) (a : Addr) (xs : List V) (l : Addr) : Prop := (∃ (o : Obj) (its : Array Value) (n : Nat), K.lookup a = some o ∧ o.cls = .type "list" ∧ o.dict = none ∧ o.data = .seq its n ∧ its.size ≤ sizeLine ∧ Vals xs its.toList) ∨ a ≠ l
theorem Fr.new {K : PySem.W.Frag} {H : Hp} {a l : Addr} {xs : List V} (h : SqL K H a xs) (hl : H l = none) : Fr K a xs l := by
  rcases h with (h | ⟨o, h⟩) | h
  · exact .inr (by rintro rfl; rw [h] at hl; cases hl)
  · exact .inr (by rintro rfl; rw [h] at hl; cases hl)
  · exact .inl h
theorem sqL_mv {K : PySem.W.Frag} {L a : Addr} {H H' : Hp} {xs : List V} (m : Mv L H H') (hn : Fr K a xs L) (h : SqL K H a xs) : SqL K H' a xs := by
  rcases hn with hn | hn
  · exact .inr hn
  rcases h with (h | ⟨o, h⟩) | h
  · exact .inl (.inl (m _ _ hn h))
  · exact .inl (.inr ⟨o, m _ _ hn h⟩)
  · exact .inr h
theorem sqL_same {K : PySem.W.Frag} {a : Addr} {H H' : Hp} {xs : List V} (s : Same H H') (h : SqL K H a xs) : SqL K H' a xs := by
  rcases h with (h | ⟨o, h⟩) | h
  · exact .inl (.inl (s _ _ h))
  · exact .inl (.inr ⟨o, s _ _ h⟩)
  · exact .inr h
/-- where the law's row of draws stands, where the script does, its ints -/
structure Rw where
  L : Addr
  a : Addr
  ns : List Int
/-- the law's row of draws -/
def RowSt (K : PySem.W.Frag) (H : Hp) (R : Rw) : Prop := ∃ (i seed rest : Int), H R.L = some (.lst [.ref R.a, .int i, .int seed, .int rest]) ∧ 0 ≤ i ∧ Fr K R.a (R.ns.map V.int) R.L ∧ SqL K H R.a (R.ns.map V.int)
theorem RowSt.same {K : PySem.W.Frag} {H H' : Hp} {R : Rw} (s : Same H H') (h : RowSt K H R) : RowSt K H' R := let ⟨i, x, y, h1, h2, h3, h4⟩ := h; ⟨i, x, y, s _ _ h1, h2, h3, sqL_same s h4⟩
theorem RowSt.keep {K : PySem.W.Frag} {H H' : Hp} {R : Rw} (h : RowSt K H R) (m : Mv R.L H H') : Keep H H' := let ⟨_, _, _, h1, _, _, _⟩ := h; m.keep h1
theorem RowSt.put {K : PySem.W.Frag} {H : Hp} {R : Rw} {i seed rest : Int} (h2 : 0 ≤ i) (h3 : Fr K R.a (R.ns.map V.int) R.L) (h4 : SqL K H R.a (R.ns.map V.int)) : RowSt K (upd H R.L (.lst [.ref R.a, .int i, .int seed, .int rest])) R := ⟨i, seed, rest, upd_same, h2, h3, sqL_mv mv_upd h3 h4⟩
theorem RowSt.upd {K : PySem.W.Frag} {H : Hp} {R : Rw} {l : Addr} {o : HO} (h : RowSt K H R) (hl : R.L ≠ l) (hf : Fr K R.a (R.ns.map V.int) l) : RowSt K (upd H l o) R := let ⟨i, x, y, h1, h2, h3, h4⟩ := h; ⟨i, x, y, by rw [upd_ne hl]; exact h1, h2, h3, sqL_mv mv_upd hf h4⟩
theorem RowSt.ne {K : PySem.W.Frag} {H : Hp} {R : Rw} {l : Addr} (h : RowSt K H R) (hl : H l = none) : l ≠ R.L := by
  obtain ⟨_, _, _, h1, _⟩ := h
  rintro rfl
  rw [h1] at hl
  cases hl
theorem RowSt.fr {K : PySem.W.Frag} {H : Hp} {R : Rw} {l : Addr} (h : RowSt K H R) (hl : H l = none) : Fr K R.a (R.ns.map V.int) l := let ⟨_, _, _, _, _, _, h4⟩ := h; Fr.new h4 hl
section
variable {P : Program} {w : World} {K : PySem.W.Frag} {mg : Str → Option Value} {base : Heap} {C CE : Addr}
/-! ### _law_taken -/
def spTaken (K : PySem.W.Frag) : Sp := fun vs H Q _ => ∃ (R : Rw) (m : Int), vs = [.ref R.L, .int m] ∧ 0 < m ∧ m < 1000000000 ∧ RowSt K H R ∧ ∀ x H', 0 ≤ x → x < m → Mv R.L H H' → RowSt K H' R → Q (.int x) H'
def n_law_taken : List Str := ["_law_row", "_law_many", "_law_found", "_law_cell"]
theorem sc_law_taken : FnScope n_law_taken ["_law_row", "_law_many"] (defScope s_law_taken) := ⟨rfl, rfl, rfl, by decide +kernel, rfl, by decide +kernel, by decide +kernel⟩

theorem cal_law_taken (D : Df K mg "_law_taken" s_law_taken) (T : Tx K mg C) : Cal P w K mg base CX0 1 "_law_taken" (spTaken K) := by
  refine cal_of D sc_law_taken (fun _ _ _ _ _ _ us hl => match us, hl with | [_, _], _ => rfl) (fun vs H Q E h => ?_) (fun f cdv A outer s H vs Q E hr h => ?_)
  · obtain ⟨_, _, rfl, _⟩ := h
    rfl
  · obtain ⟨⟨L, a, ns⟩, m, rfl, m0, m1, ⟨i, seed, rest, hL, hi, hn, ha⟩, q⟩ := h
    dsimp only at hL hn ha q ⊢
    have mz : m ≠ 0 := by omega
    refine ⟨_, (pss_cons (ps_if (pt_cmpR op_gt (pe_ix ix_list (pv 0) pe_int (fun _ _ => rfl)) pe_int (nomark _)) (pss_cons (ps_set (i := 2) sc_law_taken.nd rfl (Or.inl rfl) (pe_op op_mod (pe_callTy call_int1 (by rfl) T.b.int bt_int (pa_cons (pe_ix ix_list (pv 0) pe_int (fun _ _ => rfl)) pa_nil)) (pv 1)))
      (pss_cons (ps_asg (pe_op op_fdiv (pe_ix ix_list (pv 0) pe_int (fun _ _ => rfl)) (pv 1)) (pg_sub (pv 0) pe_int set_list))
      (pss_one (ps_ret (pv 2))))) pss_nil)
      (pss_cons (ps_asg (pe_op op_add (pe_ix ix_list (pv 0) pe_int (fun _ _ => rfl)) pe_int) (pg_sub (pv 0) pe_int set_list))
      (pss_cons (ps_if (pt_cmpR op_gt (pe_ix ix_list (pv 0) pe_int (fun _ _ => rfl)) (pe_callB call_len_seq (by rfl) T.b.len bt_len (pa_cons (pe_ix ix_list (pv 0) pe_int (fun _ _ => rfl)) pa_nil)) (nomark _)) (pss_cons (ps_asg (pe_op op_mod (pe_callTy call_int1 (by rfl) T.b.int bt_int (pa_cons (pe_op op_add (pe_op op_mul (pe_ix ix_list (pv 0) pe_int (fun _ _ => rfl)) pe_int) pe_int) pa_nil)) pe_int) (pg_sub (pv 0) pe_int set_list))
      (pss_one (ps_ret (pe_op op_mod (pe_callTy call_int1 (by rfl) T.b.int bt_int (pa_cons (pe_op op_fdiv (pe_ix ix_list (pv 0) pe_int (fun _ _ => rfl)) pe_int) pa_nil)) (pv 1))))) pss_nil)
      (pss_cons (ps_set (i := 3) sc_law_taken.nd rfl (Or.inl rfl) (pe_ix ix_list (pe_ix ix_list (pv 0) pe_int (fun _ _ => rfl)) (pe_op op_sub (pe_ix ix_list (pv 0) pe_int (fun _ _ => rfl)) pe_int) (fun _ _ => rfl)))
      (pss_cons (ps_asg (pe_op op_mod (pe_callTy call_int1 (by rfl) T.b.int bt_int (pa_cons (pe_op op_add (pe_op op_add (pe_op op_mul (pe_ix ix_list (pv 0) pe_int (fun _ _ => rfl)) pe_int) (pv 3)) pe_int) pa_nil)) pe_int) (pg_sub (pv 0) pe_int set_list))
      (pss_cons (ps_if (pt_cmpR op_ge (pv 3) (pe_op op_pow pe_int pe_int) (nomark _)) (pss_one (ps_asg (pe_op op_fdiv (pv 3) (pv 1)) (pg_sub (pv 0) pe_int set_list))) pss_nil)
      (pss_one (ps_ret (pe_op op_mod (pe_callTy call_int1 (by rfl) T.b.int bt_int (pa_cons (pv 3) pa_nil)) (pv 1)))))))))), ?_⟩
    refine ⟨_, rfl, L, _, 3, _, rfl, rfl, SqL.of hL, rfl, _, _, rfl, rfl, _, rfl, ?_⟩
    by_cases c : (0 : Int) < rest
    · rw [decide_eq_true c]
      refine iteT ?_
      refine ⟨_, rfl, L, _, 3, _, rfl, rfl, SqL.of hL, rfl, .inl ⟨_, rfl, _, rfl, _, _, rfl, rfl, m0, ?_⟩⟩
      refine ⟨_, rfl, L, _, 3, _, rfl, rfl, SqL.of hL, rfl, _, rfl, _, _, rfl, rfl, ⟨m0, by omega⟩, ?_⟩
      refine ⟨_, rfl, L, _, 3, 3, rfl, rfl, hL, rfl, ?_⟩
      exact ⟨_, rfl, q _ _ (Int.emod_nonneg _ mz) (Int.emod_lt_of_pos _ m0) mv_upd (RowSt.put (R := ⟨L, a, ns⟩) hi hn ha)⟩
    · rw [decide_eq_false c]
      refine iteF ?_
      refine ⟨_, rfl, L, _, 1, _, rfl, rfl, SqL.of hL, rfl, _, _, rfl, rfl, _, rfl, L, _, 1, 1, rfl, rfl, hL, rfl, ?_⟩
      generalize hH : upd H L _ = H1
      have hL1 : H1 L = some (.lst [.ref a, .int (i + 1), .int seed, .int rest]) := by rw [← hH]; exact upd_same
      have mv1 : Mv L H H1 := by rw [← hH]; exact mv_upd
      have ha1 := sqL_mv mv1 hn ha
      clear hH
      refine ⟨_, rfl, L, _, 1, _, rfl, rfl, SqL.of hL1, rfl, _, rfl, L, _, 0, _, rfl, rfl, SqL.of hL1, rfl, a, _, rfl, .inl ha1, _, _, rfl, rfl, _, rfl, ?_⟩
      by_cases c2 : ((ns.map V.int).length : Int) < i + 1
      · rw [decide_eq_true c2]
        refine iteT ?_
        refine ⟨_, rfl, L, _, 2, _, rfl, rfl, SqL.of hL1, rfl, _, _, rfl, rfl, .inr ⟨by decide, by decide⟩, _, _, rfl, rfl, .inl ⟨_, rfl, _, _, rfl, rfl, (by show (0 : Int) < 2147483647; decide), ?_⟩⟩
        refine ⟨_, rfl, L, _, 2, 2, rfl, rfl, hL1, rfl, ?_⟩
        refine ⟨_, rfl, L, _, 2, _, rfl, rfl, SqL.of upd_same, rfl, _, _, rfl, rfl, ⟨by decide, by decide⟩, .inl ⟨_, rfl, _, rfl, _, _, rfl, rfl, m0, ?_⟩⟩
        exact q _ _ (Int.emod_nonneg _ mz) (Int.emod_lt_of_pos _ m0) (mv1.trans mv_upd) (RowSt.put (R := ⟨L, a, ns⟩) (by omega) hn ha1)
      · rw [decide_eq_false c2]
        refine iteF ?_
        rw [List.length_map] at c2
        have hi2 : i.toNat < ns.length := by omega
        obtain ⟨cell, hcell⟩ : ∃ cell, atI (ns.map V.int) (i + 1 - 1) = some (.int cell) := by
          refine ⟨ns[i.toNat], ?_⟩
          have z := atI_nat (xs := ns.map V.int) (j := i.toNat) (v := .int ns[i.toNat]) (by rw [List.getElem?_map, List.getElem?_eq_getElem hi2]; rfl)
          have e : i + 1 - 1 = (i.toNat : Int) := by omega
          rw [e]
          exact z
        refine ⟨_, rfl, L, _, 0, _, rfl, rfl, SqL.of hL1, rfl, _, rfl, L, _, 1, _, rfl, rfl, SqL.of hL1, rfl, _, _, rfl, rfl, a, _, _, _, rfl, rfl, ha1, hcell, ?_⟩
        refine ⟨_, rfl, L, _, 2, _, rfl, rfl, SqL.of hL1, rfl, _, _, rfl, rfl, .inr ⟨by decide, by decide⟩, _, rfl, _, _, rfl, rfl, _, _, rfl, rfl, .inl ⟨_, rfl, _, _, rfl, rfl, (by show (0 : Int) < 2147483647; decide), ?_⟩⟩
        refine ⟨_, rfl, L, _, 2, 2, rfl, rfl, hL1, rfl, ?_⟩
        generalize hH : upd H1 L _ = H2
        have hL2 : ∃ sd, H2 L = some (.lst [.ref a, .int (i + 1), .int sd, .int rest]) := ⟨_, by rw [← hH]; exact upd_same⟩
        have mv2 : Mv L H H2 := by rw [← hH]; exact mv1.trans mv_upd
        clear hH
        obtain ⟨sd, hL2⟩ := hL2
        have ha2 := sqL_mv mv2 hn ha
        refine ⟨_, rfl, _, _, rfl, rfl, ⟨by decide, by decide, by decide⟩, _, _, rfl, rfl, _, rfl, ?_⟩
        by_cases c3 : (10 : Int) ^ (18 : Int).toNat ≤ cell
        · rw [decide_eq_true c3]
          refine iteT ?_
          refine ⟨_, rfl, _, rfl, _, _, rfl, rfl, ⟨m0, by omega⟩, _, rfl, L, _, 3, 3, rfl, rfl, hL2, rfl, ?_⟩
          refine ⟨_, rfl, .inl ⟨_, rfl, _, rfl, _, _, rfl, rfl, m0, ?_⟩⟩
          exact q _ _ (Int.emod_nonneg _ mz) (Int.emod_lt_of_pos _ m0) (mv2.trans mv_upd) (RowSt.put (R := ⟨L, a, ns⟩) (by omega) hn ha2)
        · rw [decide_eq_false c3]
          refine iteF ?_
          refine ⟨_, rfl, .inl ⟨_, rfl, _, rfl, _, _, rfl, rfl, m0, ?_⟩⟩
          exact q _ _ (Int.emod_nonneg _ mz) (Int.emod_lt_of_pos _ m0) mv2 ⟨_, _, _, hL2, by show 0 ≤ i + 1; omega, hn, ha2⟩
/-! ### _law_pick -/
def spPick (K : PySem.W.Frag) : Sp := fun vs H Q _ => ∃ (R : Rw) (a : Addr) (xs : List V), vs = [.ref R.L, .ref a] ∧ H a = some (.lst xs) ∧ a ≠ R.L ∧ 0 < xs.length ∧ xs.length < 1000000000 ∧ RowSt K H R ∧ ∀ v H', v ∈ xs → Mv R.L H H' → RowSt K H' R → Q v H'
def n_law_pick : List Str := ["_law_row", "_law_things"]
theorem sc_law_pick : FnScope n_law_pick ["_law_row", "_law_things"] (defScope s_law_pick) := ⟨rfl, rfl, rfl, by decide +kernel, rfl, by decide +kernel, by decide +kernel⟩

theorem cal_law_pick (D : Df K mg "_law_pick" s_law_pick) (T : Tx K mg C) (c_law_taken : Cal P w K mg base CX0 1 "_law_taken" (spTaken K)) : Cal P w K mg base CX0 2 "_law_pick" (spPick K) := by
  refine cal_of D sc_law_pick (fun _ _ _ _ _ _ us hl => match us, hl with | [_, _], _ => rfl) (fun vs H Q E h => ?_) (fun f cdv A outer s H vs Q E hr h => ?_)
  · obtain ⟨_, _, _, rfl, _⟩ := h
    rfl
  · obtain ⟨R, a, xs, rfl, ha, hn, l0, l1, hL, q⟩ := h
    refine ⟨_, (pss_one (ps_ret (pe_ix ix_list (pv 1) (pe_c c_law_taken hr (by decide) (by rfl) (pa_cons (pv 0) (pa_cons (pe_callB call_len_seq (by rfl) T.b.len bt_len (pa_cons (pv 1) pa_nil)) pa_nil))) (fun _ _ => rfl)))), ?_⟩
    refine ⟨_, rfl, _, rfl, _, rfl, a, _, rfl, .inl (SqL.of ha), R, _, rfl, by omega, by omega, hL, fun x H1 x0 x1 mv hL1 => ?_⟩
    have hx : x.toNat < xs.length := by omega
    refine ⟨a, xs, x, xs[x.toNat], rfl, rfl, SqL.of (mv _ _ hn ha), ?_, q _ H1 (List.getElem_mem hx) mv hL1⟩
    have z := atI_nat (xs := xs) (j := x.toNat) (v := xs[x.toNat]) (List.getElem?_eq_getElem hx)
    have e : x = (x.toNat : Int) := by omega
    rw [← e] at z
    exact z
end
end MR

set_option Elab.async false
set_option linter.all false
set_option maxRecDepth 100000
set_option maxHeartbeats 4000000
namespace MR
open PySem PySem.Spec PyProof.Rows L2
theorem catA_row {K : PySem.W.Frag} {H : Hp} {x : V} {r : Row} {b : Addr} {c : Int} {Q : VK} (hx : RowAt H x r) (hb : H b = some (.tup [.int c])) (hl : r.length ≤ 1000) (q : ∀ y H', RowAt H' y (r ++ [c]) → Same H H' → Q y H') : rCatA K x (.ref b) H Q := by
  obtain ⟨a, rfl, ha⟩ := hx
  refine ⟨a, b, _, _, rfl, rfl, SqT.of ha, SqT.of hb, line_of (by rw [List.length_map]; show r.length + 1 ≤ _; omega), fun e => ?_, fun _ e => ?_, fun _ _ p hp => ?_⟩
  · cases r with
    | nil => exact q _ _ ⟨b, rfl, hb⟩ (Same.refl _)
    | cons _ _ => cases e
  · cases e
  · refine q _ _ ⟨p, rfl, ?_⟩ (same_new hp)
    rw [List.map_append]
    exact upd_same
theorem lawRows_len (n : Nat) : (lawRows n).length = 2 ^ n := by rw [← (rows_perm n).length_eq, allRows_len]
theorem mem_lawRows {n : Nat} {r : Row} (h : r ∈ lawRows n) : RowOf n r := mem_allRows.mp ((rows_perm n).mem_iff.mpr h)
theorem rows_le : PySem.W.dataLe false rowD = fun p q : Row => decide (p ≤ q) := by
  funext p q
  show (!PySem.W.dataLt (.tuple (q.map .int)) (.tuple (p.map .int))) = _
  rw [PySem.W.dataLt_tuple]
  show (!PySem.W.rowLt (q.map .int) (p.map .int)) = _
  rw [PySem.W.dataLt_ints]
  by_cases h : q < p
  · have h' : ¬ p ≤ q := fun r => List.not_lt.mpr r h
    simp [h, h']
  · have h' : p ≤ q := List.not_lt.mp h
    simp [h, h']
theorem rows_sorted (n : Nat) : (lawRows n).mergeSort (PySem.W.dataLe false rowD) = allRows n := by
  rw [rows_le]
  refine List.Perm.eq_of_pairwise (le := fun a b : Row => a ≤ b) (fun a b _ _ h1 h2 => List.le_antisymm h1 h2) ?_ ?_ ((List.mergeSort_perm _ _).trans (rows_perm n).symm)
  · have h := List.pairwise_mergeSort (le := fun p q : Row => decide (p ≤ q)) (fun a b c h1 h2 => by simp only [decide_eq_true_eq] at *; exact List.le_trans h1 h2) (fun a b => by simp only [Bool.or_eq_true, decide_eq_true_eq]; exact List.le_total a b) (lawRows n)
    exact h.imp fun {a b} h => of_decide_eq_true h
  · exact (allRows_lt n).imp fun {a b} h => List.le_of_lt h
theorem alike_ints : ∀ r s : Row, PySem.W.alikeAll (r.map .int) (s.map .int) = true
  | [], _ => by simp [PySem.W.alikeAll]
  | _ :: _, [] => by simp [PySem.W.alikeAll]
  | x :: r, y :: s => by
    show PySem.W.alikeAll (PyData.int x :: r.map .int) (PyData.int y :: s.map .int) = true
    rw [PySem.W.alikeAll, alike_ints r s]
    rfl
theorem alike_rows (bs : List Row) : PySem.W.AllAlike (bs.map rowD) := PySem.W.AllAlike.of fun b b' => by
  show PySem.W.alike (.tuple (b.map .int)) (.tuple (b'.map .int)) = true
  rw [PySem.W.alike]
  exact alike_ints b b'
theorem sort_rows {n : Nat} {bs : List Row} (h : ∀ b, b ∈ bs → b.length = n) (h1 : 1 ≤ n) : PySem.W.Sortable (bs.map rowD) := .inl fun d hd => by
  obtain ⟨b, hb, rfl⟩ := List.mem_map.mp hd
  have := h b hb
  cases b with
  | nil => simp at this; omega
  | cons x r => exact ⟨.int x, r.map .int, rfl⟩
section
variable {P : Program} {w : World} {K : PySem.W.Frag} {mg : Str → Option Value} {base : Heap} {C CE : Addr}
/-! ### _law_rows -/
def spLRows : Sp := fun vs H Q _ => ∃ n : Nat, vs = [.int n] ∧ 1 ≤ n ∧ n ≤ 8 ∧ ∀ a xs H', H a = none → H' a = some (.lst xs) → RowsAt H' xs (allRows n) → Same H H' → Q (.ref a) H'
def n_law_rows : List Str := ["_law_many", "_law_found", "_law_place", "_law_row"]
theorem sc_law_rows : FnScope n_law_rows ["_law_many"] (defScope s_law_rows) := ⟨rfl, rfl, rfl, by decide +kernel, rfl, by decide +kernel, by decide +kernel⟩

theorem cal_law_rows (D : Df K mg "_law_rows" s_law_rows) (T : Tx K mg C) : Cal P w K mg base CX0 1 "_law_rows" spLRows := by
  refine cal_of D sc_law_rows (fun _ _ _ _ _ _ us hl => match us, hl with | [_], _ => rfl) (fun vs H Q E h => ?_) (fun f cdv A outer s H vs Q E hr h => ?_)
  · obtain ⟨_, rfl, _⟩ := h
    rfl
  · obtain ⟨n, rfl, hn1, hn, q⟩ := h
    refine ⟨_, (pss_cons (ps_set (i := 1) sc_law_rows.nd rfl (Or.inl rfl) (pe_lst (pa_cons (pe_tup pa_nil) pa_nil)))
      (pss_cons (ps_for PassesOwn.never rfl (pi_range1 (by rfl) T.b.range (pa_cons (pv 0) pa_nil)) (pg_name (i := 2) sc_law_rows.nd rfl (Or.inl rfl)) (pss_one (ps_set (i := 1) sc_law_rows.nd rfl (Or.inl rfl) (pe_op op_cat (pe_lc (own := [("_law_row", 3)]) rfl sc_law_rows.nd (pi_list (pv 1)) (blkOk_by (N := n_law_rows) (sc := defScope s_law_rows) (by decide +kernel)) (fun _ _ _ _ _ => (pg_name (i := 3) sc_law_rows.nd rfl (Or.inl rfl))) (fun _ _ _ _ _ => pts_nil) (fun _ _ _ _ _ => (pe_op (op_catAB (K := K) (by rfl)) (pv 3) (pe_tup (pa_cons pe_int pa_nil))))) (pe_lc (own := [("_law_row", 3)]) rfl sc_law_rows.nd (pi_list (pv 1)) (blkOk_by (N := n_law_rows) (sc := defScope s_law_rows) (by decide +kernel)) (fun _ _ _ _ _ => (pg_name (i := 3) sc_law_rows.nd rfl (Or.inl rfl))) (fun _ _ _ _ _ => pts_nil) (fun _ _ _ _ _ => (pe_op (op_catAB (K := K) (by rfl)) (pv 3) (pe_tup (pa_cons pe_int pa_nil)))))))))
      (pss_one (ps_ret (pe_callB (cr_sortD RowAt rowD hr.units) (by rfl) T.b.sorted bt_sorted (pa_cons (pv 1) pa_nil)))))), ?_⟩
    refine ⟨by show 0 ≤ _; omega, fun t ht => ⟨by show 1 ≤ sizeLine; decide, fun l hl => ?_⟩⟩
    refine ⟨_, rfl, n, rfl, by omega, by omega, ?_⟩
    have small : ∀ i, i ≤ n → (lawRows i).length ≤ 256 := fun i hi => by
      rw [lawRows_len]
      calc 2 ^ i ≤ 2 ^ 8 := Nat.pow_le_pow_right (by omega) (by omega)
        _ = 256 := by rfl
    refine for_it (n := ((n : Nat) : Int).toNat) walk_range (fun i σ H' => ∃ v o, σ = [some (.int n), some v, o, none] ∧ RowsL H' v (lawRows i) ∧ Same H H') ?_ (fun _ _ _ _ _ => trivial) (fun i x σ H1 H2 hi p y => ?_) fun σ H' p => ?_
    · refine ⟨_, none, rfl, ⟨l, _, rfl, upd_same, .one ⟨t, rfl, ?_⟩⟩, (same_new ht).trans (same_new hl)⟩
      exact same_new hl _ _ upd_same
    · obtain ⟨v, o, rfl, ⟨a, xs, rfl, ha, hx⟩, s1⟩ := p
      obtain ⟨rfl, rfl⟩ := y
      have hin : i < n := by omega
      have hxl : xs.length ≤ 256 := by rw [hx.len]; exact small i (by omega)
      have hrl : ∀ r, r ∈ lawRows i → r.length ≤ 1000 := fun r h => by have := (mem_lawRows h).1; omega
      refine ⟨_, rfl, a, rfl, ⟨xs, SqL.of ha⟩, fun D1 hD1 => ?_⟩
      refine lc_map (walk_list (xs := xs)) (lawRows i) (fun r => r ++ [0]) (fun H v r => RowAt H v r) (fun H H' v r k h => h.keep k) hx.len.symm (by omega) hD1 (fun H' s => SqL.of (s _ _ ha)) (fun j z H3 H4 r Qy Qn hr1 s2 y q1 => ?_) fun acc H3 hl3 s3 hr3 => ?_
      · obtain ⟨rfl, hz⟩ := y
        refine ⟨rfl, tyes ?_⟩
        refine ⟨_, rfl, by show 1 ≤ sizeLine; decide, fun b hb => ?_⟩
        have sm := same_new (o := .tup [V.int 0]) hb
        exact catA_row (((hx.keep (keep_of s2)).both hz hr1).keep (keep_of sm)) upd_same (hrl _ (List.mem_of_getElem? hr1)) fun y H5 h5 s5 => q1 _ _ (sm.trans s5) h5
      · have ha3 := s3 _ _ ha
        have hx3 := hx.keep (keep_of s3)
        refine ⟨_, rfl, a, rfl, ⟨xs, SqL.of ha3⟩, fun D2 hD2 => ?_⟩
        refine lc_map (walk_list (xs := xs)) (lawRows i) (fun r => r ++ [1]) (fun H v r => RowAt H v r) (fun H H' v r k h => h.keep k) hx.len.symm (by omega) hD2 (fun H' s => SqL.of (s _ _ ha3)) (fun j z H4 H5 r Qy Qn hr1 s4 y q1 => ?_) fun acc2 H4 hl4 s4 hr4 => ?_
        · obtain ⟨rfl, hz⟩ := y
          refine ⟨rfl, tyes ?_⟩
          refine ⟨_, rfl, by show 1 ≤ sizeLine; decide, fun b hb => ?_⟩
          have sm := same_new (o := .tup [V.int 1]) hb
          exact catA_row (((hx3.keep (keep_of s4)).both hz hr1).keep (keep_of sm)) upd_same (hrl _ (List.mem_of_getElem? hr1)) fun y H6 h6 s6 => q1 _ _ (sm.trans s6) h6
        · have h1 := hr3.len
          have h2 := hr4.len
          rw [List.length_map] at h1 h2
          have h3 := small i (by omega)
          refine ⟨D1, D2, acc, acc2, rfl, rfl, s4 _ _ hl3, hl4, line_of (by omega), fun p hp => ?_⟩
          have sm := same_new (o := .lst (acc ++ acc2)) hp
          exact ⟨_, _, rfl, ⟨p, _, rfl, upd_same, Each.app (RowsAt.keep (keep_of (s4.trans sm)) hr3) (RowsAt.keep (keep_of sm) hr4)⟩, s1.trans (s3.trans (s4.trans sm))⟩
    · obtain ⟨v, o, rfl, ⟨a, xs, rfl, ha, hx⟩, s1⟩ := p
      refine ⟨_, rfl, a, xs, lawRows n, rfl, SqL.of ha, hx, fun v b h => h.dp, alike_rows _, sort_rows (fun b hb => (mem_lawRows hb).1) hn1, by have := small n (Nat.le_refl _); omega, fun b _ => by rw [depth_rowD]; omega, fun p out hp ho => ?_⟩
      rw [rows_sorted] at ho
      exact q p out _ (s1.free hp) upd_same (RowsAt.keep (keep_of (same_new hp)) ho) (s1.trans (same_new hp))
/-! ### _law_keeps, of a list or a tuple of rules -/
def n_law_keeps : List Str := ["_law_rules", "_law_row", "_law_one", "_law_other"]
theorem sc_law_keeps : FnScope n_law_keeps ["_law_rules", "_law_row"] (defScope s_law_keeps) := ⟨rfl, rfl, rfl, by decide +kernel, rfl, by decide +kernel, by decide +kernel⟩

def spLKeepsL : Sp := fun vs H Q _ => ∃ (n : Nat) (p : Addr) (xs : List V) (v : V) (us : List Rule) (r : Row), vs = [.ref p, v] ∧ H p = some (.lst xs) ∧ RulesAt H xs us ∧ RowAt H v r ∧ r.length = n ∧ (∀ u, u ∈ us → WantOk n u.1 ∧ WantOk n u.2) ∧ Q (.bl (keepsA us r)) H
def spLKeepsT : Sp := fun vs H Q _ => ∃ (n : Nat) (p : Addr) (xs : List V) (v : V) (us : List Rule) (r : Row), vs = [.ref p, v] ∧ H p = some (.tup xs) ∧ RulesAt H xs us ∧ RowAt H v r ∧ r.length = n ∧ (∀ u, u ∈ us → WantOk n u.1 ∧ WantOk n u.2) ∧ Q (.bl (keepsA us r)) H
theorem keeps_take {us : List Rule} {r : Row} {i : Nat} {u : Rule} (hu : us[i]? = some u) (h : keepsA (us.take i) r = true) (h2 : keepsR r u = true) : keepsA (us.take (i + 1)) r = true := by
  rw [take_nxt hu]
  unfold keepsA at *
  rw [List.all_append, h]
  show (true && (keepsR r u && true)) = true
  rw [h2]
  rfl
theorem keeps_no {us : List Rule} {r : Row} {u : Rule} (hu : u ∈ us) (h : keepsR r u = false) : keepsA us r = false := by
  cases e : keepsA us r with
  | false => rfl
  | true =>
    unfold keepsA at e
    rw [List.all_eq_true] at e
    rw [e u hu] at h
    cases h
theorem has_dec (r : Row) (a : Want) : (!decide (V.int (at_ r a.1.toNat) = V.int a.2)) = !hasW r a := by
  unfold hasW
  by_cases c : at_ r a.1.toNat = a.2
  · rw [c, decide_eq_true rfl, decide_eq_true rfl]
  · rw [decide_eq_false c, decide_eq_false fun z => c (by injection z)]
theorem cal_law_keepsL (D : Df K mg "_law_keeps" s_law_keeps) (T : Tx K mg C) : Cal P w K mg base CX0 1 "_law_keeps" spLKeepsL := by
  refine cal_of D sc_law_keeps (fun _ _ _ _ _ _ us hl => match us, hl with | [_, _], _ => rfl) (fun vs H Q E h => ?_) (fun f cdv A outer s H vs Q E hr h => ?_)
  · obtain ⟨_, _, _, _, _, _, rfl, _⟩ := h
    rfl
  · obtain ⟨n, p, xs, v, us, r, rfl, hp, hu, ⟨b, rfl, hb⟩, hn, hw, q⟩ := h
    refine ⟨_, (pss_cons (ps_for PassesOwn.never rfl (pi_list (pv 0)) (pg_tup rfl (pgs_cons (pg_name (i := 2) sc_law_keeps.nd rfl (Or.inl rfl)) (pgs_cons (pg_name (i := 3) sc_law_keeps.nd rfl (Or.inl rfl)) pgs_nil))) (pss_one (ps_if (PW.pt (pw_and (pt_cmpR op_ne (pe_ix ix_tup (pv 1) (pe_ix ix_tup (pv 2) pe_int (fun _ _ => rfl)) (fun _ _ => rfl)) (pe_ix ix_tup (pv 2) pe_int (fun _ _ => rfl)) (nomark _)) (pw_and1 (pt_cmpR op_ne (pe_ix ix_tup (pv 1) (pe_ix ix_tup (pv 3) pe_int (fun _ _ => rfl)) (fun _ _ => rfl)) (pe_ix ix_tup (pv 3) pe_int (fun _ _ => rfl)) (nomark _))))) (pss_one (ps_ret pe_bl)) pss_nil)))
      (pss_one (ps_ret pe_bl))), ?_⟩
    refine ⟨_, rfl, p, rfl, ⟨xs, SqL.of hp⟩, ?_⟩
    refine for_it (walk_list (xs := xs)) (fun i σ H' => ∃ o3 o4, σ = [some (.ref p), some (.ref b), o3, o4] ∧ H' = H ∧ keepsA (us.take i) r = true) ⟨none, none, rfl, rfl, rfl⟩ (fun i σ H' _ ⟨_, _, _, e, _⟩ => by rw [e]; exact SqL.of hp) (fun i x σ H1 H2 hi pp y => ?_) fun σ H' pp => ?_
    · obtain ⟨o3, o4, rfl, rfl, hk⟩ := pp
      obtain ⟨rfl, hx⟩ := y
      obtain ⟨u, hu1, hu2⟩ := hu.get hx
      obtain ⟨x1, x2, ⟨c, rfl, hc⟩, ⟨d1, rfl, hd1⟩, ⟨d2, rfl, hd2⟩⟩ := hu2
      obtain ⟨w1, w2⟩ := hw u (List.mem_of_getElem? hu1)
      refine ⟨c, _, rfl, SqT.of hc, rfl, _, _, rfl, _, _, rfl, rfl, ?_⟩
      refine ⟨_, rfl, _, rfl, d1, _, _, _, rfl, rfl, SqT.of hd1, rfl, b, _, _, _, rfl, rfl, SqT.of hb, row_at w1.1 (by rw [hn]; exact w1.2.1), _, rfl, d1, _, _, _, rfl, rfl, SqT.of hd1, rfl, rfl, _, rfl, ?_⟩
      rw [has_dec]
      cases e1 : hasW r u.1 with
      | true => exact iteF (iteF ⟨_, _, rfl, rfl, keeps_take hu1 hk (by unfold keepsR; rw [e1]; rfl)⟩)
      | false =>
        refine iteT ?_
        refine ⟨_, rfl, _, rfl, d2, _, _, _, rfl, rfl, SqT.of hd2, rfl, b, _, _, _, rfl, rfl, SqT.of hb, row_at w2.1 (by rw [hn]; exact w2.2.1), _, rfl, d2, _, _, _, rfl, rfl, SqT.of hd2, rfl, rfl, _, rfl, ?_⟩
        rw [has_dec]
        cases e2 : hasW r u.2 with
        | true => exact iteF ⟨_, _, rfl, rfl, keeps_take hu1 hk (by unfold keepsR; rw [e1, e2]; rfl)⟩
        | false =>
          rw [keeps_no (List.mem_of_getElem? hu1) (by unfold keepsR; rw [e1, e2]; rfl)] at q
          exact iteT q
    · obtain ⟨o3, o4, rfl, rfl, hk⟩ := pp
      rw [List.take_of_length_le (Nat.le_of_eq hu.len.symm)] at hk
      rw [hk] at q
      exact q
theorem cal_law_keepsT (D : Df K mg "_law_keeps" s_law_keeps) (T : Tx K mg C) : Cal P w K mg base CX0 1 "_law_keeps" spLKeepsT := by
  refine cal_of D sc_law_keeps (fun _ _ _ _ _ _ us hl => match us, hl with | [_, _], _ => rfl) (fun vs H Q E h => ?_) (fun f cdv A outer s H vs Q E hr h => ?_)
  · obtain ⟨_, _, _, _, _, _, rfl, _⟩ := h
    rfl
  · obtain ⟨n, p, xs, v, us, r, rfl, hp, hu, ⟨b, rfl, hb⟩, hn, hw, q⟩ := h
    refine ⟨_, (pss_cons (ps_for PassesOwn.never rfl (pi_tup (pv 0)) (pg_tup rfl (pgs_cons (pg_name (i := 2) sc_law_keeps.nd rfl (Or.inl rfl)) (pgs_cons (pg_name (i := 3) sc_law_keeps.nd rfl (Or.inl rfl)) pgs_nil))) (pss_one (ps_if (PW.pt (pw_and (pt_cmpR op_ne (pe_ix ix_tup (pv 1) (pe_ix ix_tup (pv 2) pe_int (fun _ _ => rfl)) (fun _ _ => rfl)) (pe_ix ix_tup (pv 2) pe_int (fun _ _ => rfl)) (nomark _)) (pw_and1 (pt_cmpR op_ne (pe_ix ix_tup (pv 1) (pe_ix ix_tup (pv 3) pe_int (fun _ _ => rfl)) (fun _ _ => rfl)) (pe_ix ix_tup (pv 3) pe_int (fun _ _ => rfl)) (nomark _))))) (pss_one (ps_ret pe_bl)) pss_nil)))
      (pss_one (ps_ret pe_bl))), ?_⟩
    refine ⟨_, rfl, p, rfl, ⟨xs, SqT.of hp⟩, ?_⟩
    refine for_it (walk_tup (xs := xs)) (fun i σ H' => ∃ o3 o4, σ = [some (.ref p), some (.ref b), o3, o4] ∧ H' = H ∧ keepsA (us.take i) r = true) ⟨none, none, rfl, rfl, rfl⟩ (fun i σ H' _ ⟨_, _, _, e, _⟩ => by rw [e]; exact SqT.of hp) (fun i x σ H1 H2 hi pp y => ?_) fun σ H' pp => ?_
    · obtain ⟨o3, o4, rfl, rfl, hk⟩ := pp
      obtain ⟨rfl, hx⟩ := y
      obtain ⟨u, hu1, hu2⟩ := hu.get hx
      obtain ⟨x1, x2, ⟨c, rfl, hc⟩, ⟨d1, rfl, hd1⟩, ⟨d2, rfl, hd2⟩⟩ := hu2
      obtain ⟨w1, w2⟩ := hw u (List.mem_of_getElem? hu1)
      refine ⟨c, _, rfl, SqT.of hc, rfl, _, _, rfl, _, _, rfl, rfl, ?_⟩
      refine ⟨_, rfl, _, rfl, d1, _, _, _, rfl, rfl, SqT.of hd1, rfl, b, _, _, _, rfl, rfl, SqT.of hb, row_at w1.1 (by rw [hn]; exact w1.2.1), _, rfl, d1, _, _, _, rfl, rfl, SqT.of hd1, rfl, rfl, _, rfl, ?_⟩
      rw [has_dec]
      cases e1 : hasW r u.1 with
      | true => exact iteF (iteF ⟨_, _, rfl, rfl, keeps_take hu1 hk (by unfold keepsR; rw [e1]; rfl)⟩)
      | false =>
        refine iteT ?_
        refine ⟨_, rfl, _, rfl, d2, _, _, _, rfl, rfl, SqT.of hd2, rfl, b, _, _, _, rfl, rfl, SqT.of hb, row_at w2.1 (by rw [hn]; exact w2.2.1), _, rfl, d2, _, _, _, rfl, rfl, SqT.of hd2, rfl, rfl, _, rfl, ?_⟩
        rw [has_dec]
        cases e2 : hasW r u.2 with
        | true => exact iteF ⟨_, _, rfl, rfl, keeps_take hu1 hk (by unfold keepsR; rw [e1, e2]; rfl)⟩
        | false =>
          rw [keeps_no (List.mem_of_getElem? hu1) (by unfold keepsR; rw [e1, e2]; rfl)] at q
          exact iteT q
    · obtain ⟨o3, o4, rfl, rfl, hk⟩ := pp
      rw [List.take_of_length_le (Nat.le_of_eq hu.len.symm)] at hk
      rw [hk] at q
      exact q
/-! ### _law_kept -/
def spLKept : Sp := fun vs H Q _ => ∃ (n : Nat) (t : V) (us : List Rule), vs = [.int n, t] ∧ RulesT H t us ∧ 1 ≤ n ∧ n ≤ 8 ∧ (∀ u, u ∈ us → WantOk n u.1 ∧ WantOk n u.2) ∧ ∀ a xs H', H a = none → H' a = some (.lst xs) → RowsAt H' xs (kept n us) → Same H H' → Q (.ref a) H'
def n_law_kept : List Str := ["_law_many", "_law_rules", "_law_row"]
theorem sc_law_kept : FnScope n_law_kept ["_law_many", "_law_rules"] (defScope s_law_kept) := ⟨rfl, rfl, rfl, by decide +kernel, rfl, by decide +kernel, by decide +kernel⟩

theorem cal_law_kept (D : Df K mg "_law_kept" s_law_kept) (T : Tx K mg C) (c_law_rows : Cal P w K mg base CX0 1 "_law_rows" spLRows) (c_law_keeps : Cal P w K mg base CX0 1 "_law_keeps" spLKeepsT) : Cal P w K mg base CX0 2 "_law_kept" spLKept := by
  refine cal_of D sc_law_kept (fun _ _ _ _ _ _ us hl => match us, hl with | [_, _], _ => rfl) (fun vs H Q E h => ?_) (fun f cdv A outer s H vs Q E hr h => ?_)
  · obtain ⟨_, _, _, rfl, _⟩ := h
    rfl
  · obtain ⟨n, t, us, rfl, ⟨ys, ⟨p, rfl, hp⟩, hu⟩, hn1, hn, hw, q⟩ := h
    refine ⟨_, (pss_one (ps_ret (pe_lc (own := [("_law_row", 2)]) rfl sc_law_kept.nd (pi_list (pe_c c_law_rows hr (by decide) (by rfl) (pa_cons (pv 0) pa_nil))) (blkOk_by (N := n_law_kept) (sc := defScope s_law_kept) (by decide +kernel)) (fun _ _ _ _ _ => (pg_name (i := 2) sc_law_kept.nd rfl (Or.inl rfl))) (fun _ _ _ _ _ => pts_one (pt_val (pe_c c_law_keeps hr (by decide) (by rfl) (pa_cons (pv 1) (pa_cons (pv 2) pa_nil))))) (fun _ _ _ _ _ => (pv 2))))), ?_⟩
    refine ⟨_, rfl, n, rfl, hn1, hn, fun a xs H1 hna ha hx s1 => ⟨a, rfl, ⟨xs, SqL.of ha⟩, fun D hD => ?_⟩⟩
    refine lc_fm (walk_list (xs := xs)) (allRows n) (fun r => if keepsA us r = true then some r else none) (fun H v r => RowAt H v r) (fun H H' v r k h => h.keep k) hx.len.symm (by rw [hx.len]; have := allRows_big hn; omega) hD (fun H' s => SqL.of (s _ _ ha)) (fun i z H2 H3 r Qy Qn hr s2 y qy qn => ?_) fun acc H' hl s2 hr => ?_
    · obtain ⟨rfl, hz2⟩ := y
      refine ⟨rfl, ?_⟩
      have hv := (hx.keep (keep_of s2)).both hz2 hr
      have s3 := s1.trans s2
      refine ⟨_, rfl, _, rfl, n, p, ys, z, us, r, rfl, s3 _ _ hp, hu.keep (keep_of s3), hv, row_len (List.mem_of_getElem? hr), hw, ?_⟩
      refine ⟨_, rfl, ?_⟩
      cases hk : keepsA us r with
      | true => exact iteT ⟨_, rfl, qy r z _ (by rw [hk]; rfl) (Same.refl _) hv⟩
      | false => exact iteF (qn (by rw [hk]; rfl) _ (Same.refl _))
    · rw [fm_if] at hr
      exact q _ _ _ (s1.free hD) hl hr (s1.trans s2)
/-! ### _law_most -/
def n_law_most : List Str := ["_law_votes_here", "_law_vote", "_law_at"]
theorem sc_law_most : FnScope n_law_most ["_law_votes_here"] (defScope s_law_most) := ⟨rfl, rfl, rfl, by decide +kernel, rfl, by decide +kernel, by decide +kernel⟩

theorem cal_law_most (D : Df K mg "_law_most" s_law_most) (T : Tx K mg C) : Cal P w K mg base CX0 1 "_law_most" spMostOf := by
  refine cal_of D sc_law_most (fun _ _ _ _ _ _ us hl => match us, hl with | [_], _ => rfl) (fun vs H Q E h => ?_) (fun f cdv A outer s H vs Q E hr h => ?_)
  · obtain ⟨_, _, _, rfl, _⟩ := h
    rfl
  · obtain ⟨n, t, rs, rfl, ⟨xs, ⟨a, rfl, ha⟩, hx⟩, hrow, v1, v2, h8, q⟩ := h
    refine ⟨_, (pss_one (ps_ret (pe_callTy call_tuple_of (by rfl) T.b.tuple bt_tuple (pa_cons (pe_lc (own := [("_law_at", 2)]) rfl sc_law_most.nd (pi_range1 (by rfl) T.b.range (pa_cons (pe_callB call_len_seq (by rfl) T.b.len bt_len (pa_cons (pe_ix ix_tup (pv 0) pe_int (fun _ _ => rfl)) pa_nil)) pa_nil)) (blkOk_by (N := n_law_most) (sc := defScope s_law_most) (by decide +kernel)) (fun _ _ _ _ _ => (pg_name (i := 2) sc_law_most.nd rfl (Or.inr rfl))) (fun _ _ _ _ _ => pts_nil) (fun _ _ _ _ _ => (pe_callTy call_int1 (by rfl) T.b.int bt_int (pa_cons (pe_cmpR op_gt (pe_op op_mul pe_int (pe_callB (cr_sumB (K := K) (by rfl) rfl) (by rfl) T.b.sum bt_sum (pa_cons (pe_lc (own := [("_law_vote", 1)]) rfl sc_law_most.nd (pi_tupB (K := K) (by rfl) (pv 0)) (blkOk_by (N := n_law_most) (sc := relS _ (defScope s_law_most)) (by decide +kernel)) (fun _ _ _ _ _ => (pg_name (i := 1) sc_law_most.nd rfl (Or.inl rfl))) (fun _ _ _ _ _ => pts_nil) (fun _ _ _ _ _ => (pe_ix (ix_tupB (K := K) (by rfl)) (pv 1) (pv 2) (fun _ _ => rfl)))) pa_nil))) (pe_callB (call_lenB (K := K) (by rfl)) (by rfl) T.b.len bt_len (pa_cons (pv 0) pa_nil)) (nomark _)) pa_nil)))) pa_nil)))), ?_⟩
    have h0 : rs[0]? = some (rs[0]'(by omega)) := List.getElem?_eq_getElem (by omega)
    obtain ⟨v0, hv0, ⟨b, rfl, hb⟩⟩ := hx.at h0
    have hl0 : (rs[0]'(by omega)).length = n := (hrow _ (List.getElem_mem _)).1
    refine ⟨_, rfl, a, xs, 0, .ref b, rfl, rfl, SqT.of ha, atI_nat hv0, b, _, rfl, .inr (SqT.of hb), n, ?_, by omega, by omega, fun D hD => ?_⟩
    · rw [List.length_map, hl0]
    refine lc_map (n := ((n : Nat) : Int).toNat) walk_range (List.range n) (mostAt rs) (fun _ v b => v = .int b) (fun _ _ _ _ _ h => h) (by rw [List.length_range]; omega) (by omega) hD (fun _ _ => trivial) (fun i z H1 H2 k Qy Qn hk s1 y q1 => ?_) fun acc H' hl s1 hr2 => ?_
    · obtain ⟨rfl, rfl⟩ := y
      have hkn : i < n ∧ i = k := by
        rw [List.getElem?_eq_some_iff] at hk
        obtain ⟨h1, h2⟩ := hk
        rw [List.getElem_range] at h2
        rw [List.length_range] at h1
        exact ⟨h1, h2⟩
      obtain ⟨hin, rfl⟩ := hkn
      refine ⟨rfl, tyes ?_⟩
      have ha1 := s1 _ _ ha
      have hx1 := hx.keep (keep_of s1)
      refine ⟨_, rfl, a, rfl, ⟨xs, SqT.of ha1⟩, fun D2 hD2 => ?_⟩
      refine lc_map (walk_tup (xs := xs)) rs (fun r => at_ r i) (fun _ v b => v = .int b) (fun _ _ _ _ _ h => h) hx.len.symm (by rw [hx.len]; omega) hD2 (fun H' s => SqT.of (s _ _ ha1)) (fun j z H3 H4 r Qy2 Qn2 hr1 s2 y q2 => ?_) fun acc2 H3 hl3 s3 hr3 => ?_
      · obtain ⟨rfl, hz⟩ := y
        refine ⟨rfl, tyes ?_⟩
        obtain ⟨c, rfl, hc⟩ := (hx1.keep (keep_of s2)).both hz hr1
        have hrl := (hrow _ (List.mem_of_getElem? hr1)).1
        refine ⟨_, rfl, _, rfl, c, _, _, _, rfl, rfl, SqT.of hc, ?_, q2 _ _ (Same.refl _) rfl⟩
        have e : (0 : Int) + (i : Nat) = (i : Nat) := by omega
        rw [e]
        exact atI_nat (row_get (by omega))
      · rw [each_int hr3] at hl3
        refine ⟨D2, _, rfl, SqL.of hl3, _, _, rfl, rfl, .inl ⟨by decide, by decide⟩, ?_⟩
        refine ⟨_, rfl, a, _, rfl, .inr (SqT.of (s3 _ _ ha1)), _, _, rfl, rfl, .inr ⟨_, rfl, q1 _ _ s3 ?_⟩⟩
        unfold mostAt
        rw [hx.len]
        by_cases c : (rs.length : Int) < 2 * (rs.map fun r => at_ r i).sum
        · rw [decide_eq_true c, if_pos c]; rfl
        · rw [decide_eq_false c, if_neg c]; rfl
    · rw [each_int hr2] at hl
      refine ⟨D, _, rfl, .inl ⟨SqL.of hl, fun l hl2 => ?_⟩⟩
      exact q _ _ ⟨l, rfl, upd_same⟩ (s1.trans (same_new hl2))
/-! ### _law_apart -/
def n_law_apart : List Str := ["_law_one", "_law_other", "_law_at"]
theorem sc_law_apart : FnScope n_law_apart ["_law_one", "_law_other"] (defScope s_law_apart) := ⟨rfl, rfl, rfl, by decide +kernel, rfl, by decide +kernel, by decide +kernel⟩

theorem cal_law_apart (D : Df K mg "_law_apart" s_law_apart) (T : Tx K mg C) : Cal P w K mg base CX0 1 "_law_apart" spUnlike := by
  refine cal_of D sc_law_apart (fun _ _ _ _ _ _ us hl => match us, hl with | [_, _], _ => rfl) (fun vs H Q E h => ?_) (fun f cdv A outer s H vs Q E hr h => ?_)
  · obtain ⟨_, _, _, _, _, rfl, _⟩ := h
    rfl
  · obtain ⟨n, v, u, r, s', rfl, ⟨a, rfl, ha⟩, ⟨b, rfl, hb⟩, hn, hn2, h8, q⟩ := h
    refine ⟨_, (pss_one (ps_ret (pe_callB call_len_seq (by rfl) T.b.len bt_len (pa_cons (pe_lc (own := [("_law_at", 2)]) rfl sc_law_apart.nd (pi_range1 (by rfl) T.b.range (pa_cons (pe_callB call_len_seq (by rfl) T.b.len bt_len (pa_cons (pv 0) pa_nil)) pa_nil)) (blkOk_by (N := n_law_apart) (sc := defScope s_law_apart) (by decide +kernel)) (fun _ _ _ _ _ => (pg_name (i := 2) sc_law_apart.nd rfl (Or.inl rfl))) (fun _ _ _ _ _ => pts_one (pt_cmpR op_ne (pe_ix (ix_tupB (K := K) (by rfl)) (pv 0) (pv 2) (fun _ _ => rfl)) (pe_ix (ix_tupB (K := K) (by rfl)) (pv 1) (pv 2) (fun _ _ => rfl)) (nomark _))) (fun _ _ _ _ _ => (pv 2))) pa_nil)))), ?_⟩
    refine ⟨_, rfl, a, _, rfl, .inr (SqT.of ha), n, ?_, by omega, by omega, fun D hD => ?_⟩
    · rw [List.length_map, hn.1]
    refine lc_fm (n := ((n : Nat) : Int).toNat) walk_range (List.range n) (fun k => if (!decide (at_ r k = at_ s' k)) = true then some k else none) (fun _ v k => v = .int (k : Nat)) (fun _ _ _ _ _ h => h) (by rw [List.length_range]; omega) (by omega) hD (fun _ _ => trivial) (fun i z H1 H2 k Qy Qn hk s1 y qy qn => ?_) fun acc H' hl s1 hr2 => ?_
    · obtain ⟨rfl, rfl⟩ := y
      have hkn : i < n ∧ i = k := by
        rw [List.getElem?_eq_some_iff] at hk
        obtain ⟨h1, h2⟩ := hk
        rw [List.getElem_range] at h2
        rw [List.length_range] at h1
        exact ⟨h1, h2⟩
      obtain ⟨hin, rfl⟩ := hkn
      have e : (0 : Int) + (i : Nat) = (i : Nat) := by omega
      refine ⟨rfl, ?_⟩
      refine ⟨_, rfl, _, rfl, a, _, _, _, rfl, rfl, SqT.of (s1 _ _ ha), by rw [e]; exact atI_nat (row_get (by have := hn.1; omega)), _, rfl, _, rfl, b, _, _, _, rfl, rfl, SqT.of (s1 _ _ hb), by rw [e]; exact atI_nat (row_get (by have := hn2.1; omega)), rfl, _, rfl, ?_⟩
      rw [dec_int]
      by_cases c : at_ r i = at_ s' i
      · rw [beq_iff_eq.mpr c]
        exact iteF (qn (by rw [decide_eq_true c]; rfl) _ (Same.refl _))
      · rw [beq_eq_false_iff_ne.mpr c]
        refine iteT ⟨_, rfl, qy i _ _ (by rw [decide_eq_false c]; rfl) (Same.refl _) ?_⟩
        exact congrArg V.int e
    · have hz := hr2.len
      rw [fm_if] at hz
      refine ⟨D, acc, rfl, .inl (SqL.of hl), ?_⟩
      have e : (acc.length : Int) = apart n r s' := by
        rw [hz, len_filter_range]
        refine S_congr fun k _ => ?_
        unfold dif
        by_cases c : at_ r k = at_ s' k
        · rw [decide_eq_true c, if_pos c]; rfl
        · rw [decide_eq_false c, if_neg c]; rfl
      rw [e]
      exact q H' s1
end
end MR

set_option Elab.async false
set_option linter.all false
set_option maxRecDepth 100000
set_option maxHeartbeats 4000000
namespace MR
open PySem PySem.Spec PyProof.Rows L2
/-- one statement, then the rest from what it leaves -/
theorem cut {t u : TS} {D : Ends} {σ : L2.St} {H : Hp} (I : L2.St → Hp → Prop) (h1 : ∀ N : L2.St → Hp → Prop, (∀ σ H, I σ H → N σ H) → t { D with nx := N } σ H) (h2 : ∀ σ H, I σ H → u D σ H) : tSeq t u D σ H := h1 (u D) h2
theorem zadd (i : Nat) : (0 : Int) + (i : Nat) = (i : Nat) := by omega
def wantsL : Nat → List Want
  | 0 => []
  | n + 1 => wantsL n ++ [((n : Int), 0), ((n : Int), 1)]
theorem wants_len : ∀ n, (wantsL n).length = 2 * n
  | 0 => rfl
  | n + 1 => by
    show (wantsL n ++ _).length = _
    rw [List.length_append, wants_len n]
    show 2 * n + 2 = _
    omega
theorem mem_wants : ∀ {n : Nat} {w : Want}, w ∈ wantsL n ↔ WantOk n w
  | 0, w => by
    constructor
    · intro h; cases h
    · rintro ⟨h1, h2, _⟩
      omega
  | n + 1, w => by
    show w ∈ wantsL n ++ _ ↔ _
    rw [List.mem_append, mem_wants]
    obtain ⟨x, y⟩ := w
    unfold WantOk
    simp only [List.mem_cons, List.not_mem_nil, or_false, Prod.mk.injEq]
    constructor
    · rintro (⟨h1, h2, h3⟩ | ⟨rfl, rfl⟩ | ⟨rfl, rfl⟩)
      · exact ⟨h1, by omega, h3⟩
      · exact ⟨by omega, by omega, .inl rfl⟩
      · exact ⟨by omega, by omega, .inr rfl⟩
    · rintro ⟨h1, h2, h3⟩
      by_cases c : x = (n : Int)
      · rcases h3 with h3 | h3
        · exact .inr (.inl ⟨c, h3⟩)
        · exact .inr (.inr ⟨c, h3⟩)
      · exact .inl ⟨h1, by omega, h3⟩
theorem wants_lt : ∀ n, (wantsL n).Pairwise wlt
  | 0 => List.Pairwise.nil
  | n + 1 => by
    show (wantsL n ++ _).Pairwise wlt
    rw [List.pairwise_append]
    refine ⟨wants_lt n, ?_, fun a ha b hb => ?_⟩
    · refine List.Pairwise.cons (fun b hb => ?_) (List.Pairwise.cons (fun b hb => by cases hb) List.Pairwise.nil)
      simp only [List.mem_cons, List.not_mem_nil, or_false] at hb
      subst hb
      exact .inr ⟨rfl, by show (0 : Int) < 1; decide⟩
    · have h1 := (mem_wants.mp ha).2.1
      simp only [List.mem_cons, List.not_mem_nil, or_false] at hb
      rcases hb with rfl | rfl <;> exact .inl h1
/-- the rules that one want begins -/
def fromW (w o : Want) : Option Rule := if (!decide (o.1 = w.1) || decide (o = w)) = true then some (w, o) else none
theorem drop_get {α : Type} {l : List α} {i j : Nat} {a : α} (h : (l.drop i)[j]? = some a) : l[i + j]? = some a := by rw [List.getElem?_drop] at h; exact h
theorem fromW_ok {n i : Nat} {w : Want} {u : Rule} (hw : (wantsL n)[i]? = some w) (h : u ∈ ((wantsL n).drop i).filterMap (fromW w)) : RuleOk n u := by
  obtain ⟨o, ho, hu⟩ := List.mem_filterMap.mp h
  obtain ⟨j, hj⟩ := List.mem_iff_getElem?.mp ho
  have hj := drop_get hj
  have w1 := mem_wants.mp (List.mem_of_getElem? hw)
  have w2 := mem_wants.mp (List.mem_of_getElem? hj)
  unfold fromW at hu
  split at hu
  · rename_i c
    cases hu
    refine ⟨w1, w2, ?_, ?_⟩
    · cases j with
      | zero =>
        rw [Nat.add_zero, hw] at hj
        cases hj
        exact .inr rfl
      | succ j =>
        refine .inl ?_
        have h := wants_lt n
        rw [List.pairwise_iff_getElem] at h
        obtain ⟨h1, e1⟩ := List.getElem?_eq_some_iff.mp hw
        obtain ⟨h2, e2⟩ := List.getElem?_eq_some_iff.mp hj
        have z := h i (i + (j + 1)) h1 h2 (by omega)
        rw [e1, e2] at z
        exact z
    · intro e
      have e1 : o.1 = w.1 := by
        have z : o = (w.1, 1 - w.2) := e
        rw [z]
      rw [decide_eq_true e1] at c
      have c2 : o = w := of_decide_eq_true (by simpa using c)
      rw [c2] at e
      have e2 : w.2 = 1 - w.2 := congrArg Prod.snd e
      omega
  · cases hu
theorem fromW_self {n i : Nat} {w : Want} (hw : (wantsL n)[i]? = some w) : (w, w) ∈ ((wantsL n).drop i).filterMap (fromW w) := by
  refine List.mem_filterMap.mpr ⟨w, ?_, ?_⟩
  · refine List.mem_iff_getElem?.mpr ⟨0, ?_⟩
    rw [List.getElem?_drop]
    exact hw
  · unfold fromW
    rw [decide_eq_true (rfl : w = w), Bool.or_true, if_pos rfl]
theorem cutV_drop (xs : List V) (k : Nat) : cutV xs (some (k : Int)) none = xs.drop k := by
  unfold cutV
  rw [HT.sIx_nat, HT.sIx_none]
  by_cases h : k ≤ xs.length
  · rw [Nat.min_eq_left h, List.take_of_length_le (by rw [List.length_drop]; omega)]
  · rw [Nat.min_eq_right (by omega), List.drop_of_length_le (Nat.le_refl _), List.drop_of_length_le (by omega), List.take_nil]
theorem cutV_take (xs : List V) (k : Nat) : cutV xs none (some (k : Int)) = xs.take k := by
  unfold cutV
  rw [HT.sIx_nat, HT.sIx_none, List.drop_zero, Nat.sub_zero]
  by_cases h : k ≤ xs.length
  · rw [Nat.min_eq_left h]
  · rw [Nat.min_eq_right (by omega), List.take_of_length_le (Nat.le_refl _), List.take_of_length_le (by omega)]
section
variable {P : Program} {w : World} {K : PySem.W.Frag} {mg : Str → Option Value} {base : Heap} {C CE : Addr}
/-! ### _law_all_rules -/
/-- rules of so many places, every want with itself among them -/
def Diag (n : Nat) (us : List Rule) : Prop := ∀ w, WantOk n w → (w, w) ∈ us
def spAllRules : Sp := fun vs H Q _ => ∃ n : Nat, vs = [.int n] ∧ 1 ≤ n ∧ n ≤ 7 ∧ ∀ a xs us H', H a = none → H' a = some (.lst xs) → RulesAt H' xs us → (∀ u, u ∈ us → RuleOk n u) → Diag n us → us.length ≤ 1000 → Same H H' → Q (.ref a) H'
def n_law_all_rules : List Str := ["_law_many", "_law_wants", "_law_found", "_law_place", "_law_at", "_law_other"]
theorem sc_law_all_rules : FnScope n_law_all_rules ["_law_many"] (defScope s_law_all_rules) := ⟨rfl, rfl, rfl, by decide +kernel, rfl, by decide +kernel, by decide +kernel⟩

theorem cal_law_all_rules (D : Df K mg "_law_all_rules" s_law_all_rules) (T : Tx K mg C) : Cal P w K mg base CX0 1 "_law_all_rules" spAllRules := by
  refine cal_of D sc_law_all_rules (fun _ _ _ _ _ _ us hl => match us, hl with | [_], _ => rfl) (fun vs H Q E h => ?_) (fun f cdv A outer s H vs Q E hr h => ?_)
  · obtain ⟨_, rfl, _⟩ := h
    rfl
  · obtain ⟨n, rfl, hn1, hn, q⟩ := h
    refine ⟨_, (pss_cons (ps_asg (pe_tup (pa_cons (pe_lst pa_nil) (pa_cons (pe_lst pa_nil) pa_nil))) (pg_tup rfl (pgs_cons (pg_name (i := 1) sc_law_all_rules.nd rfl (Or.inr rfl)) (pgs_cons (pg_name (i := 2) sc_law_all_rules.nd rfl (Or.inl rfl)) pgs_nil))))
      (pss_cons (ps_for PassesOwn.never rfl (pi_range1 (by rfl) T.b.range (pa_cons (pv 0) pa_nil)) (pg_name (i := 3) sc_law_all_rules.nd rfl (Or.inl rfl)) (pss_one (ps_set (i := 1) sc_law_all_rules.nd rfl (Or.inr rfl) (pe_op op_cat (pv 1) (pe_lst (pa_cons (pe_tup (pa_cons (pv 3) (pa_cons pe_int pa_nil))) (pa_cons (pe_tup (pa_cons (pv 3) (pa_cons pe_int pa_nil))) pa_nil)))))))
      (pss_cons (ps_for PassesOwn.never rfl (pi_range1 (by rfl) T.b.range (pa_cons (pe_callB call_len_seq (by rfl) T.b.len bt_len (pa_cons (pv 1) pa_nil)) pa_nil)) (pg_name (i := 4) sc_law_all_rules.nd rfl (Or.inr rfl)) (pss_one (ps_set (i := 2) sc_law_all_rules.nd rfl (Or.inl rfl) (pe_op op_cat (pv 2) (pe_lc (own := [("_law_other", 5)]) rfl sc_law_all_rules.nd (pi_list (pe_slice sl_list (pv 1) (po_some (pv 4)) po_none)) (blkOk_by (N := n_law_all_rules) (sc := defScope s_law_all_rules) (by decide +kernel)) (fun _ _ _ _ _ => (pg_name (i := 5) sc_law_all_rules.nd rfl (Or.inl rfl))) (fun _ _ _ _ _ => pts_one (PW.pt (pw_or (pt_cmpR op_ne (pe_ix (ix_tupB (K := K) (by rfl)) (pv 5) pe_int (fun _ _ => rfl)) (pe_ix (ix_tupB (K := K) (by rfl)) (pe_ix (ix_listB (K := K) (by rfl)) (pv 1) (pv 4) (fun _ _ => rfl)) pe_int (fun _ _ => rfl)) (nomark _)) (pw_or1 (pt_cmpR (op_eqDB (K := K) (by rfl) hr.units) (pv 5) (pe_ix (ix_listB (K := K) (by rfl)) (pv 1) (pv 4) (fun _ _ => rfl)) (nomark _)))))) (fun _ _ _ _ _ => (pe_tup (pa_cons (pe_ix (ix_listB (K := K) (by rfl)) (pv 1) (pv 4) (fun _ _ => rfl)) (pa_cons (pv 5) pa_nil)))))))))
      (pss_one (ps_ret (pv 2)))))), ?_⟩
    refine cut (fun σ H' => ∃ a b, σ = [some (.int n), some (.ref a), some (.ref b), none, none, none] ∧ H' a = some (.lst []) ∧ H' b = some (.lst []) ∧ H b = none ∧ a ≠ b ∧ Same H H') (fun N hN => ?_) (fun σ H1 hI => ?_)
    · refine ⟨Nat.zero_le _, fun a ha => ⟨Nat.zero_le _, fun b hb => ⟨by show 2 ≤ sizeLine; decide, fun T' hT => ?_⟩⟩⟩
      have s1 := same_new (o := .lst []) ha
      have s2 := same_new (o := .lst []) hb
      have s3 := same_new (o := .tup [V.ref a, V.ref b]) hT
      refine ⟨T', _, rfl, SqT.of upd_same, rfl, _, _, rfl, _, _, rfl, rfl, hN _ _ ⟨a, b, rfl, s3 _ _ (s2 _ _ upd_same), s3 _ _ upd_same, s1.free hb, ?_, s1.trans (s2.trans s3)⟩⟩
      rintro rfl
      rw [upd_same] at hb
      cases hb
    obtain ⟨a0, b0, rfl, ha0, hb0, hbn, hab, s1⟩ := hI
    refine cut (fun σ H' => ∃ a xs o, σ = [some (.int n), some (.ref a), some (.ref b0), o, none, none] ∧ H' a = some (.lst xs) ∧ Each (WantAt H') xs (wantsL n) ∧ H' b0 = some (.lst []) ∧ Same H H') (fun N hN => ?_) (fun σ H2 hI => ?_)
    · refine ⟨_, rfl, n, rfl, by omega, by omega, ?_⟩
      refine for_it (n := ((n : Nat) : Int).toNat) walk_range (fun i σ H' => ∃ a xs o, σ = [some (.int n), some (.ref a), some (.ref b0), o, none, none] ∧ H' a = some (.lst xs) ∧ Each (WantAt H') xs (wantsL i) ∧ H' b0 = some (.lst []) ∧ Same H H') ⟨a0, [], none, rfl, ha0, .nil, hb0, s1⟩ (fun _ _ _ _ _ => trivial) (fun i x σ H2 H3 hi p y => ?_) fun σ H' p => ?_
      · obtain ⟨a, xs, o, rfl, ha, hx, hb, s2⟩ := p
        obtain ⟨rfl, hxe⟩ := y
        cases (hxe.trans (congrArg V.int (zadd i)) : x = .int (i : Nat))
        refine ⟨_, rfl, _, rfl, by show 2 ≤ sizeLine; decide, fun t1 ht1 => ⟨_, rfl, by show 2 ≤ sizeLine; decide, fun t2 ht2 => ⟨by show 2 ≤ sizeLine; decide, fun l hl => ?_⟩⟩⟩
        have m1 := same_new (o := .tup [V.int (i : Nat), V.int 0]) ht1
        have m2 := same_new (o := .tup [V.int (i : Nat), V.int 1]) ht2
        have m3 := same_new (o := .lst [V.ref t1, V.ref t2]) hl
        have hxl : xs.length ≤ 14 := by rw [hx.len, wants_len]; omega
        refine ⟨a, l, xs, _, rfl, rfl, m3 _ _ (m2 _ _ (m1 _ _ ha)), upd_same, line_of (by show xs.length + 2 ≤ _; omega), fun p hp => ?_⟩
        have m4 := same_new (o := .lst (xs ++ [V.ref t1, V.ref t2])) hp
        refine ⟨p, _, _, rfl, upd_same, Each.app (Each.mono hx fun v a h => WantAt.keep (keep_of (m1.trans (m2.trans (m3.trans m4)))) h) (.cons ⟨t1, rfl, m4 _ _ (m3 _ _ (m2 _ _ upd_same))⟩ (Each.one ⟨t2, rfl, m4 _ _ (m3 _ _ upd_same)⟩)), m4 _ _ (m3 _ _ (m2 _ _ (m1 _ _ hb))), s2.trans (m1.trans (m2.trans (m3.trans m4)))⟩
      · exact hN _ _ p
    obtain ⟨a, xs, o3, rfl, ha, hx, hb, s2⟩ := hI
    have hxl : xs.length = 2 * n := by rw [hx.len, wants_len]
    refine cut (fun σ H' => ∃ b ys us o4, σ = [some (.int n), some (.ref a), some (.ref b), o3, o4, none] ∧ H b = none ∧ H' b = some (.lst ys) ∧ RulesAt H' ys us ∧ (∀ u, u ∈ us → RuleOk n u) ∧ Diag n us ∧ us.length ≤ 1000 ∧ Same H H') (fun N hN => ?_) (fun σ H3 hI => ?_)
    · refine ⟨_, rfl, a, _, rfl, .inl (SqL.of ha), (xs.length : Int), rfl, by omega, by omega, ?_⟩
      refine for_it (n := ((xs.length : Nat) : Int).toNat) walk_range (fun i σ H' => ∃ b ys us o4, σ = [some (.int n), some (.ref a), some (.ref b), o3, o4, none] ∧ H b = none ∧ H' b = some (.lst ys) ∧ RulesAt H' ys us ∧ (∀ u, u ∈ us → RuleOk n u) ∧ (∀ (j : Nat) (w : Want), j < i → (wantsL n)[j]? = some w → (w, w) ∈ us) ∧ us.length ≤ i * 14 ∧ Same H H' ∧ Same H2 H') ⟨b0, [], [], none, rfl, hbn, hb, .nil, (fun u h => by cases h), (fun j w h => by omega), by simp, s2, Same.refl _⟩ (fun _ _ _ _ _ => trivial) (fun i x σ H4 H5 hi p y => ?_) fun σ H' p => ?_
      · obtain ⟨b, ys, us, o4, rfl, hbn, hb, hy, ho, hd, hz, s3, s4⟩ := p
        obtain ⟨rfl, hxe⟩ := y
        cases (hxe.trans (congrArg V.int (zadd i)) : x = .int (i : Nat))
        have hi2 : i < (wantsL n).length := by rw [wants_len]; omega
        have hw : (wantsL n)[i]? = some ((wantsL n)[i]) := List.getElem?_eq_getElem hi2
        generalize (wantsL n)[i] = wt at hw
        obtain ⟨wv, hwv, hwt⟩ := hx.at hw
        have hwt4 := hwt.keep (keep_of s4)
        refine ⟨_, rfl, _, rfl, _, rfl, _, rfl, a, xs, rfl, SqL.of (s4 _ _ ha), fun c hc => ⟨c, rfl, ⟨_, SqL.of upd_same⟩, fun D hD => ?_⟩⟩
        rw [cutV_drop] at hD ⊢
        have m1 := same_new (o := .lst (xs.drop i)) hc
        have hxd := Each.drop i hx
        refine lc_fm (walk_list (xs := xs.drop i)) ((wantsL n).drop i) (fromW wt) (fun H v r => RuleAt H v r) (fun H H' v r k h => h.keep k) hxd.len.symm (by rw [List.length_drop]; omega) hD (fun H' s => SqL.of (s _ _ upd_same)) (fun j z H5 H6 r Qy Qn hr5 s5 y qy qn => ?_) fun acc H5 hl5 s5 hr5 => ?_
        · obtain ⟨rfl, hz⟩ := y
          have s6 := s4.trans (m1.trans s5)
          obtain ⟨zc, rfl, hzc⟩ := WantAt.keep (keep_of s6) (hxd.both hz hr5)
          obtain ⟨wc, rfl, hwc⟩ := hwt.keep (keep_of s6)
          have ha6 := s6 _ _ ha
          refine ⟨rfl, ?_⟩
          refine ⟨_, rfl, zc, _, _, _, rfl, rfl, SqT.of hzc, rfl, _, rfl, _, rfl, a, xs, _, _, rfl, rfl, SqL.of ha6, atI_nat hwv, wc, _, _, _, rfl, rfl, SqT.of hwc, rfl, rfl, _, rfl, ?_⟩
          rw [dec_int]
          have give : fromW wt r = some (wt, r) → (tTup (tCons (tOp (rIxL K) (tVar 1) (tVar 4)) (tCons (tVar 5) tNil))) [some (.int n), some (.ref a), some (.ref b), o3, some (.int (i : Nat)), some (.ref zc)] H6 Qy := fun e => by
            refine ⟨_, rfl, _, rfl, a, xs, _, _, rfl, rfl, SqL.of ha6, atI_nat hwv, _, rfl, by show 2 ≤ sizeLine; decide, fun p hp => ?_⟩
            have m2 := same_new (o := .tup [V.ref wc, V.ref zc]) hp
            exact qy (wt, r) _ _ e m2 ⟨_, _, ⟨p, rfl, upd_same⟩, ⟨wc, rfl, m2 _ _ hwc⟩, ⟨zc, rfl, m2 _ _ hzc⟩⟩
          by_cases c1 : r.1 = wt.1
          · rw [beq_iff_eq.mpr c1]
            refine iteF ?_
            refine ⟨_, rfl, _, rfl, _, rfl, a, xs, _, _, rfl, rfl, SqL.of ha6, atI_nat hwv, wantD r, wantD wt, WantAt.dp ⟨zc, rfl, hzc⟩, WantAt.dp ⟨wc, rfl, hwc⟩, shaped_want _, shaped_want _, _, rfl, ?_⟩
            rw [eqv_want]
            by_cases c2 : r = wt
            · rw [decide_eq_true c2]
              refine iteT (give ?_)
              unfold fromW
              rw [decide_eq_true c2, Bool.or_true, if_pos rfl]
            · rw [decide_eq_false c2]
              refine iteF (qn ?_ _ (Same.refl _))
              unfold fromW
              rw [decide_eq_true c1, decide_eq_false c2]
              rfl
          · rw [beq_eq_false_iff_ne.mpr c1]
            refine iteT (iteT (give ?_))
            unfold fromW
            rw [decide_eq_false c1]
            rfl
        · have hal : acc.length ≤ 14 := by
            rw [hr5.len]
            exact Nat.le_trans (List.length_filterMap_le _ _) (by rw [List.length_drop, wants_len]; omega)
          have s6 := m1.trans s5
          have hyl := hy.len
          refine ⟨b, D, ys, acc, rfl, rfl, s6 _ _ hb, hl5, line_of (by omega), fun p hp => ?_⟩
          have m2 := same_new (o := .lst (ys ++ acc)) hp
          have s7 := s6.trans m2
          refine ⟨p, _, us ++ ((wantsL n).drop i).filterMap (fromW wt), _, rfl, (s3.trans s6).free hp, upd_same, Each.app (RulesAt.keep (keep_of s7) hy) (RulesAt.keep (keep_of m2) hr5), fun u hu => ?_, fun j w' hj hw' => ?_, ?_, s3.trans s7, s4.trans s7⟩
          · rcases List.mem_append.mp hu with h | h
            · exact ho u h
            · exact fromW_ok hw h
          · rw [List.mem_append]
            by_cases c : j = i
            · subst c
              rw [hw] at hw'
              cases hw'
              exact .inr (fromW_self hw)
            · exact .inl (hd j w' (by omega) hw')
          · rw [List.length_append, ← hr5.len]
            omega
      · obtain ⟨b, ys, us, o4, rfl, hbn, hb, hy, ho, hd, hz, s3, s4⟩ := p
        refine hN _ _ ⟨b, ys, us, o4, rfl, hbn, hb, hy, ho, fun w hw => ?_, by omega, s3⟩
        obtain ⟨j, hj⟩ := List.mem_iff_getElem?.mp (mem_wants.mpr hw)
        exact hd j w (by have := (List.getElem?_eq_some_iff.mp hj).1; rw [wants_len] at this; omega) hj
    obtain ⟨b, ys, us, o4, rfl, hbn, hb, hy, ho, hd, hz, s3⟩ := hI
    exact ⟨_, rfl, q b ys us H3 hbn hb hy ho hd hz s3⟩
end
end MR

set_option Elab.async false
set_option linter.all false
set_option maxRecDepth 100000
set_option maxHeartbeats 4000000
namespace MR
open PySem PySem.Spec PyProof.Rows L2
theorem Each.mem {α : Type} {P : V → α → Prop} {vs : List V} {as : List α} {v : V} (h : Each P vs as) (hv : v ∈ vs) : ∃ a, a ∈ as ∧ P v a := by
  obtain ⟨i, hi⟩ := List.mem_iff_getElem?.mp hv
  obtain ⟨a, h1, h2⟩ := h.get hi
  exact ⟨a, List.mem_of_getElem? h1, h2⟩
theorem Mv.free {K : PySem.W.Frag} {R : Rw} {H H' : Hp} {p : Addr} (m : Mv R.L H H') (st : RowSt K H' R) (hp : H' p = none) : H p = none := by
  cases e : H p with
  | none => rfl
  | some o =>
    rw [m p o (st.ne hp) e] at hp
    cases hp
/-- every rule to draw from (at ae), the rules drawn (at l), all else as it was -/
structure Sm (K : PySem.W.Frag) (R : Rw) (n : Nat) (H H' : Hp) (ae l : Addr) (xs : List V) (us : List Rule) (ys : List V) (fs : List Rule) : Prop where
  hl0 : H l = none
  hnl : ae ≠ l
  heL : ae ≠ R.L
  hlL : l ≠ R.L
  fr : Fr K R.a (R.ns.map V.int) l
  he : H' ae = some (.lst xs)
  hx : RulesAt H' xs us
  ok : ∀ u, u ∈ us → RuleOk n u
  ne : 1 ≤ us.length
  sz : us.length ≤ 1100
  hf : H' l = some (.lst ys)
  hy : RulesAt H' ys fs
  okf : ∀ u, u ∈ fs → RuleOk n u
  mv : Mv R.L H H'
  st : RowSt K H' R
section
variable {K : PySem.W.Frag} {R : Rw} {n : Nat} {H H' H'' : Hp} {ae l D : Addr} {xs ys acc : List V} {us fs us2 : List Rule}
theorem Sm.move (s : Sm K R n H H' ae l xs us ys fs) (m : Mv R.L H' H'') (st : RowSt K H'' R) : Sm K R n H H'' ae l xs us ys fs :=
  ⟨s.hl0, s.hnl, s.heL, s.hlL, s.fr, m _ _ s.heL s.he, s.hx.keep (s.st.keep m), s.ok, s.ne, s.sz, m _ _ s.hlL s.hf, s.hy.keep (s.st.keep m), s.okf, s.mv.trans m, st⟩
theorem Sm.same (s : Sm K R n H H' ae l xs us ys fs) (m : Same H' H'') : Sm K R n H H'' ae l xs us ys fs := s.move (mv_same m) (s.st.same m)
theorem Sm.every (s : Sm K R n H H' ae l xs us ys fs) (m : Same H' H'') (hD : H' D = none) (ha : H'' D = some (.lst acc)) (hx : RulesAt H'' acc us2) (sub : ∀ u, u ∈ us2 → u ∈ us) (ne : 1 ≤ us2.length) (sz : us2.length ≤ 1100) : Sm K R n H H'' D l acc us2 ys fs :=
  have t := s.same m
  ⟨s.hl0, (by rintro rfl; rw [s.hf] at hD; cases hD), s.st.ne hD, s.hlL, s.fr, ha, hx, fun u hu => s.ok u (sub u hu), ne, sz, t.hf, t.hy, s.okf, t.mv, t.st⟩
theorem Sm.add (s : Sm K R n H H' ae l xs us ys fs) {v : V} {u : Rule} (hv : RuleAt H' v u) (hu : RuleOk n u) : Sm K R n H (upd H' l (.lst (ys ++ [v]))) ae l xs us (ys ++ [v]) (fs ++ [u]) := by
  have k : Keep H' (upd H' l (.lst (ys ++ [v]))) := keep_lst s.hf
  refine ⟨s.hl0, s.hnl, s.heL, s.hlL, s.fr, by rw [upd_ne s.hnl]; exact s.he, s.hx.keep k, s.ok, s.ne, s.sz, upd_same, Each.app (s.hy.keep k) (Each.one (hv.keep k)), fun w hw => ?_, fun b o hb e => ?_, s.st.upd s.hlL.symm s.fr⟩
  · rcases List.mem_append.mp hw with h | h
    · exact s.okf w h
    · cases List.mem_singleton.mp h
      exact hu
  · rw [upd_ne (ne_of_none e s.hl0)]
    exact s.mv b o hb e
theorem Sm.found (s : Sm K R n H H' ae l xs us ys fs) {p : Addr} {zs : List V} {gs : List Rule} (hp : H' p = none) (hz : RulesAt H' zs gs) (hg : ∀ u, u ∈ gs → RuleOk n u) : Sm K R n H (upd H' p (.lst zs)) ae p xs us zs gs := by
  have t := s.same (same_new (o := .lst zs) hp)
  exact ⟨s.mv.free s.st hp, (by rintro rfl; rw [s.he] at hp; cases hp), s.heL, s.st.ne hp, s.st.fr hp, t.he, t.hx, s.ok, s.ne, s.sz, upd_same, hz.keep (keep_new hp), hg, t.mv, t.st⟩
end
theorem filter_ne {α : Type} {p : α → Bool} {as : List α} {a : α} (h : a ∈ as) (hp : p a = true) : 1 ≤ (as.filter p).length := List.length_pos_of_mem (List.mem_filter.mpr ⟨h, hp⟩)
theorem ne_dec (a b : Int) : (!decide (V.int a = V.int b)) = !decide (a = b) := by
  rw [dec_int]
  by_cases c : a = b
  · rw [c, beq_self_eq_true, decide_eq_true rfl]
  · rw [beq_eq_false_iff_ne.mpr c, decide_eq_false c]
theorem eq_dec (a b : Int) : decide (V.int a = V.int b) = decide (a = b) := by
  have := ne_dec a b
  simpa using congrArg not this
theorem cutV_two (xs : List V) : cutV xs none (some 2) = xs.take 2 := cutV_take xs 2
theorem cutV_one (xs : List V) : cutV xs none (some 1) = xs.take 1 := cutV_take xs 1
section
variable {P : Program} {w : World} {K : PySem.W.Frag} {mg : Str → Option Value} {base : Heap} {C CE : Addr}
/-! ### _law_some_rules -/
def spSome (K : PySem.W.Frag) : Sp := fun vs H Q _ => ∃ (R : Rw) (n : Nat), vs = [.ref R.L, .int n] ∧ 1 ≤ n ∧ n ≤ 7 ∧ RowSt K H R ∧ ∀ t us H', RulesT H' t us → RulesOk n us → us.length < 64 → Mv R.L H H' → RowSt K H' R → Q t H'
def n_law_some_rules : List Str := ["_law_row", "_law_many", "_law_every", "_law_found", "_law_way", "_law_planted", "_law_size", "_law_rule", "_law_turn", "_law_at"]
theorem sc_law_some_rules : FnScope n_law_some_rules ["_law_row", "_law_many"] (defScope s_law_some_rules) := ⟨rfl, rfl, rfl, by decide +kernel, rfl, by decide +kernel, by decide +kernel⟩

def StS (K : PySem.W.Frag) (R : Rw) (n : Nat) (H : Hp) (k : Int) (σ : L2.St) (H' : Hp) : Prop := ∃ ae xs us l way vp r sz, σ = [some (.ref R.L), some (.int n), some (.ref ae), some (.ref l), some (.int way), some vp, some (.int sz), none, none, none] ∧ Sm K R n H H' ae l xs us [] [] ∧ (k < way → Diag n us) ∧ RowAt H' vp r ∧ RowOf n r ∧ 0 ≤ sz ∧ sz < 2 * (n : Int) + 3 ∧ (us.length : Int) ≤ 1000 + 2 * k
def StF (K : PySem.W.Frag) (R : Rw) (n : Nat) (H : Hp) (k : Nat) (σ : L2.St) (H' : Hp) : Prop := ∃ ae xs us l way vp r sz ys fs o8 o9, σ = [some (.ref R.L), some (.int n), some (.ref ae), some (.ref l), some (.int way), some vp, some (.int sz), none, o8, o9] ∧ Sm K R n H H' ae l xs us ys fs ∧ RowAt H' vp r ∧ RowOf n r ∧ fs.length ≤ k
theorem cal_law_some_rules (D : Df K mg "_law_some_rules" s_law_some_rules) (T : Tx K mg C) (c_law_all_rules : Cal P w K mg base CX0 1 "_law_all_rules" spAllRules) (c_law_taken : Cal P w K mg base CX0 1 "_law_taken" (spTaken K)) (c_law_pick : Cal P w K mg base CX0 2 "_law_pick" (spPick K))
    (c_law_rows : Cal P w K mg base CX0 1 "_law_rows" spLRows) (c_law_keepsL : Cal P w K mg base CX0 1 "_law_keeps" spLKeepsL) : Cal P w K mg base CX0 3 "_law_some_rules" (spSome K) := by
  refine cal_of D sc_law_some_rules (fun _ _ _ _ _ _ us hl => match us, hl with | [_, _], _ => rfl) (fun vs H Q E h => ?_) (fun f cdv A outer s H vs Q E hr h => ?_)
  · obtain ⟨_, _, rfl, _⟩ := h
    rfl
  · obtain ⟨R, n, rfl, hn1, hn, st, q⟩ := h
    refine ⟨_, (pss_cons (ps_par3 (i := 2) (j := 3) (l := 4) (by rfl) sc_law_some_rules.nd rfl rfl rfl (by decide) (by decide) (by decide) rfl rfl rfl (pa_cons (pe_c c_law_all_rules hr (by decide) (by rfl) (pa_cons (pv 1) pa_nil)) (pa_cons (pe_lst pa_nil) (pa_cons (pe_c c_law_taken hr (by decide) (by rfl) (pa_cons (pv 0) (pa_cons pe_int pa_nil))) pa_nil))) (by rfl))
      (pss_cons (ps_asg (pe_tup (pa_cons (pe_c c_law_pick hr (by decide) (by rfl) (pa_cons (pv 0) (pa_cons (pe_c c_law_rows hr (by decide) (by rfl) (pa_cons (pv 1) pa_nil)) pa_nil))) (pa_cons (pe_c c_law_taken hr (by decide) (by rfl) (pa_cons (pv 0) (pa_cons (pe_op op_add (pe_op op_mul pe_int (pv 1)) pe_int) pa_nil))) pa_nil))) (pg_tup rfl (pgs_cons (pg_name (i := 5) sc_law_some_rules.nd rfl (Or.inr rfl)) (pgs_cons (pg_name (i := 6) sc_law_some_rules.nd rfl (Or.inl rfl)) pgs_nil))))
      (pss_cons (ps_if (pt_cmpR op_eq (pv 4) pe_int (nomark _)) (pss_one (ps_setLc (i := 2) (own := [("_law_rule", 7)]) rfl sc_law_some_rules.nd rfl rfl (sw_true rfl rfl rfl (by decide +kernel)) (pi_list (pv 2)) (blkOk_by (N := n_law_some_rules) (sc := defScope s_law_some_rules) (by decide +kernel)) (fun _ _ _ _ _ => (pg_name (i := 7) sc_law_some_rules.nd rfl (Or.inl rfl))) (fun _ _ _ _ _ => pts_one (pt_val (pe_c c_law_keepsL hr (by decide) (by rfl) (pa_cons (pe_lst (pa_cons (pv 7) pa_nil)) (pa_cons (pv 5) pa_nil))))) (fun _ _ _ _ _ => (pv 7)))) pss_nil)
      (pss_cons (ps_if (pt_cmpR op_eq (pv 4) pe_int (nomark _)) (pss_one (ps_set (i := 2) sc_law_some_rules.nd rfl (Or.inl rfl) (pe_op op_cat (pe_lc (own := [("_law_rule", 7)]) rfl sc_law_some_rules.nd (pi_list (pv 2)) (blkOk_by (N := n_law_some_rules) (sc := defScope s_law_some_rules) (by decide +kernel)) (fun _ _ _ _ _ => (pg_name (i := 7) sc_law_some_rules.nd rfl (Or.inl rfl))) (fun _ _ _ _ _ => pts_one (PW.pt (pw_and (pt_cmpR op_ne (pe_ix (ix_tupB (K := K) (by rfl)) (pe_ix (ix_tupB (K := K) (by rfl)) (pv 7) pe_int (fun _ _ => rfl)) pe_int (fun _ _ => rfl)) (pe_ix (ix_tupB (K := K) (by rfl)) (pe_ix (ix_tupB (K := K) (by rfl)) (pv 7) pe_int (fun _ _ => rfl)) pe_int (fun _ _ => rfl)) (nomark _)) (pw_and1 (pt_cmpR op_ne (pe_ix (ix_tupB (K := K) (by rfl)) (pe_ix (ix_tupB (K := K) (by rfl)) (pv 7) pe_int (fun _ _ => rfl)) pe_int (fun _ _ => rfl)) (pe_ix (ix_tupB (K := K) (by rfl)) (pe_ix (ix_tupB (K := K) (by rfl)) (pv 7) pe_int (fun _ _ => rfl)) pe_int (fun _ _ => rfl)) (nomark _)))))) (fun _ _ _ _ _ => (pv 7))) (pe_slice sl_list (pv 2) po_none (po_some pe_int))))) pss_nil)
      (pss_cons (ps_if (pt_cmpR op_eq (pv 4) pe_int (nomark _)) (pss_one (ps_set (i := 2) sc_law_some_rules.nd rfl (Or.inl rfl) (pe_op op_cat (pe_lc (own := [("_law_rule", 7)]) rfl sc_law_some_rules.nd (pi_list (pv 2)) (blkOk_by (N := n_law_some_rules) (sc := defScope s_law_some_rules) (by decide +kernel)) (fun _ _ _ _ _ => (pg_name (i := 7) sc_law_some_rules.nd rfl (Or.inl rfl))) (fun _ _ _ _ _ => pts_one (PW.pt (pw_and (pt_cmpR op_eq (pe_ix (ix_tupB (K := K) (by rfl)) (pe_ix (ix_tupB (K := K) (by rfl)) (pv 7) pe_int (fun _ _ => rfl)) pe_int (fun _ _ => rfl)) (pe_ix (ix_tupB (K := K) (by rfl)) (pe_ix (ix_tupB (K := K) (by rfl)) (pv 7) pe_int (fun _ _ => rfl)) pe_int (fun _ _ => rfl)) (nomark _)) (pw_and1 (pt_cmpR op_ne (pe_ix (ix_tupB (K := K) (by rfl)) (pe_ix (ix_tupB (K := K) (by rfl)) (pv 7) pe_int (fun _ _ => rfl)) pe_int (fun _ _ => rfl)) (pe_ix (ix_tupB (K := K) (by rfl)) (pe_ix (ix_tupB (K := K) (by rfl)) (pv 7) pe_int (fun _ _ => rfl)) pe_int (fun _ _ => rfl)) (nomark _)))))) (fun _ _ _ _ _ => (pv 7))) (pe_slice sl_list (pv 2) po_none (po_some pe_int))))) pss_nil)
      (pss_cons (ps_if (pt_cmpR op_eq (pv 4) pe_int (nomark _)) (pss_one (ps_setLc (i := 2) (own := [("_law_rule", 7)]) rfl sc_law_some_rules.nd rfl rfl (sw_true rfl rfl rfl (by decide +kernel)) (pi_list (pv 2)) (blkOk_by (N := n_law_some_rules) (sc := defScope s_law_some_rules) (by decide +kernel)) (fun _ _ _ _ _ => (pg_name (i := 7) sc_law_some_rules.nd rfl (Or.inl rfl))) (fun _ _ _ _ _ => pts_one (pt_cmpR op_eq (pe_op op_mod (pe_op op_sub (pe_ix (ix_tupB (K := K) (by rfl)) (pe_ix (ix_tupB (K := K) (by rfl)) (pv 7) pe_int (fun _ _ => rfl)) pe_int (fun _ _ => rfl)) (pe_ix (ix_tupB (K := K) (by rfl)) (pe_ix (ix_tupB (K := K) (by rfl)) (pv 7) pe_int (fun _ _ => rfl)) pe_int (fun _ _ => rfl))) pe_int) pe_int (nomark _))) (fun _ _ _ _ _ => (pv 7)))) pss_nil)
      (pss_cons (ps_for PassesOwn.never rfl (pi_range1 (by rfl) T.b.range (pa_cons (pe_op op_add (pv 6) (pe_op op_mul pe_int (pe_callTy call_int1 (by rfl) T.b.int bt_int (pa_cons (pe_cmpR op_eq (pv 4) pe_int (nomark _)) pa_nil)))) pa_nil)) (pg_name (i := 8) sc_law_some_rules.nd rfl (Or.inl rfl)) (pss_one (ps_expr (pe_bm PySem.F.plainAttrs_list PySem.F.slot_list_append PySem.F.type_list_append mt_append (pv 3) (pa_cons (pe_c c_law_pick hr (by decide) (by rfl) (pa_cons (pv 0) (pa_cons (pv 2) pa_nil))) pa_nil)))))
      (pss_cons (ps_if (pt_cmpR op_eq (pv 4) pe_int (nomark _)) (pss_one (ps_for PassesOwn.never rfl (pi_range1 (by rfl) T.b.range (pa_cons (pe_op op_sub (pv 1) pe_int) pa_nil)) (pg_name (i := 9) sc_law_some_rules.nd rfl (Or.inl rfl)) (pss_cons (ps_expr (pe_bm PySem.F.plainAttrs_list PySem.F.slot_list_append PySem.F.type_list_append mt_append (pv 3) (pa_cons (pe_tup (pa_cons (pe_tup (pa_cons (pv 9) (pa_cons (pe_ix ix_tup (pv 5) (pv 9) (fun _ _ => rfl)) pa_nil))) (pa_cons (pe_tup (pa_cons (pe_op op_add (pv 9) pe_int) (pa_cons (pe_op op_sub pe_int (pe_ix ix_tup (pv 5) (pe_op op_add (pv 9) pe_int) (fun _ _ => rfl))) pa_nil))) pa_nil))) pa_nil)))
      (pss_one (ps_set (i := 3) sc_law_some_rules.nd rfl (Or.inl rfl) (pe_op op_cat (pv 3) (pe_op op_rep (pe_lst (pa_cons (pe_tup (pa_cons (pe_tup (pa_cons (pv 9) (pa_cons (pe_op op_sub pe_int (pe_ix ix_tup (pv 5) (pv 9) (fun _ _ => rfl))) pa_nil))) (pa_cons (pe_tup (pa_cons (pe_op op_add (pv 9) pe_int) (pa_cons (pe_ix ix_tup (pv 5) (pe_op op_add (pv 9) pe_int) (fun _ _ => rfl)) pa_nil))) pa_nil))) pa_nil)) (pe_callTy call_int1 (by rfl) T.b.int bt_int (pa_cons (pe_cmpR op_gt (pe_c c_law_taken hr (by decide) (by rfl) (pa_cons (pv 0) (pa_cons pe_int pa_nil))) pe_int (nomark _)) pa_nil))))))))) pss_nil)
      (pss_one (ps_ret (pe_callTy call_tuple_of (by rfl) T.b.tuple bt_tuple (pa_cons (pe_callB (cr_sortedU rfl hr.units) (by rfl) T.b.sorted bt_sorted (pa_cons (pe_callTy (cr_setOfU rfl hr.units) (by rfl) T.b.set bt_set (pa_cons (pv 3) pa_nil)) pa_nil)) pa_nil)))))))))))), ?_⟩
    refine cut (fun σ H' => ∃ ae xs us l way, σ = [some (.ref R.L), some (.int n), some (.ref ae), some (.ref l), some (.int way), none, none, none, none, none] ∧ Sm K R n H H' ae l xs us [] [] ∧ Diag n us ∧ us.length ≤ 1000) (fun N hN => ?_) (fun σ H1 hI => ?_)
    · refine ⟨_, rfl, n, rfl, hn1, hn, fun a xs us H1 hna ha hx ho hd hz s1 => ⟨Nat.zero_le _, fun l hl => ⟨_, rfl, R, 7, rfl, by decide, by decide, (st.same s1).same (same_new hl), fun x H2 x0 x1 mv st2 => ⟨_, _, _, rfl, hN _ _ ⟨a, xs, us, l, x, rfl, ?_, hd, hz⟩⟩⟩⟩⟩
      have s2 := same_new (o := .lst []) hl
      have st1 := st.same s1
      have sm0 : Sm K R n H (upd H1 l (.lst [])) a l xs us [] [] := ⟨s1.free hl, (by rintro rfl; rw [ha] at hl; cases hl), st.ne hna, st1.ne hl, st1.fr hl, s2 _ _ ha, hx.keep (keep_of s2), ho, List.length_pos_of_mem (hd (0, 0) ⟨by decide, by show (0 : Int) < n; omega, .inl rfl⟩), by omega, upd_same, .nil, (fun u h => by cases h), mv_same (s1.trans s2), st1.same s2⟩
      exact sm0.move mv st2
    obtain ⟨ae, xs, us, l, way, rfl, sm, hd, hz0⟩ := hI
    refine cut (StS K R n H 0) (fun N hN => ?_) (fun σ H2 hI => ?_)
    · refine ⟨_, rfl, _, rfl, n, rfl, hn1, by omega, fun a rs H2 hna ha hx s2 => ⟨R, a, rs, rfl, ha, sm.st.ne hna, ?_, ?_, sm.st.same s2, fun v H3 hv mv3 st3 => ?_⟩⟩
      · rw [hx.len, allRows_len]; exact Nat.pow_pos (by decide)
      · rw [hx.len]; have := allRows_big (n := n) (by omega); omega
      obtain ⟨r, hr1, hr2⟩ := hx.mem hv
      have k3 := (sm.st.same s2).keep mv3
      have hr3 := hr2.keep k3
      refine ⟨_, rfl, _, rfl, _, _, rfl, rfl, .inl ⟨by decide, by decide⟩, _, _, rfl, rfl, R, _, rfl, by omega, by omega, st3, fun x H4 x0 x1 mv4 st4 => ⟨by show 2 ≤ sizeLine; decide, fun T' hT => ?_⟩⟩
      have hr4 := hr3.keep (st3.keep mv4)
      have s5 := same_new (o := .tup [v, V.int x]) hT
      exact ⟨T', _, rfl, SqT.of upd_same, rfl, _, _, rfl, _, _, rfl, rfl, hN _ _ ⟨ae, xs, us, l, way, v, r, x, rfl, (((sm.same s2).move mv3 st3).move mv4 st4).same s5, fun _ => hd, hr4.keep (keep_of s5), mem_allRows.mp hr1, x0, x1, by omega⟩⟩
    clear sm hd
    -- way 1
    refine cut (StS K R n H 1) (fun N hN => ?_) (fun σ H2 hI => ?_)
    · obtain ⟨ae, xs, us, l, way, vp, r, sz, rfl, sm, hd, hr1, hr2, z0, z1, hS⟩ := hI
      refine ⟨_, rfl, rfl, _, rfl, ?_⟩
      rw [eq_dec]
      by_cases c : way = 1
      · rw [decide_eq_true c]
        refine iteT ?_
        refine ⟨_, rfl, ae, rfl, ⟨xs, SqL.of sm.he⟩, fun D hD => ?_⟩
        refine lc_fm (walk_list (xs := xs)) us (fun u => if keepsA [u] r = true then some u else none) (fun H v u => RuleAt H v u) (fun H H' v u k h => h.keep k) sm.hx.len.symm (by rw [sm.hx.len]; have := sm.sz; omega) hD (fun H' s => SqL.of (s _ _ sm.he)) (fun j z H5 H6 u Qy Qn hu5 s5 y qy qn => ?_) fun acc H5 hl5 s5 hr5 => ?_
        · obtain ⟨rfl, hz⟩ := y
          refine ⟨rfl, ?_⟩
          have hzu := (sm.hx.keep (keep_of s5)).both hz hu5
          have hok := sm.ok u (List.mem_of_getElem? hu5)
          refine ⟨_, rfl, by show 1 ≤ sizeLine; decide, fun p hp => ⟨_, rfl, n, p, [z], vp, [u], r, rfl, upd_same, Each.one (hzu.keep (keep_new hp)), (hr1.keep (keep_of s5)).keep (keep_new hp), hr2.1, fun w hw => ?_, ?_⟩⟩
          · cases List.mem_singleton.mp hw
            exact ⟨hok.1, hok.2.1⟩
          · refine ⟨_, rfl, ?_⟩
            cases hk : keepsA [u] r with
            | true => exact iteT ⟨_, rfl, qy u z _ (by rw [hk]; rfl) (same_new hp) (hzu.keep (keep_new hp))⟩
            | false => exact iteF (qn (by rw [hk]; rfl) _ (same_new hp))
        · rw [fm_if] at hr5
          have hw0 : WantOk n ((0, at_ r 0) : Want) := ⟨by show (0 : Int) ≤ 0; decide, by show (0 : Int) < n; omega, at_bit hr2 0⟩
          refine hN _ _ ⟨D, acc, _, l, way, vp, r, sz, rfl, sm.every s5 hD hl5 hr5 (fun u hu => (List.mem_filter.mp hu).1) (filter_ne (hd (by omega) _ hw0) ?_) (Nat.le_trans (List.length_filter_le _ _) sm.sz), (fun h => by omega), hr1.keep (keep_of s5), hr2, z0, z1, ?_⟩
          · unfold keepsA keepsR hasW
            show ((decide (at_ r 0 = at_ r 0) || decide (at_ r 0 = at_ r 0)) && true) = true
            rw [decide_eq_true rfl]
            rfl
          · have := List.length_filter_le (fun u => keepsA [u] r) us
            omega
      · rw [decide_eq_false c]
        exact iteF (hN _ _ ⟨ae, xs, us, l, way, vp, r, sz, rfl, sm, fun h => hd (by omega), hr1, hr2, z0, z1, by omega⟩)
    -- way 2
    refine cut (StS K R n H 2) (fun N hN => ?_) (fun σ H2 hI => ?_)
    · obtain ⟨ae, xs, us, l, way, vp, r, sz, rfl, sm, hd, hr1, hr2, z0, z1, hS⟩ := hI
      refine ⟨_, rfl, rfl, _, rfl, ?_⟩
      rw [eq_dec]
      by_cases c : way = 2
      · rw [decide_eq_true c]
        refine iteT ?_
        refine ⟨_, rfl, ae, rfl, ⟨xs, SqL.of sm.he⟩, fun D hD => ?_⟩
        refine lc_fm (walk_list (xs := xs)) us (fun u => if (!decide (u.1.2 = u.2.2) && !decide (u.1.1 = u.2.1)) = true then some u else none) (fun H v u => RuleAt H v u) (fun H H' v u k h => h.keep k) sm.hx.len.symm (by rw [sm.hx.len]; have := sm.sz; omega) hD (fun H' s => SqL.of (s _ _ sm.he)) (fun j z H5 H6 u Qy Qn hu5 s5 y qy qn => ?_) fun acc H5 hl5 s5 hr5 => ?_
        · obtain ⟨rfl, hz⟩ := y
          refine ⟨rfl, ?_⟩
          have hzu := (sm.hx.keep (keep_of s5)).both hz hu5
          obtain ⟨x1, x2, ⟨e, rfl, he⟩, ⟨d1, rfl, hd1⟩, ⟨d2, rfl, hd2⟩⟩ := id hzu
          refine ⟨_, rfl, e, _, _, _, rfl, rfl, SqT.of he, rfl, d1, _, _, _, rfl, rfl, SqT.of hd1, rfl, _, rfl, e, _, _, _, rfl, rfl, SqT.of he, rfl, d2, _, _, _, rfl, rfl, SqT.of hd2, rfl, rfl, _, rfl, ?_⟩
          rw [ne_dec]
          cases c2 : (!decide (u.1.2 = u.2.2)) with
          | false => exact iteF (iteF (qn (by rw [c2]; rfl) _ (Same.refl _)))
          | true =>
            refine iteT ?_
            refine ⟨_, rfl, e, _, _, _, rfl, rfl, SqT.of he, rfl, d1, _, _, _, rfl, rfl, SqT.of hd1, rfl, _, rfl, e, _, _, _, rfl, rfl, SqT.of he, rfl, d2, _, _, _, rfl, rfl, SqT.of hd2, rfl, rfl, _, rfl, ?_⟩
            rw [ne_dec]
            cases c3 : (!decide (u.1.1 = u.2.1)) with
            | false => exact iteF (qn (by rw [c2, c3]; rfl) _ (Same.refl _))
            | true => exact iteT ⟨_, rfl, qy u _ _ (by rw [c2, c3]; rfl) (Same.refl _) hzu⟩
        · rw [fm_if] at hr5
          have sm5 := sm.same s5
          have hal : acc.length ≤ us.length := by rw [hr5.len]; exact List.length_filter_le _ _
          refine ⟨_, rfl, _, rfl, ae, xs, rfl, SqL.of sm5.he, fun p hp => ⟨D, p, acc, _, rfl, rfl, same_new hp _ _ hl5, upd_same, line_of ?_, fun p2 hp2 => ?_⟩⟩
          · rw [cutV_two, List.length_take]; omega
          rw [cutV_two] at hp2 ⊢
          have m2 := same_new (o := .lst (xs.take 2)) hp
          have m3 := same_new (o := .lst (acc ++ xs.take 2)) hp2
          have m4 := s5.trans m2
          refine hN _ _ ⟨p2, _, _, l, way, vp, r, sz, rfl, sm.every (D := p2) (m4.trans m3) (m4.free hp2) upd_same (Each.app (RulesAt.keep (keep_of (m2.trans m3)) hr5) (RulesAt.keep (keep_of (m4.trans m3)) (Each.take 2 sm.hx))) (fun u hu => ?_) ?_ ?_, (fun h => by omega), hr1.keep (keep_of (m4.trans m3)), hr2, z0, z1, ?_⟩
          · rcases List.mem_append.mp hu with h | h
            · exact (List.mem_filter.mp h).1
            · exact List.mem_of_mem_take h
          · rw [List.length_append, List.length_take]
            have := sm.ne
            omega
          · rw [List.length_append, ← hr5.len, List.length_take]
            omega
          · rw [List.length_append, ← hr5.len, List.length_take]
            omega
      · rw [decide_eq_false c]
        exact iteF (hN _ _ ⟨ae, xs, us, l, way, vp, r, sz, rfl, sm, fun h => hd (by omega), hr1, hr2, z0, z1, by omega⟩)
    -- way 3
    refine cut (StS K R n H 3) (fun N hN => ?_) (fun σ H2 hI => ?_)
    · obtain ⟨ae, xs, us, l, way, vp, r, sz, rfl, sm, hd, hr1, hr2, z0, z1, hS⟩ := hI
      refine ⟨_, rfl, rfl, _, rfl, ?_⟩
      rw [eq_dec]
      by_cases c : way = 3
      · rw [decide_eq_true c]
        refine iteT ?_
        refine ⟨_, rfl, ae, rfl, ⟨xs, SqL.of sm.he⟩, fun D hD => ?_⟩
        refine lc_fm (walk_list (xs := xs)) us (fun u => if (decide (u.1.2 = u.2.2) && !decide (u.1.1 = u.2.1)) = true then some u else none) (fun H v u => RuleAt H v u) (fun H H' v u k h => h.keep k) sm.hx.len.symm (by rw [sm.hx.len]; have := sm.sz; omega) hD (fun H' s => SqL.of (s _ _ sm.he)) (fun j z H5 H6 u Qy Qn hu5 s5 y qy qn => ?_) fun acc H5 hl5 s5 hr5 => ?_
        · obtain ⟨rfl, hz⟩ := y
          refine ⟨rfl, ?_⟩
          have hzu := (sm.hx.keep (keep_of s5)).both hz hu5
          obtain ⟨x1, x2, ⟨e, rfl, he⟩, ⟨d1, rfl, hd1⟩, ⟨d2, rfl, hd2⟩⟩ := id hzu
          refine ⟨_, rfl, e, _, _, _, rfl, rfl, SqT.of he, rfl, d1, _, _, _, rfl, rfl, SqT.of hd1, rfl, _, rfl, e, _, _, _, rfl, rfl, SqT.of he, rfl, d2, _, _, _, rfl, rfl, SqT.of hd2, rfl, rfl, _, rfl, ?_⟩
          rw [eq_dec]
          cases c2 : (decide (u.1.2 = u.2.2)) with
          | false => exact iteF (iteF (qn (by rw [c2]; rfl) _ (Same.refl _)))
          | true =>
            refine iteT ?_
            refine ⟨_, rfl, e, _, _, _, rfl, rfl, SqT.of he, rfl, d1, _, _, _, rfl, rfl, SqT.of hd1, rfl, _, rfl, e, _, _, _, rfl, rfl, SqT.of he, rfl, d2, _, _, _, rfl, rfl, SqT.of hd2, rfl, rfl, _, rfl, ?_⟩
            rw [ne_dec]
            cases c3 : (!decide (u.1.1 = u.2.1)) with
            | false => exact iteF (qn (by rw [c2, c3]; rfl) _ (Same.refl _))
            | true => exact iteT ⟨_, rfl, qy u _ _ (by rw [c2, c3]; rfl) (Same.refl _) hzu⟩
        · rw [fm_if] at hr5
          have sm5 := sm.same s5
          have hal : acc.length ≤ us.length := by rw [hr5.len]; exact List.length_filter_le _ _
          refine ⟨_, rfl, _, rfl, ae, xs, rfl, SqL.of sm5.he, fun p hp => ⟨D, p, acc, _, rfl, rfl, same_new hp _ _ hl5, upd_same, line_of ?_, fun p2 hp2 => ?_⟩⟩
          · rw [cutV_one, List.length_take]; omega
          rw [cutV_one] at hp2 ⊢
          have m2 := same_new (o := .lst (xs.take 1)) hp
          have m3 := same_new (o := .lst (acc ++ xs.take 1)) hp2
          have m4 := s5.trans m2
          refine hN _ _ ⟨p2, _, _, l, way, vp, r, sz, rfl, sm.every (D := p2) (m4.trans m3) (m4.free hp2) upd_same (Each.app (RulesAt.keep (keep_of (m2.trans m3)) hr5) (RulesAt.keep (keep_of (m4.trans m3)) (Each.take 1 sm.hx))) (fun u hu => ?_) ?_ ?_, (fun h => by omega), hr1.keep (keep_of (m4.trans m3)), hr2, z0, z1, ?_⟩
          · rcases List.mem_append.mp hu with h | h
            · exact (List.mem_filter.mp h).1
            · exact List.mem_of_mem_take h
          · rw [List.length_append, List.length_take]
            have := sm.ne
            omega
          · rw [List.length_append, ← hr5.len, List.length_take]
            omega
          · rw [List.length_append, ← hr5.len, List.length_take]
            omega
      · rw [decide_eq_false c]
        exact iteF (hN _ _ ⟨ae, xs, us, l, way, vp, r, sz, rfl, sm, fun h => hd (by omega), hr1, hr2, z0, z1, by omega⟩)
    -- way 4
    refine cut (StS K R n H 4) (fun N hN => ?_) (fun σ H2 hI => ?_)
    · obtain ⟨ae, xs, us, l, way, vp, r, sz, rfl, sm, hd, hr1, hr2, z0, z1, hS⟩ := hI
      refine ⟨_, rfl, rfl, _, rfl, ?_⟩
      rw [eq_dec]
      by_cases c : way = 4
      · rw [decide_eq_true c]
        refine iteT ?_
        refine ⟨_, rfl, ae, rfl, ⟨xs, SqL.of sm.he⟩, fun D hD => ?_⟩
        refine lc_fm (walk_list (xs := xs)) us (fun u => if decide ((u.1.1 - u.2.1) % 2 = 0) = true then some u else none) (fun H v u => RuleAt H v u) (fun H H' v u k h => h.keep k) sm.hx.len.symm (by rw [sm.hx.len]; have := sm.sz; omega) hD (fun H' s => SqL.of (s _ _ sm.he)) (fun j z H5 H6 u Qy Qn hu5 s5 y qy qn => ?_) fun acc H5 hl5 s5 hr5 => ?_
        · obtain ⟨rfl, hz⟩ := y
          refine ⟨rfl, ?_⟩
          have hzu := (sm.hx.keep (keep_of s5)).both hz hu5
          obtain ⟨x1, x2, ⟨e, rfl, he⟩, ⟨d1, rfl, hd1⟩, ⟨d2, rfl, hd2⟩⟩ := id hzu
          refine ⟨_, rfl, e, _, _, _, rfl, rfl, SqT.of he, rfl, d1, _, _, _, rfl, rfl, SqT.of hd1, rfl, _, rfl, e, _, _, _, rfl, rfl, SqT.of he, rfl, d2, _, _, _, rfl, rfl, SqT.of hd2, rfl, _, _, rfl, rfl, _, _, rfl, rfl, (by show (0 : Int) < 2; decide), rfl, _, rfl, ?_⟩
          rw [eq_dec]
          by_cases c2 : (u.1.1 - u.2.1) % 2 = 0
          · rw [decide_eq_true c2]
            exact iteT ⟨_, rfl, qy u _ _ (by rw [decide_eq_true c2]; rfl) (Same.refl _) hzu⟩
          · rw [decide_eq_false c2]
            exact iteF (qn (by rw [decide_eq_false c2]; rfl) _ (Same.refl _))
        · rw [fm_if] at hr5
          have hw0 : WantOk n ((0, 0) : Want) := ⟨by show (0 : Int) ≤ 0; decide, by show (0 : Int) < n; omega, .inl rfl⟩
          refine hN _ _ ⟨D, acc, _, l, way, vp, r, sz, rfl, sm.every s5 hD hl5 hr5 (fun u hu => (List.mem_filter.mp hu).1) (filter_ne (hd (by omega) _ hw0) (by rfl)) (Nat.le_trans (List.length_filter_le _ _) sm.sz), (fun h => by omega), hr1.keep (keep_of s5), hr2, z0, z1, ?_⟩
          have := List.length_filter_le (fun u : Rule => decide ((u.1.1 - u.2.1) % 2 = 0)) us
          omega
      · rw [decide_eq_false c]
        exact iteF (hN _ _ ⟨ae, xs, us, l, way, vp, r, sz, rfl, sm, fun h => hd (by omega), hr1, hr2, z0, z1, by omega⟩)
    -- the draws
    refine cut (StF K R n H 18) (fun N hN => ?_) (fun σ H2 hI => ?_)
    · obtain ⟨ae, xs, us, l, way, vp, r, sz, rfl, sm, hd, hr1, hr2, z0, z1, hS⟩ := hI
      obtain ⟨e5, he5, f0, f1⟩ : ∃ e5 : Int, (if decide (V.int way = V.int 5) = true then (1 : Int) else 0) = e5 ∧ 0 ≤ e5 ∧ e5 ≤ 1 := by
        refine ⟨_, rfl, ?_⟩
        split <;> constructor <;> decide
      refine ⟨_, rfl, _, rfl, rfl, .inr ⟨_, rfl, _, _, rfl, rfl, .inl ⟨by decide, by decide⟩, _, _, rfl, rfl, sz + 2 * e5, ?_, by omega, by omega, ?_⟩⟩
      · rw [he5]
      have hxl := sm.hx.len
      have hne := sm.ne
      have hsz := sm.sz
      refine for_it (n := (sz + 2 * e5).toNat) walk_range (fun i σ H' => ∃ ys fs o8, σ = [some (.ref R.L), some (.int n), some (.ref ae), some (.ref l), some (.int way), some vp, some (.int sz), none, o8, none] ∧ Sm K R n H H' ae l xs us ys fs ∧ RowAt H' vp r ∧ fs.length = i) ⟨[], [], none, rfl, sm, hr1, rfl⟩ (fun _ _ _ _ _ => trivial) (fun i x σ H4 H5 hi p y => ?_) fun σ H' p => ?_
      · obtain ⟨ys, fs, o8, rfl, sm, hr1, hfl⟩ := p
        obtain ⟨rfl, rfl⟩ := y
        have hyl := sm.hy.len
        refine ⟨_, rfl, .inl ⟨rfl, _, SqL.of sm.hf⟩, _, rfl, _, rfl, R, ae, xs, rfl, sm.he, sm.heL, by omega, by omega, sm.st, fun v H6 hv mv6 st6 => ?_⟩
        obtain ⟨u, hu1, hu2⟩ := sm.hx.mem hv
        have k6 := sm.st.keep mv6
        have sm6 := sm.move mv6 st6
        exact ⟨l, ys, v, rfl, rfl, sm6.hf, line_lt (by omega), _, _, _, rfl, sm6.add (hu2.keep k6) (sm.ok u hu1), (hr1.keep k6).keep (keep_lst sm6.hf), by rw [List.length_append, hfl]; rfl⟩
      · obtain ⟨ys, fs, o8, rfl, sm, hr1, hfl⟩ := p
        exact hN _ _ ⟨ae, xs, us, l, way, vp, r, sz, ys, fs, o8, none, rfl, sm, hr1, hr2, by omega⟩
    -- way 6
    refine cut (StF K R n H 30) (fun N hN => ?_) (fun σ H2 hI => ?_)
    · obtain ⟨ae, xs, us, l, way, vp, r, sz, ys, fs, o8, o9, rfl, sm, hr1, hr2, hfl⟩ := hI
      refine ⟨_, rfl, rfl, _, rfl, ?_⟩
      rw [eq_dec]
      by_cases c : way = 6
      · rw [decide_eq_true c]
        refine iteT ?_
        refine ⟨_, rfl, _, _, rfl, rfl, _, rfl, by omega, by omega, ?_⟩
        refine for_it (n := ((n : Int) - 1).toNat) walk_range (fun i σ H' => ∃ l ys fs o9, σ = [some (.ref R.L), some (.int n), some (.ref ae), some (.ref l), some (.int way), some vp, some (.int sz), none, o8, o9] ∧ Sm K R n H H' ae l xs us ys fs ∧ RowAt H' vp r ∧ fs.length ≤ 18 + 2 * i) ⟨l, ys, fs, o9, rfl, sm, hr1, by omega⟩ (fun _ _ _ _ _ => trivial) (fun i x σ H4 H5 hi p y => ?_) fun σ H' p => ?_
        · obtain ⟨l, ys, fs, o9, rfl, sm, hr1, hfl⟩ := p
          obtain ⟨rfl, hxe⟩ := y
          cases (hxe.trans (congrArg V.int (zadd i)) : x = .int (i : Nat))
          obtain ⟨pa, rfl, hpa⟩ := id hr1
          have hi1 : i < r.length := by rw [hr2.1]; omega
          have hi2 : i + 1 < r.length := by rw [hr2.1]; omega
          have g1 : atI (r.map V.int) ((i : Nat) : Int) = some (.int (at_ r i)) := atI_nat (row_get hi1)
          have g2 : atI (r.map V.int) (((i : Nat) : Int) + 1) = some (.int (at_ r (i + 1))) := atI_nat (row_get hi2)
          have b1 := at_bit hr2 i
          have b2 := at_bit hr2 (i + 1)
          have okr : ∀ x y : Int, (x = 0 ∨ x = 1) → (y = 0 ∨ y = 1) → RuleOk n ((((i : Nat) : Int), x), (((i : Nat) : Int) + 1, y)) := fun x y hx hy => ⟨⟨by show (0 : Int) ≤ (i : Nat); omega, by show ((i : Nat) : Int) < n; omega, hx⟩, ⟨by show (0 : Int) ≤ (i : Nat) + 1; omega, by show ((i : Nat) : Int) + 1 < n; omega, hy⟩, .inl (.inl (by show ((i : Nat) : Int) < (i : Nat) + 1; omega)), fun e => by
            have e1 : ((i : Nat) : Int) + 1 = (i : Nat) := congrArg Prod.fst e
            omega⟩
          refine cut (fun σ H' => ∃ ys fs, σ = [some (.ref R.L), some (.int n), some (.ref ae), some (.ref l), some (.int way), some (.ref pa), some (.int sz), none, o8, some (.int (i : Nat))] ∧ Sm K R n H H' ae l xs us ys fs ∧ H' pa = some (.tup (r.map V.int)) ∧ fs.length ≤ 19 + 2 * i) (fun N hN => ?_) (fun σ H6 hI => ?_)
          · have hyl := sm.hy.len
            refine ⟨_, rfl, .inl ⟨rfl, _, SqL.of sm.hf⟩, _, rfl, _, rfl, _, rfl, pa, _, _, _, rfl, rfl, SqT.of hpa, g1, by show 2 ≤ sizeLine; decide, fun t1 ht1 => ?_⟩
            have m1 := same_new (o := .tup [V.int (i : Nat), V.int (at_ r i)]) ht1
            refine ⟨_, rfl, _, _, rfl, rfl, _, rfl, _, rfl, _, _, rfl, rfl, pa, _, _, _, rfl, rfl, SqT.of (m1 _ _ hpa), g2, _, _, rfl, rfl, by show 2 ≤ sizeLine; decide, fun t2 ht2 => ?_⟩
            have m2 := same_new (o := .tup [V.int (((i : Nat) : Int) + 1), V.int (1 - at_ r (i + 1))]) ht2
            refine ⟨by show 2 ≤ sizeLine; decide, fun t3 ht3 => ?_⟩
            have m3 := same_new (o := .tup [V.ref t1, V.ref t2]) ht3
            have m4 := m1.trans (m2.trans m3)
            have sm4 := sm.same m4
            refine ⟨l, ys, .ref t3, rfl, rfl, sm4.hf, line_lt (by omega), hN _ _ ⟨_, _, rfl, sm4.add ⟨_, _, ⟨t3, rfl, upd_same⟩, ⟨t1, rfl, m3 _ _ (m2 _ _ upd_same)⟩, ⟨t2, rfl, m3 _ _ upd_same⟩⟩ (okr (at_ r i) (1 - at_ r (i + 1)) b1 (by omega)), keep_lst sm4.hf _ _ (m4 _ _ hpa), by rw [List.length_append]; show fs.length + 1 ≤ _; omega⟩⟩
          · obtain ⟨ys, fs, rfl, sm, hpa, hfl⟩ := hI
            have hyl := sm.hy.len
            refine ⟨_, rfl, _, rfl, _, rfl, _, rfl, pa, _, _, _, rfl, rfl, SqT.of hpa, g1, _, _, rfl, rfl, by show 2 ≤ sizeLine; decide, fun t1 ht1 => ?_⟩
            have m1 := same_new (o := .tup [V.int (i : Nat), V.int (1 - at_ r i)]) ht1
            refine ⟨_, rfl, _, _, rfl, rfl, _, rfl, _, rfl, _, _, rfl, rfl, pa, _, _, _, rfl, rfl, SqT.of (m1 _ _ hpa), g2, by show 2 ≤ sizeLine; decide, fun t2 ht2 => ?_⟩
            have m2 := same_new (o := .tup [V.int (((i : Nat) : Int) + 1), V.int (at_ r (i + 1))]) ht2
            refine ⟨by show 2 ≤ sizeLine; decide, fun t3 ht3 => ⟨by show 1 ≤ sizeLine; decide, fun q4 hq4 => ?_⟩⟩
            have m3 := same_new (o := .tup [V.ref t1, V.ref t2]) ht3
            have m4 := same_new (o := .lst [V.ref t3]) hq4
            have m5 := m1.trans (m2.trans (m3.trans m4))
            have sm5 := sm.same m5
            refine ⟨_, rfl, R, 3, rfl, by decide, by decide, sm5.st, fun x H7 x0 x1 mv7 st7 => ?_⟩
            have sm7 := sm5.move mv7 st7
            have k7 := sm5.st.keep mv7
            have hq7 : H7 q4 = some (.lst [.ref t3]) := mv7 _ _ ((sm.same (m1.trans (m2.trans m3))).st.ne hq4) upd_same
            have hru : RuleAt H7 (.ref t3) ((((i : Nat) : Int), 1 - at_ r i), (((i : Nat) : Int) + 1, at_ r (i + 1))) := ⟨_, _, ⟨t3, rfl, k7 _ _ (m4 _ _ upd_same)⟩, ⟨t1, rfl, k7 _ _ (m4 _ _ (m3 _ _ (m2 _ _ upd_same)))⟩, ⟨t2, rfl, k7 _ _ (m4 _ _ (m3 _ _ upd_same))⟩⟩
            have hok := okr (1 - at_ r i) (at_ r (i + 1)) (by omega) b2
            have hpa7 := k7 _ _ (m5 _ _ hpa)
            refine ⟨_, _, rfl, rfl, .inr ⟨_, rfl, ?_⟩⟩
            cases c3 : decide ((0 : Int) < x) with
            | true =>
              refine ⟨q4, 1, [.ref t3], rfl, rfl, hq7, by decide, by decide, (by show 1 * 1 ≤ sizeLine; decide), fun p hp => ?_⟩
              have m8 := same_new (o := .lst (List.replicate (1 : Int).toNat [V.ref t3]).flatten) hp
              have sm8 := sm7.same m8
              refine ⟨l, p, ys, [.ref t3], rfl, rfl, sm8.hf, upd_same, line_of (by show ys.length + 1 ≤ _; omega), fun p2 hp2 => ?_⟩
              have m9 := same_new (o := .lst (ys ++ [V.ref t3])) hp2
              refine ⟨p2, _, fs ++ [_], _, rfl, sm8.found hp2 (Each.app sm8.hy (Each.one (hru.keep (keep_of m8)))) (fun u hu => ?_), ⟨pa, rfl, m9 _ _ (m8 _ _ hpa7)⟩, ?_⟩
              · rcases List.mem_append.mp hu with h | h
                · exact sm.okf u h
                · cases List.mem_singleton.mp h
                  exact hok
              · rw [List.length_append]
                show fs.length + 1 ≤ _
                omega
            | false =>
              refine ⟨q4, 0, [.ref t3], rfl, rfl, hq7, by decide, by decide, (by show 1 * 0 ≤ sizeLine; decide), fun p hp => ?_⟩
              have m8 := same_new (o := .lst (List.replicate (0 : Int).toNat [V.ref t3]).flatten) hp
              have sm8 := sm7.same m8
              refine ⟨l, p, ys, [], rfl, rfl, sm8.hf, upd_same, line_of (by show ys.length + 0 ≤ _; omega), fun p2 hp2 => ?_⟩
              have m9 := same_new (o := .lst (ys ++ [])) hp2
              exact ⟨p2, _, fs ++ [], _, rfl, sm8.found hp2 (Each.app sm8.hy .nil) (fun u hu => sm.okf u (by simpa using hu)), ⟨pa, rfl, m9 _ _ (m8 _ _ hpa7)⟩, by rw [List.append_nil]; omega⟩
        · obtain ⟨l, ys, fs, o9, rfl, sm, hr1, hfl⟩ := p
          exact hN _ _ ⟨ae, xs, us, l, way, vp, r, sz, ys, fs, o8, o9, rfl, sm, hr1, hr2, by omega⟩
      · rw [decide_eq_false c]
        exact iteF (hN _ _ ⟨ae, xs, us, l, way, vp, r, sz, ys, fs, o8, o9, rfl, sm, hr1, hr2, by omega⟩)
    -- the end
    obtain ⟨ae, xs, us, l, way, vp, r, sz, ys, fs, o8, o9, rfl, sm, hr1, hr2, hfl⟩ := hI
    refine ⟨_, rfl, l, ys, fs, rfl, sm.hf, sm.hy, by omega, fun a Ls ha hL nd hlt => ?_⟩
    refine ⟨a, Ls, rfl, upd_same, fun p hp => (hL p hp).1.keep (keep_new ha), nd, hlt, fun p out vs hp ho pw hm hl2 => ?_⟩
    refine ⟨p, out, rfl, .inl ⟨SqL.of upd_same, fun q2 hq2 => ?_⟩⟩
    have m1 := same_new (o := SetUO P w a Ls) ha
    have m2 := same_new (o := .lst out) hp
    have m3 := same_new (o := .tup out) hq2
    have m4 := m1.trans (m2.trans m3)
    refine q _ vs _ ⟨out, ⟨q2, rfl, upd_same⟩, ho.keep (keep_of (m2.trans m3))⟩ ⟨fun u hu => ?_, pw⟩ hl2 (sm.mv.trans (mv_same m4)) (sm.st.same m4)
    obtain ⟨pr, hpr, rfl⟩ := List.mem_map.mp (hm u hu)
    exact sm.okf _ (hL pr hpr).2
end
end MR

set_option Elab.async false
set_option linter.all false
set_option maxRecDepth 100000
set_option maxHeartbeats 4000000
namespace MR
open PySem PySem.Spec PyProof.Rows L2
theorem one_kept {n : Nat} {us : List Rule} (h1 : us.length ≤ 1) (ok : ∀ u, u ∈ us → RuleOk n u) : kept n us ≠ [] := by
  have : ∃ r, r ∈ kept n us := by
    cases us with
    | nil =>
      refine ⟨List.replicate n 0, mem_kept.mpr ⟨⟨List.length_replicate, fun x hx => .inl (List.eq_of_mem_replicate hx)⟩, rfl⟩⟩
    | cons u us =>
      cases us with
      | cons _ _ => simp at h1
      | nil =>
        obtain ⟨⟨a1, a2, a3⟩, _⟩ := ok u (List.mem_cons_self)
        refine ⟨List.replicate n u.1.2, mem_kept.mpr ⟨⟨List.length_replicate, fun x hx => by rw [List.eq_of_mem_replicate hx]; exact a3⟩, ?_⟩⟩
        unfold keepsA keepsR hasW
        have e : at_ (List.replicate n u.1.2) u.1.1.toNat = u.1.2 := by
          unfold at_
          rw [List.getD_eq_getElem?_getD, List.getElem?_replicate, if_pos (by omega)]
          rfl
        show ((decide (at_ (List.replicate n u.1.2) u.1.1.toNat = u.1.2) || _) && true) = true
        rw [e, decide_eq_true rfl]
        rfl
  obtain ⟨r, hr⟩ := this
  intro e
  rw [e] at hr
  cases hr
theorem dp_nil {K : PySem.W.Frag} {H : Hp} {l : Addr} (h : H l = some (.lst [])) : Dp K H (.ref l) (.list ([].map rowD)) := .lst (SqL.of h) .nil
theorem dp_rows {K : PySem.W.Frag} {H : Hp} {l : Addr} {xs : List V} {rs : List Row} (h : H l = some (.lst xs)) (hx : RowsAt H xs rs) : Dp K H (.ref l) (.list (rs.map rowD)) := .lst (SqL.of h) hx.dp
theorem eqv_lists (rs ss : List Row) : PyData.eqv (.list (rs.map rowD)) (.list (ss.map rowD)) = decide (rs = ss) := by
  show PyData.eqvAll (rs.map rowD) (ss.map rowD) = _
  exact eqv_rows rs ss
/-- a comprehension that draws: rows are added, all but the row of draws stands -/
theorem lc_mv {J : It} {n : Nat} {G : Hp → Prop} {Y : Nat → Hp → V → Hp → Prop} (w : Walk J n G Y) {g : TG} {tt : TT} {te : TE} {vs : List Nat} {σ : L2.St} {H1 : Hp} {D : Addr} {Qd : Hp → Prop} {K : PySem.W.Frag} {R : Rw} (Gd : Row → Prop) (hn : n ≤ 1000) (hD : H1 D = none) (st : RowSt K H1 R) (hG : ∀ H, Mv R.L H1 H → G H)
    (hs : ∀ i x H H' (Q : VK) (Qn : Hp → Prop), i < n → Mv R.L H1 H → RowSt K H R → Y i H x H' → (∀ y H4 r, Mv R.L H H4 → RowSt K H4 R → RowAt H4 y r → Gd r → Q y H4) → g x (wipe σ vs) H' fun σ2 H2 => wipe σ2 vs = wipe σ vs ∧ tt σ2 H2 fun b H3 => if b = true then te σ2 H3 Q else Qn H3)
    (hd : ∀ acc rs H, H D = some (.lst acc) → Mv R.L H1 H → RowSt K H R → RowsAt H acc rs → rs.length = n → (∀ r, r ∈ rs → Gd r) → Qd H) :
    Turns J g tt te vs σ H1 D Qd := by
  have hDL : D ≠ R.L := st.ne hD
  have hDF := st.fr hD
  refine lc_it w (fun i H => ∃ acc rs, H D = some (.lst acc) ∧ Mv R.L H1 H ∧ RowSt K H R ∧ RowsAt H acc rs ∧ rs.length = i ∧ ∀ r, r ∈ rs → Gd r) ⟨[], [], upd_same, mv_same (same_new hD), st.same (same_new hD), .nil, rfl, fun r h => by cases h⟩ (fun i H _ ⟨_, _, _, m, _⟩ => hG H m) (fun i x H H' hi ⟨acc, rs, e, m, s, hr, hl, hg⟩ y => ?_) fun H ⟨acc, rs, e, m, s, hr, hl, hg⟩ => hd acc rs H e m s hr hl hg
  refine hs i x H H' _ _ hi m s y fun z H4 r m4 s4 hz hgr => ?_
  have e4 := m4 _ _ hDL e
  have k4 := s.keep m4
  have kd : Keep H4 (upd H4 D (.lst (acc ++ [z]))) := keep_lst e4
  have hal := hr.len
  refine ⟨acc, e4, line_lt (by omega), acc ++ [z], rs ++ [r], upd_same, fun b o hb h => ?_, s4.upd hDL.symm hDF, Each.app ((hr.keep k4).keep kd) (Each.one (hz.keep kd)), by rw [List.length_append, hl]; rfl, fun q hq => ?_⟩
  · rw [upd_ne (ne_of_none h hD)]
    exact m4 _ _ hb (m _ _ hb h)
  · rcases List.mem_append.mp hq with h | h
    · exact hg q h
    · cases List.mem_singleton.mp h
      exact hgr
section
variable {P : Program} {w : World} {K : PySem.W.Frag} {mg : Str → Option Value} {base : Heap} {C CE : Addr}
/-! ### _law_good_rules -/
def Good (H : Hp) (v : V) : Prop := ∃ (n : Nat) (us : List Rule) (t : V), TupAt H v [.int n, t] ∧ 1 ≤ n ∧ n ≤ 7 ∧ RulesT H t us ∧ RulesOk n us ∧ us.length < 64 ∧ kept n us ≠ []
def spGood (K : PySem.W.Frag) : Sp := fun vs H Q _ => ∃ R : Rw, vs = [.ref R.L, .int 7] ∧ RowSt K H R ∧ ∀ v H', Good H' v → Mv R.L H H' → RowSt K H' R → Q v H'
def n_law_good_rules : List Str := ["_law_row", "_law_most_here", "_law_many", "_law_some"]
theorem sc_law_good_rules : FnScope n_law_good_rules ["_law_row", "_law_most_here"] (defScope s_law_good_rules) := ⟨rfl, rfl, rfl, by decide +kernel, rfl, by decide +kernel, by decide +kernel⟩

theorem cal_law_good_rules (D : Df K mg "_law_good_rules" s_law_good_rules) (T : Tx K mg C) (c_law_taken : Cal P w K mg base CX0 1 "_law_taken" (spTaken K)) (c_law_some_rules : Cal P w K mg base CX0 3 "_law_some_rules" (spSome K)) (c_law_kept : Cal P w K mg base CX0 2 "_law_kept" spLKept) : Cal P w K mg base CX0 4 "_law_good_rules" (spGood K) := by
  refine cal_of D sc_law_good_rules (fun _ _ _ _ _ _ us hl => match us, hl with | [_, _], _ => rfl) (fun vs H Q E h => ?_) (fun f cdv A outer s H vs Q E hr h => ?_)
  · obtain ⟨_, rfl, _⟩ := h
    rfl
  · obtain ⟨R, rfl, st, q⟩ := h
    refine ⟨_, (pss_cons (ps_set (i := 2) sc_law_good_rules.nd rfl (Or.inl rfl) (pe_op op_add pe_int (pe_c c_law_taken hr (by decide) (by rfl) (pa_cons (pv 0) (pa_cons (pv 1) pa_nil)))))
      (pss_cons (ps_set (i := 3) sc_law_good_rules.nd rfl (Or.inl rfl) (pe_c c_law_some_rules hr (by decide) (by rfl) (pa_cons (pv 0) (pa_cons (pv 2) pa_nil))))
      (pss_one (ps_ret (pe_tup (pa_cons (pv 2) (pa_cons (pe_ifExp (pt_cmpR (op_neD hr.units) (pe_c c_law_kept hr (by decide) (by rfl) (pa_cons (pv 2) (pa_cons (pv 3) pa_nil))) (pe_lst pa_nil) (nomark _)) (pv 3) (pe_slice sl_tupA (pv 3) po_none (po_some pe_int))) pa_nil))))))), ?_⟩
    refine cut (fun σ H' => ∃ n : Nat, σ = [some (.ref R.L), some (.int 7), some (.int n), none] ∧ 1 ≤ n ∧ n ≤ 7 ∧ Mv R.L H H' ∧ RowSt K H' R) (fun N hN => ?_) (fun σ H1 hI => ?_)
    · refine ⟨_, rfl, _, rfl, R, 7, rfl, by decide, by decide, st, fun x H1 x0 x1 mv1 st1 => ⟨_, _, rfl, rfl, hN _ _ ⟨(1 + x).toNat, ?_, by omega, by omega, mv1, st1⟩⟩⟩
      have e : ((1 + x).toNat : Int) = 1 + x := by omega
      rw [e]
      rfl
    obtain ⟨n, rfl, hn1, hn, mv1, st1⟩ := hI
    refine ⟨_, rfl, _, rfl, R, n, rfl, by omega, by omega, st1, fun t us H2 ht ok hl mv2 st2 => ?_⟩
    obtain ⟨ys, ⟨a, rfl, ha⟩, hu⟩ := id ht
    have hw : ∀ u, u ∈ us → WantOk n u.1 ∧ WantOk n u.2 := fun u h => ⟨(ok.1 u h).1, (ok.1 u h).2.1⟩
    have fin : ∀ t' us' H5, Same H2 H5 → RulesT H5 t' us' → RulesOk n us' → us'.length < 64 → kept n us' ≠ [] → ∀ p, H5 p = none → Q (.ref p) (upd H5 p (.tup [.int n, t'])) := fun t' us' H5 s5 h1 h2 h3 h4 p hp => by
      have m := same_new (o := .tup [.int n, t']) hp
      exact q _ _ ⟨n, us', t', ⟨p, rfl, upd_same⟩, hn1, hn, h1.keep (keep_of m), h2, h3, h4⟩ ((mv1.trans mv2).trans (mv_same (s5.trans m))) (st2.same (s5.trans m))
    refine ⟨_, rfl, _, rfl, _, rfl, n, _, us, rfl, ht, by omega, by omega, hw, fun b xs H3 hb0 hb hx s3 => ⟨Nat.zero_le _, fun c hc => ⟨_, _, dp_rows (same_new hc _ _ hb) (hx.keep (keep_new hc)), dp_nil upd_same, shaped_rows _, shaped_rows [], _, rfl, ?_⟩⟩⟩
    have s4 := s3.trans (same_new (o := .lst []) hc)
    rw [eqv_lists]
    by_cases ck : kept n us = []
    · rw [decide_eq_true ck]
      refine iteF ?_
      have ha4 := s4 _ _ ha
      have hu4 := hu.keep (keep_of s4)
      have ok1 : RulesOk n (us.take 1) := ⟨fun u h => ok.1 u (List.mem_of_mem_take h), ok.2.sublist (List.take_sublist _ _)⟩
      have kp1 : kept n (us.take 1) ≠ [] := one_kept (by rw [List.length_take]; omega) ok1.1
      have l1 : (us.take 1).length < 64 := by rw [List.length_take]; omega
      refine ⟨_, rfl, _, rfl, a, ys, rfl, SqT.of ha4, fun hwh => ?_, fun _ p hp => ?_⟩
      · have e : us.take 1 = us := by
          have h2 : min 1 ys.length = ys.length := hwh.2
          rw [List.take_of_length_le]
          have := hu.len
          omega
        refine ⟨by show 2 ≤ sizeLine; decide, fun p hp => ?_⟩
        rw [e] at ok1 kp1 l1
        exact fin _ us _ s4 ⟨ys, ⟨a, rfl, ha4⟩, hu4⟩ ok1 l1 kp1 p hp
      · rw [cutV_one]
        refine ⟨by show 2 ≤ sizeLine; decide, fun p2 hp2 => ?_⟩
        have m := same_new (o := .tup (ys.take 1)) hp
        exact fin _ (us.take 1) _ (s4.trans m) ⟨ys.take 1, ⟨p, rfl, upd_same⟩, Each.take 1 (hu4.keep (keep_of m))⟩ ok1 l1 kp1 p2 hp2
    · rw [decide_eq_false ck]
      refine iteT ?_
      refine ⟨_, rfl, by show 2 ≤ sizeLine; decide, fun p hp => ?_⟩
      exact fin _ us _ s4 (ht.keep (keep_of s4)) ok hl ck p hp
/-! ### _law_votes -/
def spVotes (K : PySem.W.Frag) : Sp := fun vs H Q _ => ∃ (R : Rw) (a : Addr) (xs : List V) (rs : List Row), vs = [.ref R.L, .ref a, .int 15] ∧ H a = some (.lst xs) ∧ a ≠ R.L ∧ RowsAt H xs rs ∧ rs ≠ [] ∧ rs.length ≤ 1000 ∧ RowSt K H R ∧ ∀ t ws H', RowsT H' t ws → 1 ≤ ws.length → ws.length ≤ 15 → (∀ r, r ∈ ws → r ∈ rs) → Mv R.L H H' → RowSt K H' R → Q t H'
def n_law_votes : List Str := ["_law_row", "_law_rows_here", "_law_most_here", "_law_some", "_law_turn"]
theorem sc_law_votes : FnScope n_law_votes ["_law_row", "_law_rows_here", "_law_most_here"] (defScope s_law_votes) := ⟨rfl, rfl, rfl, by decide +kernel, rfl, by decide +kernel, by decide +kernel⟩

theorem cal_law_votes (D : Df K mg "_law_votes" s_law_votes) (T : Tx K mg C) (c_law_taken : Cal P w K mg base CX0 1 "_law_taken" (spTaken K)) (c_law_pick : Cal P w K mg base CX0 2 "_law_pick" (spPick K)) : Cal P w K mg base CX0 3 "_law_votes" (spVotes K) := by
  refine cal_of D sc_law_votes (fun _ _ _ _ _ _ us hl => match us, hl with | [_, _, _], _ => rfl) (fun vs H Q E h => ?_) (fun f cdv A outer s H vs Q E hr h => ?_)
  · obtain ⟨_, _, _, _, rfl, _⟩ := h
    rfl
  · obtain ⟨R, a, xs, rs, rfl, ha, hn, hx, hne, hz, st, q⟩ := h
    have hxl := hx.len
    have hpos : 0 < rs.length := List.length_pos_iff.mpr hne
    refine ⟨_, (pss_cons (ps_set (i := 3) sc_law_votes.nd rfl (Or.inr rfl) (pe_lc (own := [("_law_turn", 4)]) rfl sc_law_votes.nd (pi_range1 (by rfl) T.b.range (pa_cons (pe_op op_add pe_int (pe_c c_law_taken hr (by decide) (by rfl) (pa_cons (pv 0) (pa_cons pe_int pa_nil)))) pa_nil)) (blkOk_by (N := n_law_votes) (sc := defScope s_law_votes) (by decide +kernel)) (fun _ _ _ _ _ => (pg_name (i := 4) sc_law_votes.nd rfl (Or.inl rfl))) (fun _ _ _ _ _ => pts_nil) (fun _ _ _ _ _ => (pe_c c_law_pick hr (by decide) (by rfl) (pa_cons (pv 0) (pa_cons (pv 1) pa_nil))))))
      (pss_one (ps_ret (pe_callTy call_tuple_of (by rfl) T.b.tuple bt_tuple (pa_cons (pe_lc (own := [("_law_turn", 4)]) rfl sc_law_votes.nd (pi_range1 (by rfl) T.b.range (pa_cons (pe_op op_add pe_int (pe_c c_law_taken hr (by decide) (by rfl) (pa_cons (pv 0) (pa_cons (pv 2) pa_nil)))) pa_nil)) (blkOk_by (N := n_law_votes) (sc := defScope s_law_votes) (by decide +kernel)) (fun _ _ _ _ _ => (pg_name (i := 4) sc_law_votes.nd rfl (Or.inl rfl))) (fun _ _ _ _ _ => pts_nil) (fun _ _ _ _ _ => (pe_c c_law_pick hr (by decide) (by rfl) (pa_cons (pv 0) (pa_cons (pe_ix (ix_listB (K := K) (by rfl)) (pe_lst (pa_cons (pv 1) (pa_cons (pv 3) pa_nil))) (pe_c c_law_taken hr (by decide) (by rfl) (pa_cons (pv 0) (pa_cons pe_int pa_nil))) (fun _ _ => rfl)) pa_nil))))) pa_nil))))), ?_⟩
    refine cut (fun σ H' => ∃ b ys ws, σ = [some (.ref R.L), some (.ref a), some (.int 15), some (.ref b), none] ∧ H' b = some (.lst ys) ∧ b ≠ R.L ∧ RowsAt H' ys ws ∧ 1 ≤ ws.length ∧ ws.length ≤ 4 ∧ (∀ r, r ∈ ws → r ∈ rs) ∧ Mv R.L H H' ∧ RowSt K H' R) (fun N hN => ?_) (fun σ H1 hI => ?_)
    · refine ⟨_, rfl, R, 4, rfl, by decide, by decide, st, fun x H1 x0 x1 mv1 st1 => ⟨_, _, rfl, rfl, 1 + x, rfl, by omega, by omega, fun D hD => ?_⟩⟩
      refine lc_mv (n := (1 + x).toNat) walk_range (fun r => r ∈ rs) (by omega) hD st1 (fun _ _ => trivial) (fun i z H2 H3 Qy Qn hi m2 st2 y q1 => ?_) fun acc ws H2 hl m2 st2 hw hwl hg => ?_
      · obtain ⟨rfl, _⟩ := y
        refine ⟨rfl, tyes ?_⟩
        have mm := mv1.trans m2
        refine ⟨_, rfl, _, rfl, R, a, xs, rfl, mm _ _ hn ha, hn, by omega, by omega, st2, fun v H4 hv m4 st4 => ?_⟩
        obtain ⟨r, hr1, hr2⟩ := (hx.keep (st.keep (mm.trans m4))).mem hv
        exact q1 v H4 r m4 st4 hr2 hr1
      · exact hN _ _ ⟨D, acc, ws, rfl, hl, st1.ne hD, hw, by omega, by omega, hg, mv1.trans m2, st2⟩
    obtain ⟨b, ys, ws, rfl, hb, hbL, hw, w1, w4, hg, mv1, st1⟩ := hI
    refine ⟨_, rfl, _, rfl, R, 15, rfl, by decide, by decide, st1, fun x H2 x0 x1 mv2 st2 => ⟨_, _, rfl, rfl, 1 + x, rfl, by omega, by omega, fun D hD => ?_⟩⟩
    refine lc_mv (n := (1 + x).toNat) walk_range (fun r => r ∈ rs) (by omega) hD st2 (fun _ _ => trivial) (fun i z H3 H4 Qy Qn hi m3 st3 y q1 => ?_) fun acc vs2 H3 hl m3 st3 hw2 hwl hg2 => ?_
    · obtain ⟨rfl, _⟩ := y
      refine ⟨rfl, tyes ?_⟩
      refine ⟨_, rfl, _, rfl, _, rfl, by show 2 ≤ sizeLine; decide, fun l hl => ⟨_, rfl, R, 2, rfl, by decide, by decide, st3.same (same_new hl), fun z2 H5 z0 z1 m5 st5 => ?_⟩⟩
      have s4 := same_new (o := .lst [V.ref a, V.ref b]) hl
      have hlL := st3.ne hl
      have mm := (mv2.trans m3).trans ((mv_same s4).trans m5)
      have hl5 : H5 l = some (.lst [.ref a, .ref b]) := m5 _ _ hlL upd_same
      have ha5 : H5 a = some (.lst xs) := (mv1.trans mm) _ _ hn ha
      have hb5 : H5 b = some (.lst ys) := mm _ _ hbL hb
      have hx5 := hx.keep (st.keep (mv1.trans mm))
      have hw5 := hw.keep (st1.keep mm)
      have m35 : Mv R.L H4 H5 := (mv_same s4).trans m5
      rcases (by omega : z2 = 0 ∨ z2 = 1) with rfl | rfl
      · refine ⟨l, _, 0, _, rfl, rfl, SqL.of hl5, rfl, R, a, xs, rfl, ha5, hn, by omega, by omega, st5, fun v H6 hv m6 st6 => ?_⟩
        obtain ⟨r, hr1, hr2⟩ := (hx5.keep (st5.keep m6)).mem hv
        exact q1 v H6 r (m35.trans m6) st6 hr2 hr1
      · have hyl := hw5.len
        refine ⟨l, _, 1, _, rfl, rfl, SqL.of hl5, rfl, R, b, ys, rfl, hb5, hbL, by omega, by omega, st5, fun v H6 hv m6 st6 => ?_⟩
        obtain ⟨r, hr1, hr2⟩ := (hw5.keep (st5.keep m6)).mem hv
        exact q1 v H6 r (m35.trans m6) st6 hr2 (hg r hr1)
    · refine ⟨D, acc, rfl, .inl ⟨SqL.of hl, fun t ht => ?_⟩⟩
      have s4 := same_new (o := .tup acc) ht
      exact q _ vs2 _ ⟨acc, ⟨t, rfl, upd_same⟩, hw2.keep (keep_of s4)⟩ (by omega) (by omega) hg2 ((mv1.trans (mv2.trans m3)).trans (mv_same s4)) (st3.same s4)
/-! ### _law_alike: ints and one text; rows; lists of rows -/
theorem kit_int_tuple (K : PySem.W.Frag) : PySem.W.kitOne K (.type "int") (.type "tuple") = some false := kit_ty (by decide +kernel)
theorem kit_int_list (K : PySem.W.Frag) : PySem.W.kitOne K (.type "int") (.type "list") = some false := kit_ty (by decide +kernel)
theorem kit_str_tuple (K : PySem.W.Frag) : PySem.W.kitOne K (.type "str") (.type "tuple") = some false := kit_ty (by decide +kernel)
theorem kit_str_list (K : PySem.W.Frag) : PySem.W.kitOne K (.type "str") (.type "list") = some false := kit_ty (by decide +kernel)
theorem kit_list_tuple (K : PySem.W.Frag) : PySem.W.kitOne K (.type "list") (.type "tuple") = some false := kit_ty (by decide +kernel)
theorem any_none {K : PySem.W.Frag} {t : Value} (h1 : PySem.W.kitOne K t (.type "tuple") = some false) (h2 : PySem.W.kitOne K t (.type "list") = some false) : PySem.W.kitAny K t [.type "tuple", .type "list"] = some false := kitAny_cons h1 (fun _ => kitAny_cons h2 (fun _ => kitAny_nil) fun z => Bool.noConfusion z) fun z => Bool.noConfusion z
theorem any_tup {K : PySem.W.Frag} : PySem.W.kitAny K (.type "tuple") [.type "tuple", .type "list"] = some true := kitAny_cons (kit_tuple_tuple K) (fun z => Bool.noConfusion z) fun _ => rfl
theorem any_lst {K : PySem.W.Frag} : PySem.W.kitAny K (.type "list") [.type "tuple", .type "list"] = some true := kitAny_cons (kit_list_tuple K) (fun _ => kitAny_cons (kit_list_list K) (fun z => Bool.noConfusion z) fun _ => rfl) fun z => Bool.noConfusion z
theorem two_ty : Paired ClsV [V.ty "tuple", V.ty "list"] [Value.type "tuple", Value.type "list"] := .cons (.ty "tuple") (.cons (.ty "list") .nil)
def spAlike0 : Sp := fun vs H Q _ => ((∃ i : Int, vs = [.int i, .int i]) ∨ vs = [.str "even", .str "even"]) ∧ ∀ H', Same H H' → Q (.bl true) H'
def n_law_alike : List Str := ["_law_found", "_law_due", "_law_k"]
theorem sc_law_alike : FnScope n_law_alike ["_law_found", "_law_due"] (defScope s_law_alike) := ⟨rfl, rfl, rfl, by decide +kernel, rfl, by decide +kernel, by decide +kernel⟩

theorem alike0_body (T : Tx K mg C) {k : Nat} (f : Addr) (cdv : Value) (A : Around) (outer : List Env) (s : Shared) (H : Hp) (vs : List V) (Q : VK) (E : XK) (hr : Room k (A.deeper (envOfC "_law_alike" (defScope s_law_alike) s.heap.objs.size f cdv))) (h : spAlike0 vs H Q E) :
    ∃ t, PSs (cxOf CX0 P w K mg base n_law_alike "_law_alike" (defScope s_law_alike) f cdv A outer s H E).nox (defBody s_law_alike) t ∧ t { nx := fun _ H' => Q .non H', rt := Q } (start n_law_alike vs) H := by
  obtain ⟨h, q⟩ := h
  refine ⟨_, (pss_cons (ps_if (pt_val (pe_callB call_isiT (by rfl) T.b.isinstance bt_isinstance (pa_cons (pv 1) (pa_cons (pe_tup (pa_cons (pe_bltn (v := .ty "tuple") (by rfl) T.b.tuple bt_tuple rfl) (pa_cons (pe_bltn (v := .ty "list") (by rfl) T.b.list bt_list rfl) pa_nil))) pa_nil)))) (pss_cons ps_never
      (pss_cons ps_never
      (pss_one ps_never))) pss_nil)
      (pss_cons (ps_if (PW.pt (pw_or (pt_cmpR op_isN (pv 1) pe_non (nomark _)) (pw_or1 (pt_val (pe_callB call_isi (by rfl) T.b.isinstance bt_isinstance (pa_cons (pv 1) (pa_cons (pe_bltn (v := .ty "str") (by rfl) T.b.str bt_str rfl) pa_nil))))))) (pss_one (ps_ret (pe_and (pe_cmpR op_eq (pv 0) (pv 1) (nomark _)) (pe_one (pe_cmpR op_eq (pe_callB call_isi (by rfl) T.b.isinstance bt_isinstance (pa_cons (pv 0) (pa_cons (pe_bltn (v := .ty "str") (by rfl) T.b.str bt_str rfl) pa_nil))) (pe_callB call_isi (by rfl) T.b.isinstance bt_isinstance (pa_cons (pv 1) (pa_cons (pe_bltn (v := .ty "str") (by rfl) T.b.str bt_str rfl) pa_nil))) (nomark _)))))) pss_nil)
      (pss_one (ps_ret (pe_and (pe_callB call_isi (by rfl) T.b.isinstance bt_isinstance (pa_cons (pv 0) (pa_cons (pe_bltn (v := .ty "int") (by rfl) T.b.int bt_int rfl) pa_nil))) (pe_and (pe_cmpR op_eq (pe_callB call_isi (by rfl) T.b.isinstance bt_isinstance (pa_cons (pv 0) (pa_cons (pe_bltn (v := .ty "bool") (by rfl) T.b.bool bt_bool rfl) pa_nil))) (pe_callB call_isi (by rfl) T.b.isinstance bt_isinstance (pa_cons (pv 1) (pa_cons (pe_bltn (v := .ty "bool") (by rfl) T.b.bool bt_bool rfl) pa_nil))) (nomark _)) (pe_one (pe_cmpR op_eq (pv 0) (pv 1) (nomark _))))))))), ?_⟩
  rcases h with ⟨i, rfl⟩ | rfl
  · refine ⟨_, rfl, by show 2 ≤ sizeLine; decide, fun p hp => ⟨_, p, _, _, _, false, rfl, upd_same, two_ty, tyx_int i, any_none (kit_int_tuple K) (kit_int_list K), _, rfl, iteF ?_⟩⟩
    have s1 := same_new (o := .tup [V.ty "tuple", V.ty "list"]) hp
    refine ⟨_, rfl, rfl, _, rfl, iteF ?_⟩
    refine ⟨_, rfl, _, _, _, _, false, rfl, .ty "str", tyx_int i, kit_int_str K, _, rfl, iteF ?_⟩
    refine ⟨_, rfl, _, _, _, _, true, rfl, .ty "int", tyx_int i, kit_int_int K, _, rfl, iteT ?_⟩
    refine ⟨_, rfl, _, _, _, _, false, rfl, .ty "bool", tyx_int i, kit_int_bool K, _, rfl, _, _, _, _, false, rfl, .ty "bool", tyx_int i, kit_int_bool K, rfl, _, rfl, iteT ?_⟩
    refine ⟨_, rfl, _, rfl, rfl, ?_⟩
    rw [decide_eq_true rfl]
    exact q _ s1
  · refine ⟨_, rfl, by show 2 ≤ sizeLine; decide, fun p hp => ⟨_, p, _, _, _, false, rfl, upd_same, two_ty, tyx_str _, any_none (kit_str_tuple K) (kit_str_list K), _, rfl, iteF ?_⟩⟩
    have s1 := same_new (o := .tup [V.ty "tuple", V.ty "list"]) hp
    refine ⟨_, rfl, rfl, _, rfl, iteF ?_⟩
    refine ⟨_, rfl, _, _, _, _, true, rfl, .ty "str", tyx_str _, kit_str_str K, _, rfl, iteT ?_⟩
    refine ⟨_, rfl, _, rfl, rfl, _, rfl, ?_⟩
    rw [decide_eq_true rfl]
    refine iteT ?_
    refine ⟨_, rfl, _, _, _, _, true, rfl, .ty "str", tyx_str _, kit_str_str K, _, rfl, _, _, _, _, true, rfl, .ty "str", tyx_str _, kit_str_str K, rfl, ?_⟩
    exact q _ s1
theorem alike0_len (vs : List V) (H : Hp) (Q : VK) (E : XK) (h : spAlike0 vs H Q E) : vs.length = 2 := by
  obtain ⟨⟨_, rfl⟩ | rfl, _⟩ := h <;> rfl
theorem cal_law_alike0 (D : Df K mg "_law_alike" s_law_alike) (T : Tx K mg C) : Cal P w K mg base CX0 1 "_law_alike" spAlike0 :=
  cal_of D sc_law_alike (fun _ _ _ _ _ _ us hl => match us, hl with | [_, _], _ => rfl) alike0_len (fun f cdv A outer s H vs Q E hr h => alike0_body T f cdv A outer s H vs Q E hr h)
theorem fm_none {α β : Type} : ∀ as : List α, as.filterMap (fun _ => (none : Option β)) = []
  | [] => rfl
  | a :: as => by rw [List.filterMap_cons, fm_none as]
theorem each_nil {P : V → Row → Prop} {acc : List V} (h : Each P acc []) : acc = [] := by cases h; rfl
def spAlike1 : Sp := fun vs H Q _ => ∃ (x y : V) (r : Row), vs = [x, y] ∧ RowAt H x r ∧ RowAt H y r ∧ r.length ≤ 1000 ∧ ∀ H', Same H H' → Q (.bl true) H'
theorem cal_law_alike1 (D : Df K mg "_law_alike" s_law_alike) (T : Tx K mg C) (c_law_alike : Cal P w K mg base CX0 1 "_law_alike" spAlike0) : Cal P w K mg base CX0 2 "_law_alike" (fun vs H Q E => spAlike0 vs H Q E ∨ spAlike1 vs H Q E) := by
  refine cal_of D sc_law_alike (fun _ _ _ _ _ _ us hl => match us, hl with | [_, _], _ => rfl) (fun vs H Q E h => ?_) (fun f cdv A outer s H vs Q E hr h => ?_)
  · rcases h with h | h
    · exact alike0_len vs H Q E h
    obtain ⟨_, _, _, rfl, _⟩ := h
    rfl
  · rcases h with h | h
    · exact alike0_body T f cdv A outer s H vs Q E hr h
    obtain ⟨x, y, r, rfl, ⟨a, rfl, ha⟩, ⟨b, rfl, hb⟩, hz, q⟩ := h
    refine ⟨_, (pss_cons (ps_if (pt_val (pe_callB call_isiT (by rfl) T.b.isinstance bt_isinstance (pa_cons (pv 1) (pa_cons (pe_tup (pa_cons (pe_bltn (v := .ty "tuple") (by rfl) T.b.tuple bt_tuple rfl) (pa_cons (pe_bltn (v := .ty "list") (by rfl) T.b.list bt_list rfl) pa_nil))) pa_nil)))) (pss_cons (ps_if (PW.pt (pw_or (pt_not (pt_val (pe_callB call_isiT (by rfl) T.b.isinstance bt_isinstance (pa_cons (pv 0) (pa_cons (pe_tup (pa_cons (pe_bltn (v := .ty "tuple") (by rfl) T.b.tuple bt_tuple rfl) (pa_cons (pe_bltn (v := .ty "list") (by rfl) T.b.list bt_list rfl) pa_nil))) pa_nil))))) (pw_or1 (pt_cmpR op_ne (pe_callB call_isi (by rfl) T.b.isinstance bt_isinstance (pa_cons (pv 0) (pa_cons (pe_bltn (v := .ty "list") (by rfl) T.b.list bt_list rfl) pa_nil))) (pe_callB call_isi (by rfl) T.b.isinstance bt_isinstance (pa_cons (pv 1) (pa_cons (pe_bltn (v := .ty "list") (by rfl) T.b.list bt_list rfl) pa_nil))) (nomark _))))) (pss_one (ps_ret pe_bl)) pss_nil)
      (pss_cons (ps_if (pt_cmpR op_ne (pe_callB call_len_seq (by rfl) T.b.len bt_len (pa_cons (pv 0) pa_nil)) (pe_callB call_len_seq (by rfl) T.b.len bt_len (pa_cons (pv 1) pa_nil)) (nomark _)) (pss_one (ps_ret pe_bl)) pss_nil)
      (pss_one (ps_ret (pe_cmpR (op_eqD hr.units) (pe_lc (own := [("_law_k", 2)]) rfl sc_law_alike.nd (pi_range1 (by rfl) T.b.range (pa_cons (pe_callB call_len_seq (by rfl) T.b.len bt_len (pa_cons (pv 1) pa_nil)) pa_nil)) (blkOk_by (N := n_law_alike) (sc := defScope s_law_alike) (by decide +kernel)) (fun _ _ _ _ _ => (pg_name (i := 2) sc_law_alike.nd rfl (Or.inl rfl))) (fun _ _ _ _ _ => pts_one (pt_not (pt_val (pe_c c_law_alike hr (by decide) (by rfl) (pa_cons (pe_ix (ix_tupB (K := K) (by rfl)) (pv 0) (pv 2) (fun _ _ => rfl)) (pa_cons (pe_ix (ix_tupB (K := K) (by rfl)) (pv 1) (pv 2) (fun _ _ => rfl)) pa_nil)))))) (fun _ _ _ _ _ => (pv 2))) (pe_lst pa_nil) (nomark _)))))) pss_nil)
      (pss_cons ps_never
      (pss_one ps_never))), ?_⟩
    refine ⟨_, rfl, by show 2 ≤ sizeLine; decide, fun p hp => ⟨_, p, _, _, _, true, rfl, upd_same, two_ty, tyx_tup (same_new hp _ _ hb), any_tup, _, rfl, iteT ?_⟩⟩
    have s1 := same_new (o := .tup [V.ty "tuple", V.ty "list"]) hp
    refine ⟨_, rfl, by show 2 ≤ sizeLine; decide, fun p2 hp2 => ⟨_, p2, _, _, _, true, rfl, upd_same, two_ty, tyx_tup (same_new hp2 _ _ (s1 _ _ ha)), any_tup, _, rfl, iteF ?_⟩⟩
    have s2 := s1.trans (same_new (o := .tup [V.ty "tuple", V.ty "list"]) hp2)
    have ha2 := s2 _ _ ha
    have hb2 := s2 _ _ hb
    refine ⟨_, rfl, _, _, _, _, false, rfl, .ty "list", tyx_tup ha2, kit_tuple_list K, _, rfl, _, _, _, _, false, rfl, .ty "list", tyx_tup hb2, kit_tuple_list K, rfl, _, rfl, iteF ?_⟩
    refine ⟨_, rfl, a, _, rfl, .inr (SqT.of ha2), _, rfl, b, _, rfl, .inr (SqT.of hb2), rfl, _, rfl, ?_⟩
    rw [decide_eq_true rfl]
    refine iteF ?_
    refine ⟨_, rfl, b, _, rfl, .inr (SqT.of hb2), r.length, ?_, by omega, by omega, fun D hD => ?_⟩
    · rw [List.length_map]
    refine lc_fm (n := ((r.length : Nat) : Int).toNat) walk_range (List.range r.length) (fun _ => (none : Option Row)) (fun _ _ _ => True) (fun _ _ _ _ _ h => h) (by rw [List.length_range]; omega) (by omega) hD (fun _ _ => trivial) (fun i z H1 H2 k Qy Qn hk s3 y qy qn => ?_) fun acc H' hl s3 hr2 => ?_
    · obtain ⟨rfl, hxe⟩ := y
      have hi : i < r.length := by have := (List.getElem?_eq_some_iff.mp hk).1; rw [List.length_range] at this; exact this
      cases (hxe.trans (congrArg V.int (zadd i)) : z = .int (i : Nat))
      refine ⟨rfl, ?_⟩
      refine ⟨_, rfl, _, rfl, a, _, _, _, rfl, rfl, SqT.of (s3 _ _ ha2), atI_nat (row_get hi), _, rfl, _, rfl, b, _, _, _, rfl, rfl, SqT.of (s3 _ _ hb2), atI_nat (row_get hi), .inl ⟨_, rfl⟩, fun H4 s4 => ⟨_, rfl, iteF (qn rfl H4 s4)⟩⟩
    · rw [fm_none] at hr2
      have e := each_nil (P := fun _ _ => True) hr2
      subst e
      refine ⟨Nat.zero_le _, fun l hl2 => ⟨_, _, dp_nil (same_new hl2 _ _ hl), dp_nil upd_same, shaped_rows [], shaped_rows [], ?_⟩⟩
      exact q _ ((s2.trans s3).trans (same_new hl2))
def spAlike2 : Sp := fun vs H Q _ => ∃ (x y : V) (rs : List Row), vs = [x, y] ∧ RowsL H x rs ∧ RowsL H y rs ∧ (∀ r, r ∈ rs → r.length ≤ 1000) ∧ rs.length ≤ 1000 ∧ ∀ H', Same H H' → Q (.bl true) H'
theorem cal_law_alike2 (D : Df K mg "_law_alike" s_law_alike) (T : Tx K mg C) (c_law_alike : Cal P w K mg base CX0 2 "_law_alike" (fun vs H Q E => spAlike0 vs H Q E ∨ spAlike1 vs H Q E)) : Cal P w K mg base CX0 3 "_law_alike" spAlike2 := by
  refine cal_of D sc_law_alike (fun _ _ _ _ _ _ us hl => match us, hl with | [_, _], _ => rfl) (fun vs H Q E h => ?_) (fun f cdv A outer s H vs Q E hr h => ?_)
  · obtain ⟨_, _, _, rfl, _⟩ := h
    rfl
  · obtain ⟨x, y, rs, rfl, ⟨a, xs, rfl, ha, hx⟩, ⟨b, ys, rfl, hb, hy⟩, hrl, hz, q⟩ := h
    have hxl := hx.len
    have hyl := hy.len
    refine ⟨_, (pss_cons (ps_if (pt_val (pe_callB call_isiT (by rfl) T.b.isinstance bt_isinstance (pa_cons (pv 1) (pa_cons (pe_tup (pa_cons (pe_bltn (v := .ty "tuple") (by rfl) T.b.tuple bt_tuple rfl) (pa_cons (pe_bltn (v := .ty "list") (by rfl) T.b.list bt_list rfl) pa_nil))) pa_nil)))) (pss_cons (ps_if (PW.pt (pw_or (pt_not (pt_val (pe_callB call_isiT (by rfl) T.b.isinstance bt_isinstance (pa_cons (pv 0) (pa_cons (pe_tup (pa_cons (pe_bltn (v := .ty "tuple") (by rfl) T.b.tuple bt_tuple rfl) (pa_cons (pe_bltn (v := .ty "list") (by rfl) T.b.list bt_list rfl) pa_nil))) pa_nil))))) (pw_or1 (pt_cmpR op_ne (pe_callB call_isi (by rfl) T.b.isinstance bt_isinstance (pa_cons (pv 0) (pa_cons (pe_bltn (v := .ty "list") (by rfl) T.b.list bt_list rfl) pa_nil))) (pe_callB call_isi (by rfl) T.b.isinstance bt_isinstance (pa_cons (pv 1) (pa_cons (pe_bltn (v := .ty "list") (by rfl) T.b.list bt_list rfl) pa_nil))) (nomark _))))) (pss_one (ps_ret pe_bl)) pss_nil)
      (pss_cons (ps_if (pt_cmpR op_ne (pe_callB call_len_seq (by rfl) T.b.len bt_len (pa_cons (pv 0) pa_nil)) (pe_callB call_len_seq (by rfl) T.b.len bt_len (pa_cons (pv 1) pa_nil)) (nomark _)) (pss_one (ps_ret pe_bl)) pss_nil)
      (pss_one (ps_ret (pe_cmpR (op_eqD hr.units) (pe_lc (own := [("_law_k", 2)]) rfl sc_law_alike.nd (pi_range1 (by rfl) T.b.range (pa_cons (pe_callB call_len_seq (by rfl) T.b.len bt_len (pa_cons (pv 1) pa_nil)) pa_nil)) (blkOk_by (N := n_law_alike) (sc := defScope s_law_alike) (by decide +kernel)) (fun _ _ _ _ _ => (pg_name (i := 2) sc_law_alike.nd rfl (Or.inl rfl))) (fun _ _ _ _ _ => pts_one (pt_not (pt_val (pe_c c_law_alike hr (by decide) (by rfl) (pa_cons (pe_ix (ix_listB (K := K) (by rfl)) (pv 0) (pv 2) (fun _ _ => rfl)) (pa_cons (pe_ix (ix_listB (K := K) (by rfl)) (pv 1) (pv 2) (fun _ _ => rfl)) pa_nil)))))) (fun _ _ _ _ _ => (pv 2))) (pe_lst pa_nil) (nomark _)))))) pss_nil)
      (pss_cons ps_never
      (pss_one ps_never))), ?_⟩
    refine ⟨_, rfl, by show 2 ≤ sizeLine; decide, fun p hp => ⟨_, p, _, _, _, true, rfl, upd_same, two_ty, tyx_lst (same_new hp _ _ hb), any_lst, _, rfl, iteT ?_⟩⟩
    have s1 := same_new (o := .tup [V.ty "tuple", V.ty "list"]) hp
    refine ⟨_, rfl, by show 2 ≤ sizeLine; decide, fun p2 hp2 => ⟨_, p2, _, _, _, true, rfl, upd_same, two_ty, tyx_lst (same_new hp2 _ _ (s1 _ _ ha)), any_lst, _, rfl, iteF ?_⟩⟩
    have s2 := s1.trans (same_new (o := .tup [V.ty "tuple", V.ty "list"]) hp2)
    have ha2 := s2 _ _ ha
    have hb2 := s2 _ _ hb
    refine ⟨_, rfl, _, _, _, _, true, rfl, .ty "list", tyx_lst ha2, kit_list_list K, _, rfl, _, _, _, _, true, rfl, .ty "list", tyx_lst hb2, kit_list_list K, rfl, _, rfl, iteF ?_⟩
    refine ⟨_, rfl, a, _, rfl, .inl (SqL.of ha2), _, rfl, b, _, rfl, .inl (SqL.of hb2), rfl, _, rfl, ?_⟩
    rw [hxl, hyl, decide_eq_true rfl]
    refine iteF ?_
    refine ⟨_, rfl, b, _, rfl, .inl (SqL.of hb2), rs.length, ?_, by omega, by omega, fun D hD => ?_⟩
    · rw [hyl]
    refine lc_fm (n := ((rs.length : Nat) : Int).toNat) walk_range (List.range rs.length) (fun _ => (none : Option Row)) (fun _ _ _ => True) (fun _ _ _ _ _ h => h) (by rw [List.length_range]; omega) (by omega) hD (fun _ _ => trivial) (fun i z H1 H2 k Qy Qn hk s3 y qy qn => ?_) fun acc H' hl s3 hr2 => ?_
    · obtain ⟨rfl, hxe⟩ := y
      have hi : i < rs.length := by have := (List.getElem?_eq_some_iff.mp hk).1; rw [List.length_range] at this; exact this
      cases (hxe.trans (congrArg V.int (zadd i)) : z = .int (i : Nat))
      have s4 := s2.trans s3
      obtain ⟨v1, hv1, hr1⟩ := (hx.keep (keep_of s4)).at (List.getElem?_eq_getElem hi)
      obtain ⟨v2, hv2, hr3⟩ := (hy.keep (keep_of s4)).at (List.getElem?_eq_getElem hi)
      refine ⟨rfl, ?_⟩
      refine ⟨_, rfl, _, rfl, a, _, _, _, rfl, rfl, SqL.of (s3 _ _ ha2), atI_nat hv1, _, rfl, _, rfl, b, _, _, _, rfl, rfl, SqL.of (s3 _ _ hb2), atI_nat hv2, .inr ⟨v1, v2, _, rfl, hr1, hr3, hrl _ (List.getElem_mem hi), fun H4 s4 => ⟨_, rfl, iteF (qn rfl H4 s4)⟩⟩⟩
    · rw [fm_none] at hr2
      have e := each_nil (P := fun _ _ => True) hr2
      subst e
      refine ⟨Nat.zero_le _, fun l hl2 => ⟨_, _, dp_nil (same_new hl2 _ _ hl), dp_nil upd_same, shaped_rows [], shaped_rows [], ?_⟩⟩
      exact q _ ((s2.trans s3).trans (same_new hl2))
end
end MR

set_option Elab.async false
set_option linter.all false
set_option maxRecDepth 100000
set_option maxHeartbeats 8000000
namespace MR
open PySem PySem.Spec PyProof.Rows L2
theorem shaped_il (r : Row) : SeqAt.shaped (.list (r.map .int)) = true := by
  unfold SeqAt.shaped
  have h2 : (PyData.list (r.map .int)).depth = PyData.depthAll (r.map .int) + 1 := rfl
  rw [h2, PySem.W.depth_ints]
  show (PyData.canLayAll0 (r.map .int) && decide _) = true
  rw [lay_ints]
  rfl
theorem eqv_il (r : Row) : PyData.eqv (.list (r.map .int)) (.list []) = decide (r = []) := by
  show PyData.eqvAll (r.map .int) (([] : Row).map .int) = _
  exact eqv_ints r []
theorem dp_il {K : PySem.W.Frag} {H : Hp} {l : Addr} {r : Row} (h : H l = some (.lst (r.map V.int))) : Dp K H (.ref l) (.list (r.map .int)) := .lst (SqL.of h) (dp_ints r)
theorem each_nat : ∀ {acc : List V} {ks : List Nat}, Each (fun v (k : Nat) => v = .int (k : Nat)) acc ks → acc = (ks.map fun k : Nat => (k : Int)).map V.int
  | _, _, .nil => rfl
  | _, _, .cons r t => by rw [r, each_nat t]; rfl
theorem RObj.mv {K : PySem.W.Frag} {C : Addr} {R : Rw} {H H' : Hp} {v : V} {n : Nat} {us : List Rule} (h : RObj C H v n us) (st : RowSt K H R) (m : Mv R.L H H') : RObj C H' v n us := by
  have k := st.keep m
  obtain ⟨p, dx, t, e, q, r⟩ := h
  obtain ⟨_, _, _, h1, _⟩ := st
  exact ⟨p, dx, t, e, m _ _ (by rintro rfl; rw [h1] at q; cases q) q, r.keep k⟩
/-- what stands through the law's turns -/
structure Lw (K : PySem.W.Frag) (C : Addr) (R : Rw) (n : Nat) (us : List Rule) (ro : V) (ar : Addr) (xs : List V) (H : Hp) : Prop where
  hn : 1 ≤ n ∧ n ≤ 7
  hu : UsOk n us
  ne : kept n us ≠ []
  ro : RObj C H ro n us
  har : H ar = some (.lst xs)
  hx : RowsAt H xs (kept n us)
  hL : ar ≠ R.L
  st : RowSt K H R
section
variable {K : PySem.W.Frag} {C : Addr} {R : Rw} {n : Nat} {us : List Rule} {ro : V} {ar : Addr} {xs : List V} {H H' : Hp}
theorem Lw.move (l : Lw K C R n us ro ar xs H) (m : Mv R.L H H') (st : RowSt K H' R) : Lw K C R n us ro ar xs H' := ⟨l.hn, l.hu, l.ne, l.ro.mv l.st m, m _ _ l.hL l.har, l.hx.keep (l.st.keep m), l.hL, st⟩
theorem Lw.same (l : Lw K C R n us ro ar xs H) (s : Same H H') : Lw K C R n us ro ar xs H' := l.move (mv_same s) (l.st.same s)
theorem Lw.len (l : Lw K C R n us ro ar xs H) : xs.length = (kept n us).length ∧ 1 ≤ (kept n us).length ∧ (kept n us).length ≤ 256 := ⟨l.hx.len, List.length_pos_iff.mpr l.ne, Nat.le_trans (List.length_filter_le _ _) (allRows_big (by have := l.hn; omega))⟩
end
section
variable {P : Program} {w : World} {K : PySem.W.Frag} {mg : Str → Option Value} {base : Heap} {C CE : Addr}
def n_law : List Str := ["_law_script", "_law_row", "_law_many", "_law_some", "_law_rules", "_law_rows_here", "_law_turn", "_law_votes_here", "_law_is_odd", "_law_totals", "_law_vote", "_law_one", "_law_best", "_law_at", "_law_found", "_law_due", "_law_few", "_law_k"]
theorem sc_law : FnScope n_law ["_law_script"] (defScope s_law) := ⟨rfl, rfl, rfl, by decide +kernel, rfl, by decide +kernel, by decide +kernel⟩

def sg (v0 : V) (R : Rw) (n : Nat) (t ro : V) (ar : Addr) (o6 o7 o8 o9 o11 o12 o13 o14 o15 o16 : Option V) : L2.St :=
  [some v0, some (.ref R.L), some (.int n), some t, some ro, some (.ref ar), o6, o7, o8, o9, none, o11, o12, o13, o14, o15, o16, none]
def spLaw (K : PySem.W.Frag) : Sp := fun vs H Q _ => ∃ (a : Addr) (ns : List Int), vs = [.ref a] ∧ SqL K H a (ns.map V.int) ∧ ∀ H', Q (.bl true) H'
theorem votes_ok {n : Nat} {us : List Rule} {ws : List Row} (h1 : 1 ≤ ws.length) (h2 : ws.length ≤ 15) (h : ∀ r, r ∈ ws → r ∈ kept n us) : VotesOk n us ws := ⟨h1, h2, fun r hr => mem_kept.mp (h r hr)⟩
theorem ok_of {x : Str} {st : Stmt} {N ps : List Str} {k : Nat} {sp : Sp} {f : Addr} {fd : FuncData} (F : FunD K x x (defArgs st) (defBody st) (defScope st) [] [] f fd) (S : FnScope N ps (defScope st))
    (len : ∀ vs H Q E, sp vs H Q E → vs.length = ps.length)
    (hbody : ∀ (cdv : Value) (A : Around) (outer : List Env) (s : Shared) (H : Hp) (vs : List V) (Q : VK) (E : XK), Room k (A.deeper (envOfC x (defScope st) s.heap.objs.size f cdv)) → sp vs H Q E →
      ∃ t, PSs (cxOf CX0 P w K mg base N x (defScope st) f cdv A outer s H E).nox (defBody st) t ∧ t { nx := fun _ H' => Q .non H', rt := Q } (start N vs) H) : FnOk P w K mg base CX0 (k + 1) f fd ps sp := by
  refine F.ok S len (fun cdv A outer s H vs Q E hr h => ?_)
  obtain ⟨t, h1, h2⟩ := hbody cdv A outer s H vs Q E hr h
  exact ⟨t, h1.nox, h2⟩
theorem ok_law {FIa f : Addr} {fdI fd : FuncData} (F : FunD K "law" "law" (defArgs s_law) (defBody s_law) (defScope s_law) [] [] f fd) (T : Tx K mg C) (M : Mk K C FIa) (FI : FnOk P w K mg base CX0 4 FIa fdI ["self", "many", "rules"] (spInit (C := C))) (bI : Binds K fdI ["self", "many", "rules"] [])
    (c_law_good_rules : Cal P w K mg base CX0 4 "_law_good_rules" (spGood K)) (c_law_kept : Cal P w K mg base CX0 2 "_law_kept" spLKept) (c_law_votes : Cal P w K mg base CX0 3 "_law_votes" (spVotes K)) (c_law_told : Cal P w K mg base CX0 7 "_law_told" (spTold (C := C))) (c_law_most : Cal P w K mg base CX0 1 "_law_most" spMostOf)
    (c_law_alike : Cal P w K mg base CX0 2 "_law_alike" (fun vs H Q E => spAlike0 vs H Q E ∨ spAlike1 vs H Q E)) (c_law_alike2 : Cal P w K mg base CX0 3 "_law_alike" spAlike2) (c_law_apart : Cal P w K mg base CX0 1 "_law_apart" spUnlike) (c_least_totals : Cal P w K mg base CX0 5 "least_totals" (spLeast (C := C))) (c_law_taken : Cal P w K mg base CX0 1 "_law_taken" (spTaken K))
    (c_total_steps : Cal P w K mg base CX0 5 "total_steps" (spTotal (C := C))) (c_keeps : Cal P w K mg base CX0 4 "keeps" (spKeeps (C := C))) (c_most_row : Cal P w K mg base CX0 6 "most_row" (spMostRow0 (C := C))) : FnOk P w K mg base CX0 8 f fd ["_law_script"] (spLaw K) := by
  refine ok_of F sc_law (fun vs H Q E h => ?_) (fun cdv A outer s H vs Q E hr h => ?_)
  · obtain ⟨_, _, rfl, _⟩ := h
    rfl
  · obtain ⟨a, ns, rfl, ha, q⟩ := h
    refine ⟨_, (pss_cons (ps_set (i := 1) sc_law.nd rfl (Or.inl rfl) (pe_lst (pa_cons (pv 0) (pa_cons pe_int (pa_cons pe_int (pa_cons pe_int pa_nil))))))
      (pss_cons (ps_asg (pe_c c_law_good_rules hr (by decide) (by rfl) (pa_cons (pv 1) (pa_cons pe_int pa_nil))) (pg_tup rfl (pgs_cons (pg_name (i := 2) sc_law.nd rfl (Or.inl rfl)) (pgs_cons (pg_name (i := 3) sc_law.nd rfl (Or.inl rfl)) pgs_nil))))
      (pss_cons (ps_asg (pe_tup (pa_cons (pe_make M FI (hr.mono (by decide : 4 + 1 ≤ 7)) (by rfl) T.mgC bI .nil pass0 (pa_cons (pv 2) (pa_cons (pv 3) pa_nil))) (pa_cons (pe_c c_law_kept hr (by decide) (by rfl) (pa_cons (pv 2) (pa_cons (pv 3) pa_nil))) pa_nil))) (pg_tup rfl (pgs_cons (pg_name (i := 4) sc_law.nd rfl (Or.inl rfl)) (pgs_cons (pg_name (i := 5) sc_law.nd rfl (Or.inr rfl)) pgs_nil))))
      (pss_cons (ps_for PassesOwn.never rfl (pi_range1 (by rfl) T.b.range (pa_cons pe_int pa_nil)) (pg_name (i := 6) sc_law.nd rfl (Or.inl rfl)) (pss_cons (ps_set (i := 7) sc_law.nd rfl (Or.inr rfl) (pe_c c_law_votes hr (by decide) (by rfl) (pa_cons (pv 1) (pa_cons (pv 5) (pa_cons pe_int pa_nil)))))
      (pss_cons (ps_set (i := 8) sc_law.nd rfl (Or.inl rfl) (pe_cmpR op_eq (pe_op op_mod (pe_callB call_len_seq (by rfl) T.b.len bt_len (pa_cons (pv 7) pa_nil)) pe_int) pe_int (nomark _)))
      (pss_cons (ps_if (pt_not (pt_val (pe_c c_law_alike hr (by decide) (by rfl) (pa_cons (pe_c c_law_told hr (by decide) (by rfl) (pa_cons (pv 4) (pa_cons (pv 7) pa_nil))) (pa_cons (pe_ifExp (pt_val (pv 8)) (pe_c c_law_most hr (by decide) (by rfl) (pa_cons (pv 7) pa_nil)) pe_str) pa_nil))))) (pss_one (ps_ret pe_bl)) pss_nil)
      (pss_cons (ps_set (i := 9) sc_law.nd rfl (Or.inr rfl) (pe_lc (own := [("_law_one", 11)]) rfl sc_law.nd (pi_list (pv 5)) (blkOk_by (N := n_law) (sc := defScope s_law) (by decide +kernel)) (fun _ _ _ _ _ => (pg_name (i := 11) sc_law.nd rfl (Or.inr rfl))) (fun _ _ _ _ _ => pts_nil) (fun _ _ _ _ _ => (pe_callB (cr_sumB (K := K) (by rfl) rfl) (by rfl) T.b.sum bt_sum (pa_cons (pe_lc (own := [("_law_vote", 10)]) rfl sc_law.nd (pi_tupB (K := K) (by rfl) (pv 7)) (blkOk_by (N := n_law) (sc := relS _ (defScope s_law)) (by decide +kernel)) (fun _ _ _ _ _ => (pg_name (i := 10) sc_law.nd rfl (Or.inl rfl))) (fun _ _ _ _ _ => pts_nil) (fun _ _ _ _ _ => (pe_c c_law_apart hr (by decide) (by rfl) (pa_cons (pv 10) (pa_cons (pv 11) pa_nil))))) pa_nil)))))
      (pss_cons (ps_setLc (i := 12) (own := [("_law_at", 13)]) rfl sc_law.nd rfl rfl (sw_true rfl rfl rfl (by decide +kernel)) (pi_range1 (by rfl) T.b.range (pa_cons (pe_callB call_len_seq (by rfl) T.b.len bt_len (pa_cons (pv 5) pa_nil)) pa_nil)) (blkOk_by (N := n_law) (sc := defScope s_law) (by decide +kernel)) (fun _ _ _ _ _ => (pg_name (i := 13) sc_law.nd rfl (Or.inl rfl))) (fun _ _ _ _ _ => pts_one (pt_cmpR op_eq (pe_ix (ix_listB (K := K) (by rfl)) (pv 9) (pv 13) (fun _ _ => rfl)) (pe_callB (cr_minB (K := K) (by rfl) rfl) (by rfl) T.b.min bt_min (pa_cons (pv 9) pa_nil)) (nomark _))) (fun _ _ _ _ _ => (pe_ix (ix_listB (K := K) (by rfl)) (pv 5) (pv 13) (fun _ _ => rfl))))
      (pss_cons (ps_set (i := 14) sc_law.nd rfl (Or.inl rfl) (pe_c c_least_totals hr (by decide) (by rfl) (pa_cons (pv 4) (pa_cons (pv 7) pa_nil))))
      (pss_cons (ps_if (PW.pt (pw_or (pt_not (pt_val (pe_c c_law_alike2 hr (by decide) (by rfl) (pa_cons (pv 14) (pa_cons (pv 12) pa_nil))))) (pw_or1 (PW.pt (pw_and (pt_val (pv 8)) (pw_and1 (pt_cmpR (op_neD hr.units) (pv 12) (pe_lst (pa_cons (pe_c c_law_most hr (by decide) (by rfl) (pa_cons (pv 7) pa_nil)) pa_nil)) (nomark _)))))))) (pss_one (ps_ret pe_bl)) pss_nil)
      (pss_cons (ps_expr (pe_bm PySem.F.plainAttrs_list PySem.F.slot_list_append PySem.F.type_list_append mt_append (pv 14) (pa_cons pe_non pa_nil)))
      (pss_cons (ps_if (pt_not (pt_val (pe_c c_law_alike2 hr (by decide) (by rfl) (pa_cons (pe_c c_least_totals hr (by decide) (by rfl) (pa_cons (pv 4) (pa_cons (pv 7) pa_nil))) (pa_cons (pv 12) pa_nil))))) (pss_one (ps_ret pe_bl)) pss_nil)
      (pss_cons (ps_set (i := 13) sc_law.nd rfl (Or.inl rfl) (pe_c c_law_taken hr (by decide) (by rfl) (pa_cons (pv 1) (pa_cons (pe_callB call_len_seq (by rfl) T.b.len bt_len (pa_cons (pv 5) pa_nil)) pa_nil))))
      (pss_cons (ps_if (pt_not (pt_val (pe_c c_law_alike hr (by decide) (by rfl) (pa_cons (pe_c c_total_steps hr (by decide) (by rfl) (pa_cons (pv 4) (pa_cons (pv 7) (pa_cons (pe_ix ix_list (pv 5) (pv 13) (fun _ _ => rfl)) pa_nil)))) (pa_cons (pe_ix ix_list (pv 9) (pv 13) (fun _ _ => rfl)) pa_nil))))) (pss_one (ps_ret pe_bl)) pss_nil)
      (pss_cons (ps_set (i := 15) sc_law.nd rfl (Or.inl rfl) (pe_lst pa_nil))
      (pss_cons (ps_for PassesOwn.never rfl (pi_list (pv 5)) (pg_name (i := 11) sc_law.nd rfl (Or.inr rfl)) (pss_cons (ps_setLc (i := 16) (own := [("_law_k", 17)]) rfl sc_law.nd rfl rfl (sw_true rfl rfl rfl (by decide +kernel)) (pi_range1 (by rfl) T.b.range (pa_cons (pv 2) pa_nil)) (blkOk_by (N := n_law) (sc := defScope s_law) (by decide +kernel)) (fun _ _ _ _ _ => (pg_name (i := 17) sc_law.nd rfl (Or.inr rfl))) (fun _ _ _ _ _ => pts_one (pt_cmpR op_lt (pe_op op_mul pe_int (pe_callB (call_lenB (K := K) (by rfl)) (by rfl) T.b.len bt_len (pa_cons (pe_lc (own := [("_law_vote", 10)]) rfl sc_law.nd (pi_tupB (K := K) (by rfl) (pv 7)) (blkOk_by (N := n_law) (sc := relS _ (defScope s_law)) (by decide +kernel)) (fun _ _ _ _ _ => (pg_name (i := 10) sc_law.nd rfl (Or.inl rfl))) (fun _ _ _ _ _ => pts_one (pt_cmpR op_eq (pe_ix (ix_tupB (K := K) (by rfl)) (pv 10) (pv 17) (fun _ _ => rfl)) (pe_ix (ix_tupB (K := K) (by rfl)) (pv 11) (pv 17) (fun _ _ => rfl)) (nomark _))) (fun _ _ _ _ _ => (pv 10))) pa_nil))) (pe_callB (call_lenB (K := K) (by rfl)) (by rfl) T.b.len bt_len (pa_cons (pv 7) pa_nil)) (nomark _))) (fun _ _ _ _ _ => (pv 17)))
      (pss_one (ps_set (i := 15) sc_law.nd rfl (Or.inl rfl) (pe_op op_cat (pv 15) (pe_ifExp (pt_cmpR (op_eqD hr.units) (pv 16) (pe_lst pa_nil) (nomark _)) (pe_lst (pa_cons (pv 11) pa_nil)) (pe_lst pa_nil)))))))
      (pss_one (ps_if (PW.pt (pw_or (pt_cmpR (op_neD hr.units) (pv 15) (pv 12) (nomark _)) (pw_or1 (PW.pt (pw_and (pt_val (pv 8)) (pw_and1 (pt_not (pt_val (pe_c c_keeps hr (by decide) (by rfl) (pa_cons (pv 4) (pa_cons (pe_c c_most_row hr (by decide) (by rfl) (pa_cons (pv 4) (pa_cons (pv 7) pa_nil))) pa_nil))))))))))) (pss_one (ps_ret pe_bl)) pss_nil))))))))))))))))
      (pss_one (ps_ret pe_bl)))))), ?_⟩
    -- the row of draws
    refine cut (fun σ H' => ∃ R : Rw, σ = [some (.ref a), some (.ref R.L), none, none, none, none, none, none, none, none, none, none, none, none, none, none, none, none] ∧ RowSt K H' R) (fun N hN => ?_) (fun σ H1 hI => ?_)
    · refine ⟨_, rfl, by show 4 ≤ sizeLine; decide, fun L hL => hN _ _ ⟨⟨L, a, ns⟩, rfl, _, _, _, upd_same, by decide, Fr.new ha hL, sqL_same (same_new hL) ha⟩⟩
    obtain ⟨R, rfl, st1⟩ := hI
    -- rules
    refine cut (fun σ H' => ∃ (n : Nat) (us : List Rule) (t : V), σ = [some (.ref a), some (.ref R.L), some (.int n), some t, none, none, none, none, none, none, none, none, none, none, none, none, none, none] ∧ 1 ≤ n ∧ n ≤ 7 ∧ RulesT H' t us ∧ RulesOk n us ∧ us.length < 64 ∧ kept n us ≠ [] ∧ RowSt K H' R) (fun N hN => ?_) (fun σ H2 hI => ?_)
    · refine ⟨_, rfl, R, rfl, st1, fun v H2 hg mv2 st2 => ?_⟩
      obtain ⟨n, us, t, ⟨p, rfl, hp⟩, h1, h2, h3, h4, h5, h6⟩ := hg
      exact ⟨p, _, rfl, SqT.of hp, rfl, _, _, rfl, _, _, rfl, rfl, hN _ _ ⟨n, us, t, rfl, h1, h2, h3, h4, h5, h6, st2⟩⟩
    obtain ⟨n, us, t, rfl, hn1, hn7, ht, hok, hl64, hne, st2⟩ := hI
    have hwk : ∀ u, u ∈ us → WantOk n u.1 ∧ WantOk n u.2 := fun u h => ⟨(hok.1 u h).1, (hok.1 u h).2.1⟩
    refine cut (fun σ H' => ∃ (ro : V) (ar : Addr) (xs : List V), σ = sg (.ref a) R n t ro ar none none none none none none none none none none ∧ Lw K C R n us ro ar xs H') (fun N hN => ?_) (fun σ H3 hI => ?_)
    · refine ⟨_, rfl, _, rfl, fun x dx hx hdx hne2 => ?_⟩
      have m1 : Same H2 (upd (upd H2 dx (.own x)) x (.ins C dx [])) := (same_new hdx).trans (same_new (by rw [upd_ne (Ne.symm hne2)]; exact hx))
      refine ⟨n, us, x, dx, t, rfl, upd_same, hn1, by omega, ht.keep (keep_of m1), hok, by omega, fun H3 h3 h4 => ⟨rfl, ?_⟩⟩
      have m3 : Same H2 H3 := fun b o e => h3 b o (by rintro rfl; rw [hx] at e; cases e) (m1 b o e)
      have ro3 : RObj C H3 (.ref x) n us := ⟨x, dx, t, rfl, h4, ht.keep (keep_of m3)⟩
      refine ⟨_, rfl, _, rfl, n, t, us, rfl, ht.keep (keep_of m3), hn1, by omega, hwk, fun ar xs H4 har0 har hx4 s4 => ⟨by show 2 ≤ sizeLine; decide, fun T' hT => ?_⟩⟩
      have s5 := same_new (o := .tup [V.ref x, V.ref ar]) hT
      have st3 := st2.same m3
      refine ⟨T', _, rfl, SqT.of upd_same, rfl, _, _, rfl, _, _, rfl, rfl, hN _ _ ⟨.ref x, ar, xs, rfl, ?_⟩⟩
      exact ⟨⟨hn1, hn7⟩, ⟨by omega, hwk, by omega⟩, hne, ro3.same (s4.trans s5), s5 _ _ har, hx4.keep (keep_of s5), st3.ne har0, (st3.same s4).same s5⟩
    obtain ⟨ro, ar, xs, rfl, lw⟩ := hI
    -- the turns
    refine cut (fun σ H' => True) (fun N hN => ?_) (fun σ H4 _ => q H4)
    refine ⟨3, rfl, by decide, by decide, ?_⟩
    refine for_it (n := (3 : Int).toNat) walk_range (fun i σ H' => ∃ o6 o7 o8 o9 o11 o12 o13 o14 o15 o16, σ = sg (.ref a) R n t ro ar o6 o7 o8 o9 o11 o12 o13 o14 o15 o16 ∧ Lw K C R n us ro ar xs H') ⟨none, none, none, none, none, none, none, none, none, none, rfl, lw⟩ (fun _ _ _ _ _ => trivial) (fun i x σ H4 H5 hi p y => ?_) fun σ H' p => hN _ _ trivial
    obtain ⟨o6, o7, o8, o9, o11, o12, o13, o14, o15, o16, rfl, lw⟩ := p
    obtain ⟨rfl, _⟩ := y
    obtain ⟨xl, k1, k2⟩ := lw.len
    -- votes
    refine cut (fun σ H' => ∃ o6 tv ws, σ = sg (.ref a) R n t ro ar o6 (some tv) o8 o9 o11 o12 o13 o14 o15 o16 ∧ Lw K C R n us ro ar xs H' ∧ RowsT H' tv ws ∧ (∀ r, r ∈ ws → r ∈ kept n us) ∧ 1 ≤ ws.length ∧ ws.length ≤ 15) (fun N hN => ?_) (fun σ H5 hI => ?_)
    · exact ⟨_, rfl, _, rfl, R, ar, xs, kept n us, rfl, lw.har, lw.hL, lw.hx, lw.ne, by omega, lw.st, fun tv ws H5 h1 h2 h3 h4 mv st => hN _ _ ⟨_, tv, ws, rfl, lw.move mv st, h1, h4, h2, h3⟩⟩
    clear lw
    obtain ⟨o6, tv, ws, rfl, lw, hv, hvk, hv1, hv2⟩ := hI
    have hvo := votes_ok hv1 hv2 hvk
    have hrow : ∀ r, r ∈ ws → RowOf n r := fun r h => (hvo.2.2 r h).1
    have hws0 : ws ≠ [] := by rintro rfl; simp at hv1
    have n8 : n ≤ 8 := lw.hu.1
    refine cut (fun σ H' => σ = sg (.ref a) R n t ro ar o6 (some tv) (some (.bl (decide (ws.length % 2 = 1)))) o9 o11 o12 o13 o14 o15 o16 ∧ Lw K C R n us ro ar xs H' ∧ RowsT H' tv ws) (fun N hN => ?_) (fun σ H6 hI => ?_)
    · obtain ⟨ys, ⟨b, rfl, hb⟩, hy⟩ := id hv
      refine ⟨_, rfl, b, ys, rfl, .inr (SqT.of hb), _, _, rfl, rfl, (by show (0 : Int) < 2; decide), rfl, hN _ _ ⟨?_, lw, hv⟩⟩
      have e : decide (V.int ((ys.length : Int) % 2) = V.int 1) = decide (ws.length % 2 = 1) := by
        rw [eq_dec, hy.len]
        by_cases c : ws.length % 2 = 1
        · rw [decide_eq_true c, decide_eq_true (by omega)]
        · rw [decide_eq_false c, decide_eq_false (by omega)]
      show sg (.ref a) R n t ro ar o6 (some (.ref b)) (some (.bl (decide (V.int ((ys.length : Int) % 2) = V.int 1)))) o9 o11 o12 o13 o14 o15 o16 = _
      rw [e]
    clear lw hv
    obtain ⟨rfl, lw, hv⟩ := hI
    -- the row of most, or even
    refine cut (fun σ H' => σ = sg (.ref a) R n t ro ar o6 (some tv) (some (.bl (decide (ws.length % 2 = 1)))) o9 o11 o12 o13 o14 o15 o16 ∧ Lw K C R n us ro ar xs H' ∧ RowsT H' tv ws) (fun N hN => ?_) (fun σ H7 hI => ?_)
    · refine ⟨_, rfl, _, rfl, n, us, ro, tv, ws, rfl, lw.ro, hv, lw.hu, hvo, fun c v H7 hv7 s7 => ?_, fun c H7 s7 => ?_⟩
      · refine ⟨_, rfl, _, rfl, ?_⟩
        rw [decide_eq_true c]
        refine iteT ?_
        refine ⟨_, rfl, n, tv, ws, rfl, hv.keep (keep_of s7), hrow, hv1, hv2, n8, fun v2 H8 hv8 s8 => .inr ⟨v, v2, _, rfl, hv7.keep (keep_of s8), hv8, ?_, fun H9 s9 => ⟨_, rfl, iteF (hN _ _ ⟨by rw [decide_eq_true c], lw.same ((s7.trans s8).trans s9), hv.keep (keep_of ((s7.trans s8).trans s9))⟩)⟩⟩⟩
        rw [(most_row n ws).1]
        omega
      · refine ⟨_, rfl, _, rfl, ?_⟩
        rw [decide_eq_false (by omega)]
        refine iteF ?_
        refine .inl ⟨.inr rfl, fun H9 s9 => ⟨_, rfl, iteF (hN _ _ ⟨?_, lw.same (s7.trans s9), hv.keep (keep_of (s7.trans s9))⟩)⟩⟩
        rw [decide_eq_false (by omega)]
    clear lw hv
    obtain ⟨rfl, lw, hv⟩ := hI
    obtain ⟨odd, hodd⟩ : ∃ odd, decide (ws.length % 2 = 1) = odd := ⟨_, rfl⟩
    rw [hodd]
    -- totals
    refine cut (fun σ H' => ∃ tt, σ = sg (.ref a) R n t ro ar o6 (some tv) (some (.bl odd)) (some (.ref tt)) o11 o12 o13 o14 o15 o16 ∧ Lw K C R n us ro ar xs H' ∧ RowsT H' tv ws ∧ tt ≠ R.L ∧ H' tt = some (.lst (((kept n us).map fun r => total n ws r).map V.int))) (fun N hN => ?_) (fun σ H8 hI => ?_)
    · obtain ⟨ys, ⟨b, rfl, hb⟩, hy⟩ := id hv
      refine ⟨_, rfl, ar, rfl, ⟨xs, SqL.of lw.har⟩, fun D hD => ?_⟩
      refine lc_map (walk_list (xs := xs)) (kept n us) (fun r => total n ws r) (fun _ v b => v = .int b) (fun _ _ _ _ _ h => h) xl.symm (by omega) hD (fun H' sm => SqL.of (sm _ _ lw.har)) (fun i z H3 H4 r Qy Qn hk s3 y q1 => ?_) fun acc H3 hl3 s3 hr3 => ?_
      · obtain ⟨rfl, hz⟩ := y
        refine ⟨rfl, tyes ?_⟩
        have hzr := (lw.hx.keep (keep_of s3)).both hz hk
        have hb3 := s3 _ _ hb
        have hy3 := hy.keep (keep_of s3)
        have hrk := (mem_kept.mp (List.mem_of_getElem? hk)).1
        refine ⟨_, rfl, b, rfl, ⟨ys, SqT.of hb3⟩, fun D2 hD2 => ?_⟩
        refine lc_map (walk_tup (xs := ys)) ws (fun v => apart n v r) (fun _ v b => v = .int b) (fun _ _ _ _ _ h => h) hy.len.symm (by rw [hy.len]; omega) hD2 (fun H' sm => SqT.of (sm _ _ hb3)) (fun j z2 H5 H6 v Qy2 Qn2 hk2 s5 y2 q2 => ?_) fun acc2 H5 hl5 s5 hr5 => ?_
        · obtain ⟨rfl, hz2⟩ := y2
          refine ⟨rfl, tyes ?_⟩
          exact ⟨_, rfl, _, rfl, n, z2, z, v, r, rfl, (hy3.keep (keep_of s5)).both hz2 hk2, hzr.keep (keep_of s5), hrow _ (List.mem_of_getElem? hk2), hrk, n8, fun H7 s7 => q2 _ _ s7 rfl⟩
        · rw [each_int hr5] at hl5
          exact ⟨D2, _, rfl, SqL.of hl5, q1 _ _ s5 rfl⟩
      · rw [each_int hr3] at hl3
        exact hN _ _ ⟨D, rfl, lw.same s3, hv.keep (keep_of s3), lw.st.ne hD, hl3⟩
    clear lw hv
    obtain ⟨tt, rfl, lw, hv, htL, htt⟩ := hI
    -- the best
    refine cut (fun σ H' => ∃ bt bs, σ = sg (.ref a) R n t ro ar o6 (some tv) (some (.bl odd)) (some (.ref tt)) o11 (some (.ref bt)) o13 o14 o15 o16 ∧ Lw K C R n us ro ar xs H' ∧ RowsT H' tv ws ∧ H' tt = some (.lst (((kept n us).map fun r => total n ws r).map V.int)) ∧ bt ≠ R.L ∧ H' bt = some (.lst bs) ∧ RowsAt H' bs (best n us ws)) (fun N hN => ?_) (fun σ H9 hI => ?_)
    · refine ⟨_, rfl, ar, xs, rfl, .inl (SqL.of lw.har), xs.length, rfl, by omega, by omega, fun D hD => ?_⟩
      refine lc_fm (n := ((xs.length : Nat) : Int).toNat) walk_range (kept n us) (fun r => if decide (total n ws r = lower n ws) = true then some r else none) (fun H v r => RowAt H v r) (fun H H' v r k h => h.keep k) (by omega) (by omega) hD (fun _ _ => trivial) (fun i z H3 H4 r Qy Qn hk s3 y qy qn => ?_) fun acc H3 hl3 s3 hr3 => ?_
      · obtain ⟨rfl, hxe⟩ := y
        cases (hxe.trans (congrArg V.int (zadd i)) : z = .int (i : Nat))
        have htt3 := s3 _ _ htt
        have har3 := s3 _ _ lw.har
        obtain ⟨rv, hrv, hrr⟩ := (lw.hx.keep (keep_of s3)).at hk
        refine ⟨rfl, ?_⟩
        refine ⟨_, rfl, _, rfl, tt, _, _, .int (total n ws r), rfl, rfl, SqL.of htt3, ?_, _, rfl, tt, _, rfl, SqL.of htt3, ?_, fun m hm1 hm2 => ?_⟩
        · refine atI_nat ?_
          rw [List.getElem?_map, List.getElem?_map, hk]
          rfl
        · rw [List.length_map]; omega
        have hm := least_is hvk hws0 hwk (m := m) ⟨hm1, hm2⟩
        refine ⟨rfl, _, rfl, ?_⟩
        rw [hm, eq_dec]
        cases c : decide (total n ws r = lower n ws) with
        | true => exact iteT ⟨_, rfl, _, rfl, ar, _, _, rv, rfl, rfl, SqL.of har3, atI_nat hrv, qy r rv _ (by rw [c]; rfl) (Same.refl _) hrr⟩
        | false => exact iteF (qn (by rw [c]; rfl) _ (Same.refl _))
      · rw [fm_if] at hr3
        exact hN _ _ ⟨D, acc, rfl, lw.same s3, hv.keep (keep_of s3), s3 _ _ htt, lw.st.ne hD, hl3, hr3⟩
    clear lw hv htt
    obtain ⟨bt, bs, rfl, lw, hv, htt, hbL, hbt, hbs⟩ := hI
    have hbz : (best n us ws).length ≤ 256 := Nat.le_trans (List.length_filter_le _ _) k2
    have hbr : ∀ r, r ∈ best n us ws → r.length ≤ 1000 := fun r h => by
      have := (mem_kept.mp (List.mem_filter.mp h).1).1.1
      omega
    -- the least totals
    refine cut (fun σ H' => ∃ ft zs, σ = sg (.ref a) R n t ro ar o6 (some tv) (some (.bl odd)) (some (.ref tt)) o11 (some (.ref bt)) o13 (some (.ref ft)) o15 o16 ∧ Lw K C R n us ro ar xs H' ∧ RowsT H' tv ws ∧ H' tt = some (.lst (((kept n us).map fun r => total n ws r).map V.int)) ∧ H' bt = some (.lst bs) ∧ RowsAt H' bs (best n us ws) ∧ H9 ft = none ∧ H' ft = some (.lst zs) ∧ RowsAt H' zs (best n us ws) ∧ Same H9 H') (fun N hN => ?_) (fun σ H10 hI => ?_)
    · exact ⟨_, rfl, _, rfl, n, us, ro, tv, ws, rfl, lw.ro, hv, lw.hu, hvo, fun ft zs H10 hf0 hft hzs s10 => hN _ _ ⟨ft, zs, rfl, lw.same s10, hv.keep (keep_of s10), s10 _ _ htt, s10 _ _ hbt, hbs.keep (keep_of s10), hf0, hft, hzs, s10⟩⟩
    have lw9 := lw
    have htt9 := htt
    have hbt9 := hbt
    clear lw hv htt hbt hbs
    obtain ⟨ft, zs, rfl, lw, hv, htt, hbt, hbs, hf0, hft, hzs, _⟩ := hI
    refine cut (fun σ H' => σ = sg (.ref a) R n t ro ar o6 (some tv) (some (.bl odd)) (some (.ref tt)) o11 (some (.ref bt)) o13 (some (.ref ft)) o15 o16 ∧ Lw K C R n us ro ar xs H' ∧ RowsT H' tv ws ∧ H' tt = some (.lst (((kept n us).map fun r => total n ws r).map V.int)) ∧ H' bt = some (.lst bs) ∧ RowsAt H' bs (best n us ws) ∧ H' ft = some (.lst zs)) (fun N hN => ?_) (fun σ H11 hI => ?_)
    · refine ⟨_, rfl, _, rfl, _, _, _, rfl, ⟨ft, zs, rfl, hft, hzs⟩, ⟨bt, bs, rfl, hbt, hbs⟩, hbr, by omega, fun H11 s11 => ⟨_, rfl, iteF ?_⟩⟩
      have done : ∀ H12, Same H10 H12 → N (sg (.ref a) R n t ro ar o6 (some tv) (some (.bl odd)) (some (.ref tt)) o11 (some (.ref bt)) o13 (some (.ref ft)) o15 o16) H12 := fun H12 s12 => hN _ _ ⟨rfl, lw.same s12, hv.keep (keep_of s12), s12 _ _ htt, s12 _ _ hbt, hbs.keep (keep_of s12), s12 _ _ hft⟩
      refine ⟨_, rfl, _, rfl, ?_⟩
      cases odd with
      | false => exact iteF (iteF (done _ s11))
      | true =>
        refine iteT ?_
        refine ⟨_, rfl, _, rfl, n, tv, ws, rfl, hv.keep (keep_of s11), hrow, hv1, hv2, n8, fun v H12 hv12 s12 => ⟨by show 1 ≤ sizeLine; decide, fun l hl => ?_⟩⟩
        have s13 := same_new (o := .lst [v]) hl
        have s14 := s11.trans (s12.trans s13)
        refine ⟨_, _, dp_rows (s14 _ _ hbt) (hbs.keep (keep_of s14)), dp_rows (rs := [most n ws]) upd_same (Each.one (hv12.keep (keep_of s13))), shaped_rows _, shaped_rows _, _, rfl, ?_⟩
        rw [eqv_lists, best_odd hvk (of_decide_eq_true hodd) hwk, decide_eq_true rfl]
        exact iteF (done _ s14)
    clear lw hv htt hbt hbs hft
    obtain ⟨rfl, lw, hv, htt, hbt, hbs, hft⟩ := hI
    -- the list that was given out is changed
    have hfL : ft ≠ R.L := lw9.st.ne hf0
    have hfa : ar ≠ ft := by rintro rfl; rw [lw9.har] at hf0; cases hf0
    have hft1 : tt ≠ ft := by rintro rfl; rw [htt9] at hf0; cases hf0
    have hfb : bt ≠ ft := by rintro rfl; rw [hbt9] at hf0; cases hf0
    have hfF := lw9.st.fr hf0
    refine cut (fun σ H' => σ = sg (.ref a) R n t ro ar o6 (some tv) (some (.bl odd)) (some (.ref tt)) o11 (some (.ref bt)) o13 (some (.ref ft)) o15 o16 ∧ Lw K C R n us ro ar xs H' ∧ RowsT H' tv ws ∧ H' tt = some (.lst (((kept n us).map fun r => total n ws r).map V.int)) ∧ H' bt = some (.lst bs) ∧ RowsAt H' bs (best n us ws)) (fun N hN => ?_) (fun σ H12 hI => ?_)
    · have hzl : zs.length ≤ 256 := by rw [hzs.len]; exact hbz
      have k : Keep H11 (upd H11 ft (.lst (zs ++ [.non]))) := keep_lst hft
      refine ⟨_, rfl, .inl ⟨rfl, _, SqL.of hft⟩, ft, zs, .non, rfl, rfl, hft, line_lt (by omega), hN _ _ ⟨rfl, ⟨lw.hn, lw.hu, lw.ne, ?_, by rw [upd_ne hfa]; exact lw.har, lw.hx.keep k, lw.hL, lw.st.upd hfL.symm hfF⟩, hv.keep k, by rw [upd_ne hft1]; exact htt, by rw [upd_ne hfb]; exact hbt, hbs.keep k⟩⟩
      obtain ⟨p, dx, t2, e, h1, h2⟩ := lw.ro
      exact ⟨p, dx, t2, e, by rw [upd_ne (by rintro rfl; rw [hft] at h1; cases h1)]; exact h1, h2.keep k⟩
    clear lw hv htt hbt hbs hft
    obtain ⟨rfl, lw, hv, htt, hbt, hbs⟩ := hI
    refine cut (fun σ H' => σ = sg (.ref a) R n t ro ar o6 (some tv) (some (.bl odd)) (some (.ref tt)) o11 (some (.ref bt)) o13 (some (.ref ft)) o15 o16 ∧ Lw K C R n us ro ar xs H' ∧ RowsT H' tv ws ∧ H' tt = some (.lst (((kept n us).map fun r => total n ws r).map V.int)) ∧ H' bt = some (.lst bs) ∧ RowsAt H' bs (best n us ws)) (fun N hN => ?_) (fun σ H13 hI => ?_)
    · refine ⟨_, rfl, _, rfl, n, us, ro, tv, ws, rfl, lw.ro, hv, lw.hu, hvo, fun f2 ys H13 hf0 hf2 hys s13 => ⟨_, rfl, _, _, _, rfl, ⟨f2, ys, rfl, hf2, hys⟩, ⟨bt, bs, rfl, s13 _ _ hbt, hbs.keep (keep_of s13)⟩, hbr, by omega, fun H14 s14 => ⟨_, rfl, iteF ?_⟩⟩⟩
      have s15 := s13.trans s14
      exact hN _ _ ⟨rfl, lw.same s15, hv.keep (keep_of s15), s15 _ _ htt, s15 _ _ hbt, hbs.keep (keep_of s15)⟩
    clear lw hv htt hbt hbs
    obtain ⟨rfl, lw, hv, htt, hbt, hbs⟩ := hI
    -- one row's total
    refine cut (fun σ H' => ∃ k : Nat, σ = sg (.ref a) R n t ro ar o6 (some tv) (some (.bl odd)) (some (.ref tt)) o11 (some (.ref bt)) (some (.int k)) (some (.ref ft)) o15 o16 ∧ k < (kept n us).length ∧ Lw K C R n us ro ar xs H' ∧ RowsT H' tv ws ∧ H' tt = some (.lst (((kept n us).map fun r => total n ws r).map V.int)) ∧ H' bt = some (.lst bs) ∧ RowsAt H' bs (best n us ws)) (fun N hN => ?_) (fun σ H14 hI => ?_)
    · refine ⟨_, rfl, _, rfl, ar, xs, rfl, .inl (SqL.of lw.har), R, _, rfl, by omega, by omega, lw.st, fun x H14 x0 x1 mv st => hN _ _ ⟨x.toNat, ?_, by omega, lw.move mv st, hv.keep (lw.st.keep mv), mv _ _ htL htt, mv _ _ hbL hbt, hbs.keep (lw.st.keep mv)⟩⟩
      have e : (x.toNat : Int) = x := by omega
      rw [e]
      rfl
    clear lw hv htt hbt hbs
    obtain ⟨k, rfl, hk, lw, hv, htt, hbt, hbs⟩ := hI
    refine cut (fun σ H' => σ = sg (.ref a) R n t ro ar o6 (some tv) (some (.bl odd)) (some (.ref tt)) o11 (some (.ref bt)) (some (.int k)) (some (.ref ft)) o15 o16 ∧ Lw K C R n us ro ar xs H' ∧ RowsT H' tv ws ∧ H' bt = some (.lst bs) ∧ RowsAt H' bs (best n us ws)) (fun N hN => ?_) (fun σ H15 hI => ?_)
    · have hkr : (kept n us)[k]? = some ((kept n us)[k]) := List.getElem?_eq_getElem hk
      obtain ⟨rv, hrv, hrr⟩ := lw.hx.at hkr
      have hrm := mem_kept.mp (List.getElem_mem hk)
      refine ⟨_, rfl, _, rfl, _, rfl, _, rfl, ar, _, _, rv, rfl, rfl, SqL.of lw.har, atI_nat hrv, n, us, ro, tv, rv, ws, _, rfl, lw.ro, hv, hrr, lw.hu, hvo, hrm.1, hrm.2, fun H15 s15 => ?_⟩
      refine ⟨_, rfl, _, rfl, tt, _, _, .int (total n ws (kept n us)[k]), rfl, rfl, SqL.of (s15 _ _ htt), ?_, .inl ⟨.inl ⟨_, rfl⟩, fun H16 s16 => ⟨_, rfl, iteF ?_⟩⟩⟩
      · refine atI_nat ?_
        rw [List.getElem?_map, List.getElem?_map, hkr]
        rfl
      · have s17 := s15.trans s16
        exact hN _ _ ⟨rfl, lw.same s17, hv.keep (keep_of s17), s17 _ _ hbt, hbs.keep (keep_of s17)⟩
    clear lw hv htt hbt hbs
    obtain ⟨rfl, lw, hv, hbt, hbs⟩ := hI
    -- the rows of which no place is among the few
    refine cut (fun σ H' => ∃ d, σ = sg (.ref a) R n t ro ar o6 (some tv) (some (.bl odd)) (some (.ref tt)) o11 (some (.ref bt)) (some (.int k)) (some (.ref ft)) (some (.ref d)) o16 ∧ Lw K C R n us ro ar xs H' ∧ RowsT H' tv ws ∧ H' bt = some (.lst bs) ∧ RowsAt H' bs (best n us ws) ∧ H' d = some (.lst [])) (fun N hN => ?_) (fun σ H16 hI => ?_)
    · refine ⟨Nat.zero_le _, fun d hd => ?_⟩
      have s1 := same_new (o := .lst []) hd
      exact hN _ _ ⟨d, rfl, lw.same s1, hv.keep (keep_of s1), s1 _ _ hbt, hbs.keep (keep_of s1), upd_same⟩
    clear lw hv hbt hbs
    obtain ⟨d0, rfl, lw, hv, hbt, hbs, hd0⟩ := hI
    refine cut (fun σ H' => ∃ o11 o16 d ds, σ = sg (.ref a) R n t ro ar o6 (some tv) (some (.bl odd)) (some (.ref tt)) o11 (some (.ref bt)) (some (.int k)) (some (.ref ft)) (some (.ref d)) o16 ∧ Lw K C R n us ro ar xs H' ∧ RowsT H' tv ws ∧ H' bt = some (.lst bs) ∧ RowsAt H' bs (best n us ws) ∧ H' d = some (.lst ds) ∧ RowsAt H' ds (best n us ws)) (fun N hN => ?_) (fun σ H17 hI => ?_)
    · obtain ⟨ys, ⟨b, rfl, hb⟩, hy⟩ := id hv
      let p : Row → Bool := fun r => ((List.range n).filter (few ws r)).isEmpty
      refine ⟨_, rfl, ar, rfl, ⟨xs, SqL.of lw.har⟩, ?_⟩
      refine for_it (walk_list (xs := xs)) (fun i σ H' => ∃ o11 o16 d ds, σ = sg (.ref a) R n t ro ar o6 (some (.ref b)) (some (.bl odd)) (some (.ref tt)) o11 (some (.ref bt)) (some (.int k)) (some (.ref ft)) (some (.ref d)) o16 ∧ Same H16 H' ∧ H' d = some (.lst ds) ∧ RowsAt H' ds (((kept n us).take i).filter p) ∧ ds.length ≤ i) ⟨o11, o16, d0, [], rfl, Same.refl _, hd0, .nil, Nat.le_refl _⟩ (fun i σ H' _ ⟨_, _, _, _, _, s1, _⟩ => SqL.of (s1 _ _ lw.har)) (fun i x σ H17 H18 hi pp y => ?_) fun σ H' pp => ?_
      · obtain ⟨o11, o16, d, ds, rfl, s17, hd, hds, hdl⟩ := pp
        obtain ⟨rfl, hx⟩ := y
        obtain ⟨r, hr1, hr2⟩ := lw.hx.get hx
        have hrr := hr2.keep (keep_of s17)
        have hrk := (mem_kept.mp (List.mem_of_getElem? hr1)).1
        obtain ⟨rc, rfl, hrc⟩ := id hrr
        have hb17 := s17 _ _ hb
        have hy17 := hy.keep (keep_of s17)
        refine cut (fun σ H' => ∃ fw, σ = sg (.ref a) R n t ro ar o6 (some (.ref b)) (some (.bl odd)) (some (.ref tt)) (some (.ref rc)) (some (.ref bt)) (some (.int k)) (some (.ref ft)) (some (.ref d)) (some (.ref fw)) ∧ Same H18 H' ∧ H' fw = some (.lst ((((List.range n).filter (few ws r)).map fun k : Nat => (k : Int)).map V.int))) (fun N hN => ?_) (fun σ H19 hI => ?_)
        · refine ⟨_, rfl, n, rfl, by omega, by omega, fun D hD => ?_⟩
          refine lc_fm (n := ((n : Nat) : Int).toNat) walk_range (List.range n) (fun k => if few ws r k = true then some k else none) (fun _ v k => v = .int (k : Nat)) (fun _ _ _ _ _ h => h) (by rw [List.length_range]; omega) (by omega) hD (fun _ _ => trivial) (fun j z H3 H4 kk Qy Qn hkk s3 y qy qn => ?_) fun acc H3 hl3 s3 hr3 => ?_
          · obtain ⟨rfl, hxe⟩ := y
            have hkn : j < n ∧ j = kk := by
              rw [List.getElem?_eq_some_iff] at hkk
              obtain ⟨h1, h2⟩ := hkk
              rw [List.getElem_range] at h2
              rw [List.length_range] at h1
              exact ⟨h1, h2⟩
            obtain ⟨hjn, rfl⟩ := hkn
            cases (hxe.trans (congrArg V.int (zadd j)) : z = .int (j : Nat))
            refine ⟨rfl, ?_⟩
            have hb3 := s3 _ _ hb17
            have hy3 := hy17.keep (keep_of s3)
            have hrc3 := s3 _ _ hrc
            refine ⟨_, rfl, b, rfl, ⟨ys, SqT.of hb3⟩, fun D2 hD2 => ?_⟩
            refine lc_fm (walk_tup (xs := ys)) ws (fun v => if decide (at_ v j = at_ r j) = true then some v else none) (fun H v r => RowAt H v r) (fun H H' v r k h => h.keep k) hy.len.symm (by rw [hy.len]; omega) hD2 (fun H' sm => SqT.of (sm _ _ hb3)) (fun i2 z2 H5 H6 v Qy2 Qn2 hk2 s5 y2 qy2 qn2 => ?_) fun acc2 H5 hl5 s5 hr5 => ?_
            · obtain ⟨rfl, hz2⟩ := y2
              have hv2 := (hy3.keep (keep_of s5)).both hz2 hk2
              have hvl := (hrow _ (List.mem_of_getElem? hk2)).1
              obtain ⟨vc, rfl, hvc⟩ := id hv2
              refine ⟨rfl, ?_⟩
              refine ⟨_, rfl, _, rfl, vc, _, _, _, rfl, rfl, SqT.of hvc, atI_nat (row_get (by omega)), _, rfl, _, rfl, rc, _, _, _, rfl, rfl, SqT.of (s5 _ _ hrc3), atI_nat (row_get (by have := hrk.1; omega)), rfl, _, rfl, ?_⟩
              rw [eq_dec]
              cases c : decide (at_ v j = at_ r j) with
              | true => exact iteT ⟨_, rfl, qy2 v _ _ (by rw [c]; rfl) (Same.refl _) hv2⟩
              | false => exact iteF (qn2 (by rw [c]; rfl) _ (Same.refl _))
            · rw [fm_if] at hr5
              have ec : (acc2.length : Int) = cnt ws j (at_ r j) := by
                rw [hr5.len]
                rfl
              refine ⟨D2, acc2, rfl, .inl (SqL.of hl5), _, _, rfl, rfl, .inl ⟨by decide, by decide⟩, _, rfl, b, ys, rfl, .inr (SqT.of (s5 _ _ hb3)), _, _, rfl, rfl, decide (2 * cnt ws j (at_ r j) < (ws.length : Int)), ?_, ?_⟩
              · rw [ec, hy.len]
              · cases c : few ws r j with
                | true =>
                  have c2 : decide (2 * cnt ws j (at_ r j) < (ws.length : Int)) = true := c
                  rw [c2]
                  exact iteT ⟨_, rfl, qy j _ _ (by rw [c]; rfl) s5 rfl⟩
                | false =>
                  have c2 : decide (2 * cnt ws j (at_ r j) < (ws.length : Int)) = false := c
                  rw [c2]
                  exact iteF (qn (by rw [c]; rfl) _ s5)
          · rw [fm_if] at hr3
            rw [each_nat hr3] at hl3
            exact hN _ _ ⟨D, rfl, s3, hl3⟩
        · obtain ⟨fw, rfl, s19, hfw⟩ := hI
          have hd19 := s19 _ _ hd
          have hds19 := hds.keep (keep_of s19)
          have hrr19 := hrr.keep (keep_of s19)
          have hiz : i < 256 := by omega
          refine ⟨_, rfl, _, rfl, Nat.zero_le _, fun l0 hl0 => ?_⟩
          have s20 := same_new (o := .lst []) hl0
          refine ⟨_, .list [], dp_il (s20 _ _ hfw), .lst (SqL.of upd_same) .nil, shaped_il _, shaped_il [], _, rfl, ?_⟩
          rw [eqv_il]
          have step : ((kept n us).take (i + 1)).filter p = ((kept n us).take i).filter p ++ (if p r = true then [r] else []) := by
            rw [take_nxt hr1, List.filter_append]
            congr 1
            rw [List.filter_cons]
            rfl
          by_cases c : (List.range n).filter (few ws r) = []
          · have e : ((List.range n).filter (few ws r)).map (fun k : Nat => (k : Int)) = [] := by rw [c]; rfl
            have hp : p r = true := by show ((List.range n).filter (few ws r)).isEmpty = true; rw [c]; rfl
            rw [decide_eq_true e]
            refine iteT ?_
            refine ⟨_, rfl, by show 1 ≤ sizeLine; decide, fun l1 hl1 => ?_⟩
            have s21 := s20.trans (same_new (o := .lst [V.ref rc]) hl1)
            refine ⟨d, l1, ds, _, rfl, rfl, s21 _ _ hd19, upd_same, line_of (by show ds.length + 1 ≤ _; omega), fun q2 hq2 => ?_⟩
            have s22 := s21.trans (same_new (o := .lst (ds ++ [V.ref rc])) hq2)
            refine ⟨_, _, q2, _, rfl, s17.trans (s19.trans s22), upd_same, ?_, by rw [List.length_append]; show ds.length + 1 ≤ _; omega⟩
            rw [step, if_pos hp]
            exact Each.app (hds19.keep (keep_of s22)) (Each.one (hrr19.keep (keep_of s22)))
          · have e : ¬ ((List.range n).filter (few ws r)).map (fun k : Nat => (k : Int)) = [] := fun z => c (List.map_eq_nil_iff.mp z)
            have hp : ¬ p r = true := fun z => c (List.isEmpty_iff.mp z)
            rw [decide_eq_false e]
            refine iteF ?_
            refine ⟨Nat.zero_le _, fun l1 hl1 => ?_⟩
            have s21 := s20.trans (same_new (o := .lst []) hl1)
            refine ⟨d, l1, ds, _, rfl, rfl, s21 _ _ hd19, upd_same, line_of (by show ds.length + 0 ≤ _; omega), fun q2 hq2 => ?_⟩
            have s22 := s21.trans (same_new (o := .lst (ds ++ [])) hq2)
            refine ⟨_, _, q2, _, rfl, s17.trans (s19.trans s22), upd_same, ?_, by rw [List.append_nil]; omega⟩
            rw [step, if_neg hp]
            exact Each.app (hds19.keep (keep_of s22)) .nil
      · obtain ⟨o11, o16, d, ds, rfl, s17, hd, hds, hdl⟩ := pp
        rw [List.take_of_length_le (by omega)] at hds
        have e : (kept n us).filter p = best n us ws := (best_few hvk).symm
        rw [e] at hds
        exact hN _ _ ⟨o11, o16, d, ds, rfl, lw.same s17, ⟨ys, ⟨b, rfl, s17 _ _ hb⟩, hy.keep (keep_of s17)⟩, s17 _ _ hbt, hbs.keep (keep_of s17), hd, hds⟩
    clear lw hv hbt hbs hd0
    obtain ⟨o11, o16, d, ds, rfl, lw, hv, hbt, hbs, hd, hds⟩ := hI
    -- the end of a turn
    refine ⟨_, rfl, _, rfl, _, _, dp_rows hd hds, dp_rows hbt hbs, shaped_rows _, shaped_rows _, _, rfl, ?_⟩
    rw [eqv_lists, decide_eq_true rfl]
    refine iteF ?_
    refine ⟨_, rfl, _, rfl, ?_⟩
    cases odd with
    | false => exact iteF (iteF ⟨_, _, _, _, _, _, _, _, _, _, rfl, lw⟩)
    | true =>
      refine iteT ?_
      refine ⟨_, rfl, _, rfl, _, rfl, n, us, ro, tv, ws, rfl, lw.ro, hv, lw.hu, hvo, of_decide_eq_true hodd, fun v H18 hv18 s18 => ⟨n, us, ro, v, most n ws, rfl, lw.ro.same s18, hv18, most_row n ws, by omega, hwk, lw.hu.2.2, fun H19 s19 => ⟨_, rfl, ?_⟩⟩⟩
      rw [(mem_kept.mp (most_mem hvk (of_decide_eq_true hodd) hwk)).2]
      exact iteF ⟨_, _, _, _, _, _, _, _, _, _, rfl, lw.same (s18.trans s19)⟩
end
end MR

set_option Elab.async false
set_option linter.all false
set_option maxRecDepth 100000
set_option maxHeartbeats 0
namespace MR
open PySem PySem.Spec PyProof.Rows L2
theorem ins_of {K : PySem.W.Frag} {mg : Str → Option Value} (cl : Cls K (He.ga K "Rules")) (h : insB K "Rules" = true) : C8.InsC K (He.ga K "Rules") := by
  obtain ⟨h1, h⟩ := He.ba h
  obtain ⟨h2, h⟩ := He.ba h
  obtain ⟨h3, h⟩ := He.ba h
  obtain ⟨h4, h5⟩ := He.ba h
  exact ⟨cl, He.eqO_ok h1, He.eqO_ok h2, of_decide_eq_true h3, of_decide_eq_true h4, of_decide_eq_true h5⟩
theorem facts {P : Program} {w : World} {K : PySem.W.Frag} {h : Heap} {mg : Str → Option Value} {f : Addr} (X : K.In h) (G : h.Ns mainGlobals mg) (hfa : mg ("law" : Str) = some (.ref f)) (cc : obsX K = valX) :
    ∃ fd : FuncData, (∀ (s : Shared) (v : Value), BindsTo s fd ⟨[v], []⟩ [("_law_script", v)]) ∧ ∀ base : Heap, K.In base → base.Ns mainGlobals mg → FnOk P w K mg base CX0 8 f fd ["_law_script"] (spLaw K) := by
  have c : He.SaysD fa fn K := (Prod.mk.inj cc).1
  have ci : insB K "Rules" = true := (Prod.mk.inj cc).2
  obtain ⟨fd, F⟩ := c.def_ 36 (d := d_law) rfl
  have e := hfa.symm.trans (He.glo_ok X G (c.fact 61 (f := .glo "law") rfl))
  cases e
  have b := FunD.bindsA (ps := ["_law_script"]) F fun _ _ _ _ _ _ us hl => match us, hl with | [_], _ => rfl
  refine ⟨fd, fun s v => b s [v] rfl, fun base _ _ => ?_⟩
  have M := He.mkr_ok (K := K) (x := "Rules") (c.fact 22 (f := .mkr "Rules") rfl)
  have cl := He.cls_ok (K := K) (x := "Rules") (c.fact 19 (f := .cls "Rules") rfl)
  have B : Bl mg := ⟨He.free_ok X G (c.fact 0 (f := .free "isinstance") rfl), He.free_ok X G (c.fact 1 (f := .free "int") rfl), He.free_ok X G (c.fact 2 (f := .free "bool") rfl), He.free_ok X G (c.fact 3 (f := .free "tuple") rfl), He.free_ok X G (c.fact 4 (f := .free "list") rfl), He.free_ok X G (c.fact 5 (f := .free "str") rfl), He.free_ok X G (c.fact 6 (f := .free "len") rfl), He.free_ok X G (c.fact 7 (f := .free "all") rfl), He.free_ok X G (c.fact 8 (f := .free "sum") rfl), He.free_ok X G (c.fact 9 (f := .free "abs") rfl), He.free_ok X G (c.fact 10 (f := .free "zip") rfl), He.free_ok X G (c.fact 11 (f := .free "range") rfl), He.free_ok X G (c.fact 12 (f := .free "enumerate") rfl), He.free_ok X G (c.fact 13 (f := .free "min") rfl), He.free_ok X G (c.fact 14 (f := .free "sorted") rfl), He.free_ok X G (c.fact 15 (f := .free "set") rfl)⟩
  have T : Tx K mg (He.ga K "Rules") := ⟨B, He.int_ok X G (c.fact 16 (f := .int "MOST_PLACES" 8) rfl), He.int_ok X G (c.fact 17 (f := .int "MOST_VOTES" 15) rfl), He.glo_ok X G (c.fact 18 (f := .glo "Rules") rfl), cl, He.noat_ok (c.fact 20 (f := .noat "Rules" "wide") rfl), He.noat_ok (c.fact 21 (f := .noat "Rules" "told") rfl), ins_of (mg := mg) cl ci⟩
  obtain ⟨e1, e2, e3, e4⟩ := He.exc_ok (K := K) (x := "EvenVotes") (c.fact 24 (f := .exc "EvenVotes") rfl)
  have V : Ev K mg (He.ga K "EvenVotes") := ⟨He.glo_ok X G (c.fact 23 (f := .glo "EvenVotes") rfl), e1, e2, e3, e4, He.exm_ok (c.fact 25 (f := .exm "EvenVotes" "EvenVotes" true) rfl)⟩
  obtain ⟨fdI, FI0⟩ := c.def_ 0 (d := dI) rfl
  have D_is_from : Df K mg "is_from" s_is_from := by
    obtain ⟨fd, F⟩ := c.def_ 1 (d := d_is_from) rfl
    exact ⟨_, fd, He.glo_ok X G (c.fact 26 (f := .glo "is_from") rfl), F⟩
  have D_is_want_of : Df K mg "is_want_of" s_is_want_of := by
    obtain ⟨fd, F⟩ := c.def_ 2 (d := d_is_want_of) rfl
    exact ⟨_, fd, He.glo_ok X G (c.fact 27 (f := .glo "is_want_of") rfl), F⟩
  have D_off : Df K mg "off" s_off := by
    obtain ⟨fd, F⟩ := c.def_ 3 (d := d_off) rfl
    exact ⟨_, fd, He.glo_ok X G (c.fact 28 (f := .glo "off") rfl), F⟩
  have D_is_rule_of : Df K mg "is_rule_of" s_is_rule_of := by
    obtain ⟨fd, F⟩ := c.def_ 4 (d := d_is_rule_of) rfl
    exact ⟨_, fd, He.glo_ok X G (c.fact 29 (f := .glo "is_rule_of") rfl), F⟩
  have D_need_rules : Df K mg "need_rules" s_need_rules := by
    obtain ⟨fd, F⟩ := c.def_ 5 (d := d_need_rules) rfl
    exact ⟨_, fd, He.glo_ok X G (c.fact 30 (f := .glo "need_rules") rfl), F⟩
  have D_is_row_of : Df K mg "is_row_of" s_is_row_of := by
    obtain ⟨fd, F⟩ := c.def_ 6 (d := d_is_row_of) rfl
    exact ⟨_, fd, He.glo_ok X G (c.fact 31 (f := .glo "is_row_of") rfl), F⟩
  have D_need_row : Df K mg "need_row" s_need_row := by
    obtain ⟨fd, F⟩ := c.def_ 7 (d := d_need_row) rfl
    exact ⟨_, fd, He.glo_ok X G (c.fact 32 (f := .glo "need_row") rfl), F⟩
  have D_has : Df K mg "has" s_has := by
    obtain ⟨fd, F⟩ := c.def_ 8 (d := d_has) rfl
    exact ⟨_, fd, He.glo_ok X G (c.fact 33 (f := .glo "has") rfl), F⟩
  have D_is_kept : Df K mg "is_kept" s_is_kept := by
    obtain ⟨fd, F⟩ := c.def_ 9 (d := d_is_kept) rfl
    exact ⟨_, fd, He.glo_ok X G (c.fact 34 (f := .glo "is_kept") rfl), F⟩
  have D_are_kept : Df K mg "are_kept" s_are_kept := by
    obtain ⟨fd, F⟩ := c.def_ 10 (d := d_are_kept) rfl
    exact ⟨_, fd, He.glo_ok X G (c.fact 35 (f := .glo "are_kept") rfl), F⟩
  have D_keeps : Df K mg "keeps" s_keeps := by
    obtain ⟨fd, F⟩ := c.def_ 11 (d := d_keeps) rfl
    exact ⟨_, fd, He.glo_ok X G (c.fact 36 (f := .glo "keeps") rfl), F⟩
  have D_all_rows : Df K mg "all_rows" s_all_rows := by
    obtain ⟨fd, F⟩ := c.def_ 12 (d := d_all_rows) rfl
    exact ⟨_, fd, He.glo_ok X G (c.fact 37 (f := .glo "all_rows") rfl), F⟩
  have D_kept_rows : Df K mg "kept_rows" s_kept_rows := by
    obtain ⟨fd, F⟩ := c.def_ 13 (d := d_kept_rows) rfl
    exact ⟨_, fd, He.glo_ok X G (c.fact 38 (f := .glo "kept_rows") rfl), F⟩
  have D_need_kept : Df K mg "need_kept" s_need_kept := by
    obtain ⟨fd, F⟩ := c.def_ 14 (d := d_need_kept) rfl
    exact ⟨_, fd, He.glo_ok X G (c.fact 39 (f := .glo "need_kept") rfl), F⟩
  have D_unlike : Df K mg "unlike" s_unlike := by
    obtain ⟨fd, F⟩ := c.def_ 15 (d := d_unlike) rfl
    exact ⟨_, fd, He.glo_ok X G (c.fact 40 (f := .glo "unlike") rfl), F⟩
  have D_need_votes : Df K mg "need_votes" s_need_votes := by
    obtain ⟨fd, F⟩ := c.def_ 16 (d := d_need_votes) rfl
    exact ⟨_, fd, He.glo_ok X G (c.fact 41 (f := .glo "need_votes") rfl), F⟩
  have D_need_odd : Df K mg "need_odd" s_need_odd := by
    obtain ⟨fd, F⟩ := c.def_ 17 (d := d_need_odd) rfl
    exact ⟨_, fd, He.glo_ok X G (c.fact 42 (f := .glo "need_odd") rfl), F⟩
  have D_steps_to : Df K mg "steps_to" s_steps_to := by
    obtain ⟨fd, F⟩ := c.def_ 18 (d := d_steps_to) rfl
    exact ⟨_, fd, He.glo_ok X G (c.fact 43 (f := .glo "steps_to") rfl), F⟩
  have D_total_steps : Df K mg "total_steps" s_total_steps := by
    obtain ⟨fd, F⟩ := c.def_ 19 (d := d_total_steps) rfl
    exact ⟨_, fd, He.glo_ok X G (c.fact 44 (f := .glo "total_steps") rfl), F⟩
  have D_least_totals : Df K mg "least_totals" s_least_totals := by
    obtain ⟨fd, F⟩ := c.def_ 20 (d := d_least_totals) rfl
    exact ⟨_, fd, He.glo_ok X G (c.fact 45 (f := .glo "least_totals") rfl), F⟩
  have D_most_of : Df K mg "most_of" s_most_of := by
    obtain ⟨fd, F⟩ := c.def_ 21 (d := d_most_of) rfl
    exact ⟨_, fd, He.glo_ok X G (c.fact 46 (f := .glo "most_of") rfl), F⟩
  have D_most_row : Df K mg "most_row" s_most_row := by
    obtain ⟨fd, F⟩ := c.def_ 22 (d := d_most_row) rfl
    exact ⟨_, fd, He.glo_ok X G (c.fact 47 (f := .glo "most_row") rfl), F⟩
  have D_law_taken : Df K mg "_law_taken" s_law_taken := by
    obtain ⟨fd, F⟩ := c.def_ 23 (d := d_law_taken) rfl
    exact ⟨_, fd, He.glo_ok X G (c.fact 48 (f := .glo "_law_taken") rfl), F⟩
  have D_law_all_rules : Df K mg "_law_all_rules" s_law_all_rules := by
    obtain ⟨fd, F⟩ := c.def_ 24 (d := d_law_all_rules) rfl
    exact ⟨_, fd, He.glo_ok X G (c.fact 49 (f := .glo "_law_all_rules") rfl), F⟩
  have D_law_pick : Df K mg "_law_pick" s_law_pick := by
    obtain ⟨fd, F⟩ := c.def_ 25 (d := d_law_pick) rfl
    exact ⟨_, fd, He.glo_ok X G (c.fact 50 (f := .glo "_law_pick") rfl), F⟩
  have D_law_rows : Df K mg "_law_rows" s_law_rows := by
    obtain ⟨fd, F⟩ := c.def_ 26 (d := d_law_rows) rfl
    exact ⟨_, fd, He.glo_ok X G (c.fact 51 (f := .glo "_law_rows") rfl), F⟩
  have D_law_keeps : Df K mg "_law_keeps" s_law_keeps := by
    obtain ⟨fd, F⟩ := c.def_ 27 (d := d_law_keeps) rfl
    exact ⟨_, fd, He.glo_ok X G (c.fact 52 (f := .glo "_law_keeps") rfl), F⟩
  have D_law_some_rules : Df K mg "_law_some_rules" s_law_some_rules := by
    obtain ⟨fd, F⟩ := c.def_ 28 (d := d_law_some_rules) rfl
    exact ⟨_, fd, He.glo_ok X G (c.fact 53 (f := .glo "_law_some_rules") rfl), F⟩
  have D_law_kept : Df K mg "_law_kept" s_law_kept := by
    obtain ⟨fd, F⟩ := c.def_ 29 (d := d_law_kept) rfl
    exact ⟨_, fd, He.glo_ok X G (c.fact 54 (f := .glo "_law_kept") rfl), F⟩
  have D_law_good_rules : Df K mg "_law_good_rules" s_law_good_rules := by
    obtain ⟨fd, F⟩ := c.def_ 30 (d := d_law_good_rules) rfl
    exact ⟨_, fd, He.glo_ok X G (c.fact 55 (f := .glo "_law_good_rules") rfl), F⟩
  have D_law_votes : Df K mg "_law_votes" s_law_votes := by
    obtain ⟨fd, F⟩ := c.def_ 31 (d := d_law_votes) rfl
    exact ⟨_, fd, He.glo_ok X G (c.fact 56 (f := .glo "_law_votes") rfl), F⟩
  have D_law_alike : Df K mg "_law_alike" s_law_alike := by
    obtain ⟨fd, F⟩ := c.def_ 32 (d := d_law_alike) rfl
    exact ⟨_, fd, He.glo_ok X G (c.fact 57 (f := .glo "_law_alike") rfl), F⟩
  have D_law_most : Df K mg "_law_most" s_law_most := by
    obtain ⟨fd, F⟩ := c.def_ 33 (d := d_law_most) rfl
    exact ⟨_, fd, He.glo_ok X G (c.fact 58 (f := .glo "_law_most") rfl), F⟩
  have D_law_apart : Df K mg "_law_apart" s_law_apart := by
    obtain ⟨fd, F⟩ := c.def_ 34 (d := d_law_apart) rfl
    exact ⟨_, fd, He.glo_ok X G (c.fact 59 (f := .glo "_law_apart") rfl), F⟩
  have D_law_told : Df K mg "_law_told" s_law_told := by
    obtain ⟨fd, F⟩ := c.def_ 35 (d := d_law_told) rfl
    exact ⟨_, fd, He.glo_ok X G (c.fact 60 (f := .glo "_law_told") rfl), F⟩
  have c_is_from := cal_is_from (P := P) (w := w) (base := base) D_is_from T
  have c_is_want_of := cal_is_want_of D_is_want_of T c_is_from
  have c_off := cal_off (P := P) (w := w) (base := base) D_off
  have c_has := cal_has (P := P) (w := w) (base := base) D_has
  have c_is_kept := cal_is_kept D_is_kept c_has
  have c_is_rule_of := cal_is_rule_of D_is_rule_of T c_is_want_of c_off
  have c_are_kept := cal_are_kept D_are_kept T c_is_kept
  have c_is_row_of := cal_is_row_of D_is_row_of T c_is_from
  have c_need_row := cal_need_row D_need_row T c_is_row_of
  have c_need_rules := cal_need_rules (P := P) (w := w) (base := base) D_need_rules T
  have c_keeps := cal_keeps D_keeps T c_need_rules c_need_row c_are_kept
  have c_all_rows := cal_all_rows (P := P) (w := w) (base := base) D_all_rows T
  have c_kept_rows := cal_kept_rows D_kept_rows T c_all_rows c_are_kept
  have c_need_kept := cal_need_kept D_need_kept T c_need_row c_are_kept
  have c_unlike := cal_unlike (P := P) (w := w) (base := base) D_unlike T
  have c_steps_to := cal_steps_to D_steps_to T c_unlike
  have c_need_votes := cal_need_votes D_need_votes T c_need_rules c_is_row_of c_are_kept
  have c_total_steps := cal_total_steps D_total_steps T c_need_votes c_need_kept c_steps_to
  have c_least_totals := cal_least_totals D_least_totals T c_need_votes c_kept_rows c_steps_to
  have c_most_of := cal_most_of (P := P) (w := w) (base := base) D_most_of T
  obtain ⟨FI, bI⟩ := ok_init FI0 T c_is_from c_is_rule_of
  have c_need_odd := cal_need_odd D_need_odd T V c_need_votes
  have c_most_row := cal_most_row D_most_row T c_need_odd c_most_of
  have c_law_told := cal_law_told D_law_told T V c_most_row
  have c_need_odd0 := cal_need_odd0 D_need_odd T c_need_votes
  have c_most_row0 := cal_most_row0 D_most_row T c_need_odd0 c_most_of
  have c_law_taken := cal_law_taken (P := P) (w := w) (base := base) D_law_taken T
  have c_law_pick := cal_law_pick D_law_pick T c_law_taken
  have c_law_rows := cal_law_rows (P := P) (w := w) (base := base) D_law_rows T
  have c_law_keepsL := cal_law_keepsL (P := P) (w := w) (base := base) D_law_keeps T
  have c_law_keepsT := cal_law_keepsT (P := P) (w := w) (base := base) D_law_keeps T
  have c_law_kept := cal_law_kept D_law_kept T c_law_rows c_law_keepsT
  have c_law_most := cal_law_most (P := P) (w := w) (base := base) D_law_most T
  have c_law_apart := cal_law_apart (P := P) (w := w) (base := base) D_law_apart T
  have c_law_all_rules := cal_law_all_rules (P := P) (w := w) (base := base) D_law_all_rules T
  have c_law_some_rules := cal_law_some_rules D_law_some_rules T c_law_all_rules c_law_taken c_law_pick c_law_rows c_law_keepsL
  have c_law_good_rules := cal_law_good_rules D_law_good_rules T c_law_taken c_law_some_rules c_law_kept
  have c_law_votes := cal_law_votes D_law_votes T c_law_taken c_law_pick
  have c_law_alike0 := cal_law_alike0 (P := P) (w := w) (base := base) D_law_alike T
  have c_law_alike := cal_law_alike1 D_law_alike T c_law_alike0
  have c_law_alike2 := cal_law_alike2 D_law_alike T c_law_alike
  exact ok_law F T M FI bI c_law_good_rules c_law_kept c_law_votes c_law_told c_law_most c_law_alike c_law_alike2 c_law_apart c_least_totals c_law_taken c_total_steps c_keeps c_most_row0
end MR
open PySem PySem.W PySem.Calls PyProof.Rows
set_option maxRecDepth 100000 in
set_option maxHeartbeats 0 in
theorem PySem.Challenge.cw_middlerows_k03_whole_rows_of_most_holds : PySem.Challenge.rw_middlerows_k03_whole_rows_of_most.Holds := by
  w_on; o_law
  refine HandSHeadRun.head_any (r := OpenLaw.row PySem.Challenge.rw_middlerows_k03_whole_rows_of_most) (q := view (OpenLaw.row PySem.Challenge.rw_middlerows_k03_whole_rows_of_most).prog [51]) (H := MR.hk) (ob := MR.ob) (M := 4000) (loose := MR.nms) (d := HandSHeadRun.topDef (OpenLaw.row PySem.Challenge.rw_middlerows_k03_whole_rows_of_most).prog 51) (kwd := []) MR.ob_eq
    (by kernel_rfl) (fun s => by kernel_rfl) MR.run (by kernel_rfl) (by kernel_rfl) (by kernel_rfl) (by rfl) (by first | assumption | decide +kernel) (by decide +kernel) ⟨rfl, rfl, rfl, rfl, rfl, by decide +kernel⟩ ?hw ?hc
  case hw => w_witness2
  case hc =>
    refine L2.walk_ofE (l := PySem.Challenge.rw_middlerows_k03_whole_rows_of_most) (n := 63) (k := 8) (x := "_law_script") (CX := L2.CX0) rfl (by decide) (by kernel_rfl) ⟨rfl, by decide, by decide⟩ ?F (fun _ _ _ _ z => z)
    intro w mg fa h Y G hmg0
    obtain ⟨K, KX, c⟩ := Y
    have hmg : mg ("law" : PySem.Str) = some (.ref fa) := by
      have e : (HandSHeadRun.topDef (OpenLaw.row PySem.Challenge.rw_middlerows_k03_whole_rows_of_most).prog 51).name = ("law" : PySem.Str) := by kernel_rfl
      rw [← e]
      exact hmg0
    obtain ⟨fd, hb, hF⟩ := MR.facts (P := (PySem.Challenge.rw_middlerows_k03_whole_rows_of_most).prog) (w := w) KX G hmg c
    exact ⟨K, fd, MR.spLaw K, KX, hb, fun H a ns hl _ hS => ⟨a, ns, rfl, hS, fun _ => rfl⟩, hF⟩
