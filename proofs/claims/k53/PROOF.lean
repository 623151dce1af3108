import PyProof.Rows.All
import Wide.All
import OpenK.AllK
import Wide.FinOn
import HandS.ForMost
import HandS.Evl
import HandS.Deep
import HandS.TupLe
import HandS.TupAny
import HandS.IsInst
import HandS.Style
import HandS.RevTup
import KE.SortData
import KE.KStar
import KE.GoesNew
import HandS.Rev
import PySem.Challenge.RW_gridink_k53_whole_roads_of_switches
set_option Elab.async false
set_option linter.all false
-- part K53Math
set_option autoImplicit false
namespace K53

/-! ### counting over range n -/
def cnt (n : Nat) (p : Nat → Bool) : Nat := (List.range n).countP p
theorem cnt_zero (p : Nat → Bool) : cnt 0 p = 0 := rfl
theorem cnt_succ (n : Nat) (p : Nat → Bool) : cnt (n + 1) p = cnt n p + (if p n = true then 1 else 0) := by
  unfold cnt
  rw [List.range_succ, List.countP_append, List.countP_singleton]
theorem cnt_congr {n : Nat} {p q : Nat → Bool} (h : ∀ i, i < n → p i = q i) : cnt n p = cnt n q := by
  induction n with
  | zero => rfl
  | succ n ih => rw [cnt_succ, cnt_succ, ih (fun i hi => h i (by omega)), h n (by omega)]
theorem cnt_le_of {n : Nat} {p q : Nat → Bool} (h : ∀ i, i < n → p i = true → q i = true) : cnt n p ≤ cnt n q := by
  induction n with
  | zero => exact Nat.le_refl _
  | succ n ih =>
    rw [cnt_succ, cnt_succ]
    have h1 := ih (fun i hi => h i (by omega))
    have h2 := h n (by omega)
    cases hp : p n with
    | false => simp; omega
    | true => rw [h2 hp]; simp; omega
theorem cnt_le (n : Nat) (p : Nat → Bool) : cnt n p ≤ n := by
  induction n with
  | zero => exact Nat.le_refl _
  | succ n ih => rw [cnt_succ]; split <;> omega
theorem cnt_ex {n : Nat} {p q : Nat → Bool} (h : cnt n p < cnt n q) : ∃ i, i < n ∧ q i = true ∧ p i = false := by
  apply Classical.byContradiction
  intro hn
  have : cnt n q ≤ cnt n p := cnt_le_of fun i hi hq => by
    cases hp : p i with
    | true => rfl
    | false => exact (hn ⟨i, hi, hq, hp⟩).elim
  omega
theorem cnt_pos {n : Nat} {p : Nat → Bool} (h : 0 < cnt n p) : ∃ i, i < n ∧ p i = true := by
  have h0 : cnt n (fun _ => false) = 0 := by
    unfold cnt; rw [List.countP_eq_zero]; intro a _; simp
  obtain ⟨i, hi, hq, _⟩ := cnt_ex (n := n) (p := fun _ => false) (q := p) (by rw [h0]; exact h)
  exact ⟨i, hi, hq⟩
theorem cnt_pos_of {n i : Nat} {p : Nat → Bool} (hi : i < n) (h : p i = true) : 0 < cnt n p := by
  unfold cnt; rw [List.countP_pos_iff]; exact ⟨i, List.mem_range.mpr hi, h⟩
theorem cnt_zero_iff {n : Nat} {p : Nat → Bool} : cnt n p = 0 ↔ ∀ i, i < n → p i = false := by
  unfold cnt; rw [List.countP_eq_zero]
  constructor
  · intro h i hi; have := h i (List.mem_range.mpr hi); cases hp : p i <;> simp_all
  · intro h i hi; rw [h i (List.mem_range.mp hi)]; simp
/-- one more at a -/
theorem cnt_one {n a : Nat} {p q : Nat → Bool} (ha : a < n) (hp : p a = true) (hq : q a = false) (h : ∀ i, i < n → i ≠ a → p i = q i) : cnt n p = cnt n q + 1 := by
  induction n with
  | zero => omega
  | succ n ih =>
    rw [cnt_succ, cnt_succ]
    by_cases e : a = n
    · subst e
      rw [cnt_congr (n := a) (p := p) (q := q) (fun i hi => h i (by omega) (by omega)), hp, hq]; simp
    · rw [ih (by omega) (fun i hi => h i (by omega)), h n (by omega) (by omega)]; split <;> omega
/-- two places changed -/
theorem cnt_swap {n a b : Nat} {p q : Nat → Bool} (ha : a < n) (hb : b < n) (hab : a ≠ b) (h1 : p a = !p b) (h2 : q a = !p a) (h3 : q b = !p b) (h : ∀ i, i < n → i ≠ a → i ≠ b → p i = q i) : cnt n p = cnt n q := by
  -- the common part
  let m : Nat → Bool := fun i => if i = a then false else if i = b then false else p i
  have ma : m a = false := by simp [m]
  have mb : m b = false := by simp [m]
  have mo : ∀ i, i ≠ a → i ≠ b → m i = p i := fun i x y => by simp [m, x, y]
  cases hpb : p b with
  | true =>
    rw [hpb] at h1 h3
    rw [h1] at h2
    simp at h1 h2 h3
    have e1 : cnt n p = cnt n m + 1 := cnt_one hb hpb mb fun i hi hne => by
      by_cases x : i = a
      · subst x; rw [h1, ma]
      · exact (mo i x hne).symm
    have e2 : cnt n q = cnt n m + 1 := cnt_one ha h2 ma fun i hi hne => by
      by_cases x : i = b
      · subst x; rw [h3, mb]
      · rw [mo i hne x, h i hi hne x]
    omega
  | false =>
    rw [hpb] at h1 h3
    rw [h1] at h2
    simp at h1 h2 h3
    have e1 : cnt n p = cnt n m + 1 := cnt_one ha h1 ma fun i hi hne => by
      by_cases x : i = b
      · subst x; rw [hpb, mb]
      · exact (mo i hne x).symm
    have e2 : cnt n q = cnt n m + 1 := cnt_one hb h3 mb fun i hi hne => by
      by_cases x : i = a
      · subst x; rw [h2, ma]
      · rw [mo i x hne, h i hi x hne]
    omega
theorem cnt_diff (n : Nat) (p q : Nat → Bool) : cnt n (fun i => p i && !q i) + cnt n q = cnt n (fun i => q i && !p i) + cnt n p := by
  induction n with
  | zero => rfl
  | succ n ih =>
    rw [cnt_succ, cnt_succ, cnt_succ, cnt_succ]
    cases p n <;> cases q n <;> simp <;> omega
/-- rows ahead of one, the one, rows behind -/
theorem cnt_split {n a : Nat} (ha : a < n) (p : Nat → Bool) : cnt n p = cnt n (fun i => decide (i < a) && p i) + (if p a = true then 1 else 0) + cnt n (fun i => decide (a < i) && p i) := by
  have key : ∀ m, cnt m p = cnt m (fun i => decide (i < a) && p i) + (if a < m ∧ p a = true then 1 else 0) + cnt m (fun i => decide (a < i) && p i) := by
    intro m
    induction m with
    | zero => simp [cnt_zero]
    | succ m ih =>
      rw [cnt_succ, cnt_succ, cnt_succ, ih]
      by_cases h1 : m < a
      · have h2 : ¬ a < m := by omega
        have h3 : ¬ a < m + 1 := by omega
        simp [h1, h2, h3]; omega
      · by_cases h2 : m = a
        · subst h2
          simp
          split <;> omega
        · have h3 : a < m := by omega
          have h4 : a < m + 1 := by omega
          simp [h1, h3, h4]; omega
  have := key n
  simpa [ha] using this
theorem cnt_add (n : Nat) (p q : Nat → Bool) (h : ∀ i, i < n → ¬ (p i = true ∧ q i = true)) : cnt n (fun i => p i || q i) = cnt n p + cnt n q := by
  induction n with
  | zero => rfl
  | succ n ih =>
    have := ih fun i hi => h i (by omega)
    have h2 := h n (by omega)
    rw [cnt_succ, cnt_succ, cnt_succ]
    cases hp : p n <;> cases hq : q n <;> simp [hp, hq] at h2 ⊢ <;> omega

/-! ### inks -/
abbrev Cell := Nat × Nat
abbrev Ink := List Cell
abbrev Sw := Nat × Nat × Nat × Nat
def clt (a b : Cell) : Prop := a.1 < b.1 ∨ (a.1 = b.1 ∧ a.2 < b.2)
theorem clt_irrefl (a : Cell) : ¬ clt a a := by unfold clt; omega
theorem clt_trans {a b c : Cell} (h : clt a b) (h' : clt b c) : clt a c := by unfold clt at *; omega
theorem clt_ne {a b : Cell} (h : clt a b) : a ≠ b := by rintro rfl; exact clt_irrefl _ h
theorem clt_tri (a b : Cell) : clt a b ∨ a = b ∨ clt b a := by
  obtain ⟨a1, a2⟩ := a; obtain ⟨b1, b2⟩ := b
  unfold clt
  simp only [Prod.mk.injEq]
  omega
structure InF (h w : Nat) (l : Ink) : Prop where
  asc : l.Pairwise clt
  fr : ∀ c, c ∈ l → c.1 < h ∧ c.2 < w
theorem asc_nodup {l : Ink} (h : l.Pairwise clt) : l.Nodup := h.imp fun x => clt_ne x
theorem asc_ext : ∀ {l m : Ink}, l.Pairwise clt → m.Pairwise clt → (∀ c, c ∈ l ↔ c ∈ m) → l = m
  | [], [], _, _, _ => rfl
  | [], b :: m, _, _, h => by have := (h b).mpr (by simp); simp at this
  | a :: l, [], _, _, h => by have := (h a).mp (by simp); simp at this
  | a :: l, b :: m, hl, hm, h => by
    obtain ⟨h1, h2⟩ := List.pairwise_cons.mp hl
    obtain ⟨h3, h4⟩ := List.pairwise_cons.mp hm
    have e : a = b := by
      have ha := (h a).mp (by simp)
      have hb := (h b).mpr (by simp)
      rcases List.mem_cons.mp ha with x | x
      · exact x
      · rcases List.mem_cons.mp hb with y | y
        · exact y.symm
        · exact absurd (clt_trans (h1 b y) (h3 a x)) (clt_irrefl _)
    subst e
    have hne : ∀ x, x ∈ l → x ≠ a := fun x hx => (clt_ne (h1 x hx)).symm
    have hnm : ∀ x, x ∈ m → x ≠ a := fun x hx => (clt_ne (h3 x hx)).symm
    rw [asc_ext h2 h4 fun c => ⟨fun hc => by
      rcases List.mem_cons.mp ((h c).mp (List.mem_cons_of_mem _ hc)) with x | x
      · exact absurd x (hne c hc)
      · exact x, fun hc => by
      rcases List.mem_cons.mp ((h c).mpr (List.mem_cons_of_mem _ hc)) with x | x
      · exact absurd x (hnm c hc)
      · exact x⟩]

def has (l : Ink) (r c : Nat) : Bool := decide ((r, c) ∈ l)
theorem has_iff {l : Ink} {r c : Nat} : has l r c = true ↔ (r, c) ∈ l := by unfold has; simp
theorem has_false {l : Ink} {r c : Nat} : has l r c = false ↔ (r, c) ∉ l := by unfold has; simp
theorem InF.ext {h w : Nat} {l m : Ink} (hl : InF h w l) (hm : InF h w m) (e : ∀ r c, r < h → c < w → has l r c = has m r c) : l = m := by
  refine asc_ext hl.asc hm.asc fun x => ?_
  obtain ⟨r, c⟩ := x
  constructor
  · intro hx
    have b := hl.fr _ hx
    have := e r c b.1 b.2
    rw [has_iff.mpr hx] at this
    exact has_iff.mp this.symm
  · intro hx
    have b := hm.fr _ hx
    have := e r c b.1 b.2
    rw [has_iff.mpr hx] at this
    exact has_iff.mp this
/-- a row's cells of a kind -/
theorem countRow {h w : Nat} (row : Nat) (q : Nat → Bool) : ∀ {l : Ink}, l.Nodup → (∀ c, c ∈ l → c.1 < h ∧ c.2 < w) → l.countP (fun p => p.1 == row && q p.2) = cnt w (fun c => has l row c && q c)
  | [], _, _ => by
    have : cnt w (fun c => has [] row c && q c) = 0 := cnt_zero_iff.mpr fun i _ => by simp [has]
    rw [this]; rfl
  | (a, b) :: l, hn, hf => by
    obtain ⟨h1, h2⟩ := List.nodup_cons.mp hn
    have ih := countRow row q h2 fun c hc => hf c (List.mem_cons_of_mem _ hc)
    rw [List.countP_cons, ih]
    by_cases e : a = row ∧ q b = true
    · obtain ⟨rfl, e2⟩ := e
      have hb : b < w := (hf (a, b) (by simp)).2
      rw [cnt_one (n := w) (a := b) (p := fun c => has ((a, b) :: l) a c && q c) (q := fun c => has l a c && q c) hb (by simp [has, e2]) (by simp [has, h1]) (fun i hi hne => by simp [has, hne])]
      simp [e2]
    · have e' : ((a == row) && q b) = false := by
        cases x : q b
        · simp
        · simp; intro y; exact e ⟨y, x⟩
      rw [e', cnt_congr (n := w) (p := fun c => has ((a, b) :: l) row c && q c) (q := fun c => has l row c && q c) fun i hi => ?_]
      · simp
      · by_cases x : row = a ∧ i = b
        · obtain ⟨rfl, rfl⟩ := x
          have : q i = false := by
            cases y : q i
            · rfl
            · exact absurd ⟨rfl, y⟩ e
          simp [this]
        · simp only [has, List.mem_cons, Prod.mk.injEq, x, false_or]
theorem countCol {h w : Nat} (col : Nat) (q : Nat → Bool) : ∀ {l : Ink}, l.Nodup → (∀ c, c ∈ l → c.1 < h ∧ c.2 < w) → l.countP (fun p => p.2 == col && q p.1) = cnt h (fun r => has l r col && q r)
  | [], _, _ => by
    have : cnt h (fun r => has [] r col && q r) = 0 := cnt_zero_iff.mpr fun i _ => by simp [has]
    rw [this]; rfl
  | (a, b) :: l, hn, hf => by
    obtain ⟨h1, h2⟩ := List.nodup_cons.mp hn
    have ih := countCol col q h2 fun c hc => hf c (List.mem_cons_of_mem _ hc)
    rw [List.countP_cons, ih]
    by_cases e : b = col ∧ q a = true
    · obtain ⟨rfl, e2⟩ := e
      have hb : a < h := (hf (a, b) (by simp)).1
      rw [cnt_one (n := h) (a := a) (p := fun r => has ((a, b) :: l) r b && q r) (q := fun r => has l r b && q r) hb (by simp [has, e2]) (by simp [has, h1]) (fun i hi hne => by simp [has, hne])]
      simp [e2]
    · have e' : ((b == col) && q a) = false := by
        cases x : q a
        · simp
        · simp; intro y; exact e ⟨y, x⟩
      rw [e', cnt_congr (n := h) (p := fun r => has ((a, b) :: l) r col && q r) (q := fun r => has l r col && q r) fun i hi => ?_]
      · simp
      · by_cases x : i = a ∧ col = b
        · obtain ⟨rfl, rfl⟩ := x
          have : q i = false := by
            cases y : q i
            · rfl
            · exact absurd ⟨rfl, y⟩ e
          simp [this]
        · simp only [has, List.mem_cons, Prod.mk.injEq, x, false_or]
def rowS (l : Ink) (r : Nat) : Nat := l.countP (fun c => c.1 == r)
def colS (l : Ink) (c : Nat) : Nat := l.countP (fun x => x.2 == c)
theorem InF.rowS {h w : Nat} {l : Ink} (hl : InF h w l) (r : Nat) : rowS l r = cnt w (fun c => has l r c) := by
  have := countRow (h := h) (w := w) r (fun _ => true) (asc_nodup hl.asc) hl.fr
  simpa [K53.rowS] using this
theorem InF.colS {h w : Nat} {l : Ink} (hl : InF h w l) (c : Nat) : colS l c = cnt h (fun r => has l r c) := by
  have := countCol (h := h) (w := w) c (fun _ => true) (asc_nodup hl.asc) hl.fr
  simpa [K53.colS] using this
def sumsM (l : Ink) (h w : Nat) : List Nat × List Nat := ((List.range h).map (rowS l), (List.range w).map (colS l))
/-- the same sums, as counts -/
structure SameS (h w : Nat) (l m : Ink) : Prop where
  row : ∀ r, r < h → cnt w (fun c => has l r c) = cnt w (fun c => has m r c)
  col : ∀ c, c < w → cnt h (fun r => has l r c) = cnt h (fun r => has m r c)
theorem map_range_eq {α : Type} {n : Nat} {f g : Nat → α} : (List.range n).map f = (List.range n).map g ↔ ∀ i, i < n → f i = g i := by
  rw [List.map_inj_left]
  constructor
  · intro h i hi; exact h i (List.mem_range.mpr hi)
  · intro h i hi; exact h i (List.mem_range.mp hi)
theorem sameS_iff {h w : Nat} {l m : Ink} (hl : InF h w l) (hm : InF h w m) : sumsM l h w = sumsM m h w ↔ SameS h w l m := by
  unfold sumsM
  rw [Prod.mk.injEq, map_range_eq, map_range_eq]
  constructor
  · rintro ⟨a, b⟩
    exact ⟨fun r hr => by rw [← hl.rowS, ← hm.rowS]; exact a r hr, fun c hc => by rw [← hl.colS, ← hm.colS]; exact b c hc⟩
  · rintro ⟨a, b⟩
    exact ⟨fun r hr => by rw [hl.rowS, hm.rowS]; exact a r hr, fun c hc => by rw [hl.colS, hm.colS]; exact b c hc⟩
theorem SameS.trans {h w : Nat} {l m n : Ink} (a : SameS h w l m) (b : SameS h w m n) : SameS h w l n := ⟨fun r hr => (a.row r hr).trans (b.row r hr), fun c hc => (a.col c hc).trans (b.col c hc)⟩
theorem SameS.symm {h w : Nat} {l m : Ink} (a : SameS h w l m) : SameS h w m l := ⟨fun r hr => (a.row r hr).symm, fun c hc => (a.col c hc).symm⟩
theorem SameS.refl (h w : Nat) (l : Ink) : SameS h w l l := ⟨fun _ _ => rfl, fun _ _ => rfl⟩

/-! ### sorting cells -/
def cle (a b : Cell) : Bool := decide (a.1 < b.1 ∨ (a.1 = b.1 ∧ a.2 ≤ b.2))
def msort (l : List Cell) : List Cell := l.mergeSort cle
theorem mem_msort {l : List Cell} {x : Cell} : x ∈ msort l ↔ x ∈ l := (List.mergeSort_perm l cle).mem_iff
theorem msort_asc {l : List Cell} (h : l.Nodup) : (msort l).Pairwise clt := by
  have h1 : (msort l).Pairwise (fun a b => cle a b = true) := List.pairwise_mergeSort (fun a b c => by unfold cle; simp only [decide_eq_true_eq]; omega) (fun a b => by unfold cle; simp only [Bool.or_eq_true, decide_eq_true_eq]; omega) l
  have h2 : (msort l).Nodup := (List.mergeSort_perm l cle).nodup_iff.mpr h
  refine (h1.and h2).imp fun {a b} hh => ?_
  obtain ⟨x, y⟩ := hh
  unfold cle at x
  have x' := of_decide_eq_true x
  obtain ⟨a1, a2⟩ := a; obtain ⟨b1, b2⟩ := b
  simp only [ne_eq, Prod.mk.injEq, not_and] at y x' ⊢
  unfold clt
  simp only
  by_cases e : a1 = b1
  · have := y e; omega
  · omega

/-! ### switches -/
def cornersM (s : Sw) : List Cell := [(s.1, s.2.1), (s.1, s.2.2.2), (s.2.2.1, s.2.1), (s.2.2.1, s.2.2.2)]
def bitsM (l : Ink) (s : Sw) : List Bool := (cornersM s).map fun x => decide (x ∈ l)
structure IsSw (h w : Nat) (l : Ink) (s : Sw) : Prop where
  ro : s.1 < s.2.2.1
  oh : s.2.2.1 < h
  cm : s.2.1 < s.2.2.2
  mw : s.2.2.2 < w
  bits : bitsM l s = [true, false, false, true] ∨ bitsM l s = [false, true, true, false]
def swM (l : Ink) (s : Sw) : Ink := msort (l.filter (fun x => !decide (x ∈ cornersM s)) ++ (cornersM s).filter (fun x => !decide (x ∈ l)))
theorem mem_swM {l : Ink} {s : Sw} {x : Cell} : x ∈ swM l s ↔ (x ∈ l ∧ x ∉ cornersM s) ∨ (x ∈ cornersM s ∧ x ∉ l) := by
  unfold swM
  rw [mem_msort, List.mem_append, List.mem_filter, List.mem_filter]
  simp
theorem has_swM {l : Ink} {s : Sw} {r c : Nat} : has (swM l s) r c = if (r, c) ∈ cornersM s then !has l r c else has l r c := by
  by_cases h : (r, c) ∈ cornersM s
  · rw [if_pos h]
    by_cases h2 : (r, c) ∈ l
    · rw [has_iff.mpr h2, has_false.mpr (by rw [mem_swM]; simp [h, h2])]; rfl
    · rw [has_false.mpr h2, has_iff.mpr (by rw [mem_swM]; simp [h, h2])]; rfl
  · rw [if_neg h]
    by_cases h2 : (r, c) ∈ l
    · rw [has_iff.mpr h2, has_iff.mpr (by rw [mem_swM]; simp [h, h2])]
    · rw [has_false.mpr h2, has_false.mpr (by rw [mem_swM]; simp [h, h2])]
section
variable {h w : Nat} {l m : Ink} {s : Sw}
theorem IsSw.nodup (hs : IsSw h w l s) : (cornersM s).Nodup := by
  have a := hs.ro; have b := hs.cm
  obtain ⟨r, c, o, m⟩ := s
  simp [cornersM] at *
  omega
theorem IsSw.in_fr (hs : IsSw h w l s) : ∀ x, x ∈ cornersM s → x.1 < h ∧ x.2 < w := by
  have a := hs.ro; have b := hs.cm; have c := hs.oh; have d := hs.mw
  obtain ⟨r, c', o, m⟩ := s
  intro x hx
  simp [cornersM] at *
  rcases hx with rfl | rfl | rfl | rfl <;> simp <;> omega
theorem swM_inF (hl : InF h w l) (hs : IsSw h w l s) : InF h w (swM l s) := by
  refine ⟨msort_asc ?_, fun x hx => ?_⟩
  · rw [List.nodup_append]
    refine ⟨(asc_nodup hl.asc).filter _, hs.nodup.filter _, ?_⟩
    intro a ha b hb e
    subst e
    have h1 := (List.mem_filter.mp ha).2
    have h2 := (List.mem_filter.mp hb).1
    simp [h2] at h1
  · rcases mem_swM.mp hx with ⟨a, _⟩ | ⟨a, _⟩
    · exact hl.fr _ a
    · exact hs.in_fr _ a
theorem mem_corners {r c o m x y : Nat} : (x, y) ∈ cornersM (r, c, o, m) ↔ (x = r ∨ x = o) ∧ (y = c ∨ y = m) := by
  simp [cornersM]; omega
theorem IsSw.bits' {r c o m : Nat} (hs : IsSw h w l (r, c, o, m)) : has l r c = !has l r m ∧ has l o c = !has l o m ∧ has l r c = !has l o c ∧ has l r m = !has l o m := by
  have := hs.bits
  simp only [bitsM, cornersM, List.map_cons, List.map_nil, List.cons.injEq, and_true] at this
  unfold has
  rcases this with ⟨a, b, c, d⟩ | ⟨a, b, c, d⟩ <;> rw [a, b, c, d] <;> decide
theorem IsSw.of {r c o m : Nat} (h1 : r < o) (h2 : o < h) (h3 : c < m) (h4 : m < w) (a : has l r c = !has l r m) (b : has l o c = !has l o m) (d : has l r c = !has l o c) : IsSw h w l (r, c, o, m) := by
  refine ⟨h1, h2, h3, h4, ?_⟩
  simp only [bitsM, cornersM, List.map_cons, List.map_nil, List.cons.injEq, and_true]
  unfold has at a b d
  revert a b d
  cases decide ((r, c) ∈ l) <;> cases decide ((r, m) ∈ l) <;> cases decide ((o, c) ∈ l) <;> cases decide ((o, m) ∈ l) <;> simp
theorem swM_same (hs : IsSw h w l s) : SameS h w l (swM l s) := by
  obtain ⟨r, c, o, m⟩ := s
  obtain ⟨b1, b2, b3, b4⟩ := hs.bits'
  have a := hs.ro; have b := hs.cm; have c' := hs.oh; have d := hs.mw
  simp only at a b c' d
  refine ⟨fun x hx => ?_, fun y hy => ?_⟩
  · by_cases e : x = r ∨ x = o
    · refine cnt_swap (a := c) (b := m) (by omega) d (by omega) ?_ ?_ ?_ fun i hi n1 n2 => ?_
      · rcases e with rfl | rfl <;> assumption
      · rw [has_swM, if_pos (mem_corners.mpr ⟨e, .inl rfl⟩)]
      · rw [has_swM, if_pos (mem_corners.mpr ⟨e, .inr rfl⟩)]
      · rw [has_swM, if_neg (by rw [mem_corners]; omega)]
    · refine cnt_congr fun i hi => ?_
      rw [has_swM, if_neg (by rw [mem_corners]; omega)]
  · by_cases e : y = c ∨ y = m
    · refine cnt_swap (a := r) (b := o) (by omega) c' (by omega) ?_ ?_ ?_ fun i hi n1 n2 => ?_
      · rcases e with rfl | rfl <;> assumption
      · rw [has_swM, if_pos (mem_corners.mpr ⟨.inl rfl, e⟩)]
      · rw [has_swM, if_pos (mem_corners.mpr ⟨.inr rfl, e⟩)]
      · rw [has_swM, if_neg (by rw [mem_corners]; omega)]
    · refine cnt_congr fun i hi => ?_
      rw [has_swM, if_neg (by rw [mem_corners]; omega)]
theorem swM_isSw (hs : IsSw h w l s) : IsSw h w (swM l s) s := by
  obtain ⟨r, c, o, m⟩ := s
  obtain ⟨b1, b2, b3, b4⟩ := hs.bits'
  refine IsSw.of hs.ro hs.oh hs.cm hs.mw ?_ ?_ ?_
  · rw [has_swM, has_swM, if_pos (mem_corners.mpr ⟨.inl rfl, .inl rfl⟩), if_pos (mem_corners.mpr ⟨.inl rfl, .inr rfl⟩), b1]
  · rw [has_swM, has_swM, if_pos (mem_corners.mpr ⟨.inr rfl, .inl rfl⟩), if_pos (mem_corners.mpr ⟨.inr rfl, .inr rfl⟩), b2]
  · rw [has_swM, has_swM, if_pos (mem_corners.mpr ⟨.inl rfl, .inl rfl⟩), if_pos (mem_corners.mpr ⟨.inr rfl, .inl rfl⟩), b3]
theorem swM_swM (hl : InF h w l) (hs : IsSw h w l s) : swM (swM l s) s = l := by
  refine InF.ext (swM_inF (swM_inF hl hs) (swM_isSw hs)) hl fun r c _ _ => ?_
  rw [has_swM, has_swM]
  split <;> simp
theorem swM_ne (hs : IsSw h w l s) : swM l s ≠ l := by
  intro e
  have h1 : (s.1, s.2.1) ∈ cornersM s := by simp [cornersM]
  have h2 := has_swM (l := l) (s := s) (r := s.1) (c := s.2.1)
  rw [if_pos h1, e] at h2
  cases hh : has l s.1 s.2.1 <;> rw [hh] at h2 <;> simp at h2
end

/-! ### a way of switches -/
inductive Path (h w : Nat) : Ink → Ink → List Sw → Prop
  | nil (a : Ink) : Path h w a a []
  | cons {a b : Ink} {s : Sw} {t : List Sw} : IsSw h w a s → Path h w (swM a s) b t → Path h w a b (s :: t)
theorem Path.snoc {h w : Nat} {a b : Ink} {t : List Sw} {s : Sw} (p : Path h w a b t) (hs : IsSw h w b s) : Path h w a (swM b s) (t ++ [s]) := by
  induction p with
  | nil a => exact .cons hs (.nil _)
  | cons h1 _ ih => exact .cons h1 (ih hs)
theorem Path.app {h w : Nat} {a b c : Ink} {t u : List Sw} (p : Path h w a b t) (q : Path h w b c u) : Path h w a c (t ++ u) := by
  induction p with
  | nil a => exact q
  | cons h1 _ ih => exact .cons h1 (ih q)
/-- one more ahead: the switch that was done is done back -/
theorem Path.back {h w : Nat} {a b : Ink} {t : List Sw} {s : Sw} (p : Path h w a b t) (hl : InF h w a) (hs : IsSw h w a s) : Path h w (swM a s) b (s :: t) :=
  .cons (swM_isSw hs) (by rw [swM_swM hl hs]; exact p)

/-! ### road -/
def onlyM (one other : Ink) (row : Nat) : List Nat := (one.filter (fun p => p.1 == row && !decide ((row, p.2) ∈ other))).map (·.2)
def rectM (l : Ink) (row a b high : Nat) : Option Sw := ((List.range' (row + 1) (high - (row + 1))).find? (fun o => !has l o a && has l o b)).map (fun o => (row, min a b, o, max a b))
theorem mem_onlyM {one other : Ink} {row c : Nat} : c ∈ onlyM one other row ↔ (row, c) ∈ one ∧ (row, c) ∉ other := by
  unfold onlyM
  simp only [List.mem_map, List.mem_filter, Bool.and_eq_true, beq_iff_eq, Bool.not_eq_true', decide_eq_false_iff_not, Prod.exists, exists_eq_right]
  constructor
  · rintro ⟨a, ⟨h1, rfl, h2⟩⟩; exact ⟨h1, h2⟩
  · rintro ⟨h1, h2⟩; exact ⟨row, h1, rfl, h2⟩
theorem onlyM_length {h w : Nat} {one other : Ink} (hl : InF h w one) (row : Nat) : (onlyM one other row).length = cnt w (fun c => has one row c && !has other row c) := by
  unfold onlyM
  rw [List.length_map, ← List.countP_eq_length_filter]
  exact countRow (h := h) row (fun c => !has other row c) (asc_nodup hl.asc) hl.fr
structure Rd (h w row : Nat) (here goal : Ink) : Prop where
  f1 : InF h w here
  f2 : InF h w goal
  same : SameS h w here goal
  agree : ∀ r c, r < row → c < w → has here r c = has goal r c
theorem Rd.symm {h w row : Nat} {here goal : Ink} (R : Rd h w row here goal) : Rd h w row goal here := ⟨R.f2, R.f1, R.same.symm, fun r c a b => (R.agree r c a b).symm⟩
theorem Rd.both {h w row : Nat} {here goal : Ink} (R : Rd h w row here goal) (hr : row < h) : (onlyM here goal row).length = (onlyM goal here row).length := by
  rw [onlyM_length R.f1, onlyM_length R.f2]
  have := cnt_diff w (fun c => has here row c) (fun c => has goal row c)
  have e := R.same.row row hr
  omega
theorem rect_some {l : Ink} {row a b high : Nat} {s : Sw} (h : rectM l row a b high = some s) : ∃ o, row < o ∧ o < high ∧ has l o a = false ∧ has l o b = true ∧ s = (row, min a b, o, max a b) := by
  unfold rectM at h
  rw [Option.map_eq_some_iff] at h
  obtain ⟨o, ho, rfl⟩ := h
  have h1 := List.find?_some ho
  have h2 := List.mem_of_find?_eq_some ho
  rw [List.mem_range'_1] at h2
  simp at h1
  exact ⟨o, by omega, by omega, h1.1, h1.2, rfl⟩
theorem rect_none {l : Ink} {row a b high : Nat} (h : rectM l row a b high = none) : ∀ o, row < o → o < high → has l o b = true → has l o a = true := by
  unfold rectM at h
  rw [Option.map_eq_none_iff, List.find?_eq_none] at h
  intro o h1 h2 h3
  have := h o (by rw [List.mem_range'_1]; omega)
  cases x : has l o a
  · rw [x, h3] at this; simp at this
  · rfl
theorem rect_isSw {h w row a b : Nat} {l : Ink} {s : Sw} (hs : rectM l row a b h = some s) (ha : a < w) (hb : b < w) (h1 : has l row a = true) (h2 : has l row b = false) :
    IsSw h w l s ∧ (∀ r c, r < row → has (swM l s) r c = has l r c) ∧ has (swM l s) row a = false ∧ has (swM l s) row b = true ∧ ∀ c, c ≠ a → c ≠ b → has (swM l s) row c = has l row c := by
  obtain ⟨o, h3, h4, h5, h6, rfl⟩ := rect_some hs
  have hab : a ≠ b := by rintro rfl; rw [h1] at h2; cases h2
  have mc : ∀ x y, (x, y) ∈ cornersM (row, min a b, o, max a b) ↔ (x = row ∨ x = o) ∧ (y = a ∨ y = b) := fun x y => by rw [mem_corners]; omega
  refine ⟨?_, fun r c hr => ?_, ?_, ?_, fun c n1 n2 => ?_⟩
  · rcases Nat.lt_or_ge a b with q | q
    · rw [Nat.min_eq_left (by omega), Nat.max_eq_right (by omega)]
      exact IsSw.of h3 h4 q hb (by rw [h1, h2]; rfl) (by rw [h5, h6]; rfl) (by rw [h1, h5]; rfl)
    · rw [Nat.min_eq_right (by omega), Nat.max_eq_left (by omega)]
      exact IsSw.of h3 h4 (by omega) ha (by rw [h1, h2]; rfl) (by rw [h5, h6]; rfl) (by rw [h2, h6]; rfl)
  · rw [has_swM, if_neg (by rw [mc]; omega)]
  · rw [has_swM, if_pos (by rw [mc]; simp), h1]; rfl
  · rw [has_swM, if_pos (by rw [mc]; simp), h2]; rfl
  · rw [has_swM, if_neg (by rw [mc]; omega)]
/-- a switch of here -/
theorem Rd.here {h w row a b : Nat} {here goal : Ink} {s : Sw} (R : Rd h w row here goal) (hr : row < h) (ha : a ∈ onlyM here goal row) (hb : b ∈ onlyM goal here row) (hs : rectM here row a b h = some s) :
    IsSw h w here s ∧ Rd h w row (swM here s) goal ∧ (onlyM (swM here s) goal row).length < (onlyM here goal row).length := by
  obtain ⟨a1, a2⟩ := mem_onlyM.mp ha
  obtain ⟨b1, b2⟩ := mem_onlyM.mp hb
  have aw := (R.f1.fr _ a1).2
  have bw := (R.f2.fr _ b1).2
  simp only at aw bw
  obtain ⟨q1, q2, q3, q4, q5⟩ := rect_isSw hs aw bw (has_iff.mpr a1) (has_false.mpr b2)
  refine ⟨q1, ⟨swM_inF R.f1 q1, R.f2, (swM_same q1).symm.trans R.same, fun r c hr hc => (q2 r c hr).trans (R.agree r c hr hc)⟩, ?_⟩
  rw [onlyM_length R.f1, onlyM_length (swM_inF R.f1 q1)]
  have := cnt_one (n := w) (a := a) (p := fun c => has here row c && !has goal row c) (q := fun c => has (swM here s) row c && !has goal row c) aw (by simp [has_iff.mpr a1, has_false.mpr a2]) (by simp [q3]) fun i hi hne => by
    by_cases e : i = b
    · subst e; simp [q4, has_iff.mpr b1]
    · simp [q5 i hne e]
  omega
/-- where here has none, goal has one -/
theorem Rd.goal_has {h w row a b : Nat} {here goal : Ink} (R : Rd h w row here goal) (hr : row < h) (ha : a ∈ onlyM here goal row) (hb : b ∈ onlyM goal here row) (hs : rectM here row a b h = none) : ∃ s, rectM goal row b a h = some s := by
  cases hg : rectM goal row b a h with
  | some s => exact ⟨s, rfl⟩
  | none =>
    exfalso
    obtain ⟨a1, a2⟩ := mem_onlyM.mp ha
    obtain ⟨b1, b2⟩ := mem_onlyM.mp hb
    have aw := (R.f1.fr _ a1).2
    have bw := (R.f2.fr _ b1).2
    simp only at aw bw
    have n1 := rect_none hs
    have n2 := rect_none hg
    have c1 := R.same.col a aw
    have c2 := R.same.col b bw
    rw [cnt_split hr, cnt_split hr (fun r => has goal r a)] at c1
    rw [cnt_split hr, cnt_split hr (fun r => has goal r b)] at c2
    have e1 : cnt h (fun i => decide (i < row) && has here i a) = cnt h (fun i => decide (i < row) && has goal i a) := cnt_congr fun i _ => by
      by_cases x : i < row
      · rw [R.agree i a x aw]
      · simp [x]
    have e2 : cnt h (fun i => decide (i < row) && has here i b) = cnt h (fun i => decide (i < row) && has goal i b) := cnt_congr fun i _ => by
      by_cases x : i < row
      · rw [R.agree i b x bw]
      · simp [x]
    have l1 : cnt h (fun i => decide (row < i) && has here i b) ≤ cnt h (fun i => decide (row < i) && has here i a) := cnt_le_of fun i hi x => by
      simp at x ⊢
      exact ⟨x.1, n1 i x.1 hi x.2⟩
    have l2 : cnt h (fun i => decide (row < i) && has goal i a) ≤ cnt h (fun i => decide (row < i) && has goal i b) := cnt_le_of fun i hi x => by
      simp at x ⊢
      exact ⟨x.1, n2 i x.1 hi x.2⟩
    rw [has_iff.mpr a1, has_false.mpr a2] at c1
    rw [has_false.mpr b2, has_iff.mpr b1] at c2
    simp at c1 c2
    omega
theorem Rd.goal {h w row a b : Nat} {here goal : Ink} {s : Sw} (R : Rd h w row here goal) (hr : row < h) (ha : a ∈ onlyM here goal row) (hb : b ∈ onlyM goal here row) (hs : rectM goal row b a h = some s) :
    IsSw h w goal s ∧ Rd h w row here (swM goal s) ∧ (onlyM here (swM goal s) row).length < (onlyM here goal row).length := by
  obtain ⟨q1, q2, q3⟩ := R.symm.here hr hb ha hs
  refine ⟨q1, q2.symm, ?_⟩
  have e1 := R.both hr
  have e2 := q2.both hr
  omega
theorem Rd.next {h w row : Nat} {here goal : Ink} (R : Rd h w row here goal) (hr : row < h) (he : onlyM here goal row = []) : Rd h w (row + 1) here goal := by
  refine ⟨R.f1, R.f2, R.same, fun r c h1 h2 => ?_⟩
  by_cases e : r = row
  · subst e
    have e1 : (onlyM goal here r).length = 0 := by rw [← R.both hr, he]; rfl
    rw [onlyM_length R.f2, cnt_zero_iff] at e1
    have e2 : (onlyM here goal r).length = 0 := by rw [he]; rfl
    rw [onlyM_length R.f1, cnt_zero_iff] at e2
    have x := e1 c h2
    have y := e2 c h2
    cases p : has here r c <;> cases q : has goal r c <;> simp [p, q] at x y ⊢
  · exact R.agree r c (by omega) h2
theorem Rd.last {h w : Nat} {here goal : Ink} (R : Rd h w h here goal) : here = goal := InF.ext R.f1 R.f2 fun r c h1 h2 => R.agree r c h1 h2
theorem Rd.zero {h w : Nat} {here goal : Ink} (f1 : InF h w here) (f2 : InF h w goal) (e : SameS h w here goal) : Rd h w 0 here goal := ⟨f1, f2, e, fun _ _ h _ => by omega⟩
end K53

-- part K53M2
set_option maxRecDepth 100000
set_option maxHeartbeats 4000000
namespace K53
/-! ### one row at a time: the columns with most left -/
theorem cnt_part (n : Nat) (q p : Nat → Bool) : cnt n p = cnt n (fun x => q x && p x) + cnt n (fun x => !q x && p x) := by
  induction n with
  | zero => rfl
  | succ n ih =>
    rw [cnt_succ, cnt_succ, cnt_succ, ih]
    cases q n <;> cases p n <;> simp <;> omega
theorem swap_at {h w r o a b : Nat} {M : Ink} (f : InF h w M) (hr : r < h) (ho : o < h) (ha : a < w) (hb : b < w) (h1 : has M r a = false) (h2 : has M r b = true) (h3 : has M o a = true) (h4 : has M o b = false) :
    ∃ M', InF h w M' ∧ SameS h w M M' ∧ ∀ x y, has M' x y = if (x = r ∨ x = o) ∧ (y = a ∨ y = b) then !has M x y else has M x y := by
  have ro : r ≠ o := by rintro rfl; rw [h1] at h3; cases h3
  have ab : a ≠ b := by rintro rfl; rw [h1] at h2; cases h2
  have key : ∀ {x c y d : Nat}, IsSw h w M (x, c, y, d) → ((x = r ∧ y = o) ∨ (x = o ∧ y = r)) → ((c = a ∧ d = b) ∨ (c = b ∧ d = a)) → ∃ M', InF h w M' ∧ SameS h w M M' ∧ ∀ x y, has M' x y = if (x = r ∨ x = o) ∧ (y = a ∨ y = b) then !has M x y else has M x y := by
    intro x c y d is e1 e2
    refine ⟨_, swM_inF f is, swM_same is, fun u v => ?_⟩
    rw [has_swM]
    have e : (u, v) ∈ cornersM (x, c, y, d) ↔ (u = r ∨ u = o) ∧ (v = a ∨ v = b) := by
      rw [mem_corners]; omega
    by_cases z : (u, v) ∈ cornersM (x, c, y, d)
    · rw [if_pos z, if_pos (e.mp z)]
    · rw [if_neg z, if_neg (fun q => z (e.mpr q))]
  rcases Nat.lt_or_gt_of_ne ro with g1 | g1 <;> rcases Nat.lt_or_gt_of_ne ab with g2 | g2
  · exact key (IsSw.of g1 ho g2 hb (by simp [h1, h2, h3, h4]) (by simp [h1, h2, h3, h4]) (by simp [h1, h2, h3, h4])) (by omega) (by omega)
  · exact key (IsSw.of g1 ho g2 ha (by simp [h1, h2, h3, h4]) (by simp [h1, h2, h3, h4]) (by simp [h1, h2, h3, h4])) (by omega) (by omega)
  · exact key (IsSw.of g1 hr g2 hb (by simp [h1, h2, h3, h4]) (by simp [h1, h2, h3, h4]) (by simp [h1, h2, h3, h4])) (by omega) (by omega)
  · exact key (IsSw.of g1 hr g2 ha (by simp [h1, h2, h3, h4]) (by simp [h1, h2, h3, h4]) (by simp [h1, h2, h3, h4])) (by omega) (by omega)
theorem undone {h w c : Nat} {M M' : Ink} {done : Nat → Bool} (e : SameS h w M M') (ag : ∀ x y, done x = true → has M' x y = has M x y) (hc : c < w) :
    cnt h (fun x => !done x && has M' x c) = cnt h (fun x => !done x && has M x c) := by
  have a := cnt_part h done (fun x => has M' x c)
  have b := cnt_part h done (fun x => has M x c)
  have d := e.col c hc
  have e' : cnt h (fun x => done x && has M' x c) = cnt h (fun x => done x && has M x c) := cnt_congr fun i _ => by
    cases q : done i with
    | false => rfl
    | true => rw [ag i c q]
  omega
theorem top_row {h w r : Nat} {done T : Nat → Bool} (hr : r < h) (hd : done r = false) : ∀ (n : Nat) (M : Ink), InF h w M → cnt w (fun c => has M r c && !T c) = n → cnt w T = cnt w (fun c => has M r c) →
    (∀ a b, a < w → b < w → T a = true → T b = false → cnt h (fun x => !done x && has M x b) ≤ cnt h (fun x => !done x && has M x a)) →
    ∃ M', InF h w M' ∧ SameS h w M M' ∧ (∀ x y, done x = true → has M' x y = has M x y) ∧ ∀ c, c < w → has M' r c = T c := by
  intro n
  induction n with
  | zero =>
    intro M f hn ht _
    refine ⟨M, f, SameS.refl _ _ _, fun _ _ _ => rfl, fun c hc => ?_⟩
    have d := cnt_diff w (fun c => has M r c) T
    have z := cnt_zero_iff.mp hn c hc
    have z2 := cnt_zero_iff.mp (show cnt w (fun i => T i && !has M r i) = 0 by omega) c hc
    revert z z2
    cases has M r c <;> cases T c <;> simp
  | succ n ih =>
    intro M f hn ht ho
    obtain ⟨b, hb, eb⟩ := cnt_pos (n := w) (p := fun c => has M r c && !T c) (by omega)
    have d := cnt_diff w (fun c => has M r c) T
    obtain ⟨a, ha, ea⟩ := cnt_pos (n := w) (p := fun c => T c && !has M r c) (by omega)
    simp only [Bool.and_eq_true, Bool.not_eq_true'] at eb ea
    have le := ho a b ha hb ea.1 eb.2
    have c1 := cnt_one (n := h) (a := r) (p := fun x => !done x && has M x b) (q := fun x => if x = r then false else !done x && has M x b) hr (by simp [hd, eb.1]) (by simp) (fun i _ hi => by simp [hi])
    obtain ⟨o, hoh, o1, o2⟩ := cnt_ex (n := h) (p := fun x => if x = r then false else !done x && has M x b) (q := fun x => !done x && has M x a) (by omega)
    have o3 : o ≠ r := by rintro rfl; simp [ea.2] at o1
    simp only [Bool.and_eq_true, Bool.not_eq_true'] at o1
    rw [if_neg o3, o1.1] at o2
    have o4 : has M o b = false := by simpa using o2
    obtain ⟨M1, f1, s1, q1⟩ := swap_at f hr hoh ha hb ea.2 eb.1 o1.2 o4
    have ag : ∀ x y, done x = true → has M1 x y = has M x y := fun x y hx => by
      rw [q1, if_neg]
      rintro ⟨e | e, _⟩
      · rw [e, hd] at hx; cases hx
      · rw [e, o1.1] at hx; cases hx
    have ab : a ≠ b := by rintro rfl; rw [ea.1] at eb; exact absurd eb.2 (by decide)
    obtain ⟨M2, f2, s2, ag2, e2⟩ := ih M1 f1 (by
        have c2 := cnt_one (n := w) (a := b) (p := fun c => has M r c && !T c) (q := fun c => has M1 r c && !T c) hb (by simp [eb]) (by
          show (has M1 r b && !T b) = false
          rw [q1, if_pos ⟨.inl rfl, .inr rfl⟩, eb.1]; rfl) (fun i hi hib => by
          show (has M r i && !T i) = (has M1 r i && !T i)
          by_cases e : i = a
          · subst e; rw [ea.1]; simp
          · rw [q1, if_neg]
            rintro ⟨_, z | z⟩
            · exact e z
            · exact hib z)
        omega)
      (by rw [ht]; exact s1.row r hr) (fun a' b' ha' hb' t1 t2 => by
        rw [undone s1 ag ha', undone s1 ag hb']
        exact ho a' b' ha' hb' t1 t2)
    exact ⟨M2, f2, s1.trans s2, fun x y hx => (ag2 x y hx).trans (ag x y hx), e2⟩
theorem cnt_mem {w : Nat} : ∀ {T : List Nat}, T.Nodup → (∀ c, c ∈ T → c < w) → cnt w (fun c => decide (c ∈ T)) = T.length
  | [], _, _ => by
    rw [show cnt w (fun c => decide (c ∈ [])) = 0 from cnt_zero_iff.mpr fun i _ => by simp]; rfl
  | a :: T, hn, hb => by
    rw [List.nodup_cons] at hn
    rw [cnt_one (n := w) (a := a) (p := fun c => decide (c ∈ a :: T)) (q := fun c => decide (c ∈ T)) (hb a (by simp)) (by simp) (by simp [hn.1]) (fun i _ hi => by simp [hi]), cnt_mem hn.2 (fun c hc => hb c (by simp [hc]))]
    rfl
structure Pic (h w : Nat) (l : Ink) (done : Nat → Bool) (left : Nat → Nat) (found : Ink) : Prop where
  ex : ∃ M, InF h w M ∧ SameS h w l M ∧ (∀ c, c < w → left c = cnt h (fun x => !done x && has M x c)) ∧ ∀ x y, (x, y) ∈ found ↔ done x = true ∧ has M x y = true
  nd : found.Nodup
theorem Pic.zero {h w : Nat} {l : Ink} (f : InF h w l) : Pic h w l (fun _ => false) (colS l) [] :=
  ⟨⟨l, f, SameS.refl _ _ _, fun c _ => by rw [f.colS]; exact cnt_congr fun i _ => by simp, fun x y => by simp⟩, .nil⟩
theorem Pic.step {h w r : Nat} {l : Ink} {done : Nat → Bool} {left : Nat → Nat} {found : Ink} {T : List Nat} (f : InF h w l) (p : Pic h w l done left found) (hr : r < h) (hd : done r = false) (tn : T.Nodup) (tw : ∀ c, c ∈ T → c < w) (tl : T.length = rowS l r)
    (ord : ∀ a b, a ∈ T → b < w → b ∉ T → left b ≤ left a) :
    Pic h w l (fun x => done x || x == r) (fun c => left c - if c ∈ T then 1 else 0) (found ++ T.map fun c => (r, c)) ∧ ∀ c, c ∈ T → 1 ≤ left c := by
  obtain ⟨⟨M, fM, sM, lM, mM⟩, nd⟩ := p
  obtain ⟨M', f', s', ag, row⟩ := top_row (T := fun c => decide (c ∈ T)) hr hd _ M fM rfl (by rw [cnt_mem tn tw, tl, f.rowS]; exact sM.row r hr) (fun a b ha hb ta tb => by
    rw [← lM a ha, ← lM b hb]
    exact ord a b (of_decide_eq_true ta) hb (of_decide_eq_false tb))
  have lc : ∀ c, c < w → left c = cnt h (fun x => !(done x || x == r) && has M' x c) + if c ∈ T then 1 else 0 := fun c hc => by
    rw [lM c hc, ← undone s' ag hc]
    by_cases hT : c ∈ T
    · rw [if_pos hT]
      refine cnt_one hr ?_ (by simp) fun i _ hi => ?_
      · show (!done r && has M' r c) = true
        rw [hd, row c hc, decide_eq_true hT]; rfl
      · show (!done i && has M' i c) = (!(done i || i == r) && has M' i c)
        rw [beq_eq_false_iff_ne.mpr hi, Bool.or_false]
    · rw [if_neg hT, Nat.add_zero]
      refine cnt_congr fun i _ => ?_
      by_cases hi : i = r
      · subst hi
        rw [row c hc, decide_eq_false hT]; simp
      · rw [beq_eq_false_iff_ne.mpr hi, Bool.or_false]
  refine ⟨⟨⟨M', f', sM.trans s', fun c hc => ?_, fun x y => ?_⟩, ?_⟩, fun c hc => ?_⟩
  · have := lc c hc
    split at this <;> rename_i hT
    · simp only [if_pos hT]; omega
    · simp only [if_neg hT]; omega
  · rw [List.mem_append, mM, List.mem_map]
    constructor
    · rintro (⟨h1, h2⟩ | ⟨c, hc, e⟩)
      · exact ⟨by simp [h1], by rw [ag x y h1]; exact h2⟩
      · cases e
        exact ⟨by simp, by rw [row y (tw y hc)]; exact decide_eq_true hc⟩
    · rintro ⟨h1, h2⟩
      by_cases hx : done x = true
      · exact .inl ⟨hx, by rw [← ag x y hx]; exact h2⟩
      · have : x = r := by simpa [hx] using h1
        subst this
        have yw : y < w := (f'.fr _ (has_iff.mp h2)).2
        rw [row y yw] at h2
        exact .inr ⟨y, of_decide_eq_true h2, rfl⟩
  · rw [List.nodup_append]
    refine ⟨nd, ?_, ?_⟩
    · exact List.Pairwise.map _ (fun a b hab e => hab (by cases e; rfl)) tn
    · rintro ⟨x, y⟩ hx b hb e
      subst e
      obtain ⟨c, hc, e⟩ := List.mem_map.mp hb
      cases e
      have := (mM _ _).mp hx
      rw [hd] at this; exact absurd this.1 (by decide)
  · have := lc c (tw c hc)
    rw [if_pos hc] at this; omega
theorem Pic.last {h w : Nat} {l : Ink} {done : Nat → Bool} {left : Nat → Nat} {found : Ink} (p : Pic h w l done left found) (hd : ∀ x, x < h → done x = true) : InF h w (msort found) ∧ SameS h w l (msort found) := by
  obtain ⟨⟨M, fM, sM, lM, mM⟩, nd⟩ := p
  have e : msort found = M := asc_ext (msort_asc nd) fM.asc fun ⟨x, y⟩ => by
    rw [mem_msort, mM]
    constructor
    · exact fun q => has_iff.mp q.2
    · exact fun q => ⟨hd x (fM.fr _ q).1, has_iff.mpr q⟩
  rw [e]
  exact ⟨fM, sM⟩
/-- the first k of the columns in order -/
theorem take_ord {w k : Nat} {left : Nat → Nat} {τ : List Nat} (hp : τ.Perm (List.range w)) (ho : τ.Pairwise fun a b => left b ≤ left a) :
    (τ.take k).Nodup ∧ (∀ c, c ∈ τ.take k → c < w) ∧ ∀ a b, a ∈ τ.take k → b < w → b ∉ τ.take k → left b ≤ left a := by
  have nd : τ.Nodup := hp.nodup_iff.mpr List.nodup_range
  refine ⟨nd.sublist (List.take_sublist _ _), fun c hc => List.mem_range.mp (hp.mem_iff.mp (List.mem_of_mem_take hc)), fun a b ha hb hn => ?_⟩
  have hb2 : b ∈ τ := hp.mem_iff.mpr (List.mem_range.mpr hb)
  rw [← List.take_append_drop k τ] at ho hb2
  rw [List.pairwise_append] at ho
  rcases List.mem_append.mp hb2 with q | q
  · exact absurd q hn
  · exact ho.2.2 a ha b q
/-! ### no lack -/
theorem sum_add {α : Type} (f g : α → Nat) : ∀ l : List α, (l.map fun x => f x + g x).sum = (l.map f).sum + (l.map g).sum
  | [] => rfl
  | a :: l => by simp only [List.map_cons, List.sum_cons]; rw [sum_add f g l]; omega
theorem sum_le {α : Type} {f g : α → Nat} : ∀ {l : List α}, (∀ x, x ∈ l → f x ≤ g x) → (l.map f).sum ≤ (l.map g).sum
  | [], _ => Nat.le_refl _
  | a :: l, h => by
    simp only [List.map_cons, List.sum_cons]
    have := h a (by simp)
    have := sum_le (f := f) (g := g) (l := l) fun x hx => h x (by simp [hx])
    omega
theorem cnt_sum (n : Nat) (p : Nat → Bool) : cnt n p = ((List.range n).map fun c => if p c = true then 1 else 0).sum := by
  induction n with
  | zero => rfl
  | succ n ih => rw [cnt_succ, List.range_succ, List.map_append, List.sum_append, ih]; simp
theorem sum_zero {α : Type} : ∀ l : List α, (l.map fun _ => 0).sum = 0
  | [] => rfl
  | a :: l => by simp only [List.map_cons, List.sum_cons]; rw [sum_zero l]
theorem double (w : Nat) (p : Nat → Nat → Bool) : ∀ ix : List Nat, (ix.map fun r => cnt w (p r)).sum = ((List.range w).map fun c => ix.countP fun r => p r c).sum
  | [] => by
    simp only [List.map_nil, List.countP_nil]
    rw [sum_zero]; rfl
  | r :: ix => by
    simp only [List.map_cons, List.sum_cons]
    rw [double w p ix, cnt_sum w (p r), ← sum_add]
    congr 1
    refine List.map_congr_left fun c _ => ?_
    rw [List.countP_cons]
    omega
theorem no_lack {h w k : Nat} {l : Ink} {σ : List Nat} (f : InF h w l) (hp : σ.Perm (List.range h)) : ((σ.take k).map (rowS l)).sum ≤ ((List.range w).map fun c => min k (colS l c)).sum := by
  have e : (σ.take k).map (rowS l) = (σ.take k).map fun r => cnt w fun c => has l r c := List.map_congr_left fun r _ => f.rowS r
  rw [e, double w (fun r c => has l r c)]
  refine sum_le fun c _ => ?_
  have a : (σ.take k).countP (fun r => has l r c) ≤ σ.countP fun r => has l r c := (List.take_sublist _ _).countP_le
  have b : σ.countP (fun r => has l r c) = colS l c := by rw [hp.countP_eq, f.colS]; rfl
  have d : (σ.take k).countP (fun r => has l r c) ≤ (σ.take k).length := List.countP_le_length
  have d2 : (σ.take k).length ≤ k := by rw [List.length_take]; omega
  omega
theorem sums_eq {h w : Nat} {l : Ink} (f : InF h w l) : ((List.range h).map (rowS l)).sum = ((List.range w).map (colS l)).sum := by
  have e : (List.range h).map (rowS l) = (List.range h).map fun r => cnt w fun c => has l r c := List.map_congr_left fun r _ => f.rowS r
  rw [e, double w (fun r c => has l r c)]
  congr 1
  exact List.map_congr_left fun c _ => (f.colS c).symm
end K53

-- part K53M3
set_option maxRecDepth 100000
set_option maxHeartbeats 4000000
namespace K53
/-! ### choices -/
def lo (one : List Nat) : Nat := match one.getLast? with | none => 0 | some x => x + 1
def chs (m : Nat) : Nat → List (List Nat)
  | 0 => [[]]
  | k + 1 => (chs m k).flatMap fun one => (List.range' (lo one) (m - lo one)).map fun a => one ++ [a]
theorem lo_snoc (o : List Nat) (a : Nat) : lo (o ++ [a]) = a + 1 := by unfold lo; rw [List.getLast?_concat]
theorem lt_lo {o : List Nat} (h : o.Pairwise (· < ·)) {x : Nat} (hx : x ∈ o) : x < lo o := by
  rcases List.eq_nil_or_concat o with rfl | ⟨o', a, rfl⟩
  · simp at hx
  · rw [List.concat_eq_append] at *
    rw [lo_snoc]
    rw [List.pairwise_append] at h
    rcases List.mem_append.mp hx with q | q
    · have := h.2.2 x q a (by simp); omega
    · have : x = a := by simpa using q
      omega
theorem lo_le {o : List Nat} {m : Nat} (h : ∀ x, x ∈ o → x < m) : lo o ≤ m := by
  rcases List.eq_nil_or_concat o with rfl | ⟨o', a, rfl⟩
  · exact Nat.zero_le _
  · rw [List.concat_eq_append] at *
    rw [lo_snoc]
    exact h a (by simp)
theorem mem_chs {m : Nat} : ∀ {k : Nat} {one : List Nat}, one ∈ chs m k ↔ one.length = k ∧ one.Pairwise (· < ·) ∧ ∀ x, x ∈ one → x < m := by
  intro k
  induction k with
  | zero =>
    intro one
    rw [show chs m 0 = [[]] from rfl, List.mem_singleton]
    constructor
    · rintro rfl; exact ⟨rfl, .nil, fun x hx => by simp at hx⟩
    · rintro ⟨h, _⟩; exact List.eq_nil_of_length_eq_zero h
  | succ k ih =>
    intro one
    rw [show chs m (k + 1) = (chs m k).flatMap fun one => (List.range' (lo one) (m - lo one)).map fun a => one ++ [a] from rfl, List.mem_flatMap]
    constructor
    · rintro ⟨o, ho, hm⟩
      obtain ⟨a, ha, rfl⟩ := List.mem_map.mp hm
      rw [List.mem_range'_1] at ha
      obtain ⟨h1, h2, h3⟩ := ih.mp ho
      refine ⟨by simp [h1], ?_, fun x hx => ?_⟩
      · rw [List.pairwise_append]
        refine ⟨h2, List.pairwise_singleton _ _, fun x hx y hy => ?_⟩
        have := lt_lo h2 hx
        have : y = a := by simpa using hy
        omega
      · rcases List.mem_append.mp hx with q | q
        · exact h3 x q
        · have : x = a := by simpa using q
          omega
    · rintro ⟨h1, h2, h3⟩
      rcases List.eq_nil_or_concat one with rfl | ⟨o, a, rfl⟩
      · simp at h1
      · rw [List.concat_eq_append] at *
        rw [List.pairwise_append] at h2
        refine ⟨o, ih.mpr ⟨by simpa using h1, h2.1, fun x hx => h3 x (by simp [hx])⟩, List.mem_map.mpr ⟨a, ?_, rfl⟩⟩
        rw [List.mem_range'_1]
        have b1 : a < m := h3 a (by simp)
        have b2 : lo o ≤ a := lo_le fun x hx => h2.2.2 x hx a (by simp)
        omega
theorem chs_nodup (m : Nat) : ∀ k, (chs m k).Nodup
  | 0 => List.pairwise_singleton _ _
  | k + 1 => by
    show List.Pairwise _ ((chs m k).flatMap fun one => (List.range' (lo one) (m - lo one)).map fun a => one ++ [a])
    rw [List.pairwise_flatMap]
    refine ⟨fun o _ => List.Pairwise.map _ (fun a b hab e => hab (by have := List.append_cancel_left e; simpa using this)) (List.nodup_range' (s := lo o) (n := m - lo o)), (chs_nodup m k).imp fun {o1 o2} ho x hx y hy e => ?_⟩
    · obtain ⟨a, _, rfl⟩ := List.mem_map.mp hx
      obtain ⟨b, _, rfl⟩ := List.mem_map.mp hy
      have := congrArg List.dropLast e
      rw [List.dropLast_concat, List.dropLast_concat] at this
      exact ho this
theorem chs_len4 : ∀ m, m ≤ 4 → ∀ k, k ≤ 4 → (chs m k).length ≤ 6 := by decide
theorem chs_len3 : ∀ m, m ≤ 3 → ∀ k, k ≤ 3 → (chs m k).length ≤ 3 := by decide
/-! ### all pictures, by the inks alone -/
section
variable (h w : Nat) (rows cols : Nat → Nat)
def lf (ink : Ink) (c : Nat) : Nat := cols c - colS ink c
def okp (i : Nat) (ink : Ink) (part : List Nat) : Bool := part.all (fun c => decide (0 < lf cols ink c)) && (List.range w).all fun c => decide (lf cols ink c - (if c ∈ part then 1 else 0) < h - i)
def ext (i : Nat) (ink : Ink) (part : List Nat) : Ink := ink ++ part.map fun c => (i, c)
def fnd : Nat → List Ink
  | 0 => [[]]
  | i + 1 => (fnd i).flatMap fun ink => ((chs w (rows i)).filter (okp h w cols i ink)).map (ext i ink)
end
section
variable {h w : Nat} {rows cols : Nat → Nat}
theorem colS_ext {i : Nat} {ink : Ink} {part : List Nat} (hp : part.Nodup) (c : Nat) : colS (ext i ink part) c = colS ink c + if c ∈ part then 1 else 0 := by
  unfold ext colS
  rw [List.countP_append, List.countP_map]
  congr 1
  have : part.countP ((fun x : Cell => x.2 == c) ∘ fun c => (i, c)) = part.count c := by
    unfold List.count
    exact List.countP_congr fun x _ => by simp
  rw [this]
  split <;> rename_i q
  · have a := List.nodup_iff_count.mp hp c
    have b := List.count_pos_iff.mpr q
    omega
  · exact List.count_eq_zero.mpr q
theorem rowS_ext {i : Nat} {ink : Ink} {part : List Nat} (r : Nat) : rowS (ext i ink part) r = rowS ink r + if i = r then part.length else 0 := by
  unfold ext rowS
  rw [List.countP_append, List.countP_map]
  congr 1
  split <;> rename_i q
  · rw [← List.length_map (f := fun c => (i, c)), List.length_map]
    rw [List.countP_eq_length]
    intro a _
    simp [q]
  · rw [List.countP_eq_zero]
    intro a _
    simp [q]
structure Good (h w : Nat) (rows cols : Nat → Nat) (i : Nat) (ink : Ink) : Prop where
  f : InF i w ink
  row : ∀ r, r < i → rowS ink r = rows r
  col : ∀ c, c < w → colS ink c ≤ cols c
  rem : 0 < i → ∀ c, c < w → cols c - colS ink c ≤ h - i
theorem good_fnd : ∀ {i : Nat} {ink : Ink}, ink ∈ fnd h w rows cols i → Good h w rows cols i ink := by
  intro i
  induction i with
  | zero =>
    intro ink hi
    have : ink = [] := by simpa [fnd] using hi
    subst this
    exact ⟨⟨.nil, fun c hc => by simp at hc⟩, fun r hr => by omega, fun c _ => Nat.zero_le _, fun q => by omega⟩
  | succ i ih =>
    intro ink hi
    unfold fnd at hi
    obtain ⟨i0, h0, hm⟩ := List.mem_flatMap.mp hi
    obtain ⟨part, hp, rfl⟩ := List.mem_map.mp hm
    obtain ⟨hp1, hp2⟩ := List.mem_filter.mp hp
    obtain ⟨c1, c2, c3⟩ := mem_chs.mp hp1
    have g := ih h0
    unfold okp at hp2
    simp only [Bool.and_eq_true, List.all_eq_true, decide_eq_true_eq, List.mem_range] at hp2
    have nd : part.Nodup := c2.imp fun {a b} (q : a < b) => by omega
    refine ⟨⟨?_, fun c hc => ?_⟩, fun r hr => ?_, fun c hc => ?_, fun _ c hc => ?_⟩
    · unfold ext
      rw [List.pairwise_append]
      refine ⟨g.f.asc, List.Pairwise.map _ (fun a b q => .inr ⟨rfl, q⟩) c2, fun a ha b hb => ?_⟩
      obtain ⟨x, hx, rfl⟩ := List.mem_map.mp hb
      exact .inl (g.f.fr a ha).1
    · unfold ext at hc
      rcases List.mem_append.mp hc with q | q
      · have := g.f.fr c q; omega
      · obtain ⟨x, hx, rfl⟩ := List.mem_map.mp q
        exact ⟨Nat.lt_succ_self i, c3 x hx⟩
    · rw [rowS_ext]
      split <;> rename_i q
      · subst q
        have : rowS i0 i = 0 := by
          unfold rowS
          rw [List.countP_eq_zero]
          intro a ha
          have := (g.f.fr a ha).1
          simp; omega
        rw [this, c1, Nat.zero_add]
      · rw [Nat.add_zero]; exact g.row r (by omega)
    · rw [colS_ext nd]
      have a := g.col c hc
      split <;> rename_i q
      · have := hp2.1 c q
        unfold lf at this; omega
      · omega
    · rw [colS_ext nd]
      have := hp2.2 c hc
      unfold lf at this
      split at this <;> rename_i q
      · rw [if_pos q]; omega
      · rw [if_neg q]; omega
/-- the rows above -/
def cut (i : Nat) (m : Ink) : Ink := m.filter fun c => decide (c.1 < i)
def part (i : Nat) (m : Ink) : List Nat := (m.filter fun c => c.1 == i).map (·.2)
theorem has_cut {i r c : Nat} {m : Ink} : has (cut i m) r c = (decide (r < i) && has m r c) := by
  have e : (r, c) ∈ cut i m ↔ (decide (r < i) && has m r c) = true := by
    unfold cut
    rw [List.mem_filter, Bool.and_eq_true, decide_eq_true_iff, has_iff]
    exact And.comm
  cases q : (decide (r < i) && has m r c) with
  | true => exact has_iff.mpr (e.mpr q)
  | false => exact has_false.mpr fun z => by rw [e.mp z] at q; cases q
theorem mem_part {i c : Nat} {m : Ink} : c ∈ part i m ↔ (i, c) ∈ m := by
  unfold part
  simp only [List.mem_map, List.mem_filter, beq_iff_eq, Prod.exists, exists_eq_right]
theorem cut_inF {i : Nat} {m : Ink} (f : InF h w m) : InF h w (cut i m) := ⟨f.asc.filter _, fun c hc => f.fr c (List.mem_filter.mp hc).1⟩
theorem part_asc {i : Nat} {m : Ink} (f : InF h w m) : (part i m).Pairwise (· < ·) := by
  unfold part
  rw [List.pairwise_map]
  refine (f.asc.filter _).imp_of_mem fun {a b} ha hb hab => ?_
  have e1 : a.1 = i := by have := (List.mem_filter.mp ha).2; simpa using this
  have e2 : b.1 = i := by have := (List.mem_filter.mp hb).2; simpa using this
  rcases hab with q | q
  · omega
  · exact q.2
theorem cut_succ {i : Nat} {m : Ink} (f : InF h w m) : cut (i + 1) m = ext i (cut i m) (part i m) := by
  refine asc_ext (f.asc.filter _) ?_ fun ⟨x, y⟩ => ?_
  · unfold ext
    rw [List.pairwise_append]
    refine ⟨f.asc.filter _, List.Pairwise.map _ (fun a b q => .inr ⟨rfl, q⟩) (part_asc f), fun a ha b hb => ?_⟩
    obtain ⟨z, hz, rfl⟩ := List.mem_map.mp hb
    have := (List.mem_filter.mp ha).2
    exact .inl (by simpa using this)
  · unfold ext
    rw [List.mem_append, List.mem_map]
    unfold cut
    rw [List.mem_filter, List.mem_filter]
    simp only [decide_eq_true_eq, Prod.mk.injEq]
    constructor
    · rintro ⟨h1, h2⟩
      by_cases q : x < i
      · exact .inl ⟨h1, q⟩
      · have : x = i := by omega
        subst this
        exact .inr ⟨y, mem_part.mpr h1, rfl, rfl⟩
    · rintro (⟨h1, h2⟩ | ⟨z, hz, rfl, rfl⟩)
      · exact ⟨h1, by omega⟩
      · exact ⟨mem_part.mp hz, by omega⟩
theorem cnt_from (n j : Nat) (p : Nat → Bool) : cnt n (fun r => decide (j ≤ r) && p r) ≤ n - j := by
  induction n with
  | zero => exact Nat.zero_le _
  | succ n ih =>
    rw [cnt_succ]
    by_cases q : j ≤ n
    · split <;> omega
    · rw [if_neg (by simp [q])]; omega
theorem col_cut {i c : Nat} {m : Ink} (f : InF h w m) : colS m c - colS (cut i m) c ≤ h - i ∧ colS (cut i m) c ≤ colS m c := by
  rw [(cut_inF (i := i) f).colS, f.colS]
  have a := cnt_part h (fun r => decide (r < i)) (fun r => has m r c)
  have e : cnt h (fun r => has (cut i m) r c) = cnt h (fun r => decide (r < i) && has m r c) := cnt_congr fun r _ => has_cut
  have e2 : cnt h (fun r => !decide (r < i) && has m r c) = cnt h (fun r => decide (i ≤ r) && has m r c) := cnt_congr fun r _ => by
    by_cases q : r < i
    · rw [decide_eq_true q, decide_eq_false (by omega)]; rfl
    · rw [decide_eq_false q, decide_eq_true (by omega)]; rfl
  have b := cnt_from h i (fun r => has m r c)
  omega
theorem cut_mem {m : Ink} (f : InF h w m) (hr : ∀ r, r < h → rowS m r = rows r) (hc : ∀ c, c < w → colS m c = cols c) : ∀ i, i ≤ h → cut i m ∈ fnd h w rows cols i := by
  intro i
  induction i with
  | zero =>
    intro _
    have : cut 0 m = [] := by unfold cut; rw [List.filter_eq_nil_iff]; simp
    rw [this]; simp [fnd]
  | succ i ih =>
    intro hi
    have nd : (part i m).Nodup := (part_asc f).imp fun {a b} (q : a < b) => by omega
    unfold fnd
    refine List.mem_flatMap.mpr ⟨cut i m, ih (by omega), List.mem_map.mpr ⟨part i m, List.mem_filter.mpr ⟨mem_chs.mpr ⟨?_, part_asc f, fun x hx => (f.fr _ (mem_part.mp hx)).2⟩, ?_⟩, (cut_succ f).symm⟩⟩
    · rw [← hr i (by omega)]
      unfold part rowS
      rw [List.length_map, List.countP_eq_length_filter]
    · unfold okp
      simp only [Bool.and_eq_true, List.all_eq_true, decide_eq_true_eq, List.mem_range]
      have e : ∀ c, c < w → colS (cut i m) c + (if c ∈ part i m then 1 else 0) ≤ cols c ∧ cols c - (colS (cut i m) c + (if c ∈ part i m then 1 else 0)) ≤ h - (i + 1) := fun c hcw => by
        have := col_cut (i := i + 1) (c := c) f
        rw [cut_succ f, colS_ext nd, hc c hcw] at this
        exact ⟨this.2, this.1⟩
      refine ⟨fun c hcp => ?_, fun c hcw => ?_⟩
      · have := e c (f.fr _ (mem_part.mp hcp)).2
        rw [if_pos hcp] at this
        unfold lf; omega
      · have := e c hcw
        unfold lf; omega
theorem cut_all {m : Ink} (f : InF h w m) : cut h m = m := by
  unfold cut
  rw [List.filter_eq_self]
  intro a ha
  exact decide_eq_true (f.fr a ha).1
/-- the last ones -/
theorem mem_fnd {l m : Ink} (f : InF h w l) (hh : 1 ≤ h) : m ∈ fnd h w (rowS l) (colS l) h ↔ InF h w m ∧ SameS h w l m := by
  constructor
  · intro q
    have g := good_fnd q
    refine ⟨g.f, fun r hr => ?_, fun c hc => ?_⟩
    · rw [← f.rowS, ← g.f.rowS]; exact (g.row r hr).symm
    · rw [← f.colS, ← g.f.colS]
      have a := g.col c hc
      have b := g.rem (by omega) c hc
      omega
  · rintro ⟨fm, e⟩
    have := cut_mem (rows := rowS l) (cols := colS l) fm (fun r hr => by rw [f.rowS, fm.rowS]; exact (e.row r hr).symm) (fun c hc => by rw [f.colS, fm.colS]; exact (e.col c hc).symm) h (Nat.le_refl _)
    rwa [cut_all fm] at this
theorem ext_inj {i : Nat} {a b : Ink} {p q : List Nat} (ha : ∀ c, c ∈ a → c.1 < i) (hb : ∀ c, c ∈ b → c.1 < i) (e : ext i a p = ext i b q) : a = b ∧ p = q := by
  have key : ∀ {a : Ink} {p : List Nat}, (∀ c, c ∈ a → c.1 < i) → (ext i a p).filter (fun c => decide (c.1 < i)) = a := fun {a p} ha => by
    unfold ext
    rw [List.filter_append, List.filter_eq_self.mpr fun c hc => decide_eq_true (ha c hc), List.filter_eq_nil_iff.mpr, List.append_nil]
    intro c hc
    obtain ⟨z, _, rfl⟩ := List.mem_map.mp hc
    simp
  have e1 : a = b := by
    have := congrArg (List.filter fun c : Cell => decide (c.1 < i)) e
    rwa [key ha, key hb] at this
  subst e1
  refine ⟨rfl, ?_⟩
  have := List.append_cancel_left e
  have := congrArg (List.map (·.2)) this
  simpa [List.map_map, Function.comp_def] using this
theorem fnd_nodup : ∀ i, (fnd h w rows cols i).Nodup
  | 0 => List.pairwise_singleton _ _
  | i + 1 => by
    show List.Pairwise _ ((fnd h w rows cols i).flatMap fun ink => ((chs w (rows i)).filter (okp h w cols i ink)).map (ext i ink))
    rw [List.pairwise_flatMap]
    refine ⟨fun o ho => List.Pairwise.map _ (fun a b hab e => hab (ext_inj (fun c hc => ((good_fnd ho).f.fr c hc).1) (fun c hc => ((good_fnd ho).f.fr c hc).1) e).2) ((chs_nodup w (rows i)).filter _), (fnd_nodup i).imp_of_mem fun {o1 o2} m1 m2 ho x hx y hy e => ?_⟩
    · obtain ⟨a, _, rfl⟩ := List.mem_map.mp hx
      obtain ⟨b, _, rfl⟩ := List.mem_map.mp hy
      exact ho (ext_inj (fun c hc => ((good_fnd m1).f.fr c hc).1) (fun c hc => ((good_fnd m2).f.fr c hc).1) e).1
theorem flat_le {α β : Type} {f : α → List β} {b : Nat} : ∀ {l : List α}, (∀ x, x ∈ l → (f x).length ≤ b) → (l.flatMap f).length ≤ l.length * b
  | [], _ => by simp
  | a :: l, hh => by
    rw [List.flatMap_cons, List.length_append, List.length_cons, Nat.succ_mul]
    have := hh a (by simp)
    have := flat_le (f := f) (l := l) fun x hx => hh x (by simp [hx])
    omega
theorem fnd_len {b : Nat} (i : Nat) (hb : ∀ r, r < i → (chs w (rows r)).length ≤ b) : (fnd h w rows cols i).length ≤ b ^ i := by
  induction i with
  | zero => simp [fnd]
  | succ i ih =>
    have a := ih fun r hr => hb r (by omega)
    have c : (fnd h w rows cols (i + 1)).length ≤ (fnd h w rows cols i).length * b := by
      rw [show fnd h w rows cols (i + 1) = (fnd h w rows cols i).flatMap fun ink => ((chs w (rows i)).filter (okp h w cols i ink)).map (ext i ink) from rfl]
      refine flat_le fun x _ => ?_
      rw [List.length_map]
      exact Nat.le_trans (List.length_filter_le _ _) (hb i (by omega))
    rw [Nat.pow_succ]
    exact Nat.le_trans c (Nat.mul_le_mul_right _ a)
theorem one_at_most {α : Type} : ∀ {l : List α}, l.Nodup → (∀ x y, x ∈ l → y ∈ l → x = y) → l.length ≤ 1
  | [], _, _ => by simp
  | [a], _, _ => by simp
  | a :: b :: l, hn, hh => by
    have := hh a b (by simp) (by simp)
    rw [List.nodup_cons] at hn
    exact absurd (by rw [this]; simp) hn.1
theorem asc_ext_nat {p q : List Nat} (hp : p.Pairwise (· < ·)) (hq : q.Pairwise (· < ·)) (e : ∀ x, x ∈ p ↔ x ∈ q) : p = q := by
  have := asc_ext (l := p.map fun c => (0, c)) (m := q.map fun c => (0, c)) (List.Pairwise.map _ (fun a b z => .inr ⟨rfl, z⟩) hp) (List.Pairwise.map _ (fun a b z => .inr ⟨rfl, z⟩) hq) (fun ⟨x, y⟩ => by
    simp only [List.mem_map, Prod.mk.injEq]
    constructor
    · rintro ⟨a, ha, rfl, rfl⟩; exact ⟨a, (e a).mp ha, rfl, rfl⟩
    · rintro ⟨a, ha, rfl, rfl⟩; exact ⟨a, (e a).mpr ha, rfl, rfl⟩)
  have := congrArg (List.map (·.2)) this
  simpa [List.map_map, Function.comp_def] using this
theorem fnd_last {i : Nat} (hi : i + 1 = h) : (fnd h w rows cols (i + 1)).length ≤ (fnd h w rows cols i).length := by
  have : (fnd h w rows cols (i + 1)).length ≤ (fnd h w rows cols i).length * 1 := by
    rw [show fnd h w rows cols (i + 1) = (fnd h w rows cols i).flatMap fun ink => ((chs w (rows i)).filter (okp h w cols i ink)).map (ext i ink) from rfl]
    refine flat_le fun ink _ => ?_
    rw [List.length_map]
    refine one_at_most ((chs_nodup w (rows i)).filter _) fun p q hp hq => ?_
    obtain ⟨p1, p2⟩ := List.mem_filter.mp hp
    obtain ⟨q1, q2⟩ := List.mem_filter.mp hq
    obtain ⟨_, pa, pw⟩ := mem_chs.mp p1
    obtain ⟨_, qa, qw⟩ := mem_chs.mp q1
    unfold okp at p2 q2
    simp only [Bool.and_eq_true, List.all_eq_true, decide_eq_true_eq, List.mem_range] at p2 q2
    have key : ∀ {p q : List Nat}, (∀ x, x ∈ p → x < w) → (∀ x, x ∈ p → 0 < lf cols ink x) → (∀ x, x < w → lf cols ink x - (if x ∈ q then 1 else 0) < h - i) → ∀ x, x ∈ p → x ∈ q := fun {p q} pw a b x hx => by
      have c := a x hx
      have d := b x (pw x hx)
      by_cases z : x ∈ q
      · exact z
      · rw [if_neg z] at d; omega
    exact asc_ext_nat pa qa fun x => ⟨key pw p2.1 q2.2 x, key qw q2.1 p2.2 x⟩
  omega
end
theorem rowS_le {h w : Nat} {l : Ink} (f : InF h w l) (r : Nat) : rowS l r ≤ w := by rw [f.rowS]; exact cnt_le _ _
theorem colS_le {h w : Nat} {l : Ink} (f : InF h w l) (c : Nat) : colS l c ≤ h := by rw [f.colS]; exact cnt_le _ _
/-- how many, where the law asks -/
theorem fnd_few {h w : Nat} {l : Ink} (f : InF h w l) (h1 : 1 ≤ h) (h5 : h ≤ 5) (w4 : w ≤ 4) (hw : h * w < 17) :
    (∀ i, i ≤ h → (fnd h w (rowS l) (colS l) i).length ≤ 1296) ∧ (fnd h w (rowS l) (colS l) h).length ≤ 243 := by
  by_cases q : w ≤ 3
  · have a : ∀ i, i ≤ h → (fnd h w (rowS l) (colS l) i).length ≤ 243 := fun i hi =>
      Nat.le_trans (fnd_len (b := 3) i fun r _ => chs_len3 w q _ (Nat.le_trans (rowS_le f r) q)) (Nat.le_trans (Nat.pow_le_pow_right (by decide) (Nat.le_trans hi h5)) (by decide))
    exact ⟨fun i hi => Nat.le_trans (a i hi) (by decide), a h (Nat.le_refl _)⟩
  · have ew : w = 4 := by omega
    have h4 : h ≤ 4 := by subst ew; omega
    have b : ∀ i, (fnd h w (rowS l) (colS l) i).length ≤ 6 ^ i := fun i => fnd_len (b := 6) i fun r _ => chs_len4 w w4 _ (Nat.le_trans (rowS_le f r) w4)
    refine ⟨fun i hi => Nat.le_trans (b i) (Nat.le_trans (Nat.pow_le_pow_right (by decide) (Nat.le_trans hi h4)) (by decide)), ?_⟩
    obtain ⟨i, rfl⟩ : ∃ i, h = i + 1 := ⟨h - 1, by omega⟩
    refine Nat.le_trans (fnd_last rfl) (Nat.le_trans (b i) (Nat.le_trans (Nat.pow_le_pow_right (by decide) (show i ≤ 3 by omega)) (by decide)))
end K53

-- part K53M4
set_option maxRecDepth 100000
set_option maxHeartbeats 4000000
namespace K53
/-! ### an ink without switches is alone -/
theorem rigid_at {h w : Nat} {one : Ink} (no : ∀ s, ¬ IsSw h w one s) : ∀ (d row : Nat), row + d = h → ∀ (n : Nat) (m : Ink), (onlyM one m row).length = n → Rd h w row one m → m = one := by
  intro d
  induction d with
  | zero =>
    intro row hd n m _ R
    have : row = h := by omega
    subst this
    exact R.last.symm
  | succ d ihd =>
    intro row hd n
    induction n using Nat.strongRecOn with
    | ind n ih =>
      intro m hn R
      have hr : row < h := by omega
      by_cases ne : onlyM one m row = []
      · exact ihd (row + 1) (by omega) _ m rfl (R.next hr ne)
      · obtain ⟨a0, ra, ea⟩ := List.exists_cons_of_ne_nil ne
        have ne2 : onlyM m one row ≠ [] := by
          intro e
          have := R.both hr
          rw [e, ea] at this; simp at this
        obtain ⟨b0, rb, eb⟩ := List.exists_cons_of_ne_nil ne2
        have ma : a0 ∈ onlyM one m row := by rw [ea]; exact List.mem_cons_self ..
        have mb : b0 ∈ onlyM m one row := by rw [eb]; exact List.mem_cons_self ..
        cases hs : rectM one row a0 b0 h with
        | some s => exact absurd (R.here hr ma mb hs).1 (no s)
        | none =>
          obtain ⟨s, hs2⟩ := R.goal_has hr ma mb hs
          obtain ⟨is, R', dec⟩ := R.goal hr ma mb hs2
          have e := ih _ (by omega) (swM m s) rfl R'
          exact absurd (e ▸ swM_isSw is) (no s)
theorem rigid {h w : Nat} {one m : Ink} (no : ∀ s, ¬ IsSw h w one s) (f1 : InF h w one) (f2 : InF h w m) (e : SameS h w one m) : m = one :=
  rigid_at no h 0 (by omega) _ m rfl (Rd.zero f1 f2 e)
theorem len_one {h w : Nat} {one : Ink} {L : List Ink} (f : InF h w one) (nd : L.Nodup) (mem : ∀ m, m ∈ L ↔ InF h w m ∧ SameS h w one m) : L.length = 1 ↔ ∀ s, ¬ IsSw h w one s := by
  have h1 : one ∈ L := (mem one).mpr ⟨f, SameS.refl _ _ _⟩
  constructor
  · intro e s is
    have h2 : swM one s ∈ L := (mem _).mpr ⟨swM_inF f is, swM_same is⟩
    obtain ⟨x, rfl⟩ := List.length_eq_one_iff.mp e
    rw [List.mem_singleton] at h1 h2
    exact swM_ne is (h2.trans h1.symm)
  · intro no
    have a := one_at_most nd fun x y hx hy => by
      obtain ⟨fx, sx⟩ := (mem x).mp hx
      obtain ⟨fy, sy⟩ := (mem y).mp hy
      rw [rigid no f fx sx, rigid no f fy sy]
    have b : 0 < L.length := List.length_pos_of_mem h1
    omega
end K53

-- part K53R1
set_option maxRecDepth 100000
set_option maxHeartbeats 4000000
namespace K53
open PySem PySem.Spec PyProof.Rows L2 Evl

/-! ### enumerate(t), t a tuple -/
/-- enumerate with one argument, whatever begins to be walked -/
theorem enum1_new {v : Value} {o : Obj} {G : Heap → Prop} (B : Begins v o G) :
    Meets (Builtin.«enumerate.__new__» ⟨[.type "enumerate", v], []⟩) (fun _ R s => G s.heap ∧ R (.ok (.ret (.ref (s.heap.push o).objs.size)))
      { s with heap := (s.heap.push o).push { cls := .type "enumerate", data := .fields #[.none, .bool false, .ref s.heap.objs.size, rawInt 0, .none, .none] } }) := by
  refine .of_wp fun pr w A R s h => ?_
  cases s with
  | mk hp g d tk os =>
    have hsub := sub_enumerate
    have q1 : ∀ {A1 : Around} {E1 : Value → Shared → Prop} {Q1 : Value → Shared → Prop}, Q1 (.ref hp.objs.size) ⟨hp.push o, g, d, tk, os⟩ → wpAny (model pr w) A1 (pyIter v) Q1 E1 ⟨hp, g, d, tk, os⟩ := fun q => B.iter pr w _ _ ⟨hp, g, d, tk, os⟩ _ h.1 q
    wp_walk using q1
    refine wpAny_stack_any fun _ => wpAny_pure ?_
    split
    rename_i c _ _ _ _ _
    cases hty : c == Value.type "enumerate"
    all_goals (wp_walk using q1; exact ⟨_, rfl, h.2⟩)
theorem enum1 {prog : Program} {w : World} {A : Around} {E : Value → Shared → Prop} {s : Shared} {v : Value} {o : Obj} {G : Heap → Prop} (B : Begins v o G) {Q : Value → Shared → Prop} (g : G s.heap)
    (k : ∀ h2 : Heap, IsEnum h2 (s.heap.objs.size + 1) s.heap.objs.size 0 .none → h2.get? s.heap.objs.size = some o → (∀ b u, s.heap.get? b = some u → h2.get? b = some u) → Q (.ref (s.heap.objs.size + 1)) { s with heap := h2 }) :
    wpAny (model prog w) A (call (.type "enumerate") [v]) Q E s := by
  have one : (s.heap.push o).objs.size = s.heap.objs.size + 1 := Heap.size_push ..
  have ke : IsEnum ((s.heap.push o).push { cls := .type "enumerate", data := .fields #[.none, .bool false, .ref s.heap.objs.size, rawInt 0, .none, .none] }) (s.heap.objs.size + 1) s.heap.objs.size 0 .none := by
    rw [← one]; exact Heap.get?_push_size (s.heap.push o) rfl
  have kept := k _ ke (Heap.get?_push_of_some _ (Heap.get?_push_size _ B.free)) fun b u q => Heap.get?_push_of_some _ (Heap.get?_push_of_some _ q)
  refine callType_new F.called_enumerate (by decide) (F.typeCall_enumerate_1 _) (F.newCall_enumerate_1 _) (fun obj => F.args_object_init_2 obj _) F.entry_enumerate_new (enum1_new B) ⟨g, ?_⟩
  show _ ∧ _
  rw [one]
  exact ⟨⟨_, ke, rfl⟩, kept⟩
/-- the walk: item i of the tuple at a, in a new pair -/
def ItE (K : PySem.W.Frag) (a : Addr) : It where
  go i H := ∃ xs : List V, SqT K H a xs ∧ i < xs.length
  yld i H v H' := ∃ (T : Addr) (x : V), v = .ref T ∧ H T = none ∧ H' = upd H T (.tup [.int (i : Nat), x]) ∧ ∀ xs, SqT K H a xs → xs[i]? = some x
  stop i H := ∃ xs : List V, SqT K H a xs ∧ xs.length = i
theorem tup_apart {h : Heap} {a b : Addr} {its : Array Value} {o : Obj} (ht : h.IsTuple a its) (hb : h.get? b = some o) (hc : o.cls ≠ .type "tuple") : a ≠ b := by
  intro e
  obtain ⟨o1, h1, h2, _⟩ := ht
  rw [e, hb] at h1
  rw [Option.some.inj h1] at hc
  exact hc h2
theorem turn_enumT {P : Program} {w : World} {K : PySem.W.Frag} {elts : List Expr} {kk : Nat} {tpos : Pos} (a e it : Addr) (nei : e ≠ it) :
    Turn P w K (.Tuple elts kk tpos) (ItE K a) [e, it] e (fun i h => (∃ old, IsEnum h e it (0 + (i : Int)) old) ∧ h.IsTupleIter it a i) := by
  -- the library's walk, at a state
  have walk : ∀ {X : Cx} {pins : List (Addr × Obj)} {σ : L2.St} {H : Hp} {s : Shared} {i : Nat} {xs : List V}, Inv X pins σ H s → X.calm = true → SqT X.K H a xs → (∃ old, IsEnum s.heap e it (0 + (i : Int)) old) → s.heap.IsTupleIter it a i →
      ∃ its : List Value, Vals xs its ∧ s.heap.IsTuple a its.toArray ∧ GoesN X.prog X.w X.A (.Tuple elts kk tpos) e (e :: [it, a]) [e, it] its.toArray.size
        (fun i h₀ v h => ∃ T t x, v = .ref T ∧ h₀.objs.size ≤ T ∧ its.toArray[i]? = some x ∧ h.IsTuple T #[.int (0 + (i : Int)) t, x]) (fun i h => (∃ old, IsEnum h e it (0 + (i : Int)) old) ∧ (h.IsTupleIter it a i ∧ h.IsTuple a its.toArray)) := by
    intro X pins σ H s i xs I hc hq he hi
    obtain ⟨its, rv, p, -⟩ := I.tuple hq
    have p2 : s.heap.IsTuple a its.toArray := p
    obtain ⟨old, he⟩ := he
    obtain ⟨oi, hoi, hci, _⟩ := id hi
    have n1 : a ≠ it := tup_apart p2 hoi (by rw [hci]; intro q; injection q with q; exact absurd q (by decide))
    have n2 : a ≠ e := tup_apart p2 he (by intro q; injection q with q; exact absurd q (by decide))
    exact ⟨its, rv, p2, GoesN.enumFrom 0 (Draws.tuple (by exact I.ok.hd hc) it a n1 its.toArray) e nei (by simp [nei, n2.symm]) (by simp)⟩
  refine ⟨by simp, fun i h st b hb => ?_, fun i h h' st k => ?_, ?_, ?_, fun A i s Q E st h => let ⟨⟨_, he⟩, _⟩ := st; wpAny_pyIter_enum he h⟩
  · obtain ⟨⟨old, he⟩, o, ho, _, hd⟩ := st
    rcases List.mem_cons.mp hb with z | z
    · exact z ▸ ⟨_, he, fun v q => nomatch q⟩
    · exact List.mem_singleton.mp z ▸ ⟨o, ho, fun v q => by rw [hd] at q; cases q⟩
  · exact ⟨st.1.imp fun old q => k e (List.mem_cons_self ..) _ q, st.2.at fun o q => k it (by simp) o q⟩
  · rintro X rfl rfl rfl hc i pins s σ H E I hf st ⟨xs, hq, hlt⟩
    obtain ⟨its, rv, p2, W⟩ := walk I hc hq st.1 st.2
    refine W.goes i s _ E (by rw [List.size_toArray, ← rv.length]; exact hlt) ⟨st.1, st.2, p2⟩ fun v h' tk hY st' hk _ => ?_
    obtain ⟨T, t, y, rfl, hT, hy, hTup⟩ := hY
    have hy2 : its[i]? = some y := by simpa using hy
    obtain ⟨u, hu, ru⟩ := rv.get (i := i) (x := xs[i]) (List.getElem?_eq_getElem hlt)
    rw [hy2] at hu
    cases hu
    have fresh : H T = none := I.hok.fresh hT
    have I1 := I.turnedNew (t' := tk) (ob := .tup [.int (i : Nat), xs[i]]) (ch := [e, it]) hk hf hT ⟨by show 2 ≤ sizeLine; decide, [.int (0 + (i : Int)) t, y], .cons ⟨t, by rw [Int.zero_add]⟩ (.cons ru .nil), hTup⟩
    refine ⟨.ref T, _, I1, rfl, ⟨T, xs[i], rfl, fresh, rfl, fun ys hy => by rw [I.tuple_inj hy hq]; exact List.getElem?_eq_getElem hlt⟩, ⟨st'.1, st'.2.1⟩, fun b hb => ?_⟩
    have hne : b ≠ T := by
      rintro rfl
      have z : ∃ o, s.heap.get? b = some o := by
        rcases List.mem_cons.mp hb with q | q
        · exact q ▸ st.1.elim fun _ q => ⟨_, q⟩
        · exact List.mem_singleton.mp q ▸ st.2.elim fun o q => ⟨o, q.1⟩
      obtain ⟨o, z⟩ := z
      exact absurd (Nat.lt_of_lt_of_le (Heap.lt_size z) hT) (Nat.lt_irrefl _)
    rw [upd_ne hne]
    exact (hf b hb).1
  · rintro X rfl rfl rfl hc i pins s σ H E I hf st ⟨xs, hq, hlen⟩
    obtain ⟨its, rv, p2, W⟩ := walk I hc hq st.1 st.2
    have hz : its.toArray.size = i := by rw [List.size_toArray, ← rv.length]; exact hlen
    have stop := W.stops s (fun s1 => Inv X pins σ H s1) E
    rw [hz] at stop
    exact stop ⟨st.1, st.2, p2⟩ fun h' tk hk _ => I.turnedL (t' := tk) (ch := [e, it]) hk hf
def iEnumT (K : PySem.W.Frag) (ta : TA) : TI := fun σ H R => ta σ H fun vs H1 => ∃ a xs, vs = [.ref a] ∧ SqT K H1 a xs ∧ R (ItE K a) H1
theorem pi_enumT {X : Cx} {e : Expr} {ta : TA} {p pos tpos : Pos} {elts : List Expr} {kk : Nat} (hg : Gl X "enumerate") (hm : X.mg "enumerate" = none) (ha : PA X [e] ta) (hs : starEach [e] X.env = [(false, eval e X.env)] := by rfl) :
    PI X (.Tuple elts kk tpos) (.Call (.Name "enumerate" p) [e] [] pos) (iEnumT X.K ta) := by
  constructor
  intro pins s σ H R I h
  refine Call_ (ld_blt I hg hm boot_enumerate (PyProof.Rows.callWith_type1 (thn (ha.run pos pins s σ H _ I h) ?_) hs rfl))
  rintro us s1 ⟨vs, H1, I1, r1, a, xs, rfl, hq, q⟩
  rw [Vals.ref1 r1]
  obtain ⟨its, rv, pt, -⟩ := I1.tuple hq
  refine enum1 (begins_tuple a its.toArray) pt fun h2 ke hit kept => wpAny_pyIter_enum ke ?_
  have fp : ∀ b, s1.heap.objs.size ≤ b → FpOk X pins H1 b := fun b hb => I1.fpOk hb (I1.hok.fresh hb)
  refine ⟨s1.heap.objs.size + 1, [s1.heap.objs.size + 1, s1.heap.objs.size], _, ItE X.K a, H1, rfl, I1.kept (t' := s1.toks) kept, turn_enumT a _ _ (Nat.succ_ne_self _), ⟨⟨.none, ke⟩, ⟨_, hit, rfl, rfl⟩⟩, ?_, q⟩
  intro b hb
  rcases List.mem_cons.mp hb with z | z
  · exact fp b (z ▸ Nat.le_succ _)
  · exact fp b (List.mem_singleton.mp z ▸ Nat.le_refl _)
/-- for .. in enumerate(t): Pv by the turn -/
theorem for_enumT {K : PySem.W.Frag} {a : Addr} {xs : List V} {g : TG} {tb : TS} {D : Ends} {σ : L2.St} {H : Hp} (Pv : Nat → L2.St → Hp → Prop) (h0 : Pv 0 σ H) (hl : ∀ i σ H, i ≤ xs.length → Pv i σ H → H a = some (.tup xs))
    (hs : ∀ i x T σ H, xs[i]? = some x → Pv i σ H → H T = none → g (.ref T) σ (upd H T (.tup [.int (i : Nat), x])) fun σ2 H2 => tb { D with nx := Pv (i + 1), ct := Pv (i + 1), bk := D.nx } σ2 H2) (hd : ∀ σ H, Pv xs.length σ H → D.nx σ H) :
    ∃ W : Nat → Nat → L2.St → Hp → Prop, (∃ m, W 0 m σ H) ∧ ∀ i m σ1 H1, W i m σ1 H1 → ((ItE K a).stop i H1 ∧ D.nx σ1 H1) ∨ ((ItE K a).go i H1 ∧
      ∃ N : L2.St → Hp → Prop, (∀ σ2 H2, N σ2 H2 → ∃ n, n < m ∧ W (i + 1) n σ2 H2) ∧ ∀ x H2, (ItE K a).yld i H1 x H2 → g x σ1 H2 fun σ3 H3 => tb { D with nx := N, ct := N, bk := D.nx } σ3 H3) := by
  refine ⟨fun i m σ1 H1 => i + m = xs.length ∧ Pv i σ1 H1, ⟨xs.length, Nat.zero_add _, h0⟩, fun i m σ1 H1 hw => ?_⟩
  have at_ := hl i σ1 H1 (by omega) hw.2
  cases m with
  | zero =>
    have e : i = xs.length := by have := hw.1; omega
    exact .inl ⟨⟨xs, .of at_, e.symm⟩, hd _ _ (e ▸ hw.2)⟩
  | succ m =>
    have lt : i < xs.length := by have := hw.1; omega
    refine .inr ⟨⟨xs, .of at_, lt⟩, Pv (i + 1), fun σ2 H2 n => ⟨m, Nat.lt_succ_self m, by have := hw.1; omega, n⟩, ?_⟩
    rintro _ _ ⟨T, z, rfl, hT, rfl, hz⟩
    exact hs i z T σ1 H1 (hz xs (.of at_)) hw.2 hT
/-- [.. for .. in enumerate(t) ..] -/
theorem lc_enumT {K : PySem.W.Frag} {a : Addr} {xs : List V} {g : TG} {tt : TT} {te : TE} {vs : List Nat} {σ : L2.St} {H : Hp} {D : Addr} {Qd : Hp → Prop} (Pv : Nat → Hp → Prop) (h0 : Pv 0 (upd H D (.lst []))) (hl : ∀ i H, i ≤ xs.length → Pv i H → H a = some (.tup xs))
    (hs : ∀ i x T H, xs[i]? = some x → Pv i H → H T = none → g (.ref T) (wipe σ vs) (upd H T (.tup [.int (i : Nat), x])) fun σ2 H2 => wipe σ2 vs = wipe σ vs ∧ tt σ2 H2 fun b H3 =>
      if b = true then te σ2 H3 fun y H4 => ∃ ys, H4 D = some (.lst ys) ∧ ys.length < sizeLine ∧ Pv (i + 1) (upd H4 D (.lst (ys ++ [y]))) else Pv (i + 1) H3) (hd : ∀ H, Pv xs.length H → Qd H) :
    ∃ W : Nat → Nat → Hp → Prop, (∃ m, W 0 m (upd H D (.lst []))) ∧ ∀ i m H1, W i m H1 → ((ItE K a).stop i H1 ∧ Qd H1) ∨ ((ItE K a).go i H1 ∧
      ∃ Nx : Hp → Prop, (∀ H2, Nx H2 → ∃ n, n < m ∧ W (i + 1) n H2) ∧ ∀ x H2, (ItE K a).yld i H1 x H2 → g x (wipe σ vs) H2 fun σ2 H2 => wipe σ2 vs = wipe σ vs ∧ tt σ2 H2 fun b H3 =>
        if b = true then te σ2 H3 fun y H4 => ∃ ys, H4 D = some (.lst ys) ∧ ys.length < sizeLine ∧ Nx (upd H4 D (.lst (ys ++ [y]))) else Nx H3) := by
  refine ⟨fun i m H1 => i + m = xs.length ∧ Pv i H1, ⟨xs.length, Nat.zero_add _, h0⟩, fun i m H1 hw => ?_⟩
  have at_ := hl i H1 (by omega) hw.2
  cases m with
  | zero =>
    have e : i = xs.length := by have := hw.1; omega
    exact .inl ⟨⟨xs, .of at_, e.symm⟩, hd _ (e ▸ hw.2)⟩
  | succ m =>
    have lt : i < xs.length := by have := hw.1; omega
    refine .inr ⟨⟨xs, .of at_, lt⟩, Pv (i + 1), fun H2 n => ⟨m, Nat.lt_succ_self m, by have := hw.1; omega, n⟩, ?_⟩
    rintro _ _ ⟨T, z, rfl, hT, rfl, hz⟩
    exact hs i z T H1 (hz xs (.of at_)) hw.2 hT

/-! ### xs[i] op= e of a list -/
def rGetL : V → V → Hp → VK → Prop := fun o i H Q => ∃ (p : Addr) (xs : List V) (j : Nat) (v : V), o = .ref p ∧ i = .int (j : Int) ∧ H p = some (.lst xs) ∧ xs[j]? = some v ∧ Q v H
theorem get_list {X : Cx} : PGet X rGetL := by
  intro pins s σ H o i ov iv Q I ro ri h
  obtain ⟨p, xs, j, v, rfl, rfl, hp, ha, q⟩ := h
  obtain ⟨t, rfl⟩ := ri
  cases ro
  obtain ⟨its, rv, pl, hz⟩ := I.list (SqL.of hp)
  obtain ⟨u, hu, ru⟩ := rv.get ha
  have hjl := (List.getElem?_eq_some_iff.mp ha).1
  have hn := line63
  exact wpAny_getItem_list pl.isList (Int.natCast_nonneg j) (by omega) (by simpa using hu) ⟨v, H, I, ru, q⟩

/-! ### star displays -/
def tStarS (K : PySem.W.Frag) (te : TE) (tr : TA) : TA := fun σ H Q => te σ H fun x H1 => ∃ a xs, x = .ref a ∧ (SqL K H1 a xs ∨ SqT K H1 a xs) ∧ tr σ H1 fun ys H2 => Q (xs ++ ys) H2
theorem starOf_seq {X : Cx} {pins : List (Addr × Obj)} {σ : L2.St} {H : Hp} {s : Shared} {a : Addr} {xs : List V} {E : Value → Shared → Prop} {Q : List Value → Shared → Prop} (I : Inv X pins σ H s) (h : SqL X.K H a xs ∨ SqT X.K H a xs)
    (q : ∀ us s', Inv X pins σ H s' → Vals xs us → Q us s') : PySem.W.StarOf (model X.prog X.w) X.A E (.ref a) Q s := by
  have z : ∀ {o : Obj} {T : String} {its : List Value} {n : Nat}, T = "list" ∨ T = "tuple" → s.heap.get? a = some o → o.cls = .type T → o.data = .seq its.toArray n → Vals xs its → xs.length ≤ sizeLine → wpAny (model X.prog X.w) X.A (collect (.ref a)) Q E s := by
    intro o T its n hT ho hc hd rv hz
    refine wpAny_collect_seq a hT ho hc hd (fun h' hk => ?_) (by rw [List.size_toArray, ← rv.length]; exact hz)
    have back : its.toArray.toList = its := by simp
    rw [back]
    exact q its _ (I.kept (t' := s.toks) hk) rv
  unfold PySem.W.StarOf
  unfold notIterableAtAll
  rcases h with h | h
  · obtain ⟨its, rv, pl, hz⟩ := I.list h
    obtain ⟨o, n, ho, hc, _, hd⟩ := id pl
    exact wpAny_bind (wpAny_specialOf (⟨o, ho, hc⟩ : s.TypeIs (.ref a) "list") PySem.F.slot_list_iter.lookup (wpAny_pure ⟨rfl, z (.inl rfl) ho hc hd rv hz⟩))
  · obtain ⟨its, rv, pl, hz⟩ := I.tuple h
    obtain ⟨o, ho, hc, n, hd⟩ := id pl
    exact wpAny_bind (wpAny_specialOf (⟨o, ho, hc⟩ : s.TypeIs (.ref a) "tuple") PySem.F.slot_tuple_iter.lookup (wpAny_pure ⟨rfl, z (.inr rfl) ho hc hd rv hz⟩))
theorem pa_star {X : Cx} {e : Expr} {p : Pos} {es : List Expr} {te : TE} {t : TA} (ha : PE X e te) (hr : PA X es t) (hs : starEach (.Starred e p :: es) X.env = (true, eval e X.env) :: starEach es X.env := by rfl) : PA X (.Starred e p :: es) (tStarS X.K te t) := by
  refine ⟨fun pos pins s σ H Q J h => ?_⟩
  refine PySem.W.items_star (thn (ha.run pins s σ H _ J h) fun u s1 ⟨x, H1, I1, r1, q1⟩ => ?_) hs
  obtain ⟨a, xs, rfl, hq, q1⟩ := q1
  cases r1
  refine starOf_seq I1 hq fun us s2 I2 rv => ?_
  exact thn (hr.run pos pins s2 σ H1 _ I2 q1) fun ws s3 ⟨ys, H3, I3, r3, q3⟩ => ⟨xs ++ ys, H3, I3, rv.append r3, q3⟩

/-! ### deep in, over a tuple -/
def rInT (K : PySem.W.Frag) : R2 := fun x y H Q => ∃ d ds, Dp K H x d ∧ Dp K H y (.tuple ds) ∧ SeqAt.shaped d = true ∧ SeqAt.shaped (.tuple ds) = true ∧ Q (.bl (ds.any fun z => PyData.eqv z d)) H
def rNotInT (K : PySem.W.Frag) : R2 := fun x y H Q => ∃ d ds, Dp K H x d ∧ Dp K H y (.tuple ds) ∧ SeqAt.shaped d = true ∧ SeqAt.shaped (.tuple ds) = true ∧ Q (.bl (!ds.any fun z => PyData.eqv z d)) H
theorem canLay_tup {ds : List PyData} (h : SeqAt.shaped (.tuple ds) = true) : PyData.canLayAll0 ds = true := SeqAt.canLay_of_shaped h
theorem op_inT {X : Cx} (hu : X.A.units + 65 < cLine) : OpR X (compareOp .In) (rInT X.K) := by
  rintro pins s σ H x y v u Q J rx ry ⟨d, ds, hd, he, sd, se, q⟩
  have ⟨_, rd⟩ := Dp.reads J d x v hd rx
  have ⟨_, rt⟩ := Dp.reads J (.tuple ds) y u he ry
  exact SeqAt.in_tuple_reads rt rd (canLay_tup se) (SeqAt.canLay_of_shaped sd) (room_in_shaped sd hu) ⟨.bl _, H, J, rfl, q⟩
theorem op_notInT {X : Cx} (hu : X.A.units + 65 < cLine) : OpR X (compareOp .NotIn) (rNotInT X.K) := by
  rintro pins s σ H x y v u Q J rx ry ⟨d, ds, hd, he, sd, se, q⟩
  have ⟨_, rd⟩ := Dp.reads J d x v hd rx
  have ⟨_, rt⟩ := Dp.reads J (.tuple ds) y u he ry
  exact SeqAt.notIn_tuple_reads rt rd (canLay_tup se) (SeqAt.canLay_of_shaped sd) (room_in_shaped sd hu) ⟨.bl _, H, J, rfl, q⟩

/-! ### sum, any of a tuple of ints -/
theorem iter_tupAny {prog : Program} {w : World} {A : Around} {E : Value → Shared → Prop} {s : Shared} {l : Addr} {items : Array Value} {Q : Value → Shared → Prop} (hl : s.heap.IsTuple l items)
    (h : ∀ z : Shared, z = { s with heap := s.heap.push { cls := .type "tuple_iterator", data := .fields #[.ref l, .int 0 0] } } →
      (z.heap.IsTupleIter s.heap.objs.size l 0 ∧ z.heap.IsTuple l items) → l ≠ s.heap.objs.size → Q (.ref s.heap.objs.size) z) : wpAny (model prog w) A (pyIter (.ref l)) Q E s := by
  have old : l < s.heap.objs.size := Heap.lt_size hl.choose_spec.1
  exact wpAny_pyIter_tuple hl (h _ rfl ⟨⟨_, Heap.get?_push_size _ rfl, rfl, rfl⟩, hl.at fun o e => Heap.get?_push_of_some _ e⟩ (Nat.ne_of_lt old))
theorem truth_ints {prog : Program} {w : World} {A : Around} {ns : List Int} {its : List Value} (e : IntsAre its ns) :
    TruthOf prog w A (fun i v => its.toArray[i]? = some v) (fun i => decide (ns.getD i 0 ≠ 0)) := fun i v s Q E hv hq => by
  have at_ : its[i]? = some v := by simpa using hv
  obtain ⟨n, t, hn, rfl⟩ : ∃ n t, ns[i]? = some n ∧ v = .int n t := by
    have r := vals_of_ints e
    have hl := r.length
    have hi := (List.getElem?_eq_some_iff.mp at_).1
    have hi2 : i < ns.length := by rw [List.length_map] at hl; omega
    obtain ⟨u, hu, ru⟩ := r.get (i := i) (x := .int ns[i]) (by rw [List.getElem?_map, List.getElem?_eq_getElem hi2]; rfl)
    rw [at_] at hu
    cases hu
    obtain ⟨t, rfl⟩ := ru
    exact ⟨ns[i], t, List.getElem?_eq_getElem hi2, rfl⟩
  have hg : ns.getD i 0 = n := by rw [List.getD_eq_getElem?_getD, hn]; rfl
  have hq' : Q (decide (ns.getD i 0 ≠ 0)) s := hq
  rw [hg] at hq'
  refine PyProof.Rows.truthy_int ?_
  have e2 : (n != 0) = decide (n ≠ 0) := by
    by_cases h0 : n = 0
    · subst h0; rfl
    · rw [decide_eq_true h0]; exact bne_iff_ne.mpr h0
  rw [e2]
  exact hq'
theorem any_rangeI : ∀ ns : List Int, (List.range ns.length).any (fun i => decide (ns.getD i 0 ≠ 0)) = ns.any fun n => decide (n ≠ 0)
  | [] => rfl
  | b :: bs => by
    rw [List.length_cons, List.range_succ_eq_map, List.any_cons, List.any_map, List.any_cons, ← any_rangeI bs]
    all_goals rfl
section
variable {X : Cx}
def rAnyT (K : PySem.W.Frag) : List V → Hp → VK → Prop := fun vs H Q => ∃ (a : Addr) (ns : List Int), vs = [V.ref a] ∧ SqT K H a (ns.map V.int) ∧ Q (.bl (ns.any fun n => decide (n ≠ 0))) H
/-- what stands already is not the new place -/
theorem not_new {h : Heap} {b : Addr} {o : Obj} (e : h.get? b = some o) : b ∉ [h.objs.size] := fun m => Nat.ne_of_lt (Heap.lt_size e) (List.mem_singleton.mp m)
theorem cr_anyT (hc : X.calm = true) : CallR X (.builtin "any") (rAnyT X.K) := by
  rintro pins s σ H vs us Q I r ⟨a, ns, rfl, hs, q⟩
  obtain ⟨its, rv, hl, _⟩ := I.tuple hs
  rw [Vals.ref1 r]
  have hi := rv.ints
  refine call_any_walk (iter_tupAny (show s.heap.IsTuple a its.toArray from hl) fun s₂ e2 st hne => ?_)
  subst e2
  refine ⟨_, _, _, _, _, _, _, rfl, Walks.tuple (A := X.A.in1) (I.ok.hd hc) _ a hne its.toArray, st, truth_ints hi, fun h' tk hk => ?_⟩
  refine ⟨.bl _, H, I.kept fun b o eo => hk b o (not_new eo) (Heap.get?_push_of_some _ eo), ?_, q⟩
  · refine congrArg Value.bool ?_
    rw [← any_rangeI, List.size_toArray, ← rv.length, List.length_map]
def rSumT (K : PySem.W.Frag) : List V → Hp → VK → Prop := fun vs H Q => ∃ (a : Addr) (ns : List Int), vs = [V.ref a] ∧ SqT K H a (ns.map V.int) ∧ Q (.int ns.sum) H
theorem cr_sumT (hc : X.calm = true) : CallR X (.builtin "sum") (rSumT X.K) := by
  rintro pins s σ H vs us Q I r ⟨a, ns, rfl, hs, q⟩
  obtain ⟨its, rv, hl, _⟩ := I.tuple hs
  rw [Vals.ref1 r]
  have hlen : its.length = ns.length := by rw [← rv.length, List.length_map]
  refine call_sum_walkG (iter_tupAny (show s.heap.IsTuple a its.toArray from hl) fun s₂ e2 st hne => ?_)
  subst e2
  refine ⟨_, _, _, _, _, _, fun i => ns.getD i 0, rfl, Walks.tuple (A := X.A.in1) (I.ok.hd hc) _ a hne its.toArray, st, fun b hb => ?_, fun i v hv => ?_, fun h' tk t' hk => ?_⟩
  · have hlt : a < s.heap.objs.size := by obtain ⟨_, e, _⟩ := hl; exact Heap.lt_size e
    have e1 : b = s.heap.objs.size ∨ b = a := by simpa using hb
    refine Nat.lt_of_lt_of_eq ?_ (Heap.size_push ..).symm
    rcases e1 with rfl | rfl
    · exact Nat.lt_succ_self _
    · exact Nat.lt_succ_of_lt hlt
  · have hv' : its[i]? = some v := by simpa using hv
    have hi := (List.getElem?_eq_some_iff.mp hv').1
    have hi2 : i < ns.length := by omega
    obtain ⟨u, hu, ru⟩ := rv.get (i := i) (x := .int ns[i]) (by rw [List.getElem?_map, List.getElem?_eq_getElem hi2]; rfl)
    rw [hv'] at hu
    cases hu
    obtain ⟨t, rfl⟩ := ru
    exact ⟨t, by show Value.int ns[i] t = Value.int (ns.getD i 0) t; rw [List.getD_eq_getElem?_getD, List.getElem?_eq_getElem hi2]; rfl⟩
  · refine ⟨.int _, H, I.kept fun b o eo => hk b o (not_new eo) (Heap.get?_push_of_some _ eo), ⟨t', ?_⟩, q⟩
    · congr 1
      have key : ∀ (m : Nat), m ≤ ns.length → preSum (fun i => ns.getD i 0) m = (ns.take m).sum := by
        intro m hm
        induction m with
        | zero => simp [preSum]
        | succ m ih =>
          have hlt : m < ns.length := by omega
          rw [List.take_succ_eq_append_getElem hlt, List.sum_append, ← ih (by omega)]
          simp [preSum, List.getD_eq_getElem?_getD, List.getElem?_eq_getElem hlt]
      rw [List.size_toArray, hlen, key _ (Nat.le_refl _), List.take_length]
end

/-! ### sorted of a list or a tuple of data -/
section
open PySem.W
/-- what can be sorted: as the library has it, or one thing at most -/
def CanSort (ds : List PyData) : Prop := Sortable ds ∨ ((∀ d, d ∈ ds → d ≠ .none) ∧ ds.length ≤ 1)
theorem canSort {prog : Program} {w : World} {A : Around} {s : Shared} {vs : List Value} {ds : List PyData} (e : EachIs (fun v d => ∃ as, Reads s.heap v d as) vs ds) (hal : AllAlike ds) (hk : CanSort ds) (hu : ∀ d, d ∈ ds → A.units + d.depth < cLine) : SortsAt prog w A s (dataKind s.heap ds) vs := by
  rcases hk with hk | ⟨hn, h1⟩
  · exact SortsAt.data e hal hk hu
  · refine ⟨fun v hv => ?_, general', fun E x y a b Q ha hb hq => ?_, fun h2 => absurd h2 (by have := e.length; omega)⟩
    · have ⟨_, hd, _, rd⟩ := e.left v hv
      exact ⟨_, dataKind_some hal hd rd⟩
    · obtain ⟨d, as, hd, ra, rfl⟩ := dataKind_inv ha
      obtain ⟨d2, as2, hd2, rb, rfl⟩ := dataKind_inv hb
      have room : A.units + min d.depth d2.depth < cLine := Nat.lt_of_le_of_lt (Nat.add_le_add_left (Nat.min_le_left _ _) _) (hu d hd)
      show wpAny (model prog w) A (oneLt' false x y) Q E s
      exact oneLt_alike (fun q => absurd q (by decide)) ra rb (hal d hd d2 hd2) (hn d hd) room hq
end
open PySem.W in
theorem sorted_seq {prog : Program} {w : World} {A : Around} {E : Value → Shared → Prop} {s : Shared} {β : Type} {vs : List Value} {bs : List β} {enc : β → PyData} {R : Value → β → Prop} {l : Addr} {Q : Value → Shared → Prop} {T : String} {o : Obj} {n : Nat}
    (hT : T = "list" ∨ T = "tuple") (ho : s.heap.get? l = some o) (hc : o.cls = .type T) (hd : o.data = .seq vs.toArray n)
    (e : EachIs R vs bs) (er : EachIs (fun v b => ∃ as, Reads s.heap v (enc b) as) vs bs) (hal : AllAlike (bs.map enc)) (hk : CanSort (bs.map enc)) (hL : bs.length ≤ sizeLine)
    (hu : ∀ x, x ∈ bs → A.units + 2 + (enc x).depth < cLine) (h : ∀ (out : List Value) (h1 h' : Heap), (∀ b o, s.heap.get? b = some o → h1.get? b = some o) → (∀ b o, h1.get? b = some o → h'.get? b = some o) → (∃ n, h'.get? h1.objs.size = some (seqObj "list" (List.toArray out) n)) → out.length = bs.length → EachIs R out (bs.mergeSort (dataLe false enc)) → Q (.ref h1.objs.size) { s with heap := h' }) : wpAny (model prog w) A (call (.builtin "sorted") [.ref l]) Q E s := by
  have hlen : vs.length = bs.length := e.length
  refine call_function_entry_kw kind_sorted plain_sorted entry_sorted (args_sorted1 _) ?_
  unfold Builtin.«sorted»
  refine wpAny_bind (m := checkCount "sorted" 1 1 _) ?_
  refine wpAny_pure ?_
  refine wpAny_bind (wpAny_collect_seq l hT ho hc hd (fun h1 hk1 => ?_) (by rw [List.size_toArray, hlen]; exact hL))
  have e0 : vs.toArray.toList = vs := by simp
  rw [e0]
  refine wpAny_bind (wpAny_newList ?_ (by rw [hlen]; exact hL))
  show wpAny _ _ _ _ _ { s with heap := h1.push (seqObj "list" vs.toArray 0) }
  have hx : (h1.push (seqObj "list" vs.toArray 0)).get? h1.objs.size = some (seqObj "list" vs.toArray 0) := Heap.get?_push_size _ rfl
  have hlt : ∀ b o, h1.get? b = some o → b ≠ h1.objs.size ∧ b < (h1.push (seqObj "list" vs.toArray 0)).objs.size := fun b o q => by
    have z := Heap.lt_size q
    exact ⟨Nat.ne_of_lt z, by rw [Heap.size_push]; exact Nat.lt_succ_of_lt z⟩
  have hsk : ∀ b o, s.heap.get? b = some o → (sortingHeap (h1.push (seqObj "list" vs.toArray 0)) h1.objs.size vs).get? b = some o := fun b o q =>
    sortingHeap_old (hlt b o (hk1 b o q)).1 (Heap.get?_push_of_some _ (hk1 b o q))
  have er' : EachIs (fun v b => ∃ as, Reads (sortingHeap (h1.push (seqObj "list" vs.toArray 0)) h1.objs.size vs) v (enc b) as) vs bs := er.mono fun _ _ ⟨as, r⟩ => ⟨as, PyProof.Rows.Reads.keeps hsk r⟩
  obtain ⟨nn, hat⟩ := sortedHeap_at (vs := vs) (out := (sortVals (dataKind (sortingHeap (h1.push (seqObj "list" vs.toArray 0)) h1.objs.size vs) (bs.map enc)) false vs vs).toArray) hx
  have hfin := h (sortVals (dataKind (sortingHeap (h1.push (seqObj "list" vs.toArray 0)) h1.objs.size vs) (bs.map enc)) false vs vs) h1
    (sortedHeap (h1.push (seqObj "list" vs.toArray 0)) h1.objs.size vs (sortVals (dataKind (sortingHeap (h1.push (seqObj "list" vs.toArray 0)) h1.objs.size vs) (bs.map enc)) false vs vs).toArray) hk1
    (fun b o q => by
      rw [sortedHeap_old (hlt b o q).1 (hlt b o q).2]
      exact Heap.get?_push_of_some _ q)
    ⟨nn, hat⟩ (by rw [sortVals_length false rfl]; exact hlen) (sortVals_data false e er' hal)
  refine wpAny_bind (wpAny_holding (wpAny_call_entry_kw slot_list_sort ⟨_, hx, rfl⟩ entry_list_sort ?body (args_list_sort _)))
  case body =>
    show wpAny (model prog w) A.in1.in1 (Builtin.«list.sort» ⟨[.ref h1.objs.size], []⟩) _ _ _
    refine wpAny_mono (list_sort_vals (s := { s with heap := h1.push (seqObj "list" vs.toArray 0) }) (κ := dataKind (sortingHeap (h1.push (seqObj "list" vs.toArray 0)) h1.objs.size vs) (bs.map enc)) (P := fun f s' => f = .done (.ret .none) ∧ Q (.ref h1.objs.size) s') hx
      (canSort (s := { s with heap := sortingHeap (h1.push (seqObj "list" vs.toArray 0)) h1.objs.size vs }) (each_map (R := fun v d => ∃ as, Reads (sortingHeap (h1.push (seqObj "list" vs.toArray 0)) h1.objs.size vs) v d as) enc er') hal hk (bound_map hu)) (by rw [hlen]; exact hL) ⟨rfl, hfin⟩) (fun f s' hf => ?_) fun _ _ e => e
    obtain ⟨rfl, fin⟩ := hf
    exact ⟨_, rfl, wpAny_pure ⟨_, rfl, fin⟩⟩
section
open PySem.W
variable {X : Cx}
theorem each_vals {β : Type} {R : V → β → Prop} : ∀ {xs : List V} {us : List Value} {bs : List β}, EachIs R xs bs → Vals xs us → EachIs (fun v b => ∃ x, RelV x v ∧ R x b) us bs
  | _, _, _, .nil, .nil => .nil
  | _, _, _, .cons h t, .cons r u => .cons ⟨_, r, h⟩ (each_vals t u)
theorem vals_each {β : Type} {R : V → β → Prop} : ∀ {us : List Value} {bs : List β}, EachIs (fun v b => ∃ x, RelV x v ∧ R x b) us bs → ∃ xs, Vals xs us ∧ EachIs R xs bs
  | _, _, .nil => ⟨[], .nil, .nil⟩
  | _, _, .cons ⟨x, r, h⟩ t => by
    obtain ⟨xs, r2, h2⟩ := vals_each t
    exact ⟨x :: xs, .cons r r2, .cons h h2⟩
theorem depth_le_all : ∀ {ds : List PyData} {d : PyData}, d ∈ ds → d.depth ≤ PyData.depthAll ds
  | _ :: _, _, .head _ => by rw [PyData.depthAll]; exact Nat.le_max_left _ _
  | _ :: ds, _, .tail _ h => by
    have := depth_le_all h
    rw [PyData.depthAll]; omega
def rSortedD (K : PySem.W.Frag) : List V → Hp → VK → Prop := fun vs H Q => ∃ (a : Addr) (xs : List V) (β : Type) (enc : β → PyData) (bs : List β) (R : V → β → Prop), vs = [V.ref a] ∧ (SqL K H a xs ∨ SqT K H a xs) ∧ EachIs R xs bs ∧ (∀ x b, R x b → Dp K H x (enc b)) ∧ AllAlike (bs.map enc) ∧ CanSort (bs.map enc) ∧ PyData.depthAll (bs.map enc) ≤ 60 ∧
  ∀ ys p, H p = none → EachIs R ys (bs.mergeSort (dataLe false enc)) → Q (.ref p) (upd H p (.lst ys))
theorem cr_sortedD (hu : X.A.units + 65 < cLine) : CallR X (.builtin "sorted") (rSortedD X.K) := by
  rintro pins s σ H vs us Q I r ⟨a, xs, β, enc, bs, R, rfl, hs, hd, hR, hal, hk, hdp, q⟩
  rw [Vals.ref1 r]
  have go : ∀ {T : String} {o : Obj} {its : List Value} {n : Nat}, T = "list" ∨ T = "tuple" → s.heap.get? a = some o → o.cls = .type T → o.data = .seq its.toArray n → Vals xs its → xs.length ≤ sizeLine → wpAny (model X.prog X.w) X.A (call (.builtin "sorted") [.ref a]) (EP X pins σ Q) X.xe s := by
    intro T o its n hT ho hc hdt rv hz
    have e := each_vals hd rv
    have el := e.length
    refine sorted_seq hT ho hc hdt e ?_ hal hk (by rw [← el, ← rv.length]; exact hz) (fun b hb => ?_) fun out h1 h' hk1 hk2 hat hlen heach => ?_
    · refine e.mono fun v b ⟨x, rx, hx⟩ => ?_
      obtain ⟨as, rd⟩ := Dp.reads I _ _ _ (hR _ _ hx) rx
      exact ⟨as, rd⟩
    · have z := depth_le_all (ds := bs.map enc) (d := enc b) (List.mem_map.mpr ⟨b, hb, rfl⟩)
      omega
    · obtain ⟨ys, r2, h2⟩ := vals_each heach
      have I1 : Inv X pins σ H { s with heap := h1 } := I.kept (t' := s.toks) hk1
      have hn : H h1.objs.size = none := I1.hok.fresh (Nat.le_refl _)
      obtain ⟨nn, hat⟩ := hat
      have yl : ys.length ≤ sizeLine := by rw [r2.length, hlen, ← el, ← rv.length]; exact hz
      exact ⟨.ref h1.objs.size, upd H h1.objs.size (.lst ys), I1.laid (h' := h') (t' := s.toks) (o := .lst ys) hk2 (Nat.le_refl _) ⟨yl, out, nn, r2, hat⟩, rfl, q ys _ hn h2⟩
  rcases hs with hs | hs
  · obtain ⟨its, rv, pl, hz⟩ := I.list hs
    obtain ⟨o, n, ho, hc, _, hdt⟩ := id pl
    exact go (.inl rfl) ho hc hdt rv hz
  · obtain ⟨its, rv, pl, hz⟩ := I.tuple hs
    obtain ⟨o, ho, hc, n, hdt⟩ := id pl
    exact go (.inr rfl) ho hc hdt rv hz
end
end K53

-- part K53R2
set_option maxRecDepth 100000
set_option maxHeartbeats 4000000
namespace K53
open PySem PySem.Spec PyProof.Rows L2 Evl

/-! ### {x: True for x in t}, t a tuple of unlike tuples of ints and texts -/
/-- each item is a tracked tuple, its key beside it -/
def IsKeyOf (H : Hp) (x : V) (k : List Key) : Prop := ∃ b : Addr, x = .ref b ∧ H b = some (.tup (k.map kV))
def tDcT (K : PySem.W.Frag) (te : TE) : TE := fun σ H Q => te σ H fun v H1 => ∃ (a : Addr) (xs : List V) (ks : List (List Key)), v = .ref a ∧ SqT K H1 a xs ∧ Paired (IsKeyOf H1) xs ks ∧ ks.Nodup ∧ ∀ p, H1 p = none → Q (.ref p) (upd H1 p (.dT (ks.map fun k => (k, V.bl true))))
def RawT (P : Program) (w : World) (h : Heap) (D : Addr) (xs : List (List Key × Addr × Value)) : Prop := ∃ o es ep, h.get? D = some o ∧ o.ExactDict ∧ o.data = .dict es ep ∧ es.toList = xs.map (entryOfKey (tupleKind (mixKind P w))) ∧ (xs.map (·.1)).Nodup
theorem RawT.at {P : Program} {w : World} {h h' : Heap} {D : Addr} {xs : List (List Key × Addr × Value)} (r : RawT P w h D xs) (k : ∀ o, h.get? D = some o → h'.get? D = some o) : RawT P w h' D xs := by
  obtain ⟨o, es, ep, h1, h2⟩ := r
  exact ⟨o, es, ep, k o h1, h2⟩
def KeyRow (H : Hp) (k : List Key) (q : List Key × Addr × Value) : Prop := q.1 = k ∧ H q.2.1 = some (.tup (k.map kV)) ∧ q.2.2 = Value.bool true
theorem keyRow_keys {H : Hp} : ∀ {ks : List (List Key)} {xs : List (List Key × Addr × Value)}, Paired (KeyRow H) ks xs → xs.map (·.1) = ks
  | _, _, .nil => rfl
  | _, _, .cons r t => by rw [List.map_cons, keyRow_keys t, r.1]
theorem paired_take_succ {α β : Type} {R : α → β → Prop} : ∀ {as : List α} {bs : List β} {i : Nat} {a : α} {b : β}, Paired R (as.take i) bs → as[i]? = some a → R a b → Paired R (as.take (i + 1)) (bs ++ [b])
  | [], _, i, a, b, _, h, _ => by simp at h
  | x :: as, bs, 0, a, b, hp, h, r => by
    have : x = a := by simpa using h
    subst this
    have e : Paired R [] bs := by simpa using hp
    cases e
    exact .cons r (by simp; exact .nil)
  | x :: as, bs, i + 1, a, b, hp, h, r => by
    have e : Paired R (x :: as.take i) bs := by simpa using hp
    cases e with
    | cons r1 t => exact .cons r1 (paired_take_succ t (by simpa using h) r)
theorem paired_get {α β : Type} {R : α → β → Prop} : ∀ {as : List α} {bs : List β} {i : Nat} {a : α}, Paired R as bs → as[i]? = some a → ∃ b, bs[i]? = some b ∧ R a b
  | _, _, _, _, .nil, h => by simp at h
  | _, _, 0, _, .cons r _, h => by
    have := Option.some.inj (show some _ = some _ from h)
    subst this
    exact ⟨_, rfl, r⟩
  | _, _, i + 1, _, .cons _ t, h => paired_get (i := i) t (by simpa using h)
theorem pe_dcT {X : Cx} {x : Str} {p1 p2 p3 pos : Pos} {j : Nat} {iter : Expr} {scope : Scope} {te : TE} (hc : X.calm = true) (hu : X.A.units < cLine) (he : PE X iter te) (hx : scope.names.lookup x = some .local) (hcl : ∀ y ∈ scope.names, y.2 ≠ .cell ∧ y.2 ≠ .free) (hkind : scope.kind = .function)
    (hnames : ∀ y ∈ scope.names, y.2 = .local → scope.names.lookup y.1 = some .local) (hclos : closureFor scope X.env = pure []) (hd : (x == ("__debug__" : Str)) = false := by decide) (hs : ∀ v, foldedSetIterable iter X.env v = pure v := by intro _; rfl) :
    PE X (.DictComp (.Name x p1) (.Constant (.bool true) j p2) [⟨.Name x p3, iter, [], 0⟩] scope pos) (tDcT X.K te) := by
  constructor
  intro pins s σ H Q I h
  refine DictComp_goes (cl := []) hclos (fun y hy => (hcl y hy).1) hkind hnames (thn (he.run pins s σ H _ I h) ?_) hs
  rintro v s1 ⟨_, H1, I1, r1, a, xs, ks, rfl, hq, hks, hnd, q⟩
  cases r1
  have ⟨its, rv, pt, hz⟩ := I1.tuple hq
  have pt2 : s1.heap.IsTuple a its.toArray := pt
  have alt : a < s1.heap.objs.size := by obtain ⟨_, e, _⟩ := pt2; exact Heap.lt_size e
  have nea : a ≠ s1.heap.objs.size := Nat.ne_of_lt alt
  refine wpAny_pyIter_tuple pt2 ?_
  refine ⟨s1.heap.objs.size, [s1.heap.objs.size, a], [s1.heap.objs.size], its.toArray.size, _, _, rfl, Goes.tuple (I1.ok.hd hc) s1.heap.objs.size a nea its.toArray, ⟨⟨_, Heap.get?_push_size _ rfl, rfl, rfl⟩, pt2.at fun o e => Heap.get?_push_of_some _ e⟩, ?_⟩
  intro D C s3 cb hD
  obtain ⟨h3, tk3, rfl⟩ := cb.only
  have sz2 : (s1.heap.push { cls := .type "tuple_iterator", data := .fields #[.ref a, .int 0 0] }).objs.size = s1.heap.objs.size + 1 := Heap.size_push ..
  have nD : s1.heap.objs.size < D := by have := cb.newD; rw [sz2] at this; exact this
  have nC : s1.heap.objs.size < C := by have := cb.newC; rw [sz2] at this; exact this
  have klen : its.toArray.size = ks.length := by rw [List.size_toArray, ← rv.length]; exact Paired.length hks
  let G : Nat → Shared → Prop := fun i s' => ∃ (hh : Heap) (tk : Nat) (rows : List (List Key × Addr × Value)), s' = { s1 with heap := hh, toks := tk } ∧ (∀ b u, s1.heap.get? b = some u → hh.get? b = some u) ∧ (∃ m, hh.Ns C m) ∧ RawT X.prog X.w hh D rows ∧ Paired (KeyRow H1) (ks.take i) rows
  refine ⟨G, ⟨h3, tk3, [], rfl, fun b u e => cb.old b u (Heap.get?_push_of_some _ e), ⟨_, cb.names⟩, ⟨_, #[], _, hD, ⟨rfl, rfl, rfl⟩, rfl, rfl, List.nodup_nil⟩, by simp; exact .nil⟩, ?_, ?_, ?_⟩
  · rintro i _ h' tk ⟨hh, tk0, rows, rfl, kept, ⟨m, hm⟩, raw, pr⟩ hk _
    refine ⟨h', tk, rows, rfl, fun b u e => hk b u (fun z => ?_) (kept b u e), ?_, raw.at fun o e => hk D o (fun z => ?_) e, pr⟩
    · rw [List.mem_singleton.mp z] at e
      exact absurd (Heap.lt_size e) (Nat.lt_irrefl _)
    · obtain ⟨o, es, ep, e1, e2⟩ := hm
      exact ⟨m, o, es, ep, hk C o (fun z => Nat.ne_of_gt nC (List.mem_singleton.mp z)) e1, e2⟩
    · exact Nat.ne_of_gt nD (List.mem_singleton.mp z)
  · rintro i v _ hi hv st ⟨hh, tk0, rows, rfl, kept, ⟨m, hm⟩, raw, pr⟩
    have hvi : its[i]? = some v := by simpa using hv
    have hik : i < ks.length := by rw [← klen]; exact hi
    obtain ⟨xv, hxv⟩ : ∃ xv, xs[i]? = some xv := ⟨_, List.getElem?_eq_getElem (by rw [Paired.length hks]; exact hik)⟩
    obtain ⟨k, hk, b, rfl, hb⟩ := paired_get hks hxv
    obtain ⟨u, hu2, ru⟩ := rv.get hxv
    rw [hvi] at hu2
    cases hu2
    cases ru
    have kx : (compEnvC scope [] C X.env).kindOf x = some .local := lookup_relabel_local hx
    have kf : (compEnvC scope [] C X.env).scope.kind = .function := by show (relabel scope X.env).kind = _; exact hkind
    refine wpAny_assign_Name (wpAny_storeName_local kx hm (fun h4 hn4 sb4 => ?_) (by rw [kf]; rfl))
    refine wpAny_pure ?_
    rw [if_pos rfl]
    refine wpAny_Name (wpAny_loadName_local (v := .ref b) kf kx hn4 (by simp) ?_) hd
    refine Constant_bool ?_
    have keep4 : ∀ b u, s1.heap.get? b = some u → h4.get? b = some u := fun b u e => sb4.extBut b u (Nat.ne_of_lt (Nat.lt_trans (Heap.lt_size e) nC)) (kept b u e)
    have I4 : Inv X pins σ H1 { s1 with heap := h4 } := I1.kept (t' := s1.toks) keep4
    have raw4 : RawT X.prog X.w h4 D rows := raw.at fun o e => sb4.extBut D o cb.ne e
    obtain ⟨o, es, ep, r1, r2, r3, r4, r5⟩ := id raw4
    have allk : ∀ {ls : List (List Key)} {rs : List (List Key × Addr × Value)}, Paired (KeyRow H1) ls rs → ∀ y ∈ rs, (tupleKind (mixKind X.prog X.w)).is h4 y.1 y.2.1 := by
      intro ls rs pq
      induction pq with
      | nil => intro y hy; cases hy
      | cons hq _ ih =>
        intro y hy
        rcases (List.mem_cons).mp hy with e | hy
        · subst e
          exact key_of I4.hok (by rw [hq.1]; exact hq.2.1)
        · exact ih y hy
    have keysE : rows.map (·.1) = ks.take i := keyRow_keys pr
    have hnew : atKey rows k = none := by
      refine atKey_none_of_get fun j p e => ?_
      have m1 : k ∈ rows.map (·.1) := List.mem_map.mpr ⟨_, List.mem_of_getElem? e, rfl⟩
      rw [keysE] at m1
      obtain ⟨t, ht, et⟩ := List.mem_iff_getElem.mp m1
      rw [List.length_take] at ht
      rw [List.getElem_take] at et
      have e2 := (List.getElem?_eq_some_iff.mp hk).2
      exact absurd ((List.getElem_inj hnd).mp (et.trans e2.symm)) (by omega)
    have rl : rows.length = i := by have := congrArg List.length keysE; rw [List.length_map, List.length_take] at this; omega
    have zl : xs.length ≤ sizeLine := hz
    refine wpAny_dictSet_heap (knd := tupleKind (mixKind X.prog X.w)) hu (key_of I4.hok hb) ⟨o, es, ep, r1, r2, r3, r4, allk pr, r5⟩ (fun h5 hm5 sb5 => ?_) (by rw [rl]; have := Paired.length hks; omega)
    rw [storedH_new hnew] at hm5
    obtain ⟨o5, es5, ep5, w1, w2, w3, w4, w5, w6⟩ := hm5
    have keep5 : ∀ b u, s1.heap.get? b = some u → h5.get? b = some u := fun b u e => sb5.extBut b u (Nat.ne_of_lt (Nat.lt_trans (Heap.lt_size e) nD)) (keep4 b u e)
    refine ⟨⟨h5, _, rows ++ [(k, b, Value.bool true)], rfl, keep5, ?_, ⟨o5, es5, ep5, w1, w2, w3, w4, w6⟩, paired_take_succ pr hk ⟨rfl, hb, rfl⟩⟩, ?_⟩
    · obtain ⟨on, en, epn, q1, q2⟩ := hn4
      exact ⟨_, on, en, epn, sb5.extBut C on cb.ne.symm q1, q2⟩
    · have kp : ∀ b u, b = s1.heap.objs.size ∨ b = a → hh.get? b = some u → h5.get? b = some u := fun b u hb e => by
        have l1 : b < D ∧ b < C := by
          rcases hb with rfl | rfl
          · exact ⟨nD, nC⟩
          · exact ⟨Nat.lt_trans alt nD, Nat.lt_trans alt nC⟩
        exact sb5.extBut b u (Nat.ne_of_lt l1.1) (sb4.extBut b u (Nat.ne_of_lt l1.2) e)
      exact ⟨st.1.at fun o e => kp _ o (.inl rfl) e, st.2.at fun o e => kp _ o (.inr rfl) e⟩
  · rintro _ ⟨hh, tk0, rows, rfl, kept, ⟨m, hm⟩, raw, pr⟩
    refine ⟨m, hm, fun h' sb => ?_⟩
    rw [klen, List.take_length] at pr
    have keepF : ∀ b u, s1.heap.get? b = some u → h'.get? b = some u := fun b u e => sb.extBut b u (Nat.ne_of_lt (Nat.lt_trans (Heap.lt_size e) nC)) (kept b u e)
    have hn : H1 D = none := I1.hok.fresh (Nat.le_of_lt nD)
    have lk : ks.length ≤ sizeLine := by rw [← Paired.length hks]; exact hz
    refine ⟨.ref D, _, I1.laid (t' := tk0) (o := .dT (ks.map fun k => (k, V.bl true))) keepF (Nat.le_of_lt nD) ⟨by rw [List.length_map]; exact lk, ?_, rows, ?_, ?_⟩, rfl, q D hn⟩
    · have big := I1.big
      exact beq_eq_false_iff_ne.mpr (Nat.ne_of_gt (Nat.lt_trans big nD))
    · have conv : ∀ {ls : List (List Key)} {rs : List (List Key × Addr × Value)}, Paired (KeyRow H1) ls rs → Paired (fun (p : List Key × V) (q : List Key × Addr × Value) => p.1 = q.1 ∧ upd H1 D (.dT (ks.map fun k => (k, V.bl true))) q.2.1 = some (.tup (p.1.map kV)) ∧ RelV p.2 q.2.2) (ls.map fun k => (k, V.bl true)) rs := by
        intro ls rs pq
        induction pq with
        | nil => exact .nil
        | cons hq _ ih => exact .cons ⟨hq.1.symm, by rw [upd_ne (ne_of_none hq.2.1 hn)]; exact hq.2.1, hq.2.2⟩ ih
      exact conv pr
    · exact raw.at fun o e => sb.extBut D o cb.ne e

/-! ### *reversed(xs) in a display -/
def tStarRev (K : PySem.W.Frag) (te : TE) (tr : TA) : TA := fun σ H Q => te σ H fun x H1 => ∃ a xs, x = .ref a ∧ SqL K H1 a xs ∧ tr σ H1 fun ys H2 => Q (xs.reverse ++ ys) H2
theorem pa_starRev {X : Cx} {e : Expr} {p p2 cp : Pos} {es : List Expr} {te : TE} {t : TA} (hc : X.calm = true) (hg : Gl X "reversed") (hm : X.mg "reversed" = none) (ha : PE X e te) (hr : PA X es t) (he : starEach [e] X.env = (false, eval e X.env) :: starEach [] X.env := by rfl)
    (hs : starEach (.Starred (.Call (.Name "reversed" p2) [e] [] cp) p :: es) X.env = (true, eval (.Call (.Name "reversed" p2) [e] [] cp) X.env) :: starEach es X.env := by rfl) :
    PA X (.Starred (.Call (.Name "reversed" p2) [e] [] cp) p :: es) (tStarRev X.K te t) := by
  constructor
  intro pos pins s σ H Q I h
  refine PySem.W.items_star (Call_ (ld_blt I hg hm PyProof.Rows.boot_reversed (PyProof.Rows.callWith_type1 (args_cons (thn (ha.run pins s σ H _ I h) ?_) he) he rfl))) hs
  rintro u s1 ⟨v, H1, I1, r1, a, xs, rfl, hq, q⟩
  cases r1
  obtain ⟨its, rv, pl, hz⟩ := I1.list hq
  have hl := pl.isList
  have hlt : a < s1.heap.objs.size := by obtain ⟨_, q, _⟩ := hl; exact Heap.lt_size q
  refine args_nil (call_reversed_list hl ?_)
  have ix : (s1.heap.push (revObj a ((its.toArray.size : Int) - 1))).IsRevIter s1.heap.objs.size a ((its.toArray.size : Int) - 1) := ⟨_, Heap.get?_push_size _ rfl, rfl, rfl⟩
  have I2 : Inv X pins σ H1 { s1 with heap := s1.heap.push (revObj a ((its.toArray.size : Int) - 1)) } := I1.kept (t' := s1.toks) fun b o e => Heap.get?_push_of_some _ e
  have fp := I1.fpOk (H' := H1) (b := s1.heap.objs.size) (Nat.le_refl _) (I1.hok.fresh (Nat.le_refl _))
  have T : ({ s1 with heap := s1.heap.push (revObj a ((its.toArray.size : Int) - 1)) } : Shared).TypeIs (.ref s1.heap.objs.size) "list_reverseiterator" := Heap.IsRevIter.typeIs (s := { s1 with heap := s1.heap.push (revObj a ((its.toArray.size : Int) - 1)) }) ix
  unfold PySem.W.StarOf
  unfold notIterableAtAll
  refine wpAny_bind (wpAny_specialOf T PySem.F.slot_lri_iter.lookup (wpAny_pure ⟨rfl, ?_⟩))
  refine RT.collect_rev (s := { s1 with heap := s1.heap.push (revObj a ((its.toArray.size : Int) - 1)) }) (I1.ok.hd hc) ix (hl.push _) (Nat.ne_of_lt hlt) (by rw [List.size_toArray, ← rv.length]; exact hz) fun h' tk acc hk hi => ?_
  have I3 : Inv X pins σ H1 { s1 with heap := h', toks := tk } := I2.turned (t' := tk) (fun b o hb e => hk b o hb e) fp.1 fp.2.1 fp.2.2.2.1 fp.2.2.2.2.1 fp.2.2.2.2.2
  exact thn (hr.run pos pins _ σ H1 _ I3 q) fun ws s3 ⟨ys, H3, I4, r3, q3⟩ => ⟨xs.reverse ++ ys, H3, I4, (RT.vals_rev rv hi).append r3, q3⟩
end K53

-- part K53R3
set_option maxRecDepth 100000
set_option maxHeartbeats 4000000
namespace K53
open PySem PySem.Spec PyProof.Rows L2 Evl

/-! ### data that never change: None, bools, ints, tuples of such, all tracked -/
mutual
inductive Tp (H : Hp) : V → PyData → Prop
  | non : Tp H .non .none
  | bl (b : Bool) : Tp H (.bl b) (.bool b)
  | int (i : Int) : Tp H (.int i) (.int i)
  | tup {a : Addr} {xs : List V} {ds : List PyData} : H a = some (.tup xs) → TpA H xs ds → Tp H (.ref a) (.tuple ds)
inductive TpA (H : Hp) : List V → List PyData → Prop
  | nil : TpA H [] []
  | cons {v : V} {vs : List V} {d : PyData} {ds : List PyData} : Tp H v d → TpA H vs ds → TpA H (v :: vs) (d :: ds)
end
/-- tuples stay -/
def TK (H H' : Hp) : Prop := ∀ a xs, H a = some (.tup xs) → H' a = some (.tup xs)
theorem TK.of {H H' : Hp} (e : Ex H H') : TK H H' := fun a xs h => e a _ h
theorem TK.refl (H : Hp) : TK H H := fun _ _ h => h
theorem TK.trans {H H1 H2 : Hp} (a : TK H H1) (b : TK H1 H2) : TK H H2 := fun x xs h => b x xs (a x xs h)
theorem TK.upd {H H' : Hp} (k : TK H H') {l : Addr} {o : HO} (h : ∀ xs, H' l ≠ some (.tup xs)) : TK H (upd H' l o) := fun a xs e => by
  by_cases q : a = l
  · subst q; exact absurd (k _ _ e) (h xs)
  · rw [upd_ne q]; exact k _ _ e
mutual
theorem Tp.mono {H H' : Hp} (k : TK H H') : ∀ {d : PyData} {v : V}, Tp H v d → Tp H' v d
  | .none, _, h => by cases h; exact .non
  | .bool _, _, h => by cases h; exact .bl _
  | .int _, _, h => by cases h; exact .int _
  | .tuple _, _, h => by cases h with | tup h1 h2 => exact .tup (k _ _ h1) (TpA.mono k h2)
  | .str _, _, h => by cases h
  | .list _, _, h => by cases h
  | .dict _, _, h => by cases h
theorem TpA.mono {H H' : Hp} (k : TK H H') : ∀ {ds : List PyData} {vs : List V}, TpA H vs ds → TpA H' vs ds
  | [], _, h => by cases h; exact .nil
  | _ :: _, _, h => by cases h with | cons h1 h2 => exact .cons (Tp.mono k h1) (TpA.mono k h2)
end
mutual
theorem Tp.dp {K : PySem.W.Frag} {H : Hp} : ∀ {d : PyData} {v : V}, Tp H v d → Dp K H v d
  | .none, _, h => by cases h; exact .non
  | .bool _, _, h => by cases h; exact .bl _
  | .int _, _, h => by cases h; exact .int _
  | .tuple _, _, h => by cases h with | tup h1 h2 => exact .tup (.of h1) (TpA.dp h2)
  | .str _, _, h => by cases h
  | .list _, _, h => by cases h
  | .dict _, _, h => by cases h
theorem TpA.dp {K : PySem.W.Frag} {H : Hp} : ∀ {ds : List PyData} {vs : List V}, TpA H vs ds → DpAll K H vs ds
  | [], _, h => by cases h; exact .nil
  | _ :: _, _, h => by cases h with | cons h1 h2 => exact .cons (Tp.dp h1) (TpA.dp h2)
end
theorem TpA.length {H : Hp} : ∀ {vs : List V} {ds : List PyData}, TpA H vs ds → vs.length = ds.length
  | [], _, h => by cases h; rfl
  | _ :: _, _, h => by cases h with | cons h1 h2 => rw [List.length_cons, List.length_cons, h2.length]
theorem TpA.app {H : Hp} : ∀ {vs ws : List V} {ds es : List PyData}, TpA H vs ds → TpA H ws es → TpA H (vs ++ ws) (ds ++ es)
  | [], _, _, _, h, h' => by cases h; exact h'
  | _ :: _, _, _, _, h, h' => by cases h with | cons h1 h2 => exact .cons h1 (h2.app h')
theorem TpA.one {H : Hp} {v : V} {d : PyData} (h : Tp H v d) : TpA H [v] [d] := .cons h .nil
theorem TpA.get {H : Hp} : ∀ {vs : List V} {ds : List PyData} {i : Nat} {v : V}, TpA H vs ds → vs[i]? = some v → ∃ d, ds[i]? = some d ∧ Tp H v d
  | [], _, _, _, _, h => by simp at h
  | v :: vs, _, 0, x, h, e => by
    cases h with | cons h1 h2 => have := Option.some.inj (show some _ = some _ from e); subst this; exact ⟨_, rfl, h1⟩
  | v :: vs, _, i + 1, x, h, e => by
    cases h with | cons h1 h2 => exact h2.get (i := i) (by simpa using e)
theorem TpA.getD {H : Hp} : ∀ {vs : List V} {ds : List PyData} {i : Nat} {d : PyData}, TpA H vs ds → ds[i]? = some d → ∃ v, vs[i]? = some v ∧ Tp H v d
  | _, [], _, _, _, h => by simp at h
  | _, d :: ds, 0, x, h, e => by
    cases h with | cons h1 h2 => have := Option.some.inj (show some _ = some _ from e); subst this; exact ⟨_, rfl, h1⟩
  | _, d :: ds, i + 1, x, h, e => by
    cases h with | cons h1 h2 => exact h2.getD (i := i) (by simpa using e)
theorem TpA.ints {H : Hp} : ∀ {vs : List V} {ns : List Int}, TpA H vs (ns.map .int) → vs = ns.map V.int
  | _, [], h => by cases h; rfl
  | _, n :: ns, h => by
    cases h with | cons h1 h2 => cases h1; rw [h2.ints]; rfl
theorem TpA.of_ints {H : Hp} : ∀ (ns : List Int), TpA H (ns.map V.int) (ns.map .int)
  | [] => .nil
  | n :: ns => .cons (.int n) (TpA.of_ints ns)
theorem TpA.reverse {H : Hp} : ∀ {vs : List V} {ds : List PyData}, TpA H vs ds → TpA H vs.reverse ds.reverse
  | [], _, h => by cases h; exact .nil
  | _ :: _, _, h => by
    cases h with | cons h1 h2 => rw [List.reverse_cons, List.reverse_cons]; exact h2.reverse.app (.one h1)
theorem TpA.of_dp {K : PySem.W.Frag} {H : Hp} : ∀ {vs : List V} {ds : List PyData}, (∀ v d, Dp K H v d → d ∈ ds → Tp H v d) → DpAll K H vs ds → TpA H vs ds
  | [], _, _, h => by cases h; exact .nil
  | _ :: _, _, k, h => by
    cases h with | cons h1 h2 => exact .cons (k _ _ h1 (List.mem_cons_self ..)) (TpA.of_dp (fun v d a b => k v d a (List.mem_cons_of_mem _ b)) h2)
/-- tuples in the written part are not of this kind; where a value was tracked data, it still is -/
theorem tp_int {H : Hp} {v : V} {i : Int} (h : Tp H v (.int i)) : v = .int i := by cases h; rfl
theorem tp_bl {H : Hp} {v : V} {b : Bool} (h : Tp H v (.bool b)) : v = .bl b := by cases h; rfl
theorem tp_tup {H : Hp} {v : V} {ds : List PyData} (h : Tp H v (.tuple ds)) : ∃ a xs, v = .ref a ∧ H a = some (.tup xs) ∧ TpA H xs ds := by cases h with | tup h1 h2 => exact ⟨_, _, rfl, h1, h2⟩

/-! ### shaped, eqv -/
mutual
def Flat : PyData → Bool
  | .none => true
  | .bool _ => true
  | .int _ => true
  | .tuple ds => FlatA ds
  | .list ds => FlatA ds
  | _ => false
def FlatA : List PyData → Bool
  | [] => true
  | d :: ds => Flat d && FlatA ds
end
mutual
theorem flat_lay : ∀ {d : PyData}, Flat d = true → d.canLay0 = true
  | .none, _ => rfl
  | .bool _, _ => rfl
  | .int _, _ => rfl
  | .tuple ds, h => by
    show PyData.canLayAll0 ds = true
    exact flatA_lay (by simpa [Flat] using h)
  | .list ds, h => by
    show PyData.canLayAll0 ds = true
    exact flatA_lay (by simpa [Flat] using h)
  | .str _, h => by simp [Flat] at h
  | .dict _, h => by simp [Flat] at h
theorem flatA_lay : ∀ {ds : List PyData}, FlatA ds = true → PyData.canLayAll0 ds = true
  | [], _ => rfl
  | d :: ds, h => by
    simp only [FlatA, Bool.and_eq_true] at h
    simp only [PyData.canLayAll0, Bool.and_eq_true]
    exact ⟨flat_lay h.1, flatA_lay h.2⟩
end
theorem shaped_of {d : PyData} (h : Flat d = true) (h2 : d.depth ≤ 64) : SeqAt.shaped d = true := by
  unfold SeqAt.shaped
  rw [Bool.and_eq_true]
  exact ⟨flat_lay h, decide_eq_true h2⟩
mutual
def Pure : PyData → Bool
  | .int _ => true
  | .tuple ds => PureA ds
  | _ => false
def PureA : List PyData → Bool
  | [] => true
  | d :: ds => Pure d && PureA ds
end
mutual
theorem pure_flat : ∀ {d : PyData}, Pure d = true → Flat d = true
  | .int _, _ => rfl
  | .tuple ds, h => by simpa [Flat] using pureA_flat (ds := ds) (by simpa [Pure] using h)
  | .none, h => by simp [Pure] at h
  | .bool _, h => by simp [Pure] at h
  | .list _, h => by simp [Pure] at h
  | .str _, h => by simp [Pure] at h
  | .dict _, h => by simp [Pure] at h
theorem pureA_flat : ∀ {ds : List PyData}, PureA ds = true → FlatA ds = true
  | [], _ => rfl
  | d :: ds, h => by
    simp only [PureA, Bool.and_eq_true] at h
    simp only [FlatA, Bool.and_eq_true]
    exact ⟨pure_flat h.1, pureA_flat h.2⟩
end
mutual
theorem eqv_pure : ∀ {x y : PyData}, Pure x = true → Pure y = true → (PyData.eqv x y = true ↔ x = y)
  | .int i, .int j, _, _ => by
    rw [PyData.eqv]
    simp
  | .int i, .tuple ds, _, _ => by simp [PyData.eqv]
  | .tuple ds, .int i, _, _ => by simp [PyData.eqv]
  | .tuple ds, .tuple es, h, h' => by
    rw [PyData.eqv, eqvAll_pure (by simpa [Pure] using h) (by simpa [Pure] using h')]
    simp
  | .none, _, h, _ => by simp [Pure] at h
  | .bool _, _, h, _ => by simp [Pure] at h
  | .list _, _, h, _ => by simp [Pure] at h
  | .str _, _, h, _ => by simp [Pure] at h
  | .dict _, _, h, _ => by simp [Pure] at h
  | .int _, .none, _, h => by simp [Pure] at h
  | .int _, .bool _, _, h => by simp [Pure] at h
  | .int _, .list _, _, h => by simp [Pure] at h
  | .int _, .str _, _, h => by simp [Pure] at h
  | .int _, .dict _, _, h => by simp [Pure] at h
  | .tuple _, .none, _, h => by simp [Pure] at h
  | .tuple _, .bool _, _, h => by simp [Pure] at h
  | .tuple _, .list _, _, h => by simp [Pure] at h
  | .tuple _, .str _, _, h => by simp [Pure] at h
  | .tuple _, .dict _, _, h => by simp [Pure] at h
theorem eqvAll_pure : ∀ {xs ys : List PyData}, PureA xs = true → PureA ys = true → (PyData.eqvAll xs ys = true ↔ xs = ys)
  | [], [], _, _ => by simp [PyData.eqvAll]
  | [], _ :: _, _, _ => by simp [PyData.eqvAll]
  | _ :: _, [], _, _ => by simp [PyData.eqvAll]
  | x :: xs, y :: ys, h, h' => by
    simp only [PureA, Bool.and_eq_true] at h h'
    rw [PyData.eqvAll, Bool.and_eq_true, eqv_pure h.1 h'.1, eqvAll_pure h.2 h'.2, List.cons.injEq]
end
theorem pureA_map {α : Type} {f : α → PyData} (h : ∀ a, Pure (f a) = true) : ∀ l : List α, PureA (l.map f) = true
  | [] => rfl
  | a :: l => by
    rw [List.map_cons, PureA, h a, pureA_map h l]; rfl
theorem depthA_map {α : Type} {f : α → PyData} {n : Nat} (h : ∀ a, (f a).depth ≤ n) : ∀ l : List α, PyData.depthAll (l.map f) ≤ n
  | [] => by rw [List.map_nil, PyData.depthAll]; exact Nat.zero_le _
  | a :: l => by
    rw [List.map_cons, PyData.depthAll]
    exact Nat.max_le.mpr ⟨h a, depthA_map h l⟩
/-- x in ds, by equality -/
theorem any_eqv {ds : List PyData} {d : PyData} {b : Bool} (h : PureA ds = true) (h' : Pure d = true) (hb : b = true ↔ d ∈ ds) : (ds.any fun z => PyData.eqv z d) = b := by
  have key : (ds.any fun z => PyData.eqv z d) = true ↔ d ∈ ds := by
    clear hb
    induction ds with
    | nil => simp
    | cons x xs ih =>
      simp only [PureA, Bool.and_eq_true] at h
      rw [List.any_cons, Bool.or_eq_true, ih h.2, eqv_pure h.1 h', List.mem_cons]
      constructor
      · rintro (e | e)
        · exact .inl e.symm
        · exact .inr e
      · rintro (e | e)
        · exact .inl e.symm
        · exact .inr e
  cases hz : (ds.any fun z => PyData.eqv z d) <;> cases b <;> simp_all

/-! ### what evaluates to data -/
def EvD (te : TE) (σ : L2.St) (H : Hp) (d : PyData) : Prop := ∀ H1, Ex H H1 → ∀ Q : VK, (∀ v H2, Ex H1 H2 → Tp H2 v d → Q v H2) → te σ H1 Q
/-- a new list of data -/
def EvM (te : TE) (σ : L2.St) (H : Hp) (ds : List PyData) : Prop := ∀ H1, Ex H H1 → ∀ Q : VK, (∀ p xs H2, H1 p = none → Ex H1 H2 → H2 p = some (.lst xs) → TpA H2 xs ds → Q (.ref p) H2) → te σ H1 Q
def EvAD (ta : TA) (σ : L2.St) (H : Hp) (ds : List PyData) : Prop := ∀ H1, Ex H H1 → ∀ Q : List V → Hp → Prop, (∀ vs H2, Ex H1 H2 → TpA H2 vs ds → Q vs H2) → ta σ H1 Q
section
variable {K : PySem.W.Frag} {σ : L2.St} {H H' : Hp} {ta tb te : TE} {d e : PyData} {ds es : List PyData} {tr : TA}
theorem EvD.mono (x : Ex H H') (h : EvD te σ H d) : EvD te σ H' d := fun H1 a Q q => h H1 (x.trans a) Q q
theorem EvM.mono (x : Ex H H') (h : EvM te σ H ds) : EvM te σ H' ds := fun H1 a Q q => h H1 (x.trans a) Q q
theorem EvAD.mono (x : Ex H H') (h : EvAD tr σ H ds) : EvAD tr σ H' ds := fun H1 a Q q => h H1 (x.trans a) Q q
theorem evd_of {v : V} (h : Ev te σ H v) (t : Tp H v d) : EvD te σ H d := fun H1 x Q q => h H1 x Q fun H2 x2 => q v H2 x2 (t.mono (.of (x.trans x2)))
theorem evd_var {i : Nat} {v : V} (h : σ[i]? = some (some v)) (t : Tp H v d) : EvD (tVar i) σ H d := evd_of (ev_var h) t
theorem evd_int {i : Int} (h : Ev te σ H (.int i)) : EvD te σ H (.int i) := evd_of h (.int i)
theorem ev_int {i : Int} (h : EvD te σ H (.int i)) : Ev te σ H (.int i) := fun H1 x Q q => h H1 x Q fun v H2 x2 t => by cases t; exact q H2 x2
theorem ev_bl {b : Bool} (h : EvD te σ H (.bool b)) : Ev te σ H (.bl b) := fun H1 x Q q => h H1 x Q fun v H2 x2 t => by cases t; exact q H2 x2
theorem ead_nil : EvAD tNil σ H [] := fun H1 _ _ q => q [] H1 (Ex.refl H1) .nil
theorem ead_cons (h : EvD te σ H d) (hr : EvAD tr σ H ds) : EvAD (tCons te tr) σ H (d :: ds) := fun H1 x Q q =>
  h H1 x _ fun v H2 x2 t => hr H2 (x.trans x2) _ fun vs H3 x3 ts => q (v :: vs) H3 (x2.trans x3) (.cons (t.mono (.of x3)) ts)
theorem evd_tup (h : EvAD tr σ H ds) (hl : ds.length ≤ 100000) : EvD (tTup tr) σ H (.tuple ds) := fun H1 x Q q =>
  h H1 x _ fun vs H2 x2 ts => ⟨sz_of (by rw [ts.length]; exact hl), fun p hp => q (.ref p) _ (x2.trans (Ex.new hp)) (.tup upd_same (ts.mono (.of (Ex.new hp))))⟩
theorem evm_lst (h : EvAD tr σ H ds) (hl : ds.length ≤ 100000) : EvM (tLst tr) σ H ds := fun H1 x Q q =>
  h H1 x _ fun vs H2 x2 ts => ⟨sz_of (by rw [ts.length]; exact hl), fun p hp => q p vs _ (fresh_back x2 hp) (x2.trans (Ex.new hp)) upd_same (ts.mono (.of (Ex.new hp)))⟩
/-- a call whose promise speaks of data -/
def SpD (sp : Sp) (ds : List PyData) (H : Hp) (d : PyData) : Prop := ∀ vs H1, Ex H H1 → TpA H1 vs ds → ∀ (Q : VK) (E : XK), (∀ v H2, Ex H1 H2 → Tp H2 v d → Q v H2) → sp vs H1 Q E
def SpM (sp : Sp) (ds : List PyData) (H : Hp) (es : List PyData) : Prop := ∀ vs H1, Ex H H1 → TpA H1 vs ds → ∀ (Q : VK) (E : XK), (∀ p xs H2, H1 p = none → Ex H1 H2 → H2 p = some (.lst xs) → TpA H2 xs es → Q (.ref p) H2) → sp vs H1 Q E
theorem evd_call {sp : Sp} {E : XK} (h : EvAD tr σ H ds) (hs : SpD sp ds H d) : EvD (tCall sp [] E tr) σ H d := fun H1 x Q q =>
  h H1 x _ fun vs H2 x2 ts => by
    rw [List.append_nil]
    exact hs vs H2 (x.trans x2) ts _ _ fun v H3 x3 t => q v H3 (x2.trans x3) t
theorem evm_call {sp : Sp} {E : XK} (h : EvAD tr σ H ds) (hs : SpM sp ds H es) : EvM (tCall sp [] E tr) σ H es := fun H1 x Q q =>
  h H1 x _ fun vs H2 x2 ts => by
    rw [List.append_nil]
    exact hs vs H2 (x.trans x2) ts _ _ fun p xs H3 hp x3 hl t => q p xs H3 (fresh_back x2 hp) (x2.trans x3) hl t
/-- built-ins that give data, by their rules -/
theorem evd_cb {r : List V → Hp → VK → Prop} (h : EvAD tr σ H ds) (hr : ∀ vs H1, Ex H H1 → TpA H1 vs ds → ∀ Q : VK, (∀ v H2, Ex H1 H2 → Tp H2 v d → Q v H2) → r vs H1 Q) : EvD (tCB r tr) σ H d := fun H1 x Q q =>
  h H1 x _ fun vs H2 x2 ts => hr vs H2 (x.trans x2) ts _ fun v H3 x3 t => q v H3 (x2.trans x3) t
theorem evm_cb {r : List V → Hp → VK → Prop} (h : EvAD tr σ H ds) (hr : ∀ vs H1, Ex H H1 → TpA H1 vs ds → ∀ Q : VK, (∀ p xs H2, H1 p = none → Ex H1 H2 → H2 p = some (.lst xs) → TpA H2 xs es → Q (.ref p) H2) → r vs H1 Q) : EvM (tCB r tr) σ H es := fun H1 x Q q =>
  h H1 x _ fun vs H2 x2 ts => hr vs H2 (x.trans x2) ts _ fun p xs H3 hp x3 hl t => q p xs H3 (fresh_back x2 hp) (x2.trans x3) hl t
/-- a new list handed to a built-in -/
theorem evd_cbM {r : List V → Hp → VK → Prop} (h : EvM te σ H ds) (hr : ∀ p xs H1, Ex H H1 → H1 p = some (.lst xs) → TpA H1 xs ds → ∀ Q : VK, (∀ v H2, Ex H1 H2 → Tp H2 v d → Q v H2) → r [.ref p] H1 Q) : EvD (tCB r (tCons te tNil)) σ H d := fun H1 x Q q =>
  h H1 x _ fun p xs H2 hp x2 hl ts => hr p xs H2 (x.trans x2) hl ts _ fun v H3 x3 t => q v H3 (x2.trans x3) t
theorem evm_cbM {r : List V → Hp → VK → Prop} (h : EvM te σ H ds) (hr : ∀ p xs H1, Ex H H1 → H1 p = some (.lst xs) → TpA H1 xs ds → ∀ Q : VK, (∀ p xs H2, H1 p = none → Ex H1 H2 → H2 p = some (.lst xs) → TpA H2 xs es → Q (.ref p) H2) → r [.ref p] H1 Q) : EvM (tCB r (tCons te tNil)) σ H es := fun H1 x Q q =>
  h H1 x _ fun p xs H2 hp x2 hl ts => hr p xs H2 (x.trans x2) hl ts _ fun p2 ys H3 hp2 x3 hl2 t => q p2 ys H3 (fresh_back x2 hp2) (x2.trans x3) hl2 t
/-- == and !=, in: by data -/
theorem ev_eqD (ha : EvD ta σ H d) (hb : EvD tb σ H e) (sd : SeqAt.shaped d = true) (se : SeqAt.shaped e = true) : Ev (tOp (rEqD K) ta tb) σ H (.bl (PyData.eqv d e)) := fun H1 x Q q =>
  ha H1 x _ fun v H2 x2 t => hb H2 (x.trans x2) _ fun u H3 x3 t3 => ⟨d, e, (t.mono (.of x3)).dp, t3.dp, sd, se, q H3 (x2.trans x3)⟩
theorem ev_neD (ha : EvD ta σ H d) (hb : EvD tb σ H e) (sd : SeqAt.shaped d = true) (se : SeqAt.shaped e = true) : Ev (tOp (rNeD K) ta tb) σ H (.bl (!PyData.eqv d e)) := fun H1 x Q q =>
  ha H1 x _ fun v H2 x2 t => hb H2 (x.trans x2) _ fun u H3 x3 t3 => ⟨d, e, (t.mono (.of x3)).dp, t3.dp, sd, se, q H3 (x2.trans x3)⟩
theorem ev_eqMM (ha : EvM ta σ H ds) (hb : EvM tb σ H es) (sd : SeqAt.shaped (.list ds) = true) (se : SeqAt.shaped (.list es) = true) : Ev (tOp (rEqD K) ta tb) σ H (.bl (PyData.eqv (.list ds) (.list es))) := fun H1 x Q q =>
  ha H1 x _ fun p xs H2 hp x2 hl t => hb H2 (x.trans x2) _ fun p2 ys H3 hp2 x3 hl2 t3 => ⟨.list ds, .list es, .lst (.of (x3 p _ hl)) (t.mono (.of x3)).dp, .lst (.of hl2) t3.dp, sd, se, q H3 (x2.trans x3)⟩
theorem ev_neMM (ha : EvM ta σ H ds) (hb : EvM tb σ H es) (sd : SeqAt.shaped (.list ds) = true) (se : SeqAt.shaped (.list es) = true) : Ev (tOp (rNeD K) ta tb) σ H (.bl (!PyData.eqv (.list ds) (.list es))) := fun H1 x Q q =>
  ha H1 x _ fun p xs H2 hp x2 hl t => hb H2 (x.trans x2) _ fun p2 ys H3 hp2 x3 hl2 t3 => ⟨.list ds, .list es, .lst (.of (x3 p _ hl)) (t.mono (.of x3)).dp, .lst (.of hl2) t3.dp, sd, se, q H3 (x2.trans x3)⟩
theorem ev_inT (ha : EvD ta σ H d) (hb : EvD tb σ H (.tuple ds)) (hd : Pure d = true) (hs : PureA ds = true) (sd : d.depth ≤ 64) (se : (PyData.tuple ds).depth ≤ 64) {b : Bool} (hbb : b = true ↔ d ∈ ds) : Ev (tOp (rInT K) ta tb) σ H (.bl b) := fun H1 x Q q =>
  ha H1 x _ fun v H2 x2 t => hb H2 (x.trans x2) _ fun u H3 x3 t3 => ⟨d, ds, (t.mono (.of x3)).dp, t3.dp, shaped_of (pure_flat hd) sd, shaped_of (by simpa [Flat] using pureA_flat hs) se, by rw [any_eqv hs hd hbb]; exact q H3 (x2.trans x3)⟩
theorem ev_niT (ha : EvD ta σ H d) (hb : EvD tb σ H (.tuple ds)) (hd : Pure d = true) (hs : PureA ds = true) (sd : d.depth ≤ 64) (se : (PyData.tuple ds).depth ≤ 64) {b : Bool} (hbb : b = true ↔ d ∈ ds) : Ev (tOp (rNotInT K) ta tb) σ H (.bl (!b)) := fun H1 x Q q =>
  ha H1 x _ fun v H2 x2 t => hb H2 (x.trans x2) _ fun u H3 x3 t3 => ⟨d, ds, (t.mono (.of x3)).dp, t3.dp, shaped_of (pure_flat hd) sd, shaped_of (by simpa [Flat] using pureA_flat hs) se, by rw [any_eqv hs hd hbb]; exact q H3 (x2.trans x3)⟩
/-- not in a list at a variable -/
theorem ev_niL {p : Addr} {xs : List V} (ha : EvD ta σ H d) (hb : Ev tb σ H (.ref p)) (hp : H p = some (.lst xs)) (hx : TpA H xs ds) (hd : Pure d = true) (hs : PureA ds = true) (sd : d.depth ≤ 64) (se : (PyData.list ds).depth ≤ 64) {b : Bool} (hbb : b = true ↔ d ∈ ds) : Ev (tOp (rNotInD K) ta tb) σ H (.bl (!b)) := fun H1 x Q q =>
  ha H1 x _ fun v H2 x2 t => hb H2 (x.trans x2) _ fun H3 x3 => ⟨d, ds, (t.mono (.of x3)).dp, .lst (.of (((x.trans x2).trans x3) p _ hp)) (hx.mono (.of ((x.trans x2).trans x3))).dp, shaped_of (pure_flat hd) sd, shaped_of (by simpa [Flat] using pureA_flat hs) se, by rw [any_eqv hs hd hbb]; exact q H3 (x2.trans x3)⟩
/-- not in a new list -/
theorem ev_niM (ha : EvD ta σ H d) (hb : EvM tb σ H ds) (hd : Pure d = true) (hs : PureA ds = true) (sd : d.depth ≤ 64) (se : (PyData.list ds).depth ≤ 64) {b : Bool} (hbb : b = true ↔ d ∈ ds) : Ev (tOp (rNotInD K) ta tb) σ H (.bl (!b)) := fun H1 x Q q =>
  ha H1 x _ fun v H2 x2 t => hb H2 (x.trans x2) _ fun p xs H3 hp x3 hl ts => ⟨d, ds, (t.mono (.of x3)).dp, .lst (.of hl) ts.dp, shaped_of (pure_flat hd) sd, shaped_of (by simpa [Flat] using pureA_flat hs) se, by rw [any_eqv hs hd hbb]; exact q H3 (x2.trans x3)⟩
/-- an item of a tuple -/
theorem evd_ixT {i : Nat} (ha : EvD ta σ H (.tuple ds)) (hb : Ev tb σ H (.int (i : Int))) (hi : ds[i]? = some d) : EvD (tOp (rIxT K) ta tb) σ H d := fun H1 x Q q =>
  ha H1 x _ fun v H2 x2 t => hb H2 (x.trans x2) _ fun H3 x3 => by
    obtain ⟨a, xs, rfl, h1, h2⟩ := tp_tup t
    obtain ⟨u, hu, tu⟩ := h2.getD hi
    exact ⟨a, xs, (i : Int), u, rfl, rfl, .of (x3 a _ h1), atI_nat hu, q u H3 (x2.trans x3) (tu.mono (.of x3))⟩

/-! ### statements -/
variable {D : Ends} {tu tw tz : TS}
theorem s_asgD {i : Nat} (h : EvD te σ H d) (k : ∀ v H1, Ex H H1 → Tp H1 v d → D.nx (σ.set i (some v)) H1) : tAsg te (gName i) D σ H := h H (Ex.refl H) _ fun v H1 x t => k v H1 x t
theorem q_asgD {i : Nat} (h : EvD te σ H d) (k : ∀ v H1, Ex H H1 → Tp H1 v d → tz D (σ.set i (some v)) H1) : tSeq (tAsg te (gName i)) tz D σ H := h H (Ex.refl H) _ fun v H1 x t => k v H1 x t
theorem q_asgM {i : Nat} (h : EvM te σ H ds) (k : ∀ p xs H1, H p = none → Ex H H1 → H1 p = some (.lst xs) → TpA H1 xs ds → tz D (σ.set i (some (.ref p))) H1) : tSeq (tAsg te (gName i)) tz D σ H := h H (Ex.refl H) _ k
theorem s_asgM {i : Nat} (h : EvM te σ H ds) (k : ∀ p xs H1, H p = none → Ex H H1 → H1 p = some (.lst xs) → TpA H1 xs ds → D.nx (σ.set i (some (.ref p))) H1) : tAsg te (gName i) D σ H := h H (Ex.refl H) _ k
theorem s_retD (h : EvD te σ H d) (k : ∀ v H1, Ex H H1 → Tp H1 v d → D.rt v H1) : tRet te D σ H := h H (Ex.refl H) _ k
theorem s_retM (h : EvM te σ H ds) (k : ∀ p xs H1, H p = none → Ex H H1 → H1 p = some (.lst xs) → TpA H1 xs ds → D.rt (.ref p) H1) : tRet te D σ H := h H (Ex.refl H) _ k
end
end K53

-- part K53R4
set_option maxRecDepth 100000
set_option maxHeartbeats 4000000
namespace K53
open PySem PySem.Spec PyProof.Rows L2 Evl
theorem hu65 {A : Around} {k : Nat} (hr : Room k A) : A.units + 65 < cLine := by have := hr.un; omega
theorem takeS {α : Type} {l : List α} {i : Nat} {c : α} (h : l[i]? = some c) : l.take (i + 1) = l.take i ++ [c] := by
  have hi := (List.getElem?_eq_some_iff.mp h).1
  rw [List.take_succ_eq_append_getElem hi, (List.getElem?_eq_some_iff.mp h).2]
theorem TpA.mapGet {H : Hp} {α : Type} {enc : α → PyData} {ls : List α} {xs : List V} {i : Nat} {v : V} (hx : TpA H xs (ls.map enc)) (hv : xs[i]? = some v) : ∃ a, ls[i]? = some a ∧ Tp H v (enc a) := by
  obtain ⟨d, hd, td⟩ := hx.get hv
  rw [List.getElem?_map, Option.map_eq_some_iff] at hd
  obtain ⟨a, ha, rfl⟩ := hd
  exact ⟨a, ha, td⟩
theorem TpA.mapGetD {H : Hp} {α : Type} {enc : α → PyData} {ls : List α} {xs : List V} {i : Nat} {a : α} (hx : TpA H xs (ls.map enc)) (ha : ls[i]? = some a) : ∃ v, xs[i]? = some v ∧ Tp H v (enc a) :=
  hx.getD (by rw [List.getElem?_map, ha]; rfl)
/-- the new list so far -/
def Cm (H : Hp) (D : Addr) (ds : List PyData) (H' : Hp) : Prop := H D = none ∧ Ex H H' ∧ ∃ ys, H' D = some (.lst ys) ∧ TpA H' ys ds
theorem Cm.start {H : Hp} {D : Addr} (h : H D = none) : Cm H D [] (upd H D (.lst [])) := ⟨h, Ex.new h, [], upd_same, .nil⟩
theorem Cm.go {H H1 : Hp} {D : Addr} {ds : List PyData} (c : Cm H D ds H1) {H2 : Hp} (x : Ex H1 H2) : Cm H D ds H2 := by
  obtain ⟨h1, h2, ys, h3, h4⟩ := c
  exact ⟨h1, h2.trans x, ys, x D _ h3, h4.mono (.of x)⟩
theorem Cm.add {H H1 : Hp} {D : Addr} {ds : List PyData} (c : Cm H D ds H1) {v : V} {d : PyData} (t : Tp H1 v d) {acc : List V} (e : H1 D = some (.lst acc)) : Cm H D (ds ++ [d]) (upd H1 D (.lst (acc ++ [v]))) := by
  obtain ⟨h1, h2, ys, h3, h4⟩ := c
  have e2 : acc = ys := by
    rw [h3] at e
    injection e with e
    injection e with e
    exact e.symm
  subst e2
  have tk : TK H1 (upd H1 D (.lst (acc ++ [v]))) := (TK.refl H1).upd fun xs q => by rw [h3] at q; cases q
  exact ⟨h1, Ex.mut h2 h1, _, upd_same, (h4.mono tk).app (.one (t.mono tk))⟩
section
variable {K : PySem.W.Frag} {σ : L2.St} {H H' : Hp} {tl te : TE} {tt : TT} {g : TG} {vs : List Nat} {α : Type} {enc : α → PyData} {ls : List α} {p : α → Bool} {f : α → PyData}
/-- one turn of a comprehension -/
def CompTurn (g : TG) (tt : TT) (te : TE) (vs : List Nat) (σ : L2.St) (H1 : Hp) (v : V) (b : Bool) (d : PyData) : Prop :=
  ∃ σ2, wipe σ2 vs = wipe σ vs ∧ (∀ Q : L2.St → Hp → Prop, Q σ2 H1 → g v (wipe σ vs) H1 Q) ∧ EvT tt σ2 H1 b ∧ (b = true → EvD te σ2 H1 d)
theorem comp_turn {H1 : Hp} {D : Addr} {ds : List PyData} {v : V} {b : Bool} {d : PyData} (c : Cm H D ds H1) (hds : ds.length < 100000) (ct : CompTurn g tt te vs σ H1 v b d) (P : Hp → Prop) (k : ∀ H2, Cm H D (if b = true then ds ++ [d] else ds) H2 → P H2) :
    g v (wipe σ vs) H1 fun σ2 H2 => wipe σ2 vs = wipe σ vs ∧ tt σ2 H2 fun b H3 => if b = true then te σ2 H3 fun y H4 => ∃ acc, H4 D = some (.lst acc) ∧ acc.length < sizeLine ∧ P (upd H4 D (.lst (acc ++ [y]))) else P H3 := by
  obtain ⟨σ2, hw, hg, ht, he⟩ := ct
  refine hg _ ⟨hw, ht H1 (Ex.refl H1) _ fun H3 x3 => ?_⟩
  cases b with
  | true =>
    refine iteT (he rfl H3 x3 _ fun y H4 x4 ty => ?_)
    have c4 := c.go (x3.trans x4)
    obtain ⟨_, _, ys, h3, h4⟩ := id c4
    exact ⟨ys, h3, sz_lt (by rw [h4.length]; exact hds), k _ (c4.add ty h3)⟩
  | false => exact iteF (k _ (c.go x3))
theorem filter_takeS {i : Nat} {a : α} (h : ls[i]? = some a) : ((ls.take (i + 1)).filter p).map f = if p a = true then ((ls.take i).filter p).map f ++ [f a] else ((ls.take i).filter p).map f := by
  rw [takeS h, List.filter_append, List.map_append, List.filter_cons]
  split <;> simp
theorem filter_len (i : Nat) : (((ls.take i).filter p).map f).length ≤ ls.length := by
  rw [List.length_map]
  exact Nat.le_trans (List.length_filter_le _ _) (by rw [List.length_take]; exact Nat.min_le_right _ _)
/-- over a tuple -/
theorem evm_lcT (h : EvD tl σ H (.tuple (ls.map enc))) (hz : ls.length < 100000) (hb : ∀ a v H1, a ∈ ls → Ex H H1 → Tp H1 v (enc a) → CompTurn g tt te vs σ H1 v (p a) (f a)) : EvM (tLc (iTup K tl) g tt te vs) σ H ((ls.filter p).map f) := fun H0 x Q q => h H0 x _ fun v H1 x1 t => by
  obtain ⟨a, xs, rfl, h1, h2⟩ := tp_tup t
  have hl : xs.length = ls.length := by rw [h2.length, List.length_map]
  refine ⟨a, rfl, ⟨xs, .of h1⟩, fun D hD => lc_tup (xs := xs) (fun i H' => Cm H1 D (((ls.take i).filter p).map f) H') (by simpa using Cm.start hD) (fun i H' _ c => .of (c.2.1 a _ h1)) (fun i v H' hi c => ?_) fun H' c => ?_⟩
  · obtain ⟨b, hb2, tb⟩ := h2.mapGet hi
    refine comp_turn c (Nat.lt_of_le_of_lt (filter_len i) hz) (hb b v H' (List.mem_of_getElem? hb2) ((x.trans x1).trans c.2.1) (tb.mono (.of c.2.1))) _ fun H2 c2 => ?_
    rw [filter_takeS hb2]
    exact c2
  · rw [hl, List.take_length] at c
    obtain ⟨c1, c2, ys, c3, c4⟩ := c
    exact q D ys H' (fresh_back x1 c1) (x1.trans c2) c3 c4
/-- over a list at a name -/
theorem evm_lcL {l : Addr} {xs : List V} (h : Ev tl σ H (.ref l)) (hl0 : H l = some (.lst xs)) (hx : TpA H xs (ls.map enc)) (hz : ls.length < 100000) (hb : ∀ a v H1, a ∈ ls → Ex H H1 → Tp H1 v (enc a) → CompTurn g tt te vs σ H1 v (p a) (f a)) : EvM (tLc (iList K tl) g tt te vs) σ H ((ls.filter p).map f) := fun H0 x Q q => h H0 x _ fun H1 x1 => by
  have h1 := (x.trans x1) l _ hl0
  have h2 := hx.mono (.of (x.trans x1))
  have hl : xs.length = ls.length := by rw [h2.length, List.length_map]
  refine ⟨l, rfl, ⟨xs, .of h1⟩, fun D hD => lc_list (xs := xs) (fun i H' => Cm H1 D (((ls.take i).filter p).map f) H') (by simpa using Cm.start hD) (fun i H' _ c => .of (c.2.1 l _ h1)) (fun i v H' hi c => ?_) fun H' c => ?_⟩
  · obtain ⟨b, hb2, tb⟩ := h2.mapGet hi
    refine comp_turn c (Nat.lt_of_le_of_lt (filter_len i) hz) (hb b v H' (List.mem_of_getElem? hb2) ((x.trans x1).trans c.2.1) (tb.mono (.of c.2.1))) _ fun H2 c2 => ?_
    rw [filter_takeS hb2]
    exact c2
  · rw [hl, List.take_length] at c
    obtain ⟨c1, c2, ys, c3, c4⟩ := c
    exact q D ys H' (fresh_back x1 c1) (x1.trans c2) c3 c4
/-- over a new list -/
theorem evm_lcM (h : EvM tl σ H (ls.map enc)) (hz : ls.length < 100000) (hb : ∀ a v H1, a ∈ ls → Ex H H1 → Tp H1 v (enc a) → CompTurn g tt te vs σ H1 v (p a) (f a)) : EvM (tLc (iList K tl) g tt te vs) σ H ((ls.filter p).map f) := fun H0 x Q q => h H0 x _ fun l xs H1 hn x1 h1 h2 => by
  have hl : xs.length = ls.length := by rw [h2.length, List.length_map]
  refine ⟨l, rfl, ⟨xs, .of h1⟩, fun D hD => lc_list (xs := xs) (fun i H' => Cm H1 D (((ls.take i).filter p).map f) H') (by simpa using Cm.start hD) (fun i H' _ c => .of (c.2.1 l _ h1)) (fun i v H' hi c => ?_) fun H' c => ?_⟩
  · obtain ⟨b, hb2, tb⟩ := h2.mapGet hi
    refine comp_turn c (Nat.lt_of_le_of_lt (filter_len i) hz) (hb b v H' (List.mem_of_getElem? hb2) ((x.trans x1).trans c.2.1) (tb.mono (.of c.2.1))) _ fun H2 c2 => ?_
    rw [filter_takeS hb2]
    exact c2
  · rw [hl, List.take_length] at c
    obtain ⟨c1, c2, ys, c3, c4⟩ := c
    exact q D ys H' (fresh_back x1 c1) (x1.trans c2) c3 c4
/-- over range(n) -/
theorem evm_lcR {ta : TA} {n : Nat} {pr : Nat → Bool} {fr : Nat → PyData} (h : EvA ta σ H [.int (n : Int)]) (hz : n < 100000) (hb : ∀ i H1, i < n → Ex H H1 → CompTurn g tt te vs σ H1 (.int (i : Int)) (pr i) (fr i)) : EvM (tLc (iRng1 ta) g tt te vs) σ H (((List.range n).filter pr).map fr) := fun H0 x Q q => h H0 x _ fun H1 x1 => by
  refine ⟨(n : Int), rfl, by omega, by omega, fun D hD => ?_⟩
  have en : ((n : Int)).toNat = n := by omega
  rw [en]
  refine lc_range (lo := 0) (n := n) (fun i H' => Cm H1 D ((((List.range n).take i).filter pr).map fr) H') (by simpa using Cm.start hD) (fun i H' hi c => ?_) fun H' c => ?_
  · have e0 : (0 : Int) + (i : Int) = (i : Int) := Int.zero_add _
    rw [e0]
    have hri : (List.range n)[i]? = some i := by rw [List.getElem?_range hi]
    refine comp_turn c (Nat.lt_of_le_of_lt (filter_len i) (by rw [List.length_range]; exact hz)) (hb i H' hi ((x.trans x1).trans c.2.1)) _ fun H2 c2 => ?_
    rw [filter_takeS hri]
    exact c2
  · have e1 : (List.range n).take n = List.range n := by rw [List.take_of_length_le (by rw [List.length_range]; exact Nat.le_refl _)]
    rw [e1] at c
    obtain ⟨c1, c2, ys, c3, c4⟩ := c
    exact q D ys H' (fresh_back x1 c1) (x1.trans c2) c3 c4
/-- over enumerate(a tuple): pr, fr of the place and the item -/
theorem evm_lcE {te0 : TE} {pr : Nat → α → Bool} {fr : Nat → α → PyData} (h : EvD te0 σ H (.tuple (ls.map enc))) (hz : ls.length < 100000) (hb : ∀ i a v T H1, ls[i]? = some a → Ex H H1 → Tp H1 v (enc a) → H1 T = some (.tup [.int (i : Nat), v]) → CompTurn g tt te vs σ H1 (.ref T) (pr i a) (fr i a)) :
    EvM (tLc (iEnumT K (tCons te0 tNil)) g tt te vs) σ H (((ls.zipIdx.filter fun z => pr z.2 z.1)).map fun z => fr z.2 z.1) := fun H0 x Q q => h H0 x _ fun v H1 x1 t => by
  obtain ⟨a, xs, rfl, h1, h2⟩ := tp_tup t
  have hl : xs.length = ls.length := by rw [h2.length, List.length_map]
  have hzl : ls.zipIdx.length = ls.length := List.length_zipIdx
  refine ⟨a, xs, rfl, .of h1, fun D hD => lc_enumT (xs := xs) (fun i H' => Cm H1 D (((ls.zipIdx.take i).filter fun z => pr z.2 z.1).map fun z => fr z.2 z.1) H') (by simpa using Cm.start hD) (fun i H' _ c => c.2.1 a _ h1) (fun i v T H' hi c hT => ?_) fun H' c => ?_⟩
  · obtain ⟨b, hb2, tb⟩ := h2.mapGet hi
    have hzi : ls.zipIdx[i]? = some (b, i) := by rw [List.getElem?_zipIdx, hb2]; simp
    have xT : Ex H' (upd H' T (.tup [.int (i : Nat), v])) := Ex.new hT
    refine comp_turn (c.go xT) (Nat.lt_of_le_of_lt (filter_len (p := fun z : α × Nat => pr z.2 z.1) (f := fun z : α × Nat => fr z.2 z.1) i) (by rw [hzl]; exact hz)) (hb i b v T _ hb2 (((x.trans x1).trans c.2.1).trans xT) (tb.mono (.of (c.2.1.trans xT))) upd_same) _ fun H2 c2 => ?_
    rw [filter_takeS (p := fun z : α × Nat => pr z.2 z.1) (f := fun z : α × Nat => fr z.2 z.1) hzi]
    exact c2
  · rw [hl, ← hzl, List.take_length] at c
    obtain ⟨c1, c2, ys, c3, c4⟩ := c
    exact q D ys H' (fresh_back x1 c1) (x1.trans c2) c3 c4
/-- lists of bools -/
theorem tpa_bls {H : Hp} {xs : List V} : ∀ {bs : List Bool}, TpA H xs (bs.map PyData.bool) → xs = bs.map V.bl := by
  intro bs
  induction bs generalizing xs with
  | nil => intro h; cases h; rfl
  | cons b bs ih => intro h; cases h with | cons h1 h2 => cases h1; rw [ih h2]; rfl
theorem ev_all {bs : List Bool} (h : EvM te σ H (bs.map PyData.bool)) : Ev (tCB (rAll K) (tCons te tNil)) σ H (.bl (bs.all id)) := fun H1 x Q q =>
  h H1 x _ fun p xs H2 hp x2 hl t => ⟨p, bs, rfl, by rw [← tpa_bls t]; exact .of hl, q H2 x2⟩
theorem ev_sumM {ns : List Int} (h : EvM te σ H (ns.map PyData.int)) : Ev (tCB (rSum K) (tCons te tNil)) σ H (.int ns.sum) := fun H1 x Q q =>
  h H1 x _ fun p xs H2 hp x2 hl t => ⟨p, ns, rfl, by rw [← t.ints]; exact .of hl, q H2 x2⟩
theorem ev_sumT {ns : List Int} (h : EvD te σ H (.tuple (ns.map PyData.int))) : Ev (tCB (rSumT K) (tCons te tNil)) σ H (.int ns.sum) := fun H1 x Q q =>
  h H1 x _ fun v H2 x2 t => by
    obtain ⟨a, xs, rfl, h1, h2⟩ := tp_tup t
    exact ⟨a, ns, rfl, by rw [← h2.ints]; exact .of h1, q H2 x2⟩
theorem ev_anyT {ns : List Int} (h : EvD te σ H (.tuple (ns.map PyData.int))) : Ev (tCB (rAnyT K) (tCons te tNil)) σ H (.bl (ns.any fun n => decide (n ≠ 0))) := fun H1 x Q q =>
  h H1 x _ fun v H2 x2 t => by
    obtain ⟨a, xs, rfl, h1, h2⟩ := tp_tup t
    exact ⟨a, ns, rfl, by rw [← h2.ints]; exact .of h1, q H2 x2⟩
/-- tuple(a new list) -/
def rTupOf (K : PySem.W.Frag) : List V → Hp → VK → Prop := fun xs H Q => ∃ p ys, xs = [.ref p] ∧ ((SqL K H p ys ∧ ∀ l, H l = none → Q (.ref l) (upd H l (.tup ys))) ∨ (SqT K H p ys ∧ Q (.ref p) H))
theorem evd_tupleOf {ds : List PyData} (h : EvM te σ H ds) : EvD (tCB (rTupOf K) (tCons te tNil)) σ H (.tuple ds) := fun H1 x Q q =>
  h H1 x _ fun p xs H2 hp x2 hl t => ⟨p, xs, rfl, .inl ⟨.of hl, fun l hl => q _ _ (x2.trans (Ex.new hl)) (.tup upd_same (t.mono (.of (Ex.new hl))))⟩⟩
theorem evd_tupleOfL {ds : List PyData} {l : Addr} {xs : List V} (h : Ev te σ H (.ref l)) (hl : H l = some (.lst xs)) (hx : TpA H xs ds) : EvD (tCB (rTupOf K) (tCons te tNil)) σ H (.tuple ds) := fun H1 x Q q =>
  h H1 x _ fun H2 x2 => ⟨l, xs, rfl, .inl ⟨.of ((x.trans x2) l _ hl), fun p hp => q _ _ (x2.trans (Ex.new hp)) (.tup upd_same ((hx.mono (.of (x.trans x2))).mono (.of (Ex.new hp))))⟩⟩
/-- sorted(new list) -/
theorem each_tpa {H : Hp} {β : Type} {en : β → PyData} : ∀ {xs : List V} {bs : List β}, PySem.W.EachIs (fun x b => Tp H x (en b)) xs bs → TpA H xs (bs.map en)
  | _, _, .nil => .nil
  | _, _, .cons h t => .cons h (each_tpa t)
theorem tpa_each {H : Hp} {β : Type} {en : β → PyData} : ∀ {xs : List V} {bs : List β}, TpA H xs (bs.map en) → PySem.W.EachIs (fun x b => Tp H x (en b)) xs bs
  | _, [], h => by cases h; exact .nil
  | _, b :: bs, h => by cases h with | cons h1 h2 => exact .cons h1 (tpa_each h2)
theorem evm_sorted {β : Type} {en : β → PyData} {bs : List β} (h : EvM te σ H (bs.map en)) (hal : PySem.W.AllAlike (bs.map en)) (hk : CanSort (bs.map en)) (hd : PyData.depthAll (bs.map en) ≤ 60) :
    EvM (tCB (rSortedD K) (tCons te tNil)) σ H ((bs.mergeSort (PySem.W.dataLe false en)).map en) := fun H1 x Q q =>
  h H1 x _ fun p xs H2 hn x2 hl t => ⟨p, xs, β, en, bs, fun x b => Tp H2 x (en b), rfl, .inl (.of hl), tpa_each t, fun x b h => h.dp, hal, hk, hd, fun ys l hl2 hd2 => q l ys _ (fresh_back x2 hl2) (x2.trans (Ex.new hl2)) upd_same ((each_tpa hd2).mono (.of (Ex.new hl2)))⟩
theorem evm_sortedT {β : Type} {en : β → PyData} {bs : List β} (h : EvD te σ H (.tuple (bs.map en))) (hal : PySem.W.AllAlike (bs.map en)) (hk : CanSort (bs.map en)) (hd : PyData.depthAll (bs.map en) ≤ 60) :
    EvM (tCB (rSortedD K) (tCons te tNil)) σ H ((bs.mergeSort (PySem.W.dataLe false en)).map en) := fun H1 x Q q =>
  h H1 x _ fun v H2 x2 t => by
    obtain ⟨a, xs, rfl, h1, h2⟩ := tp_tup t
    exact ⟨a, xs, β, en, bs, fun x b => Tp H2 x (en b), rfl, .inr (.of h1), tpa_each h2, fun x b h => h.dp, hal, hk, hd, fun ys l hl2 hd2 => q l ys _ (fresh_back x2 hl2) (x2.trans (Ex.new hl2)) upd_same ((each_tpa hd2).mono (.of (Ex.new hl2)))⟩
end
end K53

-- part K53W0
set_option maxRecDepth 100000
set_option maxHeartbeats 4000000
namespace K53
open PySem PySem.Spec PyProof.Rows L2 Evl

/-! ### the text by places -/
def tp (i : Nat) : Stmt := PySem.Challenge.pw_gridink_k53_whole_roads_of_switches.main.body.getD i (.Pass ⟨0, 0, 0, 0⟩)

/-! ### a def of the text, as a caller meets it -/
structure Cl (P : Program) (w : World) (K : PySem.W.Frag) (mg : Str → Option Value) (base : Heap) (k : Nat) (x : Str) (ps : List Str) (sp : Sp) : Prop where
  ex : ∃ f fd, mg x = some (.ref f) ∧ PySem.W.keepIn K (.ref f) = true ∧ Binds K fd ps [] ∧ FnOk P w K mg base CX0 k f fd ps sp
def FnAt (K : PySem.W.Frag) (mg : Str → Option Value) (x : Str) (st : Stmt) : Prop := ∃ f fd, mg x = some (.ref f) ∧ Fun K x x st f fd
theorem pe_cl {X : Cx} {k j : Nat} {x : Str} {p pos : Pos} {e : Expr} {es : List Expr} {ps : List Str} {sp : Sp} {t : TA} (c : Cl X.prog X.w X.K X.mg X.base k x ps sp) (hr : Room j X.A) (ha : PA X (e :: es) t) (hk : k ≤ j := by decide) (hg : Gl X x := by exact rfl) (hdb : (x == ("__debug__" : Str)) = false := by decide) (he : starEach (e :: es) X.env = (false, eval e X.env) :: starEach es X.env := by rfl) (hpl : (backTo pos (starEach es X.env)).any (·.1) = false := by rfl) :
    PE X (.Call (.Name x p) (e :: es) [] pos) (tCall sp [] E0 t) := by
  obtain ⟨f, fd, hm, hk2, hb, F⟩ := c.ex
  exact pe_call F (hr.mono hk) hg hm hk2 hb .nil pass0 ha hdb he hpl
section
variable {mg : Str → Option Value} {P : Program} {K : PySem.W.Frag} {w : World} {base : Heap}
theorem cl_mk {x : Str} {st : Stmt} {N ps : List Str} {k : Nat} {sp : Sp} (h : FnAt K mg x st) (S : FnScope N ps (defScope st)) (len : ∀ vs H Q E, sp vs H Q E → vs.length = ps.length)
    (hb : ∀ (kV doc pm : Value) (an : Option Addr) (cdv ct : Value) (us : List Value), us.length = ps.length → bindArgs (PySem.W.fnOf x x (defArgs st) (defBody st) (defScope st) .none kV doc pm an cdv ct) ⟨us, []⟩ = pure (ps.zip us))
    (hbody : ∀ (f : Addr) (cdv : Value) (A : Around) (outer : List Env) (s : Shared) (H : Hp) (vs : List V) (Q : VK) (E : XK), Room k (A.deeper (envOfC x (defScope st) s.heap.objs.size f cdv)) → sp vs H Q E →
      ∃ t, PSs (cxOf CX0 P w K mg base N x (defScope st) f cdv A outer s H E).nox (defBody st) t ∧ t { nx := fun _ H' => Q .non H', rt := Q } (start N vs) H) : Cl P w K mg base (k + 1) x ps sp := by
  obtain ⟨f, fd, hm, F⟩ := h
  exact ⟨f, fd, hm, F.kp, F.binds hb, F.ok S len fun cdv A outer s H vs Q E hr hsp => hbody f cdv A outer s H vs Q E hr hsp⟩
end
/-- a constant of the module -/
theorem pe_gl {X : Cx} {x : Str} {v : V} {pos : Pos} (h : ∃ u, X.mg x = some u ∧ RelV v u) (hg : Gl X x := by exact rfl) (hd : (x == ("__debug__" : Str)) = false := by decide) : PE X (.Name x pos) (tC v) := by
  obtain ⟨u, hm, r⟩ := h
  exact pe_glob hg hm r hd

/-! ### the data of the program -/
def eN (n : Nat) : PyData := .int (n : Int)
def eC (c : Cell) : PyData := .tuple [.int (c.1 : Int), .int (c.2 : Int)]
def eInk (l : Ink) : PyData := .tuple (l.map eC)
def eNs (l : List Nat) : PyData := .tuple (l.map eN)
def eSw (s : Sw) : PyData := .tuple [.int (s.1 : Int), .int (s.2.1 : Int), .int (s.2.2.1 : Int), .int (s.2.2.2 : Int)]
theorem eC_pure (c : Cell) : Pure (eC c) = true := rfl
theorem eSw_pure (c : Sw) : Pure (eSw c) = true := rfl
theorem eN_pure (n : Nat) : Pure (eN n) = true := rfl
theorem eInk_pure (l : Ink) : Pure (eInk l) = true := by show PureA (l.map eC) = true; exact pureA_map eC_pure l
theorem eNs_pure (l : List Nat) : Pure (eNs l) = true := by show PureA (l.map eN) = true; exact pureA_map eN_pure l
theorem eC_depth (c : Cell) : (eC c).depth = 1 := by simp [eC, PyData.depth, PyData.depthAll]
theorem eSw_depth (c : Sw) : (eSw c).depth = 1 := by simp [eSw, PyData.depth, PyData.depthAll]
theorem eN_depth (c : Nat) : (eN c).depth = 0 := by simp [eN, PyData.depth]
theorem eInk_depth (l : Ink) : (eInk l).depth ≤ 2 := by
  have := depthA_map (f := eC) (n := 1) (fun a => Nat.le_of_eq (eC_depth a)) l
  simp only [eInk, PyData.depth]; omega
theorem eNs_depth (l : List Nat) : (eNs l).depth ≤ 1 := by
  have := depthA_map (f := eN) (n := 0) (fun a => Nat.le_of_eq (eN_depth a)) l
  simp only [eNs, PyData.depth]; omega
theorem eC_inj {a b : Cell} (h : eC a = eC b) : a = b := by
  obtain ⟨a1, a2⟩ := a; obtain ⟨b1, b2⟩ := b
  simp only [eC, PyData.tuple.injEq, List.cons.injEq, PyData.int.injEq, and_true] at h
  rw [Prod.mk.injEq]; omega
theorem eSw_inj {a b : Sw} (h : eSw a = eSw b) : a = b := by
  obtain ⟨a1, a2, a3, a4⟩ := a; obtain ⟨b1, b2, b3, b4⟩ := b
  simp only [eSw, PyData.tuple.injEq, List.cons.injEq, PyData.int.injEq, and_true] at h
  simp only [Prod.mk.injEq]; omega
theorem map_inj_of {α : Type} {f : α → PyData} (hf : ∀ a b, f a = f b → a = b) : ∀ {l m : List α}, l.map f = m.map f → l = m
  | [], [], _ => rfl
  | [], _ :: _, h => by simp at h
  | _ :: _, [], h => by simp at h
  | a :: l, b :: m, h => by
    simp only [List.map_cons, List.cons.injEq] at h
    rw [hf _ _ h.1, map_inj_of hf h.2]
theorem eN_inj {a b : Nat} (h : eN a = eN b) : a = b := by
  simp only [eN, PyData.int.injEq] at h; omega
theorem eInk_inj {l m : Ink} (h : eInk l = eInk m) : l = m := by
  simp only [eInk, PyData.tuple.injEq] at h
  exact map_inj_of (fun a b => eC_inj) h
theorem eNs_inj {l m : List Nat} (h : eNs l = eNs m) : l = m := by
  simp only [eNs, PyData.tuple.injEq] at h
  exact map_inj_of (fun a b => eN_inj) h
theorem mem_map_inj {α : Type} {f : α → PyData} (hf : ∀ a b, f a = f b → a = b) {l : List α} {a : α} : f a ∈ l.map f ↔ a ∈ l := by
  rw [List.mem_map]
  constructor
  · rintro ⟨b, hb, e⟩; rw [← hf _ _ e]; exact hb
  · exact fun h => ⟨a, h, rfl⟩
/-- a cell in the heap -/
theorem tp_cell {H : Hp} {v : V} {c : Cell} (h : Tp H v (eC c)) : ∃ a, v = .ref a ∧ H a = some (.tup [.int (c.1 : Int), .int (c.2 : Int)]) := by
  obtain ⟨a, xs, rfl, h1, h2⟩ := tp_tup h
  cases h2 with | cons q1 q2 =>
  cases q2 with | cons q3 q4 =>
  cases q4; cases q1; cases q3
  exact ⟨a, rfl, h1⟩
theorem tp_cell_of {H : Hp} {a : Addr} {c : Cell} (h : H a = some (.tup [.int (c.1 : Int), .int (c.2 : Int)])) : Tp H (.ref a) (eC c) := .tup h (.cons (.int _) (.cons (.int _) .nil))
theorem tp_sw {H : Hp} {v : V} {c : Sw} (h : Tp H v (eSw c)) : ∃ a, v = .ref a ∧ H a = some (.tup [.int (c.1 : Int), .int (c.2.1 : Int), .int (c.2.2.1 : Int), .int (c.2.2.2 : Int)]) := by
  obtain ⟨a, xs, rfl, h1, h2⟩ := tp_tup h
  cases h2 with | cons q1 q2 =>
  cases q2 with | cons q3 q4 =>
  cases q4 with | cons q5 q6 =>
  cases q6 with | cons q7 q8 =>
  cases q8; cases q1; cases q3; cases q5; cases q7
  exact ⟨a, rfl, h1⟩
theorem tp_ns {H : Hp} {v : V} {l : List Nat} (h : Tp H v (eNs l)) : ∃ a, v = .ref a ∧ H a = some (.tup ((l.map fun n => ((n : Nat) : Int)).map V.int)) := by
  obtain ⟨a, xs, rfl, h1, h2⟩ := tp_tup h
  have e : l.map eN = (l.map fun n => ((n : Nat) : Int)).map PyData.int := by rw [List.map_map]; rfl
  rw [e] at h2
  exact ⟨a, rfl, by rw [← h2.ints]; exact h1⟩
theorem tp_ns_of {H : Hp} {a : Addr} {l : List Nat} (h : H a = some (.tup ((l.map fun n => ((n : Nat) : Int)).map V.int))) : Tp H (.ref a) (eNs l) := by
  have e : l.map eN = (l.map fun n => ((n : Nat) : Int)).map PyData.int := by rw [List.map_map]; rfl
  exact .tup h (by rw [e]; exact TpA.of_ints _)

/-! ### what the walk asks of the module -/
structure Txt (K : PySem.W.Frag) (mg : Str → Option Value) : Prop where
  is_integer : FnAt K mg "is_integer" (tp 1)
  is_in : FnAt K mg "is_in" (tp 2)
  is_list : FnAt K mg "is_list" (tp 3)
  is_cell : FnAt K mg "is_cell" (tp 13)
  need_ink : FnAt K mg "need_ink" (tp 14)
  need_sums : FnAt K mg "need_sums" (tp 18)
  need_both : FnAt K mg "need_both" (tp 19)
  need_frame : FnAt K mg "need_frame" (tp 20)
  sums_in : FnAt K mg "sums_in" (tp 21)
  sums : FnAt K mg "sums" (tp 22)
  first_lack : FnAt K mg "first_lack" (tp 23)
  picture_of : FnAt K mg "picture_of" (tp 24)
  switches : FnAt K mg "switches" (tp 25)
  switches_in : FnAt K mg "switches_in" (tp 26)
  corners : FnAt K mg "corners" (tp 27)
  switched_in : FnAt K mg "switched_in" (tp 28)
  switched : FnAt K mg "switched" (tp 29)
  all_pictures : FnAt K mg "all_pictures" (tp 30)
  choices : FnAt K mg "choices" (tp 31)
  road : FnAt K mg "road" (tp 32)
  only_in : FnAt K mg "only_in" (tp 33)
  rectangle : FnAt K mg "rectangle" (tp 34)
  taken : FnAt K mg "_law_taken" (tp 36)
  pick : FnAt K mg "_law_pick" (tp 37)
  framed : FnAt K mg "_law_framed" (tp 38)
  MOST : ∃ u, mg "MOST" = some u ∧ RelV (.int 60) u
  MOST_CELLS : ∃ u, mg "MOST_CELLS" = some u ∧ RelV (.int 400) u
  MOST_SIDE : ∃ u, mg "MOST_SIDE" = some u ∧ RelV (.int 12) u
  MOST_PICTURES : ∃ u, mg "MOST_PICTURES" = some u ∧ RelV (.int 500) u
  b_isinstance : mg "isinstance" = none
  b_int : mg "int" = none
  b_bool : mg "bool" = none
  b_tuple : mg "tuple" = none
  b_list : mg "list" = none
  b_len : mg "len" = none
  b_enumerate : mg "enumerate" = none
  b_range : mg "range" = none
  b_sum : mg "sum" = none
  b_sorted : mg "sorted" = none
  b_min : mg "min" = none
  b_max : mg "max" = none
  b_all : mg "all" = none
  b_any : mg "any" = none
  b_reversed : mg "reversed" = none

section
variable {mg : Str → Option Value} {P : Program} {K : PySem.W.Frag} {w : World} {base : Heap}
/-! ### is_integer, is_in, is_list, is_cell -/
def spInteger : Sp := fun vs H Q _ => ∃ i : Int, vs = [.int i] ∧ Q (.bl true) H
theorem sc_integer : FnScope ["value"] ["value"] (defScope (tp 1)) := ⟨rfl, rfl, rfl, by decide +kernel, rfl, by decide +kernel, by decide +kernel⟩
theorem ok_integer (T : Txt K mg) : Cl P w K mg base 1 "is_integer" ["value"] spInteger := by
  refine cl_mk T.is_integer sc_integer (fun vs H Q E h => ?_) (fun _ _ _ _ _ _ us hl => match us, hl with | [_], _ => rfl) fun f cdv A outer s H vs Q E hr h => ?_
  · obtain ⟨i, rfl, _⟩ := h; rfl
  · obtain ⟨i, rfl, q⟩ := h
    refine ⟨_, pss_one (ps_ret (pe_and (pe_callB call_isi (by rfl) T.b_isinstance (by decide +kernel) (pa_cons (pv 0) (pa_cons (pe_bltn (by rfl) T.b_int (by decide +kernel) (v := .ty "int") rfl) pa_nil)))
      (pe_one (pe_not (pe_callB call_isi (by rfl) T.b_isinstance (by decide +kernel) (pa_cons (pv 0) (pa_cons (pe_bltn (by rfl) T.b_bool (by decide +kernel) (v := .ty "bool") rfl) pa_nil))))))), ?_⟩
    refine ⟨_, rfl, _, _, _, _, true, rfl, .ty "int", .base (.int i), kit_ty (by decide +kernel), true, rfl, ?_⟩
    refine iteT ?_
    exact ⟨_, rfl, _, _, _, _, false, rfl, .ty "bool", .base (.int i), kit_ty (by decide +kernel), false, rfl, q⟩
def spIn : Sp := fun vs H Q _ => ∃ i a b : Int, vs = [.int i, .int a, .int b] ∧ a ≤ i ∧ i ≤ b ∧ Q (.bl true) H
theorem sc_in : FnScope ["value", "least", "most"] ["value", "least", "most"] (defScope (tp 2)) := ⟨rfl, rfl, rfl, by decide +kernel, rfl, by decide +kernel, by decide +kernel⟩
theorem ok_in (T : Txt K mg) : Cl P w K mg base 2 "is_in" ["value", "least", "most"] spIn := by
  refine cl_mk T.is_in sc_in (fun vs H Q E h => ?_) (fun _ _ _ _ _ _ us hl => match us, hl with | [_, _, _], _ => rfl) fun f cdv A outer s H vs Q E hr h => ?_
  · obtain ⟨i, a, b, rfl, _⟩ := h; rfl
  · obtain ⟨i, a, b, rfl, h1, h2, q⟩ := h
    refine ⟨_, pss_one (ps_ret (pe_and (pe_cl (ok_integer T) hr (pa_cons (pv 0) pa_nil)) (pe_one (pe_chain op_le op_le (pv 1) (pv 0) (pv 2))))), ?_⟩
    refine ⟨_, rfl, i, rfl, true, rfl, iteT ?_⟩
    refine ⟨_, rfl, _, rfl, _, _, rfl, rfl, _, rfl, ?_⟩
    rw [decide_eq_true h1]
    refine iteT ⟨_, rfl, _, _, rfl, rfl, ?_⟩
    show Q (V.bl (decide (i ≤ b))) H
    rw [decide_eq_true h2]
    exact q
def spList : Sp := fun vs H Q _ => ∃ (p : Addr) (xs : List V) (a b : Int), vs = [.ref p, .int a, .int b] ∧ H p = some (.tup xs) ∧ a ≤ (xs.length : Int) ∧ (xs.length : Int) ≤ b ∧ Q (.bl true) H
theorem sc_list : FnScope ["value", "least", "most"] ["value", "least", "most"] (defScope (tp 3)) := ⟨rfl, rfl, rfl, by decide +kernel, rfl, by decide +kernel, by decide +kernel⟩
theorem ok_list (T : Txt K mg) : Cl P w K mg base 1 "is_list" ["value", "least", "most"] spList := by
  refine cl_mk T.is_list sc_list (fun vs H Q E h => ?_) (fun _ _ _ _ _ _ us hl => match us, hl with | [_, _, _], _ => rfl) fun f cdv A outer s H vs Q E hr h => ?_
  · obtain ⟨p, xs, a, b, rfl, _⟩ := h; rfl
  · obtain ⟨p, xs, a, b, rfl, hp, h1, h2, q⟩ := h
    refine ⟨_, pss_one (ps_ret (pe_and (pe_callB call_isi (by rfl) T.b_isinstance (by decide +kernel) (pa_cons (pv 0) (pa_cons (pe_bltn (by rfl) T.b_tuple (by decide +kernel) (v := .ty "tuple") rfl) pa_nil)))
      (pe_one (pe_chain op_le op_le (pv 1) (pe_callB call_len_seq (by rfl) T.b_len PySem.boot_len (pa_cons (pv 0) pa_nil)) (pv 2))))), ?_⟩
    refine ⟨_, rfl, _, _, _, _, true, rfl, .ty "tuple", .base (.tup hp), kit_ty (by decide +kernel), true, rfl, iteT ?_⟩
    refine ⟨_, rfl, _, rfl, p, xs, rfl, .inr (.of hp), _, _, rfl, rfl, _, rfl, ?_⟩
    rw [decide_eq_true h1]
    refine iteT ⟨_, rfl, _, _, rfl, rfl, ?_⟩
    show Q (V.bl (decide ((xs.length : Int) ≤ b))) H
    rw [decide_eq_true h2]
    exact q
def spCell : Sp := fun vs H Q _ => ∃ (p : Addr) (r c : Int), vs = [.ref p] ∧ H p = some (.tup [.int r, .int c]) ∧ -60 ≤ r ∧ r ≤ 60 ∧ -60 ≤ c ∧ c ≤ 60 ∧ Q (.bl true) H
theorem sc_cell : FnScope ["value"] ["value"] (defScope (tp 13)) := ⟨rfl, rfl, rfl, by decide +kernel, rfl, by decide +kernel, by decide +kernel⟩
theorem ok_cell (T : Txt K mg) : Cl P w K mg base 3 "is_cell" ["value"] spCell := by
  refine cl_mk T.is_cell sc_cell (fun vs H Q E h => ?_) (fun _ _ _ _ _ _ us hl => match us, hl with | [_], _ => rfl) fun f cdv A outer s H vs Q E hr h => ?_
  · obtain ⟨p, r, c, rfl, _⟩ := h; rfl
  · obtain ⟨p, r, c, rfl, hp, h1, h2, h3, h4, q⟩ := h
    refine ⟨_, pss_one (ps_ret (pe_and (pe_cl (ok_list T) hr (pa_cons (pv 0) (pa_cons pe_int (pa_cons pe_int pa_nil))))
      (pe_and (pe_cl (ok_in T) hr (pa_cons (pe_ix ix_tup (pv 0) pe_int (fun _ _ => rfl)) (pa_cons (pe_un un_neg (pe_gl T.MOST)) (pa_cons (pe_gl T.MOST) pa_nil))))
        (pe_one (pe_cl (ok_in T) hr (pa_cons (pe_ix ix_tup (pv 0) pe_int (fun _ _ => rfl)) (pa_cons (pe_un un_neg (pe_gl T.MOST)) (pa_cons (pe_gl T.MOST) pa_nil)))))))), ?_⟩
    refine ⟨_, rfl, p, _, 2, 2, rfl, hp, by simp, by simp, true, rfl, iteT ?_⟩
    refine ⟨_, rfl, p, _, _, _, rfl, rfl, .of hp, rfl, _, rfl, r, -60, 60, rfl, h1, h2, true, rfl, iteT ?_⟩
    exact ⟨_, rfl, p, _, _, _, rfl, rfl, .of hp, rfl, _, rfl, c, -60, 60, rfl, h3, h4, q⟩
end
end K53

-- part K53W1
set_option maxRecDepth 100000
set_option maxHeartbeats 4000000
namespace K53
open PySem PySem.Spec PyProof.Rows L2 Evl
theorem inF_mono {h w h2 w2 : Nat} {l : Ink} (f : InF h w l) (a : h ≤ h2) (b : w ≤ w2) : InF h2 w2 l := ⟨f.asc, fun c hc => ⟨Nat.lt_of_lt_of_le (f.fr c hc).1 a, Nat.lt_of_lt_of_le (f.fr c hc).2 b⟩⟩
/-- a strictly ascending list of numbers below n has at most n items -/
theorem asc_len : ∀ (l : List Nat) (lo n : Nat), l.Pairwise (· < ·) → (∀ x, x ∈ l → lo ≤ x ∧ x < n) → lo + l.length ≤ n ∨ l = []
  | [], _, _, _, _ => .inr rfl
  | x :: l, lo, n, hp, hb => by
    left
    obtain ⟨h1, h2⟩ := List.pairwise_cons.mp hp
    have b := hb x (by simp)
    rcases asc_len l (x + 1) n h2 (fun y hy => ⟨h1 y hy, (hb y (by simp [hy])).2⟩) with h | h
    · simp; omega
    · subst h; simp; omega
theorem inF_len {h w : Nat} {l : Ink} (f : InF h w l) : l.length ≤ h * w := by
  have key := asc_len (l.map fun c => c.1 * w + c.2) 0 (h * w) ?_ ?_
  · rcases key with k | k
    · simpa using k
    · have : l = [] := by simpa using k
      subst this; exact Nat.zero_le _
  · rw [List.pairwise_map]
    have hp : l.Pairwise fun a b => clt a b ∧ (a.2 < w ∧ b.2 < w) := by
      have q : l.Pairwise fun a b => a ∈ l ∧ b ∈ l := List.pairwise_iff_forall_sublist.mpr fun {a b} h => by
        have := h.subset
        exact ⟨this (by simp), this (by simp)⟩
      exact (f.asc.and q).imp fun {a b} hh => ⟨hh.1, (f.fr a hh.2.1).2, (f.fr b hh.2.2).2⟩
    refine hp.imp fun {a b} hh => ?_
    obtain ⟨h1, h2, h3⟩ := hh
    unfold clt at h1
    rcases h1 with h1 | ⟨h1, h4⟩
    · have : (a.1 + 1) * w ≤ b.1 * w := Nat.mul_le_mul_right w h1
      rw [Nat.succ_mul] at this
      omega
    · rw [h1]; omega
  · intro x hx
    obtain ⟨c, hc, rfl⟩ := List.mem_map.mp hx
    have b := f.fr c hc
    have : (c.1 + 1) * w ≤ h * w := Nat.mul_le_mul_right w b.1
    rw [Nat.succ_mul] at this
    exact ⟨Nat.zero_le _, by omega⟩
theorem ex_pair {H H1 : Hp} (x : Ex H H1) {T : Addr} {o : HO} (hT : H1 T = none) : Ex H (upd H1 T o) := x.trans (Ex.new hT)
theorem lexLe2 (a b c d : Int) : Ob.lexAt (fun j => decide (([a, b] : List Int).getD j 0 = ([c, d] : List Int).getD j 0)) (fun j => decide (([a, b] : List Int).getD j 0 ≤ ([c, d] : List Int).getD j 0)) (decide (([a, b] : List Int).length ≤ ([c, d] : List Int).length)) 0 (min ([a, b] : List Int).length ([c, d] : List Int).length) = decide (a < c ∨ (a = c ∧ b ≤ d)) := by
  show (if decide (a = c) = true then (if decide (b = d) = true then true else decide (b ≤ d)) else decide (a ≤ c)) = _
  by_cases h1 : a = c
  · subst h1
    by_cases h2 : b = d
    · subst h2; simp
    · simp [h2]
  · have : decide (a ≤ c) = decide (a < c ∨ a = c ∧ b ≤ d) := decide_eq_decide.mpr ⟨fun h => .inl (by omega), fun h => by omega⟩
    simp [h1, this]
section
variable {mg : Str → Option Value} {P : Program} {K : PySem.W.Frag} {w : World} {base : Heap}
def spNeedInk : Sp := fun vs H Q _ => ∃ (v : V) (l : Ink), vs = [v] ∧ Tp H v (eInk l) ∧ InF 12 12 l ∧ ∀ H', Ex H H' → Q .non H'
theorem sc_need_ink : FnScope ["value", "index", "cell"] ["value"] (defScope (tp 14)) := ⟨rfl, rfl, rfl, by decide +kernel, rfl, by decide +kernel, by decide +kernel⟩
theorem ok_need_ink (T : Txt K mg) : Cl P w K mg base 4 "need_ink" ["value"] spNeedInk := by
  refine cl_mk T.need_ink sc_need_ink (fun vs H Q E h => ?_) (fun _ _ _ _ _ _ us hl => match us, hl with | [_], _ => rfl) fun f cdv A outer s H vs Q E hr h => ?_
  · obtain ⟨v, l, rfl, _⟩ := h; rfl
  · obtain ⟨v, l, rfl, tl, fl, q⟩ := h
    obtain ⟨a, xs, rfl, ha, hx⟩ := tp_tup tl
    have hlen : xs.length ≤ 144 := by rw [hx.length, List.length_map]; exact inF_len fl
    refine ⟨_, pss_cons (ps_if (pt_not (pt_val (pe_cl (ok_list T) hr (pa_cons (pv 0) (pa_cons pe_int (pa_cons (pe_gl T.MOST_CELLS) pa_nil)))))) (pss_one ps_never) pss_nil)
      (pss_one (ps_for PassesOwn.never rfl (pi_enumT (by rfl) T.b_enumerate (pa_cons (pv 0) pa_nil)) (pg_tup rfl (pgs_cons (pg_name (i := 1) sc_need_ink.nd rfl (.inl rfl)) (pgs_cons (pg_name (i := 2) sc_need_ink.nd rfl (.inl rfl)) pgs_nil)))
        (pss_one (ps_if (PW.pt (pw_or (pt_not (pt_val (pe_cl (ok_cell T) hr (pa_cons (pv 2) pa_nil)))) (pw_or1 (PW.pt (pw_and (pt_cmpR op_gt (pv 1) pe_int (nomark _)) (pw_and1 (pt_cmpR (op_leT hr.units0) (pv 2) (pe_ix ix_tup (pv 0) (pe_op op_sub (pv 1) pe_int) (fun _ _ => rfl)) (nomark _))))))))
          (pss_one ps_never) pss_nil)))), ?_⟩
    refine ⟨_, rfl, a, xs, 0, 400, rfl, ha, by omega, by omega, true, rfl, iteF ?_⟩
    refine ⟨_, rfl, a, xs, rfl, .of ha, for_enumT (xs := xs) (fun i σ H' => Ex H H' ∧ ∃ o1 o2, σ = [some (.ref a), o1, o2]) ⟨Ex.refl H, _, _, rfl⟩ (fun i σ H' _ h => h.1 a _ ha) ?_ ?_⟩
    · rintro i x t σ H' hi ⟨e', o1, o2, rfl⟩ hT
      obtain ⟨d, hd, td⟩ := hx.get hi
      rw [List.getElem?_map, Option.map_eq_some_iff] at hd
      obtain ⟨c, hc, rfl⟩ := hd
      obtain ⟨b, rfl, hb⟩ := tp_cell td
      have cb := fl.fr c (List.mem_of_getElem? hc)
      have e2 : Ex H (upd H' t (.tup [.int (i : Nat), .ref b])) := ex_pair e' hT
      have hb2 := e2 b _ hb
      refine ⟨t, _, rfl, .of upd_same, rfl, .int (i : Nat), [.ref b], rfl, .ref b, [], rfl, rfl, ?_⟩
      refine ⟨_, rfl, b, (c.1 : Int), (c.2 : Int), rfl, hb2, by omega, by omega, by omega, by omega, true, rfl, iteF ?_⟩
      refine ⟨_, rfl, _, _, rfl, rfl, _, rfl, ?_⟩
      by_cases h0 : i = 0
      · subst h0
        have e0 : decide ((0 : Int) < ((0 : Nat) : Int)) = false := by decide
        show (if decide ((0 : Int) < ((0 : Nat) : Int)) = true then _ else _)
        rw [e0]
        exact iteF (iteF ⟨e2, _, _, rfl⟩)
      · have e0 : decide ((0 : Int) < (i : Int)) = true := decide_eq_true (by omega)
        show (if decide ((0 : Int) < ((i : Nat) : Int)) = true then _ else _)
        rw [e0]
        refine iteT ?_
        obtain ⟨j, rfl⟩ : ∃ j, i = j + 1 := ⟨i - 1, by omega⟩
        have hj : j < l.length := by have := (List.getElem?_eq_some_iff.mp hc).1; omega
        obtain ⟨u, hu, tu⟩ := hx.getD (i := j) (d := eC l[j]) (by rw [List.getElem?_map, List.getElem?_eq_getElem hj]; rfl)
        obtain ⟨b2, rfl, hb3⟩ := tp_cell tu
        have ej : ((j + 1 : Nat) : Int) - 1 = ((j : Nat) : Int) := by omega
        refine ⟨_, rfl, _, rfl, _, rfl, _, _, rfl, rfl, a, xs, ((j + 1 : Nat) : Int) - 1, .ref b2, rfl, rfl, .of (e2 a _ ha), by rw [ej]; exact atI_nat hu, ?_⟩
        refine ⟨b, b2, [(c.1 : Int), (c.2 : Int)], [(l[j].1 : Int), (l[j].2 : Int)], rfl, rfl, .of hb2, .of (e2 b2 _ hb3), _, rfl, ?_⟩
        have lt : clt l[j] c := by
          have hc2 := (List.getElem?_eq_some_iff.mp hc).2
          rw [← hc2]
          exact List.pairwise_iff_getElem.mp fl.asc j (j + 1) hj (List.getElem?_eq_some_iff.mp hc).1 (Nat.lt_succ_self j)
        have e3 : decide ((c.1 : Int) < (l[j].1 : Int) ∨ ((c.1 : Int) = (l[j].1 : Int) ∧ (c.2 : Int) ≤ (l[j].2 : Int))) = false := decide_eq_false (by unfold clt at lt; omega)
        rw [lexLe2, e3]
        exact iteF ⟨e2, _, _, rfl⟩
    · rintro σ H' ⟨e', _⟩
      exact q H' e'
end
end K53

-- part K53W2
set_option maxRecDepth 100000
set_option maxHeartbeats 4000000
namespace K53
open PySem PySem.Spec PyProof.Rows L2 Evl
theorem map_range_set {α : Type} {n j : Nat} {f g : Nat → α} (hj : g j = g j) (h : ∀ i, i < n → i ≠ j → g i = f i) : ((List.range n).map f).set j (g j) = (List.range n).map g := by
  apply List.ext_getElem
  · simp
  · intro i h1 h2
    have hi : i < n := by simpa using h2
    rw [List.getElem_set]
    split
    · rename_i e; subst e; simp
    · rename_i e; simp [h i hi (fun q => e q.symm)]
theorem rowS_snoc (l : Ink) (c : Cell) (r : Nat) : rowS (l ++ [c]) r = rowS l r + (if c.1 = r then 1 else 0) := by
  unfold rowS; rw [List.countP_append, List.countP_singleton]; simp
theorem colS_snoc (l : Ink) (c : Cell) (r : Nat) : colS (l ++ [c]) r = colS l r + (if c.2 = r then 1 else 0) := by
  unfold colS; rw [List.countP_append, List.countP_singleton]; simp
theorem take_snoc {α : Type} {l : List α} {i : Nat} {c : α} (h : l[i]? = some c) : l.take (i + 1) = l.take i ++ [c] := by
  have hi := (List.getElem?_eq_some_iff.mp h).1
  rw [List.take_succ_eq_append_getElem hi, (List.getElem?_eq_some_iff.mp h).2]
section
variable {mg : Str → Option Value} {P : Program} {K : PySem.W.Frag} {w : World} {base : Heap}
def spNeedSums : Sp := fun vs H Q _ => ∃ (v : V) (l : List Nat), vs = [v, .int 12] ∧ Tp H v (eNs l) ∧ 1 ≤ l.length ∧ l.length ≤ 12 ∧ (∀ n, n ∈ l → n ≤ 12) ∧ ∀ H', Ex H H' → Q .non H'
theorem sc_need_sums : FnScope ["sums", "most", "index", "one"] ["sums", "most"] (defScope (tp 18)) := ⟨rfl, rfl, rfl, by decide +kernel, rfl, by decide +kernel, by decide +kernel⟩
theorem ok_need_sums (T : Txt K mg) : Cl P w K mg base 3 "need_sums" ["sums", "most"] spNeedSums := by
  refine cl_mk T.need_sums sc_need_sums (fun vs H Q E h => ?_) (fun _ _ _ _ _ _ us hl => match us, hl with | [_, _], _ => rfl) fun f cdv A outer s H vs Q E hr h => ?_
  · obtain ⟨v, l, rfl, _⟩ := h; rfl
  · obtain ⟨v, l, rfl, tl, l1, l2, lb, q⟩ := h
    obtain ⟨a, xs, rfl, ha, hx⟩ := tp_tup tl
    have hlen : xs.length = l.length := by rw [hx.length, List.length_map]
    refine ⟨_, pss_cons (ps_if (pt_not (pt_val (pe_cl (ok_list T) hr (pa_cons (pv 0) (pa_cons pe_int (pa_cons (pe_gl T.MOST_SIDE) pa_nil)))))) (pss_one ps_never) pss_nil)
      (pss_one (ps_for PassesOwn.never rfl (pi_enumT (by rfl) T.b_enumerate (pa_cons (pv 0) pa_nil)) (pg_tup rfl (pgs_cons (pg_name (i := 2) sc_need_sums.nd rfl (.inl rfl)) (pgs_cons (pg_name (i := 3) sc_need_sums.nd rfl (.inl rfl)) pgs_nil)))
        (pss_one (ps_if (pt_not (pt_val (pe_cl (ok_in T) hr (pa_cons (pv 3) (pa_cons pe_int (pa_cons (pv 1) pa_nil)))))) (pss_one ps_never) pss_nil)))), ?_⟩
    refine ⟨_, rfl, a, xs, 1, 12, rfl, ha, by omega, by omega, true, rfl, iteF ?_⟩
    refine ⟨_, rfl, a, xs, rfl, .of ha, for_enumT (xs := xs) (fun i σ H' => Ex H H' ∧ ∃ o1 o2, σ = [some (.ref a), some (.int 12), o1, o2]) ⟨Ex.refl H, _, _, rfl⟩ (fun i σ H' _ h => h.1 a _ ha) ?_ ?_⟩
    · rintro i x t σ H' hi ⟨e', o1, o2, rfl⟩ hT
      obtain ⟨d, hd, td⟩ := hx.get hi
      rw [List.getElem?_map, Option.map_eq_some_iff] at hd
      obtain ⟨c, hc, rfl⟩ := hd
      cases td
      have cb := lb c (List.mem_of_getElem? hc)
      refine ⟨t, _, rfl, .of upd_same, rfl, .int (i : Nat), _, rfl, _, [], rfl, rfl, ?_⟩
      exact ⟨_, rfl, _, rfl, (c : Int), 0, 12, rfl, by omega, by omega, true, rfl, iteF ⟨ex_pair e' hT, _, _, rfl⟩⟩
    · rintro σ H' ⟨e', _⟩
      exact q H' e'
def spNeedBoth : Sp := fun vs H Q _ => ∃ (v u : V) (l m : List Nat), vs = [v, u] ∧ Tp H v (eNs l) ∧ Tp H u (eNs m) ∧ 1 ≤ l.length ∧ l.length ≤ 12 ∧ (∀ n, n ∈ l → n ≤ 12) ∧ 1 ≤ m.length ∧ m.length ≤ 12 ∧ (∀ n, n ∈ m → n ≤ 12) ∧ ∀ H', Ex H H' → Q .non H'
theorem sc_need_both : FnScope ["rows", "columns"] ["rows", "columns"] (defScope (tp 19)) := ⟨rfl, rfl, rfl, by decide +kernel, rfl, by decide +kernel, by decide +kernel⟩
theorem ok_need_both (T : Txt K mg) : Cl P w K mg base 4 "need_both" ["rows", "columns"] spNeedBoth := by
  refine cl_mk T.need_both sc_need_both (fun vs H Q E h => ?_) (fun _ _ _ _ _ _ us hl => match us, hl with | [_, _], _ => rfl) fun f cdv A outer s H vs Q E hr h => ?_
  · obtain ⟨v, u, l, m, rfl, _⟩ := h; rfl
  · obtain ⟨v, u, l, m, rfl, tl, tm, l1, l2, l3, m1, m2, m3, q⟩ := h
    refine ⟨_, pss_cons (ps_expr (pe_cl (ok_need_sums T) hr (pa_cons (pv 0) (pa_cons (pe_gl T.MOST_SIDE) pa_nil)))) (pss_one (ps_expr (pe_cl (ok_need_sums T) hr (pa_cons (pv 1) (pa_cons (pe_gl T.MOST_SIDE) pa_nil))))), ?_⟩
    refine ⟨_, rfl, v, l, rfl, tl, l1, l2, l3, fun H1 e1 => ?_⟩
    exact ⟨_, rfl, u, m, rfl, tm.mono (.of e1), m1, m2, m3, fun H2 e2 => q H2 (e1.trans e2)⟩
def spNeedFrame : Sp := fun vs H Q _ => ∃ (v : V) (l : Ink) (h w : Nat), vs = [v, .int (h : Int), .int (w : Int)] ∧ Tp H v (eInk l) ∧ InF h w l ∧ 1 ≤ h ∧ h ≤ 12 ∧ 1 ≤ w ∧ w ≤ 12 ∧ ∀ H', Ex H H' → Q .non H'
theorem sc_need_frame : FnScope ["ink", "high", "wide", "side", "index", "row", "column"] ["ink", "high", "wide"] (defScope (tp 20)) := ⟨rfl, rfl, rfl, by decide +kernel, rfl, by decide +kernel, by decide +kernel⟩
theorem ok_need_frame (T : Txt K mg) : Cl P w K mg base 5 "need_frame" ["ink", "high", "wide"] spNeedFrame := by
  refine cl_mk T.need_frame sc_need_frame (fun vs H Q E h => ?_) (fun _ _ _ _ _ _ us hl => match us, hl with | [_, _, _], _ => rfl) fun f cdv A outer s H vs Q E hr h => ?_
  · obtain ⟨v, l, h, w, rfl, _⟩ := h; rfl
  · obtain ⟨v, l, h, w, rfl, tl, fl, h1, h2, w1, w2, q⟩ := h
    refine ⟨_, pss_cons (ps_expr (pe_cl (ok_need_ink T) hr (pa_cons (pv 0) pa_nil)))
      (pss_cons (ps_for PassesOwn.never rfl (pi_tup (pe_tup (pa_cons (pv 1) (pa_cons (pv 2) pa_nil)))) (pg_name (i := 3) sc_need_frame.nd rfl (.inl rfl))
        (pss_one (ps_if (pt_not (pt_val (pe_cl (ok_in T) hr (pa_cons (pv 3) (pa_cons pe_int (pa_cons (pe_gl T.MOST_SIDE) pa_nil)))))) (pss_one ps_never) pss_nil)))
      (pss_one (ps_for PassesOwn.never rfl (pi_enumT (by rfl) T.b_enumerate (pa_cons (pv 0) pa_nil)) (pg_tup rfl (pgs_cons (pg_name (i := 4) sc_need_frame.nd rfl (.inl rfl)) (pgs_cons (pg_tup rfl (pgs_cons (pg_name (i := 5) sc_need_frame.nd rfl (.inl rfl)) (pgs_cons (pg_name (i := 6) sc_need_frame.nd rfl (.inl rfl)) pgs_nil))) pgs_nil)))
        (pss_one (ps_if (PW.pt (pw_or (pt_not (pt_chain op_le op_lt pe_int (pv 5) (pv 1))) (pw_or1 (pt_not (pt_chain op_le op_lt pe_int (pv 6) (pv 2)))))) (pss_one ps_never) pss_nil))))), ?_⟩
    refine ⟨_, rfl, v, l, rfl, tl, inF_mono fl h2 w2, fun H1 e1 => ?_⟩
    refine ⟨_, rfl, _, rfl, (by show 2 ≤ sizeLine; decide), fun p hp => ?_⟩
    refine ⟨p, rfl, ⟨_, .of upd_same⟩, for_tup (xs := [.int (h : Int), .int (w : Int)]) (fun i σ H' => Ex (upd H1 p (.tup [.int (h : Int), .int (w : Int)])) H' ∧ ∃ o1, σ = [some v, some (.int (h : Int)), some (.int (w : Int)), o1, none, none, none]) ⟨Ex.refl _, _, rfl⟩ (fun i σ H' _ z => .of (z.1 p _ upd_same)) ?_ ?_⟩
    · rintro i x σ H' hi ⟨e', o1, rfl⟩
      have hx : ∃ n : Nat, x = .int (n : Int) ∧ 1 ≤ n ∧ n ≤ 12 := by
        match i, hi with
        | 0, hi => exact ⟨h, (Option.some.inj hi).symm, h1, h2⟩
        | 1, hi => exact ⟨w, (Option.some.inj hi).symm, w1, w2⟩
        | i + 2, hi => simp at hi
      obtain ⟨n, rfl, n1, n2⟩ := hx
      exact ⟨_, rfl, (n : Int), 1, 12, rfl, by omega, by omega, true, rfl, iteF ⟨e', _, rfl⟩⟩
    · rintro σ H2 ⟨e2, o1, rfl⟩
      have e3 : Ex H H2 := (e1.trans (Ex.new hp)).trans e2
      obtain ⟨a, xs, rfl, ha, hx⟩ := tp_tup (tl.mono (.of e3))
      refine ⟨_, rfl, a, xs, rfl, .of ha, for_enumT (xs := xs) (fun i σ H' => Ex H2 H' ∧ ∃ o3 o4 o5, σ = [some (.ref a), some (.int (h : Int)), some (.int (w : Int)), o1, o3, o4, o5]) ⟨Ex.refl H2, _, _, _, rfl⟩ (fun i σ H' _ z => z.1 a _ ha) ?_ ?_⟩
      · rintro i x t σ H' hi ⟨e', o3, o4, o5, rfl⟩ hT
        obtain ⟨d, hd, td⟩ := hx.get hi
        rw [List.getElem?_map, Option.map_eq_some_iff] at hd
        obtain ⟨c, hc, rfl⟩ := hd
        obtain ⟨b, rfl, hb⟩ := tp_cell td
        have cb := fl.fr c (List.mem_of_getElem? hc)
        have e4 : Ex H2 (upd H' t (.tup [.int (i : Nat), .ref b])) := ex_pair e' hT
        refine ⟨t, _, rfl, .of upd_same, rfl, .int (i : Nat), [.ref b], rfl, .ref b, [], rfl, ⟨b, _, rfl, .of (e4 b _ hb), rfl, _, _, rfl, _, _, rfl, rfl, ?_⟩⟩
        refine ⟨rfl, ?_⟩
        have b1 : decide ((0 : Int) ≤ (c.1 : Int)) = true := decide_eq_true (by omega)
        have b2 : decide ((c.1 : Int) < (h : Int)) = true := decide_eq_true (by omega)
        have b3 : decide ((0 : Int) ≤ (c.2 : Int)) = true := decide_eq_true (by omega)
        have b4 : decide ((c.2 : Int) < (w : Int)) = true := decide_eq_true (by omega)
        refine ⟨_, rfl, _, _, rfl, rfl, _, rfl, ?_⟩
        rw [b1]
        refine iteT ⟨_, rfl, _, _, rfl, rfl, _, rfl, ?_⟩
        show (if (!decide ((c.1 : Int) < (h : Int))) = true then _ else _)
        rw [b2]
        refine iteF ⟨_, rfl, _, _, rfl, rfl, _, rfl, ?_⟩
        rw [b3]
        refine iteT ⟨_, rfl, _, _, rfl, rfl, _, rfl, ?_⟩
        show (if (!decide ((c.2 : Int) < (w : Int))) = true then _ else _)
        rw [b4]
        exact iteF ⟨e4, _, _, _, rfl⟩
      · rintro σ H' ⟨e', _⟩
        exact q H' (e3.trans e')
end
end K53

-- part K53W3
set_option maxRecDepth 100000
set_option maxHeartbeats 4000000
namespace K53
open PySem PySem.Spec PyProof.Rows L2 Evl
section
variable {mg : Str → Option Value} {P : Program} {K : PySem.W.Frag} {w : World} {base : Heap}
/-! ### only_in -/
def spOnly : Sp := fun vs H Q _ => ∃ (v u : V) (l m : Ink) (row : Nat), vs = [v, u, .int (row : Int)] ∧ Tp H v (eInk l) ∧ Tp H u (eInk m) ∧ l.length ≤ 144 ∧
  ∀ p xs H', H p = none → Ex H H' → H' p = some (.lst xs) → TpA H' xs ((onlyM l m row).map eN) → Q (.ref p) H'
theorem sc_only : FnScope ["one", "other", "row", "place", "column"] ["one", "other", "row"] (defScope (tp 33)) := ⟨rfl, rfl, rfl, by decide +kernel, rfl, by decide +kernel, by decide +kernel⟩
theorem cell_ev {σ : L2.St} {H : Hp} {ta tb : TE} {r c : Nat} (ha : Ev ta σ H (.int (r : Int))) (hb : Ev tb σ H (.int (c : Int))) : EvD (tTup (tCons ta (tCons tb tNil))) σ H (eC (r, c)) :=
  evd_tup (ead_cons (evd_int ha) (ead_cons (evd_int hb) ead_nil)) (by show 2 ≤ 100000; decide)
theorem inInk {l : Ink} {c : Cell} : decide (c ∈ l) = true ↔ eC c ∈ l.map eC := by rw [decide_eq_true_iff, mem_map_inj fun a b => eC_inj]
theorem depthInk (l : Ink) : (PyData.tuple (l.map eC)).depth ≤ 64 := Nat.le_trans (eInk_depth l) (by decide)
theorem depthLst {α : Type} {f : α → PyData} (h : ∀ a, (f a).depth ≤ 3) (l : List α) : (PyData.list (l.map f)).depth ≤ 64 := by
  have := depthA_map h l
  simp only [PyData.depth]; omega
theorem ok_only (T : Txt K mg) : Cl P w K mg base 1 "only_in" ["one", "other", "row"] spOnly := by
  refine cl_mk T.only_in sc_only (fun vs H Q E h => ?_) (fun _ _ _ _ _ _ us hl => match us, hl with | [_, _, _], _ => rfl) fun f cdv A outer s H vs Q E hr h => ?_
  · obtain ⟨v, u, l, m, row, rfl, _⟩ := h; rfl
  · obtain ⟨v, u, l, m, row, rfl, tl, tm, hz, q⟩ := h
    refine ⟨_, pss_one (ps_ret (pe_lc (g := gTup K 2 (gCons (gName 3) (gCons (gName 4) gNil))) (tt := tAnd (tTest (tOp rEq (tVar 3) (tVar 2))) (tTest (tOp (rNotInT K) (tTup (tCons (tVar 2) (tCons (tVar 4) tNil))) (tVar 1)))) (te := tVar 4) (own := [("place", 3), ("column", 4)]) rfl sc_only.nd (pi_tup (pv 0)) (blkOk_by (N := ["one", "other", "row", "place", "column"]) (sc := defScope (tp 33)) (by decide +kernel))
      (fun _ _ _ _ _ => by exact pg_tup rfl (pgs_cons (pg_name (i := 3) sc_only.nd rfl (.inl rfl)) (pgs_cons (pg_name (i := 4) sc_only.nd rfl (.inl rfl)) pgs_nil)))
      (fun _ _ _ _ _ => by exact pts_one (PW.pt (pw_and (pt_cmpR op_eq (pv 3) (pv 2) (nomark _)) (pw_and1 (pt_cmpR (op_notInT (hu65 hr)) (pe_tup (pa_cons (pv 2) (pa_cons (pv 4) pa_nil))) (pv 1) (by rfl))))))
      (fun _ _ _ _ _ => by exact pv 4))), ?_⟩
    have key : EvM (tLc (iTup K (tVar 0)) (gTup K 2 (gCons (gName 3) (gCons (gName 4) gNil))) (tAnd (tTest (tOp rEq (tVar 3) (tVar 2))) (tTest (tOp (rNotInT K) (tTup (tCons (tVar 2) (tCons (tVar 4) tNil))) (tVar 1)))) (tVar 4) [3, 4]) (start ["one", "other", "row", "place", "column"] [v, u, .int (row : Int)]) H
        ((l.filter fun p => p.1 == row && !decide ((row, p.2) ∈ m)).map fun p => eN p.2) := by
      refine evm_lcT (enc := eC) (evd_var rfl tl) (by omega) fun c cv H1 hc x tc => ?_
      obtain ⟨b, rfl, hb⟩ := tp_cell tc
      refine ⟨[some v, some u, some (.int (row : Int)), some (.int (c.1 : Int)), some (.int (c.2 : Int))], rfl, fun Q h => ⟨b, _, rfl, .of hb, rfl, _, _, rfl, _, _, rfl, rfl, h⟩, ?_, fun _ => evd_var rfl (.int _)⟩
      refine et_and (et_is (et_test (ev_op (ev_var rfl) (ev_var rfl) (rv_eq rfl))) ?_) fun _ => et_test (ev_niT (cell_ev (ev_var rfl) (ev_var rfl)) (evd_var rfl (tm.mono (.of x))) (eC_pure _) (pureA_map eC_pure m) (by rw [eC_depth]; decide) (depthInk m) inInk)
      by_cases e : c.1 = row
      · rw [e]; simp
      · rw [decide_eq_false (by intro z; injection z with z; omega)]
        exact (beq_eq_false_iff_ne.mpr e).symm
    have e2 : (onlyM l m row).map eN = (l.filter fun p => p.1 == row && !decide ((row, p.2) ∈ m)).map fun p => eN p.2 := by unfold onlyM; rw [List.map_map]; rfl
    rw [e2] at q
    exact key H (Ex.refl H) _ q
/-! ### rectangle -/
theorem rect_first {l : Ink} {row a b high o : Nat} (h1 : row < o) (h2 : o < high) (ha : has l o a = false) (hb : has l o b = true) (hn : ∀ k, row < k → k < o → ¬ (has l k a = false ∧ has l k b = true)) : rectM l row a b high = some (row, min a b, o, max a b) := by
  unfold rectM
  rw [Option.map_eq_some_iff]
  refine ⟨o, ?_, rfl⟩
  rw [List.find?_eq_some_iff_append]
  refine ⟨by simp [ha, hb], List.range' (row + 1) (o - (row + 1)), List.range' (o + 1) (high - (o + 1)), ?_, fun k hk => ?_⟩
  · have e1 : high - (row + 1) = (o - (row + 1)) + (1 + (high - (o + 1))) := by omega
    rw [e1, ← List.range'_append_1, ← List.range'_append_1]
    have e2 : row + 1 + (o - (row + 1)) = o := by omega
    rw [e2]
    rfl
  · rw [List.mem_range'_1] at hk
    have := hn k (by omega) (by omega)
    cases x : has l k a <;> cases y : has l k b <;> simp [x, y] at this ⊢
theorem rect_no {l : Ink} {row a b high : Nat} (hn : ∀ k, row < k → k < high → ¬ (has l k a = false ∧ has l k b = true)) : rectM l row a b high = none := by
  unfold rectM
  rw [Option.map_eq_none_iff, List.find?_eq_none]
  intro k hk
  rw [List.mem_range'_1] at hk
  have := hn k (by omega) (by omega)
  simpa using this
def spRect : Sp := fun vs H Q _ => ∃ (v : V) (l : Ink) (row a b high : Nat), vs = [v, .int (row : Int), .int (a : Int), .int (b : Int), .int (high : Int)] ∧ Tp H v (eInk l) ∧ row < high ∧ high ≤ 12 ∧
  (rectM l row a b high = none → ∀ H', Ex H H' → Q .non H') ∧ (∀ s, rectM l row a b high = some s → ∀ v H', Ex H H' → Tp H' v (eSw s) → Q v H')
theorem sc_rect : FnScope ["ink", "row", "first", "second", "high", "other"] ["ink", "row", "first", "second", "high"] (defScope (tp 34)) := ⟨rfl, rfl, rfl, by decide +kernel, rfl, by decide +kernel, by decide +kernel⟩
theorem ok_rect (T : Txt K mg) : Cl P w K mg base 1 "rectangle" ["ink", "row", "first", "second", "high"] spRect := by
  refine cl_mk T.rectangle sc_rect (fun vs H Q E h => ?_) (fun _ _ _ _ _ _ us hl => match us, hl with | [_, _, _, _, _], _ => rfl) fun f cdv A outer s H vs Q E hr h => ?_
  · obtain ⟨v, l, row, a, b, high, rfl, _⟩ := h; rfl
  · obtain ⟨v, l, row, a, b, high, rfl, tl, r1, r2, qn, qs⟩ := h
    refine ⟨_, pss_cons (ps_for PassesOwn.never rfl (pi_range2 (by rfl) T.b_range (pa_cons (pe_op op_add (pv 1) pe_int) (pa_cons (pv 4) pa_nil))) (pg_name (i := 5) sc_rect.nd rfl (.inl rfl))
      (pss_one (ps_if (PW.pt (pw_and (pt_cmpR (op_notInT (hu65 hr)) (pe_tup (pa_cons (pv 5) (pa_cons (pv 2) pa_nil))) (pv 0) (by rfl)) (pw_and1 (pt_cmpR (op_inT (hu65 hr)) (pe_tup (pa_cons (pv 5) (pa_cons (pv 3) pa_nil))) (pv 0) (by rfl)))))
        (pss_one (ps_ret (pe_tup (pa_cons (pv 1) (pa_cons (pe_callB (call_min2 rfl) (by rfl) T.b_min (by decide +kernel) (pa_cons (pv 2) (pa_cons (pv 3) pa_nil))) (pa_cons (pv 5) (pa_cons (pe_callB (call_max2 rfl) (by rfl) T.b_max (by decide +kernel) (pa_cons (pv 2) (pa_cons (pv 3) pa_nil))) pa_nil))))))) pss_nil)))
      (pss_one (ps_ret pe_non)), ?_⟩
    refine ⟨_, rfl, _, _, rfl, rfl, _, rfl, _, _, rfl, ⟨by omega, by omega, by omega, by omega⟩, ?_⟩
    have en : ((high : Int) - ((row : Int) + 1)).toNat = high - (row + 1) := by omega
    rw [en]
    refine for_range (lo := (row : Int) + 1) (n := high - (row + 1)) (fun i σ H' => Ex H H' ∧ (∃ o, σ = [some v, some (.int (row : Int)), some (.int (a : Int)), some (.int (b : Int)), some (.int (high : Int)), o]) ∧ ∀ k, row < k → k < row + 1 + i → ¬ (has l k a = false ∧ has l k b = true)) ⟨Ex.refl H, ⟨_, rfl⟩, fun k _ _ => by omega⟩ ?_ ?_
    · rintro i σ H' hi ⟨e', ⟨o, rfl⟩, hn⟩
      have eo : (row : Int) + 1 + (i : Int) = ((row + 1 + i : Nat) : Int) := by omega
      rw [eo]
      have tl' := tl.mono (.of e')
      have tst : EvT (tAnd (tTest (tOp (rNotInT K) (tTup (tCons (tVar 5) (tCons (tVar 2) tNil))) (tVar 0))) (tTest (tOp (rInT K) (tTup (tCons (tVar 5) (tCons (tVar 3) tNil))) (tVar 0)))) [some v, some (.int (row : Int)), some (.int (a : Int)), some (.int (b : Int)), some (.int (high : Int)), some (.int ((row + 1 + i : Nat) : Int))] H'
          (!decide ((row + 1 + i, a) ∈ l) && decide ((row + 1 + i, b) ∈ l)) :=
        et_and (et_test (ev_niT (cell_ev (ev_var rfl) (ev_var rfl)) (evd_var rfl tl') (eC_pure _) (pureA_map eC_pure l) (by rw [eC_depth]; decide) (depthInk l) inInk))
          fun _ => et_test (ev_inT (cell_ev (ev_var rfl) (ev_var rfl)) (evd_var rfl tl') (eC_pure _) (pureA_map eC_pure l) (by rw [eC_depth]; decide) (depthInk l) inInk)
      refine s_if tst (fun hb H1 x1 => ?_) fun hb H1 x1 => ?_
      · rw [Bool.and_eq_true] at hb
        have rs := rect_first (l := l) (row := row) (a := a) (b := b) (high := high) (o := row + 1 + i) (by omega) (by omega) (by unfold has; simpa using hb.1) (by unfold has; simpa using hb.2) fun k k1 k2 => hn k k1 k2
        refine s_retD (d := eSw (row, min a b, row + 1 + i, max a b)) (evd_tup (ead_cons (evd_int (ev_var rfl)) (ead_cons (evd_int (i := ((min a b : Nat) : Int)) ?_) (ead_cons (evd_int (ev_var rfl)) (ead_cons (evd_int (i := ((max a b : Nat) : Int)) ?_) ead_nil)))) (by show 4 ≤ 100000; decide)) fun u H2 x2 tu => qs _ rs u H2 ((e'.trans x1).trans x2) tu
        · refine ev_is (ev_cb (r := fun xs H Q => ∃ i j : Int, xs = [.int i, .int j] ∧ Q (.int (if j < i then j else i)) H) (ea_cons (ev_var rfl) (ea_cons (ev_var rfl) ea_nil)) fun H3 _ Q q => ⟨_, _, rfl, q H3 (Ex.refl H3)⟩) ?_
          congr 1
          omega
        · refine ev_is (ev_cb (r := fun xs H Q => ∃ i j : Int, xs = [.int i, .int j] ∧ Q (.int (if j > i then j else i)) H) (ea_cons (ev_var rfl) (ea_cons (ev_var rfl) ea_nil)) fun H3 _ Q q => ⟨_, _, rfl, q H3 (Ex.refl H3)⟩) ?_
          congr 1
          omega
      · refine ⟨e'.trans x1, ⟨_, rfl⟩, fun k k1 k2 => ?_⟩
        by_cases ek : k = row + 1 + i
        · subst ek
          rintro ⟨z1, z2⟩
          unfold has at z1 z2
          simp at z1 z2
          simp [z1, z2] at hb
        · exact hn k k1 (by omega)
    · rintro σ H' ⟨e', _, hn⟩
      exact qn (rect_no fun k k1 k2 => hn k k1 (by omega)) H' e'
/-! ### corners -/
def spCorners : Sp := fun vs H Q _ => ∃ (s : Sw), vs = [.int (s.1 : Int), .int (s.2.1 : Int), .int (s.2.2.1 : Int), .int (s.2.2.2 : Int)] ∧
  ∀ p xs H', H p = none → Ex H H' → H' p = some (.lst xs) → TpA H' xs ((cornersM s).map eC) → Q (.ref p) H'
theorem sc_corners : FnScope ["row", "column", "other", "more"] ["row", "column", "other", "more"] (defScope (tp 27)) := ⟨rfl, rfl, rfl, by decide +kernel, rfl, by decide +kernel, by decide +kernel⟩
theorem ok_corners (T : Txt K mg) : Cl P w K mg base 1 "corners" ["row", "column", "other", "more"] spCorners := by
  refine cl_mk T.corners sc_corners (fun vs H Q E h => ?_) (fun _ _ _ _ _ _ us hl => match us, hl with | [_, _, _, _], _ => rfl) fun f cdv A outer s H vs Q E hr h => ?_
  · obtain ⟨s, rfl, _⟩ := h; rfl
  · obtain ⟨s, rfl, q⟩ := h
    refine ⟨_, pss_one (ps_ret (pe_lst (pa_cons (pe_tup (pa_cons (pv 0) (pa_cons (pv 1) pa_nil))) (pa_cons (pe_tup (pa_cons (pv 0) (pa_cons (pv 3) pa_nil))) (pa_cons (pe_tup (pa_cons (pv 2) (pa_cons (pv 1) pa_nil))) (pa_cons (pe_tup (pa_cons (pv 2) (pa_cons (pv 3) pa_nil))) pa_nil)))))), ?_⟩
    exact s_retM (evm_lst (ead_cons (cell_ev (ev_var rfl) (ev_var rfl)) (ead_cons (cell_ev (ev_var rfl) (ev_var rfl)) (ead_cons (cell_ev (ev_var rfl) (ev_var rfl)) (ead_cons (cell_ev (ev_var rfl) (ev_var rfl)) ead_nil)))) (by show 4 ≤ 100000; decide)) q
end
end K53

-- part K53W4
set_option maxRecDepth 100000
set_option maxHeartbeats 4000000
namespace K53
open PySem PySem.Spec PyProof.Rows L2 Evl
def rowI (n : Nat) (f : Nat → Nat) : List V := (List.range n).map fun i => V.int (f i : Int)
theorem rowI_get {n : Nat} {f : Nat → Nat} {i : Nat} (h : i < n) : (rowI n f)[i]? = some (.int (f i : Int)) := by
  unfold rowI
  rw [List.getElem?_map, List.getElem?_range h]; rfl
theorem rowI_len {n : Nat} {f : Nat → Nat} : (rowI n f).length = n := by simp [rowI]
theorem rowI_set {n : Nat} {f g : Nat → Nat} {j : Nat} {v : V} (hv : v = .int (g j : Int)) (h : ∀ i, i < n → i ≠ j → g i = f i) : (rowI n f).set j v = rowI n g := by
  subst hv
  unfold rowI
  exact map_range_set (f := fun i => V.int (f i : Int)) (g := fun i => V.int (g i : Int)) rfl fun i hi hj => by show V.int _ = V.int _; rw [h i hi hj]
theorem rowI_tpa {H : Hp} (n : Nat) (f : Nat → Nat) : TpA H (rowI n f) (((List.range n).map f).map eN) := by
  unfold rowI
  have e : (List.range n).map (fun i => V.int (f i : Int)) = ((List.range n).map fun i => (f i : Int)).map V.int := by rw [List.map_map]; rfl
  have e2 : ((List.range n).map f).map eN = ((List.range n).map fun i => (f i : Int)).map PyData.int := by rw [List.map_map, List.map_map]; rfl
  rw [e, e2]
  exact TpA.of_ints _
def eSums (p : List Nat × List Nat) : PyData := .tuple [eNs p.1, eNs p.2]
theorem eSums_pure (p : List Nat × List Nat) : Pure (eSums p) = true := by
  show (Pure (eNs p.1) && (Pure (eNs p.2) && true)) = true
  rw [eNs_pure, eNs_pure]; rfl
theorem eSums_depth (p : List Nat × List Nat) : (eSums p).depth ≤ 2 := by
  have := eNs_depth p.1; have := eNs_depth p.2
  simp only [eSums, PyData.depth, PyData.depthAll]; omega
theorem eSums_inj {a b : List Nat × List Nat} (h : eSums a = eSums b) : a = b := by
  simp only [eSums, PyData.tuple.injEq, List.cons.injEq, and_true] at h
  exact Prod.ext (eNs_inj h.1) (eNs_inj h.2)
section
variable {mg : Str → Option Value} {P : Program} {K : PySem.W.Frag} {w : World} {base : Heap}
def spSumsIn : Sp := fun vs H Q _ => ∃ (v : V) (l : Ink) (h w : Nat), vs = [v, .int (h : Int), .int (w : Int)] ∧ Tp H v (eInk l) ∧ InF h w l ∧ h ≤ 12 ∧ w ≤ 12 ∧ ∀ v H', Ex H H' → Tp H' v (eSums (sumsM l h w)) → Q v H'
theorem sc_sums_in : FnScope ["ink", "high", "wide", "rows", "columns", "row", "column"] ["ink", "high", "wide"] (defScope (tp 21)) := ⟨rfl, rfl, rfl, by decide +kernel, rfl, by decide +kernel, by decide +kernel⟩
theorem rowI_zero {n : Nat} {f : Nat → Nat} (h : ∀ i, f i = 0) : (List.replicate ((n : Int)).toNat [V.int 0]).flatten = rowI n f := by
  have : ((n : Int)).toNat = n := by omega
  rw [this]
  unfold rowI
  induction n with
  | zero => rfl
  | succ n ih =>
    rw [List.range_succ, List.map_append, ← ih (by omega), List.replicate_succ', List.flatten_append, List.map_singleton, h n]
    rfl
theorem ok_sums_in (T : Txt K mg) : Cl P w K mg base 1 "sums_in" ["ink", "high", "wide"] spSumsIn := by
  refine cl_mk T.sums_in sc_sums_in (fun vs H Q E h => ?_) (fun _ _ _ _ _ _ us hl => match us, hl with | [_, _, _], _ => rfl) fun f cdv A outer s H vs Q E hr h => ?_
  · obtain ⟨v, l, h, w, rfl, _⟩ := h; rfl
  · obtain ⟨v, l, h, w, rfl, tl, fl, h2, w2, q⟩ := h
    obtain ⟨a, xs, rfl, ha, hx⟩ := tp_tup tl
    have hlen : xs.length = l.length := by rw [hx.length, List.length_map]
    refine ⟨_, pss_cons (ps_par (i := 3) (j := 4) (by rfl) sc_sums_in.nd rfl rfl (by decide) rfl rfl (pa_cons (pe_op op_rep (pe_lst (pa_cons pe_int pa_nil)) (pv 1)) (pa_cons (pe_op op_rep (pe_lst (pa_cons pe_int pa_nil)) (pv 2)) pa_nil)) (by rfl))
      (pss_cons (ps_for PassesOwn.never rfl (pi_tup (pv 0)) (pg_tup rfl (pgs_cons (pg_name (i := 5) sc_sums_in.nd rfl (.inl rfl)) (pgs_cons (pg_name (i := 6) sc_sums_in.nd rfl (.inl rfl)) pgs_nil)))
        (pss_cons (ps_augS (pv 3) (pv 5) get_list pe_int ip_add set_list) (pss_one (ps_augS (pv 4) (pv 6) get_list pe_int ip_add set_list))))
      (pss_one (ps_ret (pe_tup (pa_cons (pe_callTy call_tuple_of (by rfl) T.b_tuple (by decide +kernel) (pa_cons (pv 3) pa_nil)) (pa_cons (pe_callTy call_tuple_of (by rfl) T.b_tuple (by decide +kernel) (pa_cons (pv 4) pa_nil)) pa_nil)))))), ?_⟩
    refine ⟨(by show 1 ≤ sizeLine; decide), fun p0 hp0 => ⟨_, rfl, p0, (h : Int), [.int 0], rfl, rfl, upd_same, by omega, by omega, sz_of (by simp; omega), fun p hp => ?_⟩⟩
    refine ⟨(by show 1 ≤ sizeLine; decide), fun r0 hr0 => ⟨_, rfl, r0, (w : Int), [.int 0], rfl, rfl, upd_same, by omega, by omega, sz_of (by simp; omega), fun r hr => ⟨_, _, rfl, ?_⟩⟩⟩
    have z1 := rowI_zero (n := h) (f := fun i => rowS (l.take 0) i) (fun i => rfl)
    have z2 := rowI_zero (n := w) (f := fun i => colS (l.take 0) i) (fun i => rfl)
    rw [z1] at hr0
    rw [z1] at hr
    rw [z1, z2]
    have x1 : Ex H (upd H p0 (.lst [.int 0])) := Ex.new hp0
    have x2 := x1.trans (Ex.new (o := .lst (rowI h fun i => rowS (l.take 0) i)) hp)
    have x3 := x2.trans (Ex.new (o := .lst [.int 0]) hr0)
    have x4 := x3.trans (Ex.new (o := .lst (rowI w fun i => colS (l.take 0) i)) hr)
    have pn : H p = none := fresh_back x1 hp
    have rn : H r = none := fresh_back x3 hr
    have pr : p ≠ r := by
      rintro rfl
      have e1 := (Ex.new (o := .lst [.int 0]) hr0) p _ ((upd_same (H := upd H p0 (.lst [.int 0]))))
      rw [e1] at hr; cases hr
    refine ⟨_, rfl, a, rfl, ⟨xs, .of (x4 a _ ha)⟩, for_tup (xs := xs) (fun i σ H' => Ex H H' ∧ H' p = some (.lst (rowI h fun k => rowS (l.take i) k)) ∧ H' r = some (.lst (rowI w fun k => colS (l.take i) k)) ∧ ∃ o1 o2, σ = [some (.ref a), some (.int (h : Int)), some (.int (w : Int)), some (.ref p), some (.ref r), o1, o2]) ⟨x4, ?_, upd_same, _, _, rfl⟩ (fun i σ H' _ z => .of (z.1 a _ ha)) ?_ ?_⟩
    · exact (Ex.new hr) p _ ((Ex.new hr0) p _ upd_same)
    · rintro i x σ H' hi ⟨e', hp', hr', o1, o2, rfl⟩
      obtain ⟨c, hc, tc⟩ := hx.mapGet hi
      obtain ⟨b, rfl, hb⟩ := tp_cell tc
      have cb := fl.fr c (List.mem_of_getElem? hc)
      have ct := takeS hc
      refine ⟨b, _, rfl, .of (e' b _ hb), rfl, _, _, rfl, _, _, rfl, rfl, ?_⟩
      refine ⟨_, rfl, _, rfl, p, _, c.1, _, rfl, rfl, hp', rowI_get cb.1, _, _, rfl, rfl, p, _, _, c.1, rfl, rfl, hp', by rw [rowI_len]; exact ixN_nat cb.1, ?_⟩
      rw [rowI_set (g := fun k => rowS (l.take (i + 1)) k) (by rw [ct, rowS_snoc, if_pos rfl]; rfl) fun k _ hk => by rw [ct, rowS_snoc, if_neg (fun e => hk e.symm)]; rfl]
      have hr2 : upd H' p (.lst (rowI h fun k => rowS (l.take (i + 1)) k)) r = some (.lst (rowI w fun k => colS (l.take i) k)) := by rw [upd_ne (fun e => pr e.symm)]; exact hr'
      refine ⟨_, rfl, _, rfl, r, _, c.2, _, rfl, rfl, hr2, rowI_get cb.2, _, _, rfl, rfl, r, _, _, c.2, rfl, rfl, hr2, by rw [rowI_len]; exact ixN_nat cb.2, ?_⟩
      rw [rowI_set (g := fun k => colS (l.take (i + 1)) k) (by rw [ct, colS_snoc, if_pos rfl]; rfl) fun k _ hk => by rw [ct, colS_snoc, if_neg (fun e => hk e.symm)]; rfl]
      exact ⟨Ex.mut (Ex.mut e' pn) rn, by rw [upd_ne pr]; exact upd_same, upd_same, _, _, rfl⟩
    · rintro σ H' ⟨e', hp', hr', o1, o2, rfl⟩
      rw [hlen, List.take_length] at hp' hr'
      refine s_retD (d := eSums (sumsM l h w)) (evd_tup (ead_cons (evd_tupleOfL (ev_var rfl) hp' (rowI_tpa h _)) (ead_cons (evd_tupleOfL (ev_var rfl) hr' (rowI_tpa w _)) ead_nil)) (by show 2 ≤ 100000; decide)) fun u H2 y2 tu => q u H2 (e'.trans y2) tu
def spSums : Sp := fun vs H Q _ => ∃ (v : V) (l : Ink) (h w : Nat), vs = [v, .int (h : Int), .int (w : Int)] ∧ Tp H v (eInk l) ∧ InF h w l ∧ 1 ≤ h ∧ h ≤ 12 ∧ 1 ≤ w ∧ w ≤ 12 ∧ ∀ v H', Ex H H' → Tp H' v (eSums (sumsM l h w)) → Q v H'
theorem sc_sums : FnScope ["ink", "high", "wide"] ["ink", "high", "wide"] (defScope (tp 22)) := ⟨rfl, rfl, rfl, by decide +kernel, rfl, by decide +kernel, by decide +kernel⟩
theorem ok_sums (T : Txt K mg) : Cl P w K mg base 6 "sums" ["ink", "high", "wide"] spSums := by
  refine cl_mk T.sums sc_sums (fun vs H Q E h => ?_) (fun _ _ _ _ _ _ us hl => match us, hl with | [_, _, _], _ => rfl) fun f cdv A outer s H vs Q E hr h => ?_
  · obtain ⟨v, l, h, w, rfl, _⟩ := h; rfl
  · obtain ⟨v, l, h, w, rfl, tl, fl, h1, h2, w1, w2, q⟩ := h
    refine ⟨_, pss_cons (ps_expr (pe_cl (ok_need_frame T) hr (pa_cons (pv 0) (pa_cons (pv 1) (pa_cons (pv 2) pa_nil))))) (pss_one (ps_ret (pe_cl (ok_sums_in T) hr (pa_cons (pv 0) (pa_cons (pv 1) (pa_cons (pv 2) pa_nil)))))), ?_⟩
    refine ⟨_, rfl, _, rfl, _, rfl, v, l, h, w, rfl, tl, fl, h1, h2, w1, w2, fun H1 e1 => ?_⟩
    exact ⟨_, rfl, _, rfl, _, rfl, v, l, h, w, rfl, tl.mono (.of e1), fl, h2, w2, fun u H2 e2 tu => q u H2 (e1.trans e2) tu⟩
end
end K53

-- part K53W5
set_option maxRecDepth 100000
set_option maxHeartbeats 4000000
namespace K53
open PySem PySem.Spec PyProof.Rows L2 Evl
section
variable {K : PySem.W.Frag} {σ : L2.St} {H H' : Hp} {ta tb te : TE} {d e : PyData} {ds es : List PyData} {tr : TA} {D : Ends} {tz : TS}
theorem ead_star (h : EvM te σ H ds) (hr : EvAD tr σ H es) : EvAD (tStarS K te tr) σ H (ds ++ es) := fun H1 x Q q =>
  h H1 x _ fun p xs H2 hp x2 hl t => ⟨p, xs, rfl, .inl (.of hl), hr H2 (x.trans x2) _ fun ys H3 x3 t3 => q _ H3 (x2.trans x3) ((t.mono (.of x3)).app t3)⟩
theorem ead_starD (h : EvD te σ H (.tuple ds)) (hr : EvAD tr σ H es) : EvAD (tStarS K te tr) σ H (ds ++ es) := fun H1 x Q q =>
  h H1 x _ fun v H2 x2 t => by
    obtain ⟨p, xs, rfl, hl, hx⟩ := tp_tup t
    exact ⟨p, xs, rfl, .inr (.of hl), hr H2 (x.trans x2) _ fun ys H3 x3 t3 => q _ H3 (x2.trans x3) ((hx.mono (.of x3)).app t3)⟩
theorem ead_starL {l : Addr} {xs : List V} (h : Ev te σ H (.ref l)) (hl : H l = some (.lst xs)) (hx : TpA H xs ds) (hr : EvAD tr σ H es) : EvAD (tStarS K te tr) σ H (ds ++ es) := fun H1 x Q q =>
  h H1 x _ fun H2 x2 => ⟨l, xs, rfl, .inl (.of ((x.trans x2) l _ hl)), hr H2 (x.trans x2) _ fun ys H3 x3 t3 => q _ H3 (x2.trans x3) ((hx.mono (.of ((x.trans x2).trans x3))).app t3)⟩
theorem ead_starRev {l : Addr} {xs : List V} (h : Ev te σ H (.ref l)) (hl : H l = some (.lst xs)) (hx : TpA H xs ds) (hr : EvAD tr σ H es) : EvAD (tStarRev K te tr) σ H (ds.reverse ++ es) := fun H1 x Q q =>
  h H1 x _ fun H2 x2 => ⟨l, xs, rfl, .of ((x.trans x2) l _ hl), hr H2 (x.trans x2) _ fun ys H3 x3 t3 => q _ H3 (x2.trans x3) (((hx.mono (.of ((x.trans x2).trans x3))).reverse).app t3)⟩
/-- xs.append(data) -/
theorem s_appD {l : Addr} {xs : List V} (hl : H l = some (.lst xs)) (hx : TpA H xs ds) (ha : Ev ta σ H (.ref l)) (h : EvD te σ H d) (hz : ds.length < 100000) (k : ∀ v H1, Ex H H1 → TpA H1 (xs ++ [v]) (ds ++ [d]) → TpA (upd H1 l (.lst (xs ++ [v]))) (xs ++ [v]) (ds ++ [d]) → D.nx σ (upd H1 l (.lst (xs ++ [v])))) :
    tDrop (tBM K "list" rAppend ta (tCons te tNil)) D σ H := ha H (Ex.refl H) _ fun H1 y1 =>
  ⟨Or.inl ⟨rfl, xs, .of (y1 l _ hl)⟩, h H1 y1 _ fun v H2 e2 tv => by
    have x2 := y1.trans e2
    have t2 := (hx.mono (.of x2)).app (.one tv)
    refine ⟨l, xs, v, rfl, rfl, x2 l _ hl, sz_lt (by rw [hx.length]; exact hz), k v H2 x2 t2 (t2.mono ((TK.refl H2).upd fun ys q => ?_))⟩
    rw [x2 l _ hl] at q; cases q⟩
theorem q_appD {l : Addr} {xs : List V} (hl : H l = some (.lst xs)) (hx : TpA H xs ds) (ha : Ev ta σ H (.ref l)) (h : EvD te σ H d) (hz : ds.length < 100000) (k : ∀ v H1, Ex H H1 → TpA H1 (xs ++ [v]) (ds ++ [d]) → TpA (upd H1 l (.lst (xs ++ [v]))) (xs ++ [v]) (ds ++ [d]) → tz D σ (upd H1 l (.lst (xs ++ [v])))) :
    tSeq (tDrop (tBM K "list" rAppend ta (tCons te tNil))) tz D σ H := s_appD (D := { D with nx := tz D }) hl hx ha h hz k
end
theorem dataLe_cell : PySem.W.dataLe false eC = cle := by
  have h := PySem.W.dataLe_ii (β := Cell) (fun c => (c.1 : Int)) (fun c => (c.2 : Int))
  show PySem.W.dataLe false (fun b : Cell => PyData.tuple [.int (b.1 : Int), .int (b.2 : Int)]) = cle
  rw [h]
  funext p q
  unfold cle
  exact decide_eq_decide.mpr (by omega)
theorem alike_cells (l : List Cell) : PySem.W.AllAlike (l.map eC) := PySem.W.AllAlike.of fun a b => PySem.W.alike_ints [(a.1 : Int), (a.2 : Int)] [(b.1 : Int), (b.2 : Int)] ▸ (by simp [eC, PySem.W.alike, PySem.W.alikeAll])
theorem sort_cells (l : List Cell) : CanSort (l.map eC) := .inl (PySem.W.Sortable.tuples fun b => ⟨_, _, rfl⟩)
theorem depth_cells (l : List Cell) : PyData.depthAll (l.map eC) ≤ 60 := Nat.le_trans (depthA_map (n := 1) (fun a => Nat.le_of_eq (eC_depth a)) l) (by decide)
section
variable {mg : Str → Option Value} {P : Program} {K : PySem.W.Frag} {w : World} {base : Heap}
def spSwIn : Sp := fun vs H Q _ => ∃ (v u : V) (l : Ink) (s : Sw), vs = [v, u] ∧ Tp H v (eInk l) ∧ Tp H u (eSw s) ∧ l.length ≤ 144 ∧ ∀ v H', Ex H H' → Tp H' v (eInk (swM l s)) → Q v H'
theorem sc_sw_in : FnScope ["ink", "switch", "spots", "cell", "spot"] ["ink", "switch"] (defScope (tp 28)) := ⟨rfl, rfl, rfl, by decide +kernel, rfl, by decide +kernel, by decide +kernel⟩
theorem ok_sw_in (T : Txt K mg) : Cl P w K mg base 2 "switched_in" ["ink", "switch"] spSwIn := by
  refine cl_mk T.switched_in sc_sw_in (fun vs H Q E h => ?_) (fun _ _ _ _ _ _ us hl => match us, hl with | [_, _], _ => rfl) fun f cdv A outer s H vs Q E hr h => ?_
  · obtain ⟨v, u, l, s, rfl, _⟩ := h; rfl
  · obtain ⟨v, u, l, sw, rfl, tl, ts, hz, q⟩ := h
    refine ⟨_, pss_cons (ps_set (i := 2) sc_sw_in.nd rfl (.inr rfl) (pe_cl (ok_corners T) hr (pa_cons (pe_ix ix_tup (pv 1) pe_int (fun _ _ => rfl)) (pa_cons (pe_ix ix_tup (pv 1) pe_int (fun _ _ => rfl)) (pa_cons (pe_ix ix_tup (pv 1) pe_int (fun _ _ => rfl)) (pa_cons (pe_ix ix_tup (pv 1) pe_int (fun _ _ => rfl)) pa_nil))))))
      (pss_one (ps_ret (pe_callTy call_tuple_of (by rfl) T.b_tuple (by decide +kernel) (pa_cons (pe_callB (cr_sortedD (hu65 hr)) (by rfl) T.b_sorted (by decide +kernel) (pa_cons (pe_lst (pa_star
        (pe_lc (g := gName 3) (tt := tTest (tOp (rNotInD K) (tVar 3) (tVar 2))) (te := tVar 3) (own := [("cell", 3)]) rfl sc_sw_in.nd (pi_tup (pv 0)) (blkOk_by (N := ["ink", "switch", "spots", "cell", "spot"]) (sc := defScope (tp 28)) (by decide +kernel))
          (fun _ _ _ _ _ => by exact pg_name (i := 3) sc_sw_in.nd rfl (.inl rfl)) (fun _ _ _ _ _ => by exact pts_one (pt_cmpR (op_notInD (hu65 hr)) (pv 3) (pv 2) (by rfl))) (fun _ _ _ _ _ => by exact pv 3))
        (pa_star (pe_lc (g := gName 4) (tt := tTest (tOp (rNotInT K) (tVar 4) (tVar 0))) (te := tVar 4) (own := [("spot", 4)]) rfl sc_sw_in.nd (pi_list (pv 2)) (blkOk_by (N := ["ink", "switch", "spots", "cell", "spot"]) (sc := defScope (tp 28)) (by decide +kernel))
          (fun _ _ _ _ _ => by exact pg_name (i := 4) sc_sw_in.nd rfl (.inl rfl)) (fun _ _ _ _ _ => by exact pts_one (pt_cmpR (op_notInT (hu65 hr)) (pv 4) (pv 0) (by rfl))) (fun _ _ _ _ _ => by exact pv 4))
        pa_nil))) pa_nil)) pa_nil)))), ?_⟩
    have ix : ∀ (i n : Nat), (([.int (sw.1 : Int), .int (sw.2.1 : Int), .int (sw.2.2.1 : Int), .int (sw.2.2.2 : Int)] : List PyData))[i]? = some (.int (n : Int)) → EvD (tOp (rIxT K) (tVar 1) (tC (.int (i : Int)))) (start ["ink", "switch", "spots", "cell", "spot"] [v, u]) H (.int (n : Int)) :=
      fun i n hn => evd_ixT (i := i) (evd_var rfl ts) ev_c hn
    refine q_asgM (ds := (cornersM sw).map eC) (evm_call (ead_cons (ix 0 _ rfl) (ead_cons (ix 1 _ rfl) (ead_cons (ix 2 _ rfl) (ead_cons (ix 3 _ rfl) ead_nil)))) fun us H1 x1 tus Q E q1 => ?_) fun p xs H1 hp x1 hl hx => ?_
    · cases tus with | cons c1 tus => cases tus with | cons c2 tus => cases tus with | cons c3 tus => cases tus with | cons c4 tus =>
      cases tus; cases c1; cases c2; cases c3; cases c4
      exact ⟨sw, rfl, q1⟩
    · have tl1 := tl.mono (.of x1)
      have k1 : EvM (tLc (iTup K (tVar 0)) (gName 3) (tTest (tOp (rNotInD K) (tVar 3) (tVar 2))) (tVar 3) [3]) [some v, some u, some (.ref p), none, none] H1 ((l.filter fun x => !decide (x ∈ cornersM sw)).map eC) :=
        evm_lcT (enc := eC) (evd_var rfl tl1) (by omega) fun c cv H2 hc x tc => ⟨[some v, some u, some (.ref p), some cv, none], rfl, fun Q h => h,
          et_test (ev_niL (evd_var rfl tc) (ev_var rfl) (x p _ hl) (hx.mono (.of x)) (eC_pure _) (pureA_map eC_pure _) (by rw [eC_depth]; decide) (depthLst (fun a => by rw [eC_depth]; decide) _) inInk), fun _ => evd_var rfl tc⟩
      have k2 : EvM (tLc (iList K (tVar 2)) (gName 4) (tTest (tOp (rNotInT K) (tVar 4) (tVar 0))) (tVar 4) [4]) [some v, some u, some (.ref p), none, none] H1 (((cornersM sw).filter fun x => !decide (x ∈ l)).map eC) :=
        evm_lcL (enc := eC) (ev_var rfl) hl hx (by show 4 < 100000; decide) fun c cv H2 hc x tc => ⟨[some v, some u, some (.ref p), none, some cv], rfl, fun Q h => h,
          et_test (ev_niT (evd_var rfl tc) (evd_var rfl (tl1.mono (.of x))) (eC_pure _) (pureA_map eC_pure _) (by rw [eC_depth]; decide) (depthInk l) inInk), fun _ => evd_var rfl tc⟩
      have len : (l.filter (fun x => !decide (x ∈ cornersM sw)) ++ (cornersM sw).filter (fun x => !decide (x ∈ l))).length ≤ 100000 := by
        rw [List.length_append]
        have a1 := List.length_filter_le (fun x => !decide (x ∈ cornersM sw)) l
        have a2 := List.length_filter_le (fun x => !decide (x ∈ l)) (cornersM sw)
        have a3 : (cornersM sw).length = 4 := rfl
        omega
      have k3 := evm_lst (ead_star (K := K) k1 (ead_star (K := K) k2 ead_nil)) (by rw [List.append_nil, ← List.map_append, List.length_map]; exact len)
      rw [List.append_nil, ← List.map_append] at k3
      have k4 := evm_sorted (K := K) k3 (alike_cells _) (sort_cells _) (depth_cells _)
      rw [dataLe_cell] at k4
      exact s_retD (evd_tupleOf k4) fun u H2 x2 tu => q u H2 (x1.trans x2) tu
end
end K53

-- part K53W6
set_option maxRecDepth 100000
set_option maxHeartbeats 4000000
namespace K53
open PySem PySem.Spec PyProof.Rows L2 Evl

/-! ### the list of switches, as the loops find it -/
def isB (l : Ink) (s : Sw) : Bool := decide (bitsM l s = [true, false, false, true] ∨ bitsM l s = [false, true, true, false])
def sw4 (l : Ink) (r c o i : Nat) : List Sw := ((List.range i).filter fun j => isB l (r, c, o, c + 1 + j)).map fun j => (r, c, o, c + 1 + j)
def sw3 (l : Ink) (w r c i : Nat) : List Sw := (List.range i).flatMap fun j => sw4 l r c (r + 1 + j) (w - (c + 1))
def sw2 (l : Ink) (h w r i : Nat) : List Sw := (List.range i).flatMap fun c => sw3 l w r c (h - (r + 1))
def sw1 (l : Ink) (h w i : Nat) : List Sw := (List.range i).flatMap fun r => sw2 l h w r w
def swsM (l : Ink) (h w : Nat) : List Sw := sw1 l h w h
theorem flat_s {α : Type} (f : Nat → List α) (i : Nat) : (List.range (i + 1)).flatMap f = (List.range i).flatMap f ++ f i := by
  rw [List.range_succ, List.flatMap_append]; simp
theorem flat_len {α : Type} {f : Nat → List α} {b : Nat} (h : ∀ i, (f i).length ≤ b) (i : Nat) : ((List.range i).flatMap f).length ≤ i * b := by
  induction i with
  | zero => simp
  | succ i ih =>
    rw [flat_s, List.length_append, Nat.succ_mul]
    have := h i; omega
theorem sw4_len (l : Ink) (r c o i : Nat) : (sw4 l r c o i).length ≤ i := by
  unfold sw4
  rw [List.length_map]
  exact Nat.le_trans (List.length_filter_le _ _) (by rw [List.length_range]; exact Nat.le_refl _)
theorem sw3_len (l : Ink) (w r c i : Nat) : (sw3 l w r c i).length ≤ i * w := flat_len (fun j => Nat.le_trans (sw4_len ..) (Nat.sub_le ..)) i
theorem sw2_len (l : Ink) (h w r i : Nat) : (sw2 l h w r i).length ≤ i * (h * w) := flat_len (fun c => Nat.le_trans (sw3_len ..) (Nat.mul_le_mul_right _ (Nat.sub_le ..))) i
theorem sw1_len (l : Ink) (h w i : Nat) : (sw1 l h w i).length ≤ i * (w * (h * w)) := flat_len (fun r => sw2_len ..) i
theorem sw4_yes {l : Ink} {r c o i : Nat} (h : isB l (r, c, o, c + 1 + i) = true) : sw4 l r c o (i + 1) = sw4 l r c o i ++ [(r, c, o, c + 1 + i)] := by
  unfold sw4
  rw [List.range_succ, List.filter_append, List.map_append, List.filter_cons, if_pos h]; rfl
theorem sw4_no {l : Ink} {r c o i : Nat} (h : isB l (r, c, o, c + 1 + i) = false) : sw4 l r c o (i + 1) = sw4 l r c o i := by
  unfold sw4
  rw [List.range_succ, List.filter_append, List.map_append, List.filter_cons, if_neg (by rw [h]; decide)]; simp
theorem mem_swsM {l : Ink} {h w : Nat} {s : Sw} : s ∈ swsM l h w ↔ IsSw h w l s := by
  obtain ⟨r, c, o, m⟩ := s
  unfold swsM sw1 sw2 sw3 sw4
  simp only [List.mem_flatMap, List.mem_map, List.mem_filter, List.mem_range, Prod.mk.injEq]
  constructor
  · rintro ⟨r', hr, c', hc, o', ho, m', ⟨hm, hb⟩, rfl, rfl, rfl, rfl⟩
    unfold isB at hb
    exact ⟨by simp only; omega, by simp only; omega, by simp only; omega, by simp only; omega, of_decide_eq_true hb⟩
  · intro q
    have a := q.ro; have b := q.oh; have d := q.cm; have e := q.mw
    simp only at a b d e
    refine ⟨r, by omega, c, by omega, o - (r + 1), by omega, m - (c + 1), ⟨by omega, ?_⟩, rfl, rfl, by omega, by omega⟩
    have e1 : r + 1 + (o - (r + 1)) = o := by omega
    have e2 : c + 1 + (m - (c + 1)) = m := by omega
    rw [e1, e2]
    exact decide_eq_true q.bits
theorem bits_any (b1 b2 b3 b4 : Bool) : ([PyData.list [.bool true, .bool false, .bool false, .bool true], .list [.bool false, .bool true, .bool true, .bool false]].any fun z => PyData.eqv z (.list [.bool b1, .bool b2, .bool b3, .bool b4])) =
    decide ([b1, b2, b3, b4] = [true, false, false, true] ∨ [b1, b2, b3, b4] = [false, true, true, false]) := by
  cases b1 <;> cases b2 <;> cases b3 <;> cases b4 <;> simp [PyData.eqv, PyData.eqvAll]
/-! ### cells as keys -/
def kC (c : Cell) : List Key := [.inl (c.1 : Int), .inl (c.2 : Int)]
theorem kC_inj {a b : Cell} (h : kC a = kC b) : a = b := by
  obtain ⟨a1, a2⟩ := a; obtain ⟨b1, b2⟩ := b
  simp only [kC, List.cons.injEq, Sum.inl.injEq, and_true] at h
  rw [Prod.mk.injEq]; omega
def dInk (l : Ink) : List (List Key × V) := l.map fun c => (kC c, V.bl true)
theorem dInk_get {l : Ink} {c : Cell} : (valV (dInk l) (kC c)).isSome = decide (c ∈ l) := by
  induction l with
  | nil => rfl
  | cons a l ih =>
    by_cases e : a = c
    · subst e
      rw [show dInk (a :: l) = (kC a, V.bl true) :: dInk l from rfl, valV_pos rfl]
      simp
    · rw [show dInk (a :: l) = (kC a, V.bl true) :: dInk l from rfl, valV_neg (fun q => e (kC_inj q)), ih]
      simp [show ¬ c = a from fun q => e q.symm]
section
variable {mg : Str → Option Value} {P : Program} {K : PySem.W.Frag} {w : World} {base : Heap}
theorem hu1 {A : Around} {k : Nat} (hr : Room k A) : A.units + 1 < cLine := by have := hr.un; omega
/-- cell in the dict of an ink -/
theorem ev_din {σ : L2.St} {H : Hp} {ty td : TE} {c : Cell} {l : Ink} {a : Addr} (hy : EvD ty σ H (eC c)) (hd : Ev td σ H (.ref a)) (ha : H a = some (.dT (dInk l))) : Ev (tDIn ty td) σ H (.bl (decide (c ∈ l))) := fun H1 x Q q =>
  hy H1 x _ fun v H2 x2 tv => hd H2 (x.trans x2) _ fun H3 x3 => by
    obtain ⟨b, rfl, hb⟩ := tp_cell tv
    exact ⟨a, _, rfl, .inr ⟨dInk l, kC c, b, .of (((x.trans x2).trans x3) a _ ha), rfl, x3 b _ hb, rfl⟩, by rw [dInk_get]; exact q H3 (x2.trans x3)⟩
/-- found so far -/
def Fd (H : Hp) (p : Addr) (L : List Sw) (H' : Hp) : Prop := Ex H H' ∧ ∃ xs, H' p = some (.lst xs) ∧ TpA H' xs (L.map eSw)
def tB4 (a b c d : Bool) : TE := tLst (tCons (tC (.bl a)) (tCons (tC (.bl b)) (tCons (tC (.bl c)) (tCons (tC (.bl d)) tNil))))
theorem ev_bits {σ : L2.St} {H : Hp} {ta : TE} {p : Addr} {b1 b2 b3 b4 : Bool} (ha : Ev ta σ H (.ref p)) (hp : H p = some (.lst [.bl b1, .bl b2, .bl b3, .bl b4])) :
    Ev (tOp (rInT K) ta (tTup (tCons (tB4 true false false true) (tCons (tB4 false true true false) tNil)))) σ H (.bl (decide ([b1, b2, b3, b4] = [true, false, false, true] ∨ [b1, b2, b3, b4] = [false, true, true, false]))) := fun H1 x Q q =>
  ha H1 x _ fun H2 x2 => ⟨by show 4 ≤ sizeLine; decide, fun p1 h1 => ⟨by show 4 ≤ sizeLine; decide, fun p2 h2 => ⟨by show 2 ≤ sizeLine; decide, fun p3 h3 => by
    have y1 := Ex.new (o := .lst [.bl true, .bl false, .bl false, .bl true]) h1
    have y2 := Ex.new (o := .lst [.bl false, .bl true, .bl true, .bl false]) h2
    have y3 := Ex.new (o := .tup [.ref p1, .ref p2]) h3
    refine ⟨.list [.bool b1, .bool b2, .bool b3, .bool b4], [.list [.bool true, .bool false, .bool false, .bool true], .list [.bool false, .bool true, .bool true, .bool false]],
      .lst (.of ((((x.trans x2).trans y1).trans (y2.trans y3)) p _ hp)) (.cons (.bl _) (.cons (.bl _) (.cons (.bl _) (.cons (.bl _) .nil)))),
      .tup (.of upd_same) (.cons (.lst (.of ((y2.trans y3) p1 _ upd_same)) (.cons (.bl _) (.cons (.bl _) (.cons (.bl _) (.cons (.bl _) .nil))))) (.cons (.lst (.of (y3 p2 _ upd_same)) (.cons (.bl _) (.cons (.bl _) (.cons (.bl _) (.cons (.bl _) .nil))))) .nil)),
      shaped_of rfl (by simp [PyData.depth, PyData.depthAll]), shaped_of rfl (by simp [PyData.depth, PyData.depthAll]), ?_⟩
    rw [bits_any]
    exact q _ ((x2.trans y1).trans (y2.trans y3))⟩⟩⟩
def spSwsIn : Sp := fun vs H Q _ => ∃ (a : Addr) (l : Ink) (h w : Nat), vs = [.ref a, .int (h : Int), .int (w : Int)] ∧ H a = some (.dT (dInk l)) ∧ h ≤ 12 ∧ w ≤ 12 ∧
  ∀ p xs H', H p = none → Ex H H' → H' p = some (.lst xs) → TpA H' xs ((swsM l h w).map eSw) → Q (.ref p) H'
theorem sc_sws_in : FnScope ["cells", "high", "wide", "found", "row", "column", "other", "more", "bits", "spot"] ["cells", "high", "wide"] (defScope (tp 26)) := ⟨rfl, rfl, rfl, by decide +kernel, rfl, by decide +kernel, by decide +kernel⟩
theorem ok_sws_in (T : Txt K mg) : Cl P w K mg base 2 "switches_in" ["cells", "high", "wide"] spSwsIn := by
  refine cl_mk T.switches_in sc_sws_in (fun vs H Q E h => ?_) (fun _ _ _ _ _ _ us hl => match us, hl with | [_, _, _], _ => rfl) fun f cdv A outer s H vs Q E hr h => ?_
  · obtain ⟨a, l, h, w, rfl, _⟩ := h; rfl
  · obtain ⟨a, l, h, w, rfl, ha, h2, w2, q⟩ := h
    refine ⟨_, pss_cons (ps_set (i := 3) sc_sws_in.nd rfl (.inl rfl) (pe_lst pa_nil))
      (pss_cons (ps_for PassesOwn.never rfl (pi_range1 (by rfl) T.b_range (pa_cons (pv 1) pa_nil)) (pg_name (i := 4) sc_sws_in.nd rfl (.inl rfl))
        (pss_one (ps_for PassesOwn.never rfl (pi_range1 (by rfl) T.b_range (pa_cons (pv 2) pa_nil)) (pg_name (i := 5) sc_sws_in.nd rfl (.inl rfl))
          (pss_one (ps_for PassesOwn.never rfl (pi_range2 (by rfl) T.b_range (pa_cons (pe_op op_add (pv 4) pe_int) (pa_cons (pv 1) pa_nil))) (pg_name (i := 6) sc_sws_in.nd rfl (.inl rfl))
            (pss_one (ps_for PassesOwn.never rfl (pi_range2 (by rfl) T.b_range (pa_cons (pe_op op_add (pv 5) pe_int) (pa_cons (pv 2) pa_nil))) (pg_name (i := 7) sc_sws_in.nd rfl (.inl rfl))
              (pss_cons (ps_setLc (i := 8) (g := gName 9) (tt := tYes) (te := tDIn (tVar 9) (tVar 0)) (own := [("spot", 9)]) rfl sc_sws_in.nd rfl rfl (by rfl) (pi_list (pe_cl (ok_corners T) hr (pa_cons (pv 4) (pa_cons (pv 5) (pa_cons (pv 6) (pa_cons (pv 7) pa_nil))))))
                  (blkOk_by (N := ["cells", "high", "wide", "found", "row", "column", "other", "more", "bits", "spot"]) (sc := defScope (tp 26)) (by decide +kernel))
                  (fun _ _ _ _ _ => by exact pg_name (i := 9) sc_sws_in.nd rfl (.inl rfl)) (fun _ _ _ _ _ => by exact pts_nil) (fun _ _ _ _ _ => by exact pe_cmp (pc_din (hu1 hr) (pv 9) (pv 0)) (by rfl)))
              (pss_one (ps_if (pt_cmpR (op_inT (hu65 hr)) (pv 8) (pe_tup (pa_cons (pe_lst (pa_cons pe_bl (pa_cons pe_bl (pa_cons pe_bl (pa_cons pe_bl pa_nil))))) (pa_cons (pe_lst (pa_cons pe_bl (pa_cons pe_bl (pa_cons pe_bl (pa_cons pe_bl pa_nil))))) pa_nil))) (by rfl))
                (pss_one (ps_expr (pe_bm PySem.F.plainAttrs_list PySem.F.slot_list_append PySem.F.type_list_append mt_append (pv 3) (pa_cons (pe_tup (pa_cons (pv 4) (pa_cons (pv 5) (pa_cons (pv 6) (pa_cons (pv 7) pa_nil))))) pa_nil)))) pss_nil))))))))))
      (pss_one (ps_ret (pv 3)))), ?_⟩
    have hw' : w * (h * w) ≤ 1728 := Nat.le_trans (Nat.mul_le_mul w2 (Nat.mul_le_mul h2 w2)) (by decide)
    have hw2 : h * w ≤ 144 := Nat.mul_le_mul h2 w2
    have big : ∀ r c o i, r < h → c < w → o ≤ h → i ≤ w → (sw1 l h w r ++ sw2 l h w r c ++ sw3 l w r c o ++ sw4 l r c (r + 1 + o) i).length < 100000 := fun r c o i hr hc ho hi => by
      have a1 := sw1_len l h w r
      have a2 := sw2_len l h w r c
      have a3 := sw3_len l w r c o
      have a4 := sw4_len l r c (r + 1 + o) i
      have b1 : r * (w * (h * w)) ≤ 12 * 1728 := Nat.mul_le_mul (by omega) hw'
      have b2 : c * (h * w) ≤ 12 * 144 := Nat.mul_le_mul (by omega) hw2
      have b3 : o * w ≤ 12 * 12 := Nat.mul_le_mul (by omega) w2
      simp only [List.length_append]; omega
    refine q_asgM (ds := []) (evm_lst ead_nil (by decide)) fun p ys H1 hp x1 hl hx => ?_
    have hys : ys = [] := by cases hx; rfl
    subst hys
    refine q_forR1 (n := (h : Int)) (ea_cons (ev_var rfl) ea_nil) ⟨by omega, by omega⟩ (fun i σ H' => Fd H p (sw1 l h w i) H' ∧ ∃ o1 o2 o3 o4 o5, σ = [some (.ref a), some (.int (h : Int)), some (.int (w : Int)), some (.ref p), o1, o2, o3, o4, o5, none]) (fun H2 x2 => ⟨⟨x1.trans x2, [], x2 p _ hl, .nil⟩, _, _, _, _, _, rfl⟩) ?_ ?_
    · rintro r σ H2 hr2 ⟨fd, o1, o2, o3, o4, o5, rfl⟩
      have hr3 : r < h := by omega
      refine s_forR1 (n := (w : Int)) (ea_cons (ev_var rfl) ea_nil) ⟨by omega, by omega⟩ (fun i σ H' => Fd H p (sw1 l h w r ++ sw2 l h w r i) H' ∧ ∃ o2 o3 o4 o5, σ = [some (.ref a), some (.int (h : Int)), some (.int (w : Int)), some (.ref p), some (.int (r : Int)), o2, o3, o4, o5, none]) (fun H3 x3 => ⟨?_, _, _, _, _, rfl⟩) ?_ ?_
      · obtain ⟨z1, xs, z2, z3⟩ := fd
        exact ⟨z1.trans x3, xs, x3 p _ z2, by rw [show sw2 l h w r 0 = [] from rfl, List.append_nil]; exact z3.mono (.of x3)⟩
      · rintro c σ H3 hc2 ⟨fd, o2, o3, o4, o5, rfl⟩
        have hc3 : c < w := by omega
        refine s_forR2 (lo := (r : Int) + 1) (n := (h : Int)) (ea_cons (ev_op (ev_var rfl) ev_c rv_I0) (ea_cons (ev_var rfl) ea_nil)) ⟨by omega, by omega, by omega, by omega⟩ (fun i σ H' => Fd H p (sw1 l h w r ++ sw2 l h w r c ++ sw3 l w r c i) H' ∧ ∃ o3 o4 o5, σ = [some (.ref a), some (.int (h : Int)), some (.int (w : Int)), some (.ref p), some (.int (r : Int)), some (.int (c : Int)), o3, o4, o5, none]) (fun H4 x4 => ⟨?_, _, _, _, rfl⟩) ?_ ?_
        · obtain ⟨z1, xs, z2, z3⟩ := fd
          exact ⟨z1.trans x4, xs, x4 p _ z2, by rw [show sw3 l w r c 0 = [] from rfl, List.append_nil]; exact z3.mono (.of x4)⟩
        · rintro j σ H4 hj ⟨fd, o3, o4, o5, rfl⟩
          have ej : (r : Int) + 1 + (j : Int) = ((r + 1 + j : Nat) : Int) := by omega
          rw [ej]
          have hj3 : r + 1 + j < h := by omega
          refine s_forR2 (lo := (c : Int) + 1) (n := (w : Int)) (ea_cons (ev_op (ev_var rfl) ev_c rv_I0) (ea_cons (ev_var rfl) ea_nil)) ⟨by omega, by omega, by omega, by omega⟩ (fun i σ H' => Fd H p (sw1 l h w r ++ sw2 l h w r c ++ sw3 l w r c j ++ sw4 l r c (r + 1 + j) i) H' ∧ ∃ o4 o5, σ = [some (.ref a), some (.int (h : Int)), some (.int (w : Int)), some (.ref p), some (.int (r : Int)), some (.int (c : Int)), some (.int ((r + 1 + j : Nat) : Int)), o4, o5, none]) (fun H5 x5 => ⟨?_, _, _, rfl⟩) ?_ ?_
          · obtain ⟨z1, xs, z2, z3⟩ := fd
            exact ⟨z1.trans x5, xs, x5 p _ z2, by rw [show sw4 l r c (r + 1 + j) 0 = [] from rfl, List.append_nil]; exact z3.mono (.of x5)⟩
          · rintro i σ H5 hi ⟨⟨z1, xs, z2, z3⟩, o4, o5, rfl⟩
            have ei : (c : Int) + 1 + (i : Int) = ((c + 1 + i : Nat) : Int) := by omega
            rw [ei]
            have hi3 : c + 1 + i < w := by omega
            have cm : EvM (tCall spCorners [] E0 (tCons (tVar 4) (tCons (tVar 5) (tCons (tVar 6) (tCons (tVar 7) tNil))))) [some (.ref a), some (.int (h : Int)), some (.int (w : Int)), some (.ref p), some (.int (r : Int)), some (.int (c : Int)), some (.int ((r + 1 + j : Nat) : Int)), some (.int ((c + 1 + i : Nat) : Int)), o5, none] H5 ((cornersM (r, c, r + 1 + j, c + 1 + i)).map eC) :=
              evm_call (ds := [.int (r : Int), .int (c : Int), .int ((r + 1 + j : Nat) : Int), .int ((c + 1 + i : Nat) : Int)]) (ead_cons (evd_int (ev_var rfl)) (ead_cons (evd_int (ev_var rfl)) (ead_cons (evd_int (ev_var rfl)) (ead_cons (evd_int (ev_var rfl)) ead_nil)))) fun us H1 x1 tus Q E q1 => by
                cases tus with | cons c1 tus => cases tus with | cons c2 tus => cases tus with | cons c3 tus => cases tus with | cons c4 tus =>
                cases tus; cases c1; cases c2; cases c3; cases c4
                exact ⟨(r, c, r + 1 + j, c + 1 + i), rfl, q1⟩
            refine q_asgM (evm_lcM (p := fun _ => true) (f := fun x => .bool (decide (x ∈ l))) cm (by show 4 < 100000; decide) fun b bv H6 hb x6 tb => ⟨[some (.ref a), some (.int (h : Int)), some (.int (w : Int)), some (.ref p), some (.int (r : Int)), some (.int (c : Int)), some (.int ((r + 1 + j : Nat) : Int)), some (.int ((c + 1 + i : Nat) : Int)), o5, some bv], rfl, fun Q h => h, fun H7 x7 Q q => q H7 (Ex.refl H7), fun _ => evd_of (ev_din (evd_var rfl tb) (ev_var rfl) ((z1.trans x6) a _ ha)) (.bl _)⟩) fun bp bs H6 hbp x6 hbl hbx => ?_
            have ebs : bs = (bitsM l (r, c, r + 1 + j, c + 1 + i)).map V.bl := by
              refine tpa_bls (H := H6) ?_
              rw [show (cornersM (r, c, r + 1 + j, c + 1 + i)).filter (fun _ => true) = cornersM (r, c, r + 1 + j, c + 1 + i) from rfl] at hbx
              rw [show (bitsM l (r, c, r + 1 + j, c + 1 + i)).map PyData.bool = (cornersM (r, c, r + 1 + j, c + 1 + i)).map fun x => .bool (decide (x ∈ l)) by unfold bitsM; rw [List.map_map]; rfl]
              exact hbx
            refine s_if (b := isB l (r, c, r + 1 + j, c + 1 + i)) (et_test (ev_bits (ev_var rfl) (by rw [hbl, ebs]; rfl))) (fun hb H7 x7 => ?_) fun hb H7 x7 => ?_
            · have z2' := (x6.trans x7) p _ z2
              have z3' := z3.mono (.of (x6.trans x7))
              refine s_appD (d := eSw (r, c, r + 1 + j, c + 1 + i)) z2' z3' (ev_var rfl) (evd_tup (ead_cons (evd_int (ev_var rfl)) (ead_cons (evd_int (ev_var rfl)) (ead_cons (evd_int (ev_var rfl)) (ead_cons (evd_int (ev_var rfl)) ead_nil)))) (by show 4 ≤ 100000; decide)) (by rw [List.length_map]; exact big r c j i hr3 hc3 (by omega) (by omega)) fun v H8 x8 t8 t9 => ⟨⟨Ex.mut ((z1.trans (x6.trans x7)).trans x8) hp, _, upd_same, ?_⟩, _, _, rfl⟩
              rw [sw4_yes hb, ← List.append_assoc, List.map_append]
              exact t9
            · refine ⟨⟨z1.trans (x6.trans x7), xs, (x6.trans x7) p _ z2, ?_⟩, _, _, rfl⟩
              rw [sw4_no hb]
              exact z3.mono (.of (x6.trans x7))
          · rintro σ H5 ⟨fd, o4, o5, rfl⟩
            refine ⟨?_, _, _, _, rfl⟩
            have e1 : ((w : Int) - ((c : Int) + 1)).toNat = w - (c + 1) := by omega
            rw [e1, List.append_assoc] at fd
            rw [show sw3 l w r c (j + 1) = sw3 l w r c j ++ sw4 l r c (r + 1 + j) (w - (c + 1)) from flat_s _ _]
            exact fd
        · rintro σ H4 ⟨fd, o3, o4, o5, rfl⟩
          refine ⟨?_, _, _, _, _, rfl⟩
          have e1 : ((h : Int) - ((r : Int) + 1)).toNat = h - (r + 1) := by omega
          rw [e1, List.append_assoc] at fd
          rw [show sw2 l h w r (c + 1) = sw2 l h w r c ++ sw3 l w r c (h - (r + 1)) from flat_s _ _]
          exact fd
      · rintro σ H3 ⟨fd, o2, o3, o4, o5, rfl⟩
        refine ⟨?_, _, _, _, _, _, rfl⟩
        have e1 : ((w : Int)).toNat = w := by omega
        rw [e1] at fd
        rw [show sw1 l h w (r + 1) = sw1 l h w r ++ sw2 l h w r w from flat_s _ _]
        exact fd
    · rintro σ H2 ⟨⟨z1, xs, z2, z3⟩, o1, o2, o3, o4, o5, rfl⟩
      have e1 : ((h : Int)).toNat = h := by omega
      rw [e1] at z3
      exact ⟨_, rfl, q p xs H2 hp z1 z2 z3⟩
end
end K53

-- part K53W7
set_option maxRecDepth 100000
set_option maxHeartbeats 4000000
namespace K53
open PySem PySem.Spec PyProof.Rows L2 Evl
theorem keys_of {H : Hp} : ∀ {l : Ink} {xs : List V}, TpA H xs (l.map eC) → Paired (IsKeyOf H) xs (l.map kC)
  | [], _, h => by cases h; exact .nil
  | c :: l, _, h => by
    cases h with | cons h1 h2 =>
    obtain ⟨b, rfl, hb⟩ := tp_cell h1
    exact .cons ⟨b, rfl, hb⟩ (keys_of h2)
theorem nodup_kC {l : Ink} (h : l.Nodup) : (l.map kC).Nodup := by
  induction l with
  | nil => exact .nil
  | cons a l ih =>
    rw [List.nodup_cons] at h
    rw [List.map_cons, List.nodup_cons]
    refine ⟨fun q => ?_, ih h.2⟩
    obtain ⟨b, hb, e⟩ := List.mem_map.mp q
    exact h.1 (kC_inj e ▸ hb)
section
variable {mg : Str → Option Value} {P : Program} {K : PySem.W.Frag} {w : World} {base : Heap}
theorem evm_sws {σ : L2.St} {H : Hp} {v : V} {l : Ink} {h w : Nat} (h0 : σ[0]? = some (some v)) (h1 : σ[1]? = some (some (.int (h : Int)))) (h2 : σ[2]? = some (some (.int (w : Int)))) (tl : Tp H v (eInk l)) (fl : InF h w l) (hh : h ≤ 12) (hw : w ≤ 12) :
    EvM (tCall spSwsIn [] E0 (tCons (tDcT K (tVar 0)) (tCons (tVar 1) (tCons (tVar 2) tNil)))) σ H ((swsM l h w).map eSw) := fun H1 x Q q => by
  obtain ⟨a, xs, rfl, ha, hx⟩ := tp_tup (tl.mono (.of x))
  refine ⟨_, h0, a, xs, l.map kC, rfl, .of ha, keys_of hx, nodup_kC (asc_nodup fl.asc), fun p hp => ⟨_, h1, _, h2, ?_⟩⟩
  have xe := Ex.new (o := .dT ((l.map kC).map fun k => (k, V.bl true))) hp
  have e : (l.map kC).map (fun k => (k, V.bl true)) = dInk l := by unfold dInk; rw [List.map_map]; rfl
  refine ⟨p, l, h, w, rfl, by rw [e]; exact upd_same, hh, hw, fun r ys H2 hr x2 hl t => ?_⟩
  exact q r ys H2 (fresh_back xe hr) (xe.trans x2) hl t
def spSws : Sp := fun vs H Q _ => ∃ (v : V) (l : Ink) (h w : Nat), vs = [v, .int (h : Int), .int (w : Int)] ∧ Tp H v (eInk l) ∧ InF h w l ∧ 1 ≤ h ∧ h ≤ 12 ∧ 1 ≤ w ∧ w ≤ 12 ∧
  ∀ p xs H', H p = none → Ex H H' → H' p = some (.lst xs) → TpA H' xs ((swsM l h w).map eSw) → Q (.ref p) H'
theorem sc_sws : FnScope ["ink", "high", "wide"] ["ink", "high", "wide"] (defScope (tp 25)) := ⟨rfl, rfl, rfl, by decide +kernel, rfl, by decide +kernel, by decide +kernel⟩
theorem ok_sws (T : Txt K mg) : Cl P w K mg base 6 "switches" ["ink", "high", "wide"] spSws := by
  refine cl_mk T.switches sc_sws (fun vs H Q E h => ?_) (fun _ _ _ _ _ _ us hl => match us, hl with | [_, _, _], _ => rfl) fun f cdv A outer s H vs Q E hr h => ?_
  · obtain ⟨v, l, h, w, rfl, _⟩ := h; rfl
  · obtain ⟨v, l, h, w, rfl, tl, fl, h1, h2, w1, w2, q⟩ := h
    refine ⟨_, pss_cons (ps_expr (pe_cl (ok_need_frame T) hr (pa_cons (pv 0) (pa_cons (pv 1) (pa_cons (pv 2) pa_nil)))))
      (pss_one (ps_ret (pe_cl (ok_sws_in T) hr (pa_cons (pe_dcT (by rfl) hr.units0 (pv 0) (by rfl) (by decide +kernel) (by rfl) (by decide +kernel) (by rfl)) (pa_cons (pv 1) (pa_cons (pv 2) pa_nil)))))), ?_⟩
    refine ⟨_, rfl, _, rfl, _, rfl, v, l, h, w, rfl, tl, fl, h1, h2, w1, w2, fun H1 e1 => ?_⟩
    exact s_retM (evm_sws rfl rfl rfl (tl.mono (.of e1)) fl h2 w2) fun p xs H2 hp x2 hl t => q p xs H2 (fresh_back e1 hp) (e1.trans x2) hl t
def spSwd : Sp := fun vs H Q _ => ∃ (v u : V) (l : Ink) (h w : Nat) (s : Sw), vs = [v, .int (h : Int), .int (w : Int), u] ∧ Tp H v (eInk l) ∧ Tp H u (eSw s) ∧ InF h w l ∧ 1 ≤ h ∧ h ≤ 12 ∧ 1 ≤ w ∧ w ≤ 12 ∧ IsSw h w l s ∧
  ∀ v H', Ex H H' → Tp H' v (eInk (swM l s)) → Q v H'
theorem sc_swd : FnScope ["ink", "high", "wide", "switch"] ["ink", "high", "wide", "switch"] (defScope (tp 29)) := ⟨rfl, rfl, rfl, by decide +kernel, rfl, by decide +kernel, by decide +kernel⟩
theorem ok_swd (T : Txt K mg) : Cl P w K mg base 6 "switched" ["ink", "high", "wide", "switch"] spSwd := by
  refine cl_mk T.switched sc_swd (fun vs H Q E h => ?_) (fun _ _ _ _ _ _ us hl => match us, hl with | [_, _, _, _], _ => rfl) fun f cdv A outer s H vs Q E hr h => ?_
  · obtain ⟨v, u, l, h, w, sw, rfl, _⟩ := h; rfl
  · obtain ⟨v, u, l, h, w, sw, rfl, tl, ts, fl, h1, h2, w1, w2, is, q⟩ := h
    refine ⟨_, pss_cons (ps_expr (pe_cl (ok_need_frame T) hr (pa_cons (pv 0) (pa_cons (pv 1) (pa_cons (pv 2) pa_nil)))))
      (pss_cons (ps_if (PW.pt (pw_or (pt_not (pt_val (pe_cl (ok_list T) hr (pa_cons (pv 3) (pa_cons pe_int (pa_cons pe_int pa_nil))))))
          (pw_or1 (pt_cmpR (op_notInD (hu65 hr)) (pv 3) (pe_cl (ok_sws_in T) hr (pa_cons (pe_dcT (by rfl) hr.units0 (pv 0) (by rfl) (by decide +kernel) (by rfl) (by decide +kernel) (by rfl)) (pa_cons (pv 1) (pa_cons (pv 2) pa_nil)))) (by rfl)))))
        (pss_one ps_never) pss_nil)
      (pss_one (ps_ret (pe_cl (ok_sw_in T) hr (pa_cons (pv 0) (pa_cons (pv 3) pa_nil)))))), ?_⟩
    refine ⟨_, rfl, _, rfl, _, rfl, v, l, h, w, rfl, tl, fl, h1, h2, w1, w2, fun H1 e1 => ?_⟩
    have tl1 := tl.mono (.of e1)
    have ts1 := ts.mono (.of e1)
    have ks := evm_sws (K := K) (σ := start ["ink", "high", "wide", "switch"] [v, .int (h : Int), .int (w : Int), u]) rfl rfl rfl tl1 fl h2 w2
    have hz : l.length ≤ 144 := Nat.le_trans (inF_len fl) (Nat.mul_le_mul h2 w2)
    dsimp only
    refine q_if (b := false) ?_ (fun h => by cases h) fun _ H2 x2 => ?_
    · refine et_is (a := false || false) (et_or ?_ fun _ => ?_) rfl
      · refine et_is (a := !true) (et_not (et_B fun H2 x2 Q q => ?_)) rfl
        obtain ⟨a, rfl, ha⟩ := tp_sw (ts1.mono (.of x2))
        exact ⟨_, rfl, a, _, 4, 4, rfl, ha, by simp, by simp, q H2 (Ex.refl H2)⟩
      · refine et_is (a := !true) (et_test ?_) rfl
        refine ev_niM (evd_var rfl ts1) ks (eSw_pure _) (pureA_map eSw_pure _) (by rw [eSw_depth]; decide) (depthLst (fun a => by rw [eSw_depth]; decide) _) ?_
        exact ⟨fun _ => (mem_map_inj fun a b => eSw_inj).mpr (mem_swsM.mpr is), fun _ => rfl⟩
    · refine ⟨_, rfl, _, rfl, v, u, l, sw, rfl, tl1.mono (.of x2), ts1.mono (.of x2), hz, fun v' H' x' t' => ?_⟩
      exact q v' H' ((e1.trans x2).trans x') t'
end
end K53

-- part K53W8
set_option maxRecDepth 100000
set_option maxHeartbeats 4000000
namespace K53
open PySem PySem.Spec PyProof.Rows L2 Evl
theorem eqv_nil (ds : List PyData) : PyData.eqv (.list ds) (.list []) = decide (ds = []) := by
  cases ds with
  | nil => simp [PyData.eqv, PyData.eqvAll]
  | cons d ds => simp [PyData.eqv, PyData.eqvAll]
theorem shaped_pureL {ds : List PyData} (h : PureA ds = true) (h2 : (PyData.list ds).depth ≤ 64) : SeqAt.shaped (.list ds) = true := shaped_of (by simpa [Flat] using pureA_flat h) h2
theorem tk_lst {H : Hp} {p : Addr} {xs ys : List V} (h : H p = some (.lst xs)) : TK H (upd H p (.lst ys)) := (TK.refl H).upd fun zs q => by rw [h] at q; cases q
section
variable {K : PySem.W.Frag} {σ : L2.St} {H H' : Hp} {ta tb te : TE} {d e : PyData} {ds es : List PyData}
theorem evd_ixM {i : Nat} (ha : EvM ta σ H ds) (hb : Ev tb σ H (.int (i : Int))) (hi : ds[i]? = some d) : EvD (tOp (rIxL K) ta tb) σ H d := fun H1 x Q q =>
  ha H1 x _ fun p xs H2 hp x2 hl t => (hb.mono x) H2 x2 _ fun H3 x3 => by
    obtain ⟨u, hu, tu⟩ := t.getD hi
    exact ⟨p, xs, (i : Int), u, rfl, rfl, .of (x3 p _ hl), atI_nat hu, q u H3 (x2.trans x3) (tu.mono (.of x3))⟩
theorem ev_neN (ha : EvM ta σ H ds) (hp : PureA ds = true) (hd : (PyData.list ds).depth ≤ 64) : Ev (tOp (rNeD K) ta (tLst tNil)) σ H (.bl (!decide (ds = []))) := by
  rw [← eqv_nil]
  exact ev_neMM ha (evm_lst ead_nil (by decide)) (shaped_pureL hp hd) (shaped_of rfl (by simp [PyData.depth, PyData.depthAll]))
theorem ev_eqN (ha : EvM ta σ H ds) (hp : PureA ds = true) (hd : (PyData.list ds).depth ≤ 64) : Ev (tOp (rEqD K) ta (tLst tNil)) σ H (.bl (decide (ds = []))) := by
  rw [← eqv_nil]
  exact ev_eqMM ha (evm_lst ead_nil (by decide)) (shaped_pureL hp hd) (shaped_of rfl (by simp [PyData.depth, PyData.depthAll]))
theorem eqv_dec {d e : PyData} {p : Prop} [Decidable p] (hd : Pure d = true) (he : Pure e = true) (h : d = e ↔ p) : PyData.eqv d e = decide p := by
  have := eqv_pure hd he
  cases q : PyData.eqv d e <;> simp_all
theorem q_par {i j : Nat} {ta : TA} {D : Ends} {tz : TS} (h : EvAD ta σ H [d, e]) (k : ∀ v u H1, Ex H H1 → Tp H1 v d → Tp H1 u e → tz D ((σ.set i (some v)).set j (some u)) H1) : tSeq (tPar i j ta) tz D σ H := h H (Ex.refl H) _ fun vs H1 x t => by
  cases t with | cons c1 t => cases t with | cons c2 t =>
  cases t
  exact ⟨_, _, rfl, k _ _ H1 x c1 c2⟩
/-- two lists that grow -/
structure Two (H : Hp) (p r : Addr) (t u : List Sw) (H' : Hp) : Prop where
  ex : Ex H H'
  one : ∃ xs, H' p = some (.lst xs) ∧ TpA H' xs (t.map eSw)
  two : ∃ xs, H' r = some (.lst xs) ∧ TpA H' xs (u.map eSw)
theorem Two.go {p r : Addr} {t u : List Sw} {H0 : Hp} (z : Two H0 p r t u H) (x : Ex H H') : Two H0 p r t u H' := by
  obtain ⟨z1, ⟨xs, z2, z3⟩, ys, z4, z5⟩ := z
  exact ⟨z1.trans x, ⟨xs, x p _ z2, z3.mono (.of x)⟩, ys, x r _ z4, z5.mono (.of x)⟩
end
section
variable {mg : Str → Option Value} {P : Program} {K : PySem.W.Frag} {w : World} {base : Heap}
def spRoad : Sp := fun vs H Q _ => ∃ (v u : V) (l m : Ink) (h w : Nat), vs = [v, u, .int (h : Int), .int (w : Int)] ∧ Tp H v (eInk l) ∧ Tp H u (eInk m) ∧ InF h w l ∧ InF h w m ∧ 1 ≤ h ∧ h ≤ 12 ∧ 1 ≤ w ∧ w ≤ 12 ∧
  (sumsM l h w ≠ sumsM m h w → ∀ H', Ex H H' → Q .non H') ∧ (sumsM l h w = sumsM m h w → ∀ t v H', Path h w l m t → Ex H H' → Tp H' v (.tuple (t.map eSw)) → Q v H')
theorem sc_road : FnScope ["one", "other", "high", "wide", "there", "back", "here", "goal", "row", "first", "second", "switch"] ["one", "other", "high", "wide"] (defScope (tp 32)) := ⟨rfl, rfl, rfl, by decide +kernel, rfl, by decide +kernel, by decide +kernel⟩
theorem evm_only {σ : L2.St} {H : Hp} {i j k : Nat} {v u : V} {l m : Ink} {row : Nat} (hi : σ[i]? = some (some v)) (hj : σ[j]? = some (some u)) (hk : σ[k]? = some (some (.int (row : Int)))) (tl : Tp H v (eInk l)) (tm : Tp H u (eInk m)) (hz : l.length ≤ 144) :
    EvM (tCall spOnly [] E0 (tCons (tVar i) (tCons (tVar j) (tCons (tVar k) tNil)))) σ H ((onlyM l m row).map eN) :=
  evm_call (ead_cons (evd_var hi tl) (ead_cons (evd_var hj tm) (ead_cons (evd_int (ev_var hk)) ead_nil))) fun us H1 x1 tus Q E q1 => by
    cases tus with | cons c1 tus => cases tus with | cons c2 tus => cases tus with | cons c3 tus =>
    cases tus; cases c3
    exact ⟨_, _, l, m, row, rfl, c1, c2, hz, q1⟩
theorem evd_swIn {σ : L2.St} {H : Hp} {i j : Nat} {v u : V} {l : Ink} {s : Sw} (hi : σ[i]? = some (some v)) (hj : σ[j]? = some (some u)) (tl : Tp H v (eInk l)) (tm : Tp H u (eSw s)) (hz : l.length ≤ 144) :
    EvD (tCall spSwIn [] E0 (tCons (tVar i) (tCons (tVar j) tNil))) σ H (eInk (swM l s)) :=
  evd_call (ead_cons (evd_var hi tl) (ead_cons (evd_var hj tm) ead_nil)) fun us H1 x1 tus Q E q1 => by
    cases tus with | cons c1 tus => cases tus with | cons c2 tus =>
    cases tus
    exact ⟨_, _, l, s, rfl, c1, c2, hz, q1⟩
theorem evd_sumsIn {σ : L2.St} {H : Hp} {i j k : Nat} {v : V} {l : Ink} {h w : Nat} (hi : σ[i]? = some (some v)) (hj : σ[j]? = some (some (.int (h : Int)))) (hk : σ[k]? = some (some (.int (w : Int)))) (tl : Tp H v (eInk l)) (fl : InF h w l) (hh : h ≤ 12) (hw : w ≤ 12) :
    EvD (tCall spSumsIn [] E0 (tCons (tVar i) (tCons (tVar j) (tCons (tVar k) tNil)))) σ H (eSums (sumsM l h w)) :=
  evd_call (ead_cons (evd_var hi tl) (ead_cons (evd_int (ev_var hj)) (ead_cons (evd_int (ev_var hk)) ead_nil))) fun us H1 x1 tus Q E q1 => by
    cases tus with | cons c1 tus => cases tus with | cons c2 tus => cases tus with | cons c3 tus =>
    cases tus; cases c2; cases c3
    exact ⟨_, l, h, w, rfl, c1, fl, hh, hw, q1⟩
theorem ok_road (T : Txt K mg) : Cl P w K mg base 6 "road" ["one", "other", "high", "wide"] spRoad := by
  refine cl_mk T.road sc_road (fun vs H Q E h => ?_) (fun _ _ _ _ _ _ us hl => match us, hl with | [_, _, _, _], _ => rfl) fun f cdv A outer s H vs Q E hr h => ?_
  · obtain ⟨v, u, l, m, h, w, rfl, _⟩ := h; rfl
  · obtain ⟨v, u, l, m, h, w, rfl, tl, tm, fl, fm, h1, h2, w1, w2, qn, qs⟩ := h
    refine ⟨_, pss_cons (ps_expr (pe_cl (ok_need_frame T) hr (pa_cons (pv 0) (pa_cons (pv 2) (pa_cons (pv 3) pa_nil)))))
      (pss_cons (ps_expr (pe_cl (ok_need_frame T) hr (pa_cons (pv 1) (pa_cons (pv 2) (pa_cons (pv 3) pa_nil)))))
      (pss_cons (ps_if (pt_cmpR (op_neD hr.units) (pe_cl (ok_sums_in T) hr (pa_cons (pv 0) (pa_cons (pv 2) (pa_cons (pv 3) pa_nil)))) (pe_cl (ok_sums_in T) hr (pa_cons (pv 1) (pa_cons (pv 2) (pa_cons (pv 3) pa_nil)))) (by rfl)) (pss_one (ps_ret pe_non)) pss_nil)
      (pss_cons (ps_asg (pe_tup (pa_cons (pe_lst pa_nil) (pa_cons (pe_lst pa_nil) (pa_cons (pv 0) (pa_cons (pv 1) pa_nil))))) (pg_tup rfl (pgs_cons (pg_name (i := 4) sc_road.nd rfl (.inl rfl)) (pgs_cons (pg_name (i := 5) sc_road.nd rfl (.inl rfl)) (pgs_cons (pg_name (i := 6) sc_road.nd rfl (.inl rfl)) (pgs_cons (pg_name (i := 7) sc_road.nd rfl (.inl rfl)) pgs_nil))))))
      (pss_cons (ps_for PassesOwn.never rfl (pi_range1 (by rfl) T.b_range (pa_cons (pv 2) pa_nil)) (pg_name (i := 8) sc_road.nd rfl (.inl rfl))
        (pss_one (ps_while PassesOwn.never (pt_cmpR (op_neD hr.units) (pe_cl (ok_only T) hr (pa_cons (pv 6) (pa_cons (pv 7) (pa_cons (pv 8) pa_nil)))) (pe_lst pa_nil) (by rfl))
          (pss_cons (ps_par (i := 9) (j := 10) (by rfl) sc_road.nd rfl rfl (by decide) rfl rfl (pa_cons (pe_ix ix_list (pe_cl (ok_only T) hr (pa_cons (pv 6) (pa_cons (pv 7) (pa_cons (pv 8) pa_nil)))) pe_int (fun _ _ => rfl)) (pa_cons (pe_ix ix_list (pe_cl (ok_only T) hr (pa_cons (pv 7) (pa_cons (pv 6) (pa_cons (pv 8) pa_nil)))) pe_int (fun _ _ => rfl)) pa_nil)) (by rfl))
          (pss_cons (ps_set (i := 11) sc_road.nd rfl (.inl rfl) (pe_cl (ok_rect T) hr (pa_cons (pv 6) (pa_cons (pv 8) (pa_cons (pv 9) (pa_cons (pv 10) (pa_cons (pv 2) pa_nil)))))))
          (pss_one (ps_if (pt_cmp (pc_notN (pv 11)))
            (pss_cons (ps_set (i := 6) sc_road.nd rfl (.inl rfl) (pe_cl (ok_sw_in T) hr (pa_cons (pv 6) (pa_cons (pv 11) pa_nil))))
              (pss_one (ps_expr (pe_bm PySem.F.plainAttrs_list PySem.F.slot_list_append PySem.F.type_list_append mt_append (pv 4) (pa_cons (pv 11) pa_nil)))))
            (pss_cons (ps_set (i := 11) sc_road.nd rfl (.inl rfl) (pe_cl (ok_rect T) hr (pa_cons (pv 7) (pa_cons (pv 8) (pa_cons (pv 10) (pa_cons (pv 9) (pa_cons (pv 2) pa_nil)))))))
              (pss_cons (ps_set (i := 7) sc_road.nd rfl (.inl rfl) (pe_cl (ok_sw_in T) hr (pa_cons (pv 7) (pa_cons (pv 11) pa_nil))))
                (pss_one (ps_expr (pe_bm PySem.F.plainAttrs_list PySem.F.slot_list_append PySem.F.type_list_append mt_append (pv 5) (pa_cons (pv 11) pa_nil)))))))))))))
      (pss_one (ps_ret (pe_tup (pa_star (pv 4) (pa_starRev rfl (by rfl) T.b_reversed (pv 5) pa_nil))))))))), ?_⟩
    refine ⟨_, rfl, _, rfl, _, rfl, v, l, h, w, rfl, tl, fl, h1, h2, w1, w2, fun H1 e1 => ?_⟩
    refine ⟨_, rfl, _, rfl, _, rfl, u, m, h, w, rfl, tm.mono (.of e1), fm, h1, h2, w1, w2, fun H2 e2 => ?_⟩
    dsimp only
    have tl2 := tl.mono (.of (e1.trans e2))
    have tm2 := tm.mono (.of (e1.trans e2))
    refine q_when (b := !decide (sumsM l h w = sumsM m h w)) ?_ (fun hb H3 e3 => ?_) fun hb H3 e3 => ?_
    · refine et_is (et_test (ev_neD (evd_sumsIn rfl rfl rfl tl2 fl h2 w2) (evd_sumsIn rfl rfl rfl tm2 fm h2 w2) (shaped_of (pure_flat (eSums_pure _)) (Nat.le_trans (eSums_depth _) (by decide))) (shaped_of (pure_flat (eSums_pure _)) (Nat.le_trans (eSums_depth _) (by decide))))) ?_
      rw [eqv_dec (eSums_pure _) (eSums_pure _) ⟨fun q => eSums_inj q, fun q => by rw [q]⟩]
    · exact qn (by simpa using hb) H3 ((e1.trans e2).trans e3)
    · have same : sumsM l h w = sumsM m h w := by simpa using hb
      have qs' := qs same
      have e3' := (e1.trans e2).trans e3
      refine ⟨by show 0 ≤ sizeLine; decide, fun p hp => ⟨by show 0 ≤ sizeLine; decide, fun r hr0 => ⟨_, rfl, _, rfl, by show 4 ≤ sizeLine; decide, fun a ha => ⟨a, _, rfl, .of upd_same, rfl, _, _, rfl, _, _, rfl, _, _, rfl, _, _, rfl, rfl, ?_⟩⟩⟩⟩
      have y1 := Ex.new (o := .lst []) hp
      have y2 := Ex.new (o := .lst []) hr0
      have y3 := Ex.new (o := .tup [.ref p, .ref r, v, u]) ha
      have e4 := ((e3'.trans y1).trans y2).trans y3
      have pn : H p = none := fresh_back e3' hp
      have rn : H r = none := fresh_back (e3'.trans y1) hr0
      have pr : p ≠ r := by
        rintro rfl
        rw [upd_same] at hr0; cases hr0
      refine q_forR1 (n := (h : Int)) (ea_cons (ev_var rfl) ea_nil) ⟨by omega, by omega⟩ (fun i σ H' => ∃ t1 t2 here goal hv gv, Two H p r t1 t2 H' ∧ Tp H' hv (eInk here) ∧ Tp H' gv (eInk goal) ∧ Rd h w i here goal ∧ Path h w l here t1 ∧ Path h w goal m t2.reverse ∧ t1.length + t2.length ≤ 12 * i ∧
          ∃ o8 o9 o10 o11, σ = [some v, some u, some (.int (h : Int)), some (.int (w : Int)), some (.ref p), some (.ref r), some hv, some gv, o8, o9, o10, o11]) (fun H5 x5 => ?_) ?_ ?_
      · refine ⟨[], [], l, m, v, u, ⟨e4.trans x5, ⟨[], x5 p _ (y3 p _ (y2 p _ upd_same)), .nil⟩, [], x5 r _ (y3 r _ upd_same), .nil⟩, tl.mono (.of (e4.trans x5)), tm.mono (.of (e4.trans x5)), .zero fl fm ((sameS_iff fl fm).mp same), .nil _, .nil _, by simp, _, _, _, _, rfl⟩
      · rintro row σ H5 hrow ⟨t1, t2, here, goal, hv, gv, two, th, tg, R, p1, p2, len, o8, o9, o10, o11, rfl⟩
        have hrow' : row < h := by omega
        refine s_while (fun n σ H' => ∃ t1 t2 here goal hv gv, Two H p r t1 t2 H' ∧ Tp H' hv (eInk here) ∧ Tp H' gv (eInk goal) ∧ Rd h w row here goal ∧ Path h w l here t1 ∧ Path h w goal m t2.reverse ∧ n = (onlyM here goal row).length ∧ t1.length + t2.length + n ≤ 12 * row + 12 ∧
          ∃ o9 o10 o11, σ = [some v, some u, some (.int (h : Int)), some (.int (w : Int)), some (.ref p), some (.ref r), some hv, some gv, some (.int (row : Int)), o9, o10, o11]) (onlyM here goal row).length ?_ ?_
        · refine ⟨t1, t2, here, goal, hv, gv, two, th, tg, R, p1, p2, rfl, ?_, _, _, _, rfl⟩
          have : (onlyM here goal row).length ≤ w := by rw [onlyM_length R.f1]; exact cnt_le _ _
          omega
        · rintro n σ H6 ⟨t1, t2, here, goal, hv, gv, two, th, tg, R, p1, p2, hn, len, o9, o10, o11, rfl⟩
          have hz : here.length ≤ 144 := Nat.le_trans (inF_len R.f1) (Nat.mul_le_mul h2 w2)
          have hz2 : goal.length ≤ 144 := Nat.le_trans (inF_len R.f2) (Nat.mul_le_mul h2 w2)
          refine ⟨!decide ((onlyM here goal row).map eN = []), et_test (ev_neN (evm_only rfl rfl rfl th tg hz) (pureA_map eN_pure _) (depthLst (fun a => by rw [eN_depth]; decide) _)), fun hb H7 x7 => ⟨fun σ2 H2 => ∃ m', m' < n ∧ _, fun _ _ q => q, ?_⟩, fun hb H7 x7 => ?_⟩
          · have ne : onlyM here goal row ≠ [] := by
              intro e; rw [e] at hb; simp at hb
            obtain ⟨a0, ra, ea⟩ := List.exists_cons_of_ne_nil ne
            have ne2 : onlyM goal here row ≠ [] := by
              intro e
              have := R.both hrow'
              rw [e, ea] at this; simp at this
            obtain ⟨b0, rb, eb⟩ := List.exists_cons_of_ne_nil ne2
            have ma : a0 ∈ onlyM here goal row := by rw [ea]; exact List.mem_cons_self ..
            have mb : b0 ∈ onlyM goal here row := by rw [eb]; exact List.mem_cons_self ..
            have two7 := two.go x7
            have th7 := th.mono (.of x7)
            have tg7 := tg.mono (.of x7)
            have ad : EvAD (tCons (tOp (rIxL K) (tCall spOnly [] E0 (tCons (tVar 6) (tCons (tVar 7) (tCons (tVar 8) tNil)))) (tC (.int (0 : Nat)))) (tCons (tOp (rIxL K) (tCall spOnly [] E0 (tCons (tVar 7) (tCons (tVar 6) (tCons (tVar 8) tNil)))) (tC (.int (0 : Nat)))) tNil))
                [some v, some u, some (.int (h : Int)), some (.int (w : Int)), some (.ref p), some (.ref r), some hv, some gv, some (.int (row : Int)), o9, o10, o11] H7 [eN a0, eN b0] :=
              ead_cons (evd_ixM (i := 0) (evm_only rfl rfl rfl th7 tg7 hz) ev_c (by rw [ea]; rfl)) (ead_cons (evd_ixM (i := 0) (evm_only rfl rfl rfl tg7 th7 hz2) ev_c (by rw [eb]; rfl)) ead_nil)
            refine q_par ad fun v1 v2 H8 x8 c1 c2 => ?_
            cases c1; cases c2
            have two8 := two7.go x8
            have th8 := th7.mono (.of x8)
            have tg8 := tg7.mono (.of x8)
            have rc : ∀ {σ : L2.St} {H9 : Hp} {i j k : Nat} {z : V} {lk : Ink} {c d : Nat}, σ[i]? = some (some z) → σ[8]? = some (some (.int (row : Int))) → σ[j]? = some (some (.int (c : Int))) → σ[k]? = some (some (.int (d : Int))) → σ[2]? = some (some (.int (h : Int))) → Tp H9 z (eInk lk) →
                (rectM lk row c d h = none → EvD (tCall spRect [] E0 (tCons (tVar i) (tCons (tVar 8) (tCons (tVar j) (tCons (tVar k) (tCons (tVar 2) tNil)))))) σ H9 .none) ∧ (∀ s, rectM lk row c d h = some s → EvD (tCall spRect [] E0 (tCons (tVar i) (tCons (tVar 8) (tCons (tVar j) (tCons (tVar k) (tCons (tVar 2) tNil)))))) σ H9 (eSw s)) := by
              intro σ H9 i j k z lk c d hi h8 hj hk h2' tz
              have args : EvAD (tCons (tVar i) (tCons (tVar 8) (tCons (tVar j) (tCons (tVar k) (tCons (tVar 2) tNil))))) σ H9 [eInk lk, .int (row : Int), .int (c : Int), .int (d : Int), .int (h : Int)] := ead_cons (evd_var hi tz) (ead_cons (evd_int (ev_var h8)) (ead_cons (evd_int (ev_var hj)) (ead_cons (evd_int (ev_var hk)) (ead_cons (evd_int (ev_var h2')) ead_nil))))
              refine ⟨fun e => evd_call args fun us H1 x1 tus Q E q1 => ?_, fun s e => evd_call args fun us H1 x1 tus Q E q1 => ?_⟩
              · cases tus with | cons c1 tus => cases tus with | cons c2 tus => cases tus with | cons c3 tus => cases tus with | cons c4 tus => cases tus with | cons c5 tus =>
                cases tus; cases c2; cases c3; cases c4; cases c5
                exact ⟨_, lk, row, c, d, h, rfl, c1, hrow', h2, fun _ H' x => q1 _ H' x .non, fun s e' => by rw [e] at e'; cases e'⟩
              · cases tus with | cons c1 tus => cases tus with | cons c2 tus => cases tus with | cons c3 tus => cases tus with | cons c4 tus => cases tus with | cons c5 tus =>
                cases tus; cases c2; cases c3; cases c4; cases c5
                exact ⟨_, lk, row, c, d, h, rfl, c1, hrow', h2, (fun e' => by rw [e] at e'; cases e'), (fun s' e' z H' x t => by rw [e] at e'; cases e'; exact q1 z H' x t)⟩
            cases hs : rectM here row a0 b0 h with
            | some s =>
              obtain ⟨is, R', dec⟩ := R.here hrow' ma mb hs
              refine q_asgD ((rc rfl rfl rfl rfl rfl th8).2 s hs) fun sv H9 x9 ts => ?_
              refine s_if (b := true) (et_B fun H10 x10 Q q => ⟨_, rfl, ?_⟩) (fun _ H10 x10 => ?_) (fun q => by cases q)
              · obtain ⟨b, rfl, _⟩ := tp_sw ts
                exact q H10 (Ex.refl H10)
              · have two10 := two8.go (x9.trans x10)
                have th10 := th8.mono (.of (x9.trans x10))
                have tg10 := tg8.mono (.of (x9.trans x10))
                have ts10 := ts.mono (.of x10)
                refine q_asgD (evd_swIn rfl rfl th10 ts10 hz) fun hv2 H11 x11 th11 => ?_
                obtain ⟨z1, ⟨xs, z2, z3⟩, ys, z4, z5⟩ := two10.go x11
                refine s_appD (d := eSw s) z2 z3 (ev_var rfl) (evd_var rfl (ts10.mono (.of x11))) (by rw [List.length_map]; omega) fun v' H12 x12 t12 t13 => ?_
                have tk := tk_lst (ys := xs ++ [v']) (x12 p _ z2)
                refine ⟨(onlyM (swM here s) goal row).length, by omega, t1 ++ [s], t2, swM here s, goal, hv2, gv, ⟨Ex.mut (z1.trans x12) pn, ⟨_, upd_same, by rw [List.map_append]; exact t13⟩, ys, by rw [upd_ne (fun e => pr e.symm)]; exact x12 r _ z4, (z5.mono (.of x12)).mono tk⟩, (th11.mono (.of x12)).mono tk, (tg10.mono (.of (x11.trans x12))).mono tk, R', p1.snoc is, p2, rfl, ?_, _, _, _, rfl⟩
                rw [List.length_append]; simp only [List.length_cons, List.length_nil]; omega
            | none =>
              obtain ⟨s, hs2⟩ := R.goal_has hrow' ma mb hs
              obtain ⟨is, R', dec⟩ := R.goal hrow' ma mb hs2
              refine q_asgD ((rc rfl rfl rfl rfl rfl th8).1 hs) fun sv H9 x9 ts => ?_
              cases ts
              refine s_if (b := false) (et_B fun H10 x10 Q q => ⟨_, rfl, q H10 (Ex.refl H10)⟩) (fun q => by cases q) (fun _ H10 x10 => ?_)
              have two10 := two8.go (x9.trans x10)
              have th10 := th8.mono (.of (x9.trans x10))
              have tg10 := tg8.mono (.of (x9.trans x10))
              refine q_asgD ((rc rfl rfl rfl rfl rfl tg10).2 s hs2) fun sv H11 x11 ts => ?_
              refine q_asgD (evd_swIn rfl rfl (tg10.mono (.of x11)) ts hz2) fun gv2 H12 x12 tg12 => ?_
              obtain ⟨z1, ⟨xs, z2, z3⟩, ys, z4, z5⟩ := two10.go (x11.trans x12)
              refine s_appD (d := eSw s) z4 z5 (ev_var rfl) (evd_var rfl (ts.mono (.of x12))) (by rw [List.length_map]; omega) fun v' H13 x13 t12 t13 => ?_
              have tk := tk_lst (ys := ys ++ [v']) (x13 r _ z4)
              refine ⟨(onlyM here (swM goal s) row).length, by omega, t1, t2 ++ [s], here, swM goal s, hv, gv2, ⟨Ex.mut (z1.trans x13) rn, ⟨xs, by rw [upd_ne pr]; exact x13 p _ z2, (z3.mono (.of x13)).mono tk⟩, _, upd_same, by rw [List.map_append]; exact t13⟩, (th10.mono (.of ((x11.trans x12).trans x13))).mono tk, (tg12.mono (.of x13)).mono tk, R', p1, ?_, rfl, ?_, _, _, _, rfl⟩
              · rw [List.reverse_append]; exact p2.back R.f2 is
              · rw [List.length_append]; simp only [List.length_cons, List.length_nil]; omega
          · have e0 : onlyM here goal row = [] := by
              simpa using hb
            exact ⟨t1, t2, here, goal, hv, gv, two.go x7, th.mono (.of x7), tg.mono (.of x7), R.next hrow' e0, p1, p2, by omega, _, _, _, _, rfl⟩
      · rintro σ H5 ⟨t1, t2, here, goal, hv, gv, ⟨z1, ⟨xs, z2, z3⟩, ys, z4, z5⟩, th, tg, R, p1, p2, len, o8, o9, o10, o11, rfl⟩
        have eh : ((h : Int)).toNat = h := by omega
        rw [eh] at R len
        have eg := R.last
        subst eg
        have hd : EvD (tTup (tStarS K (tVar 4) (tStarRev K (tVar 5) tNil))) [some v, some u, some (.int (h : Int)), some (.int (w : Int)), some (.ref p), some (.ref r), some hv, some gv, o8, o9, o10, o11] H5 (.tuple ((t1 ++ t2.reverse).map eSw)) := by
          have := evd_tup (ead_starL (K := K) (σ := [some v, some u, some (.int (h : Int)), some (.int (w : Int)), some (.ref p), some (.ref r), some hv, some gv, o8, o9, o10, o11]) (ev_var (i := 4) rfl) z2 z3 (ead_starRev (K := K) (ev_var (i := 5) rfl) z4 z5 ead_nil)) (by simp only [List.length_append, List.length_reverse, List.length_map, List.length_nil]; omega)
          rw [List.append_nil, ← List.map_reverse, ← List.map_append] at this
          exact this
        exact s_retD hd fun z H6 x6 tz => qs' (t1 ++ t2.reverse) z H6 (p1.app p2) (z1.trans x6) tz
end
end K53

-- part K53W9
set_option maxRecDepth 100000
set_option maxHeartbeats 4000000
namespace K53
open PySem PySem.Spec PyProof.Rows L2 Evl
section
variable {K : PySem.W.Frag} {σ : L2.St} {H H' : Hp} {tl te : TE} {ta : TA} {g g1 : TG} {vs vs1 : List Nat} {α : Type} {enc : α → PyData} {ls : List α} {lo n : α → Nat} {e : α → Nat → PyData}
/-- one outer turn of a comprehension of two fors, the inner one over a range -/
def Turn2 (g : TG) (ta : TA) (g1 : TG) (te : TE) (vs vs1 : List Nat) (σ : L2.St) (H : Hp) (v : V) (d : PyData) (lo n : Nat) (e : Nat → PyData) : Prop :=
  ∃ σ2, wipe σ2 vs = wipe σ vs ∧ (∀ H1 (Q : L2.St → Hp → Prop), Ex H H1 → Tp H1 v d → Q σ2 H1 → g v (wipe σ vs) H1 Q) ∧ (∀ H1, Ex H H1 → Tp H1 v d → EvA ta σ2 H1 [.int (lo : Int), .int (n : Int)]) ∧
    ∀ j H2, j < n - lo → Ex H H2 → Tp H2 v d → ∃ σ3, wipe σ3 vs1 = wipe σ2 vs1 ∧ (∀ Q : L2.St → Hp → Prop, Q σ3 H2 → g1 (.int ((lo + j : Nat) : Int)) (wipe σ2 vs1) H2 Q) ∧ EvD te σ3 H2 (e (lo + j))
theorem range'_s (a k : Nat) : List.range' a (k + 1) = List.range' a k ++ [a + k] := by rw [List.range'_1_concat]
theorem flat_take {β : Type} {f : α → List β} {i : Nat} {a : α} (h : ls[i]? = some a) : (ls.take (i + 1)).flatMap f = (ls.take i).flatMap f ++ f a := by
  rw [takeS h, List.flatMap_append]; simp
theorem evm_lc2 {l : Addr} {xs : List V} {B : Nat} (h : Ev tl σ H (.ref l)) (hl0 : H l = some (.lst xs)) (hx : TpA H xs (ls.map enc)) (hn : ∀ a, a ∈ ls → lo a ≤ 100000 ∧ n a ≤ B) (hB : ls.length * B + B < 100000)
    (hb : ∀ a v, a ∈ ls → Turn2 g ta g1 te vs vs1 σ H v (enc a) (lo a) (n a) (e a)) :
    EvM (tLc2 (iList K tl) g tYes (iRng2 ta) g1 tYes te vs vs1) σ H (ls.flatMap fun a => (List.range' (lo a) (n a - lo a)).map (e a)) := fun H0 x Q q => h H0 x _ fun H1 x1 => by
  have h1 := (x.trans x1) l _ hl0
  have h2 := hx.mono (.of (x.trans x1))
  have hlen : xs.length = ls.length := by rw [h2.length, List.length_map]
  let F : Nat → List PyData := fun i => (ls.take i).flatMap fun a => (List.range' (lo a) (n a - lo a)).map (e a)
  have Fl : ∀ i, (F i).length ≤ ls.length * B := fun i => by
    refine Nat.le_trans (flat_le (b := B) fun a ha => ?_) (Nat.mul_le_mul_right _ (by rw [List.length_take]; exact Nat.min_le_right _ _))
    rw [List.length_map, List.length_range']
    have := (hn a (List.mem_of_mem_take ha)).2
    omega
  refine ⟨l, rfl, ⟨xs, .of h1⟩, fun D hD => ⟨fun i m H' => m = xs.length - i ∧ i ≤ xs.length ∧ Cm H1 D (F i) H', ⟨xs.length, by simp, Nat.zero_le _, Cm.start hD⟩, ?_⟩⟩
  rintro i m H' ⟨rfl, hi, c⟩
  have hq : SqL K H' l xs := .of (c.2.1 l _ h1)
  by_cases hlt : i < xs.length
  · refine .inr ⟨⟨xs, xs[i], hq, by simp [hlt]⟩, fun H' => Cm H1 D (F (i + 1)) H', fun H'' p' => ⟨xs.length - (i + 1), by omega, rfl, hlt, p'⟩, fun v H'' y => ?_⟩
    obtain ⟨rfl, y⟩ := y
    have hv := y xs hq
    obtain ⟨a, ha, tv⟩ := h2.mapGet hv
    have hs : F (i + 1) = F i ++ (List.range' (lo a) (n a - lo a)).map (e a) := flat_take ha
    have hn2 := hn a (List.mem_of_getElem? ha)
    obtain ⟨σ2, w2, g2, ea, turn⟩ := hb a v (List.mem_of_getElem? ha)
    have tv' := tv.mono (.of c.2.1)
    refine g2 H'' _ ((x.trans x1).trans c.2.1) tv' ⟨w2, ?_⟩
    dsimp only [tYes]
    rw [if_pos rfl]
    refine ea H'' ((x.trans x1).trans c.2.1) tv' H'' (Ex.refl H'') _ fun H3 x3 => ⟨_, _, rfl, ⟨by omega, by omega, by omega, by omega⟩, ?_⟩
    have en : ((n a : Int) - (lo a : Int)).toNat = n a - lo a := by omega
    rw [en]
    refine ⟨fun j k H' => k = (n a - lo a) - j ∧ j ≤ n a - lo a ∧ Tp H' v (enc a) ∧ Cm H1 D (F i ++ (List.range' (lo a) j).map (e a)) H', ⟨_, rfl, Nat.zero_le _, tv'.mono (.of x3), by simpa using c.go x3⟩, ?_⟩
    rintro j k H4 ⟨rfl, hj, t4, c4⟩
    by_cases hj2 : j < n a - lo a
    · refine .inr ⟨hj2, fun H' => Tp H' v (enc a) ∧ Cm H1 D (F i ++ (List.range' (lo a) (j + 1)).map (e a)) H', fun H5 p' => ⟨_, by omega, rfl, hj2, p'⟩, fun u H5 y => ?_⟩
      obtain ⟨rfl, rfl⟩ := y
      obtain ⟨σ3, w3, g3, ed⟩ := turn j H5 hj2 ((x.trans x1).trans c4.2.1) t4
      have ej : (lo a : Int) + (j : Int) = ((lo a + j : Nat) : Int) := by omega
      rw [ej]
      refine g3 _ ⟨w3, ?_⟩
      dsimp only [tYes]
      rw [if_pos rfl]
      refine ed H5 (Ex.refl H5) _ fun y H6 x6 ty => ?_
      have c6 := c4.go x6
      obtain ⟨hDn, _, ys, h3, h4⟩ := id c6
      refine ⟨ys, h3, sz_lt ?_, (t4.mono (.of x6)).mono (tk_lst h3), ?_⟩
      · rw [h4.length, List.length_append, List.length_map, List.length_range']
        have := Fl i; omega
      · rw [range'_s, List.map_append, ← List.append_assoc]
        exact c6.add ty h3
    · have e1 : j = n a - lo a := by omega
      subst e1
      exact .inl ⟨Nat.le_refl _, by show Cm H1 D (F (i + 1)) H4; rw [hs]; exact c4⟩
  · have e1 : i = xs.length := by omega
    subst e1
    refine .inl ⟨⟨xs, hq, Nat.le_refl _⟩, ?_⟩
    have e2 : F xs.length = ls.flatMap fun a => (List.range' (lo a) (n a - lo a)).map (e a) := by
      show (ls.take xs.length).flatMap _ = _
      rw [hlen, List.take_length]
    rw [e2] at c
    obtain ⟨c1, c2, ys, c3, c4⟩ := c
    exact q D ys H' (fresh_back x1 c1) (x1.trans c2) c3 c4
end

theorem eqv_nilT (ds : List PyData) : PyData.eqv (.tuple ds) (.tuple []) = decide (ds = []) := by
  cases ds with
  | nil => simp [PyData.eqv, PyData.eqvAll]
  | cons d ds => simp [PyData.eqv, PyData.eqvAll]
section
variable {mg : Str → Option Value} {P : Program} {K : PySem.W.Frag} {w : World} {base : Heap}
theorem chs_s (m k : Nat) : ((chs m k).flatMap fun a => (List.range' (lo a) (m - lo a)).map fun x => eNs (a ++ [x])) = (chs m (k + 1)).map eNs := by
  rw [show chs m (k + 1) = (chs m k).flatMap fun one => (List.range' (lo one) (m - lo one)).map fun a => one ++ [a] from rfl, List.map_flatMap]
  congr 1
  funext a
  rw [List.map_map]; rfl
theorem ev_lo {σ : L2.St} {H : Hp} {i : Nat} {v : V} {one : List Nat} (hi : σ[i]? = some (some v)) (t : Tp H v (eNs one)) :
    Ev (tIf (tTest (tOp (rNeD K) (tVar i) (tTup tNil))) (tOp (rI0 fun i j => .int (i + j)) (tOp (rIxT K) (tVar i) (tUn (rU fun i => .int (-i)) (tC (.int 1)))) (tC (.int 1))) (tC (.int 0))) σ H (.int (lo one : Int)) := by
  refine ev_if (b := !decide (one.map eN = [])) (et_is (et_test (ev_neD (evd_var hi t) (evd_tup ead_nil (by decide)) (shaped_of (pure_flat (eNs_pure _)) (Nat.le_trans (eNs_depth _) (by decide))) (shaped_of rfl (by simp [PyData.depth, PyData.depthAll])))) (by rw [show eNs one = .tuple (one.map eN) from rfl, eqv_nilT])) (fun hb => ?_) fun hb => ?_
  · rcases List.eq_nil_or_concat one with rfl | ⟨o, a, rfl⟩
    · simp at hb
    · rw [List.concat_eq_append] at *
      rw [lo_snoc]
      obtain ⟨p, rfl, hp⟩ := tp_ns t
      rw [List.map_append, List.map_append] at hp
      refine ev_is (ev_op (x := .int (a : Int)) (y := .int 1) (z := .int ((a : Int) + 1)) (ev_op (x := .ref p) (y := .int (-1)) (ev_var hi) (fun H1 x Q q => ⟨1, rfl, q H1 (Ex.refl H1)⟩) (rv_ixT (.of hp) (atI_last _ _))) ev_c rv_I0) (by congr 1)
  · have : one = [] := by simpa using hb
    subst this
    exact ev_c
def spChs : Sp := fun vs H Q _ => ∃ (m k : Nat), vs = [.int (m : Int), .int (k : Int)] ∧ m ≤ 4 ∧ k ≤ 4 ∧
  ∀ p xs H', H p = none → Ex H H' → H' p = some (.lst xs) → TpA H' xs ((chs m k).map eNs) → Q (.ref p) H'
theorem sc_chs : FnScope ["many", "size", "found", "turn", "one", "at"] ["many", "size"] (defScope (tp 31)) := ⟨rfl, rfl, rfl, by decide +kernel, rfl, by decide +kernel, by decide +kernel⟩
theorem ok_chs (T : Txt K mg) : Cl P w K mg base 1 "choices" ["many", "size"] spChs := by
  refine cl_mk T.choices sc_chs (fun vs H Q E h => ?_) (fun _ _ _ _ _ _ us hl => match us, hl with | [_, _], _ => rfl) fun f cdv A outer s H vs Q E hr h => ?_
  · obtain ⟨m, k, rfl, _⟩ := h; rfl
  · obtain ⟨m, k, rfl, hm, hk, q⟩ := h
    refine ⟨_, pss_cons (ps_set (i := 2) sc_chs.nd rfl (.inl rfl) (pe_lst (pa_cons (pe_tup pa_nil) pa_nil)))
      (pss_cons (ps_for PassesOwn.never rfl (pi_range1 (by rfl) T.b_range (pa_cons (pv 1) pa_nil)) (pg_name (i := 3) sc_chs.nd rfl (.inl rfl))
        (pss_one (ps_setLc2 (i := 2) (g := gName 4) (tt := tYes) (g1 := gName 5) (tt1 := tYes) (te := tTup (tStarS K (tVar 4) (tCons (tVar 5) tNil)))
            (wi1 := iRng2 (tCons (tIf (tTest (tOp (rNeD K) (tVar 4) (tTup tNil))) (tOp (rI0 fun i j => .int (i + j)) (tOp (rIxT K) (tVar 4) (tUn (rU fun i => .int (-i)) (tC (.int 1)))) (tC (.int 1))) (tC (.int 0))) (tCons (tVar 0) tNil)))
            (own := [("one", 4), ("at", 5)]) (vs1 := [5]) rfl sc_chs.nd rfl rfl (by rfl) (pi_list (pv 2)) (blkOk_by (N := ["many", "size", "found", "turn", "one", "at"]) (sc := defScope (tp 31)) (by decide +kernel)) (by decide)
            (fun _ _ _ _ _ => by exact pg_name (i := 4) sc_chs.nd rfl (.inl rfl)) (fun _ _ _ _ _ => by exact pts_nil)
            (fun _ _ _ _ _ => by exact pi_range2 (by rfl) T.b_range (pa_cons (pe_ifExp (pt_cmpR (op_neD hr.units) (pv 4) (pe_tup pa_nil) (by rfl)) (pe_op op_add (pe_ix ix_tup (pv 4) (pe_un un_neg pe_int) (fun _ _ => rfl)) pe_int) pe_int) (pa_cons (pv 0) pa_nil)))
            (fun _ _ _ _ _ => by exact pg_name (i := 5) sc_chs.nd rfl (.inl rfl)) (fun _ _ _ _ _ => by exact pts_nil)
            (fun _ _ _ _ _ => by exact pe_tup (pa_star (pv 4) (pa_cons (pv 5) pa_nil))))))
      (pss_one (ps_ret (pv 2)))), ?_⟩
    refine q_asgM (ds := [.tuple []]) (evm_lst (ead_cons (evd_tup ead_nil (by decide)) ead_nil) (by decide)) fun p ys H1 hp x1 hl hx => ?_
    refine q_forR1 (n := (k : Int)) (ea_cons (ev_var rfl) ea_nil) ⟨by omega, by omega⟩ (fun i σ H' => Ex H H' ∧ ∃ p xs o3, H p = none ∧ H' p = some (.lst xs) ∧ TpA H' xs ((chs m i).map eNs) ∧ σ = [some (.int (m : Int)), some (.int (k : Int)), some (.ref p), o3, none, none]) (fun H2 x2 => ⟨x1.trans x2, p, ys, _, hp, x2 p _ hl, hx.mono (.of x2), rfl⟩) ?_ ?_
    · rintro i σ H2 hi ⟨e2, p, xs, o3, pn, hl2, hx2, rfl⟩
      have hb : ∀ (a : List Nat) (v : V), a ∈ chs m i → Turn2 (gName 4) (tCons (tIf (tTest (tOp (rNeD K) (tVar 4) (tTup tNil))) (tOp (rI0 fun i j => .int (i + j)) (tOp (rIxT K) (tVar 4) (tUn (rU fun i => .int (-i)) (tC (.int 1)))) (tC (.int 1))) (tC (.int 0))) (tCons (tVar 0) tNil)) (gName 5) (tTup (tStarS K (tVar 4) (tCons (tVar 5) tNil))) [4, 5] [5]
          [some (.int (m : Int)), some (.int (k : Int)), some (.ref p), some (.int (i : Int)), none, none] H2 v (eNs a) (lo a) m (fun x => eNs (a ++ [x])) := fun a v ha =>
        ⟨[some (.int (m : Int)), some (.int (k : Int)), some (.ref p), some (.int (i : Int)), some v, none], rfl, fun H1 Q _ _ h => h, fun H1 x t => ea_cons (ev_lo rfl t) (ea_cons (ev_var rfl) ea_nil), fun j H3 hj x t =>
          ⟨[some (.int (m : Int)), some (.int (k : Int)), some (.ref p), some (.int (i : Int)), some v, some (.int ((lo a + j : Nat) : Int))], rfl, fun Q h => h, by
            have := evd_tup (ead_starD (K := K) (σ := [some (.int (m : Int)), some (.int (k : Int)), some (.ref p), some (.int (i : Int)), some v, some (.int ((lo a + j : Nat) : Int))]) (evd_var (i := 4) rfl t) (ead_cons (evd_int (ev_var (i := 5) rfl)) ead_nil)) (by
              have := (mem_chs.mp ha).1
              simp only [List.length_append, List.length_map, List.length_cons, List.length_nil]; omega)
            rw [show a.map eN ++ [PyData.int ((lo a + j : Nat) : Int)] = (a ++ [lo a + j]).map eN by rw [List.map_append]; rfl] at this
            exact this⟩⟩
      have few := chs_len4 m hm i (by omega)
      have k2 := evm_lc2 (K := K) (tl := tVar 2) (B := 4) (ev_var rfl) hl2 hx2 (fun a ha => ⟨by have := lo_le (mem_chs.mp ha).2.2; omega, hm⟩) (by omega) hb
      rw [chs_s] at k2
      exact s_asgM k2 fun p3 xs3 H3 hp3 x3 hl3 hx3 => ⟨e2.trans x3, p3, xs3, _, fresh_back e2 hp3, hl3, hx3, rfl⟩
    · rintro σ H2 ⟨e2, p, xs, o3, pn, hl2, hx2, rfl⟩
      have ek : ((k : Int)).toNat = k := by omega
      rw [ek] at hx2
      exact ⟨_, rfl, q p xs H2 pn e2 hl2 hx2⟩
end
end K53

-- part K53W10
set_option maxRecDepth 100000
set_option maxHeartbeats 4000000
namespace K53
open PySem PySem.Spec PyProof.Rows L2 Evl
section
variable {K : PySem.W.Frag} {σ : L2.St} {H H' : Hp} {ta tb te tl : TE} {d e : PyData} {ds es : List PyData} {D : Ends} {tu tz : TS} {g : TG} {α : Type} {enc : α → PyData} {ls : List α}
theorem evd_cat (ha : EvD ta σ H (.tuple ds)) (hb : EvD tb σ H (.tuple es)) (hz : ds.length + es.length ≤ 100000) : EvD (tOp (rCatA K) ta tb) σ H (.tuple (ds ++ es)) := fun H1 x Q q =>
  ha H1 x _ fun v H2 x2 t => hb H2 (x.trans x2) _ fun u H3 x3 t3 => by
    obtain ⟨a, xs, rfl, h1, h2⟩ := tp_tup (t.mono (.of x3))
    obtain ⟨b, ys, rfl, h3, h4⟩ := tp_tup t3
    have x23 := x2.trans x3
    refine ⟨a, b, xs, ys, rfl, rfl, .of h1, .of h3, sz_of (by rw [h2.length, h4.length]; exact hz), fun e => ?_, fun _ e => ?_, fun _ _ p hp => ?_⟩
    · subst e; cases h2
      exact q _ H3 x23 (.tup h3 h4)
    · subst e; cases h4
      exact q _ H3 x23 (by rw [List.append_nil]; exact .tup h1 h2)
    · have xn := Ex.new (o := .tup (xs ++ ys)) hp
      exact q _ _ (x23.trans xn) (.tup upd_same ((h2.app h4).mono (.of xn)))
/-- for x in a list at a name -/
theorem s_forLD {l : Addr} {xs : List V} (h : Ev tl σ H (.ref l)) (hl : H l = some (.lst xs)) (Pv : Nat → L2.St → Hp → Prop) (h0 : ∀ H1, Ex H H1 → Pv 0 σ H1) (hx : TpA H xs (ls.map enc)) (hk : ∀ i σ' H', Pv i σ' H' → H' l = some (.lst xs) ∧ TpA H' xs (ls.map enc))
    (hs : ∀ i a v σ' H', ls[i]? = some a → Tp H' v (enc a) → Pv i σ' H' → g v σ' H' fun σ2 H2 => tu { D with nx := Pv (i + 1), ct := Pv (i + 1), bk := D.nx } σ2 H2) (hd : ∀ σ' H', Pv ls.length σ' H' → D.nx σ' H') : tFor (iList K tl) g tu D σ H :=
  h H (Ex.refl H) _ fun H1 e => by
    have hlen : xs.length = ls.length := by rw [hx.length, List.length_map]
    refine ⟨l, rfl, ⟨xs, .of (e l _ hl)⟩, for_list (xs := xs) Pv (h0 H1 e) (fun i σ' H' _ p => .of (hk i σ' H' p).1) (fun i v σ' H' hi p => ?_) (fun σ' H' p => hd σ' H' (by rw [← hlen]; exact p))⟩
    obtain ⟨a, ha, tv⟩ := (hk i σ' H' p).2.mapGet hi
    exact hs i a v σ' H' ha tv p
theorem q_forLD {l : Addr} {xs : List V} (h : Ev tl σ H (.ref l)) (hl : H l = some (.lst xs)) (Pv : Nat → L2.St → Hp → Prop) (h0 : ∀ H1, Ex H H1 → Pv 0 σ H1) (hx : TpA H xs (ls.map enc)) (hk : ∀ i σ' H', Pv i σ' H' → H' l = some (.lst xs) ∧ TpA H' xs (ls.map enc))
    (hs : ∀ i a v σ' H', ls[i]? = some a → Tp H' v (enc a) → Pv i σ' H' → g v σ' H' fun σ2 H2 => tu { D with nx := Pv (i + 1), ct := Pv (i + 1), bk := tz D } σ2 H2) (hd : ∀ σ' H', Pv ls.length σ' H' → tz D σ' H') : tSeq (tFor (iList K tl) g tu) tz D σ H :=
  s_forLD (D := { D with nx := tz D }) h hl Pv h0 hx hk hs hd
theorem ev_lenD (h : EvD te σ H (.tuple ds)) : Ev (tCB (rLenS K) (tCons te tNil)) σ H (.int (ds.length : Int)) := fun H1 x Q q => h H1 x _ fun v H2 x2 t => by
  obtain ⟨a, xs, rfl, h1, h2⟩ := tp_tup t
  exact ⟨a, xs, rfl, .inr (.of h1), by rw [h2.length]; exact q H2 x2⟩
/-- for x in a new list -/
theorem s_forMD (h : EvM tl σ H (ls.map enc)) (Pv : Addr → List V → Nat → L2.St → Hp → Prop) (h0 : ∀ p xs H1, H p = none → Ex H H1 → H1 p = some (.lst xs) → TpA H1 xs (ls.map enc) → Pv p xs 0 σ H1) (hk : ∀ p xs i σ' H', Pv p xs i σ' H' → H' p = some (.lst xs) ∧ TpA H' xs (ls.map enc))
    (hs : ∀ p xs i a v σ' H', ls[i]? = some a → Tp H' v (enc a) → Pv p xs i σ' H' → g v σ' H' fun σ2 H2 => tu { D with nx := Pv p xs (i + 1), ct := Pv p xs (i + 1), bk := D.nx } σ2 H2) (hd : ∀ p xs σ' H', Pv p xs ls.length σ' H' → D.nx σ' H') : tFor (iList K tl) g tu D σ H :=
  h H (Ex.refl H) _ fun p xs H1 hp e hl hx => by
    have hlen : xs.length = ls.length := by rw [hx.length, List.length_map]
    refine ⟨p, rfl, ⟨xs, .of hl⟩, for_list (xs := xs) (Pv p xs) (h0 p xs H1 hp e hl hx) (fun i σ' H' _ z => .of (hk p xs i σ' H' z).1) (fun i v σ' H' hi z => ?_) (fun σ' H' z => hd p xs σ' H' (by rw [← hlen]; exact z))⟩
    obtain ⟨a, ha, tv⟩ := (hk p xs i σ' H' z).2.mapGet hi
    exact hs p xs i a v σ' H' ha tv z
end
theorem zip_range {α : Type} (w : Nat) (f : Nat → α) : ((List.range w).map f).zipIdx = (List.range w).map fun c => (f c, c) := by
  apply List.ext_getElem
  · simp
  · intro i h1 h2
    simp
/-! ### all pictures -/
section
variable (h w : Nat) (l : Ink)
def lfL (ink : Ink) : List Nat := (List.range w).map (lf (colS l) ink)
def eP (ink : Ink) : PyData := .tuple [eInk ink, eNs (lfL w l ink)]
def fn (i : Nat) : List Ink := fnd h w (rowS l) (colS l) i
def turnP (i : Nat) (ink : Ink) : List Ink := ((chs w (rowS l i)).filter (okp h w (colS l) i ink)).map (ext i ink)
end
theorem fn_s {h w : Nat} {l : Ink} (i : Nat) : fn h w l (i + 1) = (fn h w l i).flatMap (turnP h w l i) := rfl
structure Mo (w : Nat) (l : Ink) (H : Hp) (p r : Addr) (xs : List V) (F L : List Ink) (H' : Hp) : Prop where
  ex : Ex H H'
  pf : H' p = some (.lst xs)
  pt : TpA H' xs (F.map (eP w l))
  rf : ∃ ys, H' r = some (.lst ys) ∧ TpA H' ys (L.map (eP w l))
theorem Mo.go {w : Nat} {l : Ink} {H H1 H2 : Hp} {p r : Addr} {xs : List V} {F L : List Ink} (m : Mo w l H p r xs F L H1) (x : Ex H1 H2) : Mo w l H p r xs F L H2 := by
  obtain ⟨m1, m2, m3, ys, m4, m5⟩ := m
  exact ⟨m1.trans x, x p _ m2, m3.mono (.of x), ys, x r _ m4, m5.mono (.of x)⟩
section
variable {mg : Str → Option Value} {P : Program} {K : PySem.W.Frag} {w : World} {base : Heap}
def spAll : Sp := fun vs H Q _ => ∃ (v u : V) (l : Ink) (h w : Nat), vs = [v, u] ∧ Tp H v (eNs ((List.range h).map (rowS l))) ∧ Tp H u (eNs ((List.range w).map (colS l))) ∧ InF h w l ∧ 1 ≤ h ∧ h ≤ 5 ∧ 1 ≤ w ∧ w ≤ 4 ∧ h * w < 17 ∧
  ∀ p xs H', H p = none → Ex H H' → H' p = some (.lst xs) → TpA H' xs (((fn h w l h).mergeSort (PySem.W.dataLe false eInk)).map eInk) → Q (.ref p) H'
abbrev nAll : List Str := ["rows", "columns", "found", "row", "size", "more", "ink", "left", "part", "less", "done", "column", "many"]
theorem sc_all : FnScope nAll ["rows", "columns"] (defScope (tp 30)) := ⟨rfl, rfl, rfl, by decide +kernel, rfl, by decide +kernel, by decide +kernel⟩
abbrev tC1 (K : PySem.W.Frag) : TE := tLc (iTup K (tVar 8)) (gName 11) tYes (tOp (rI0 fun i j => .bl (decide (j < i))) (tOp (rIxT K) (tVar 7) (tVar 11)) (tC (.int 0))) [11]
abbrev tC2 (K : PySem.W.Frag) : TE := tLc (iEnumT K (tCons (tVar 7) tNil)) (gTup K 2 (gCons (gName 11) (gCons (gName 12) gNil))) tYes (tOp (rI0 fun i j => .int (i - j)) (tVar 12) (tCB (fun xs H Q => (∃ i, xs = [.int i] ∧ Q (.int i) H) ∨ ∃ k, xs = [.bl k] ∧ Q (.int (if k then 1 else 0)) H) (tCons (tOp (rInT K) (tVar 11) (tVar 8)) tNil))) [11, 12]
abbrev tC3 (K : PySem.W.Frag) : TE := tLc (iTup K (tVar 9)) (gName 12) tYes (tOp (rI0 fun i j => .bl (decide (i < j))) (tVar 12) (tOp (rI0 fun i j => .int (i - j)) (tCB (rLenS K) (tCons (tVar 0) tNil)) (tVar 3))) [12]
abbrev tC4 (K : PySem.W.Frag) : TE := tLc (iTup K (tVar 8)) (gName 11) tYes (tTup (tCons (tVar 3) (tCons (tVar 11) tNil))) [11]
abbrev tC5 (K : PySem.W.Frag) : TE := tLc (iList K (tVar 2)) (gTup K 2 (gCons (gName 6) (gCons (gName 7) gNil))) (tNot (tB (tCB (rAnyT K) (tCons (tVar 7) tNil)))) (tVar 6) [6, 7]
theorem alike_ink : ∀ x y : Ink, PySem.W.alike (eInk x) (eInk y) = true := by
  have key : ∀ x y : Ink, PySem.W.alikeAll (x.map eC) (y.map eC) = true := by
    intro x
    induction x with
    | nil => intro y; simp [PySem.W.alikeAll]
    | cons a x ih =>
      intro y
      cases y with
      | nil => simp [PySem.W.alikeAll]
      | cons b y =>
        rw [List.map_cons, List.map_cons, PySem.W.alikeAll, ih y]
        simp [eC, PySem.W.alike, PySem.W.alikeAll]
  intro x y
  unfold eInk
  rw [PySem.W.alike]
  exact key x y
theorem filter_takeG {α β : Type} {ls : List α} {p : α → Bool} {f : α → β} {i : Nat} {a : α} (h : ls[i]? = some a) : ((ls.take (i + 1)).filter p).map f = if p a = true then ((ls.take i).filter p).map f ++ [f a] else ((ls.take i).filter p).map f := by
  rw [takeS h, List.filter_append, List.map_append, List.filter_cons]
  split <;> simp
theorem filter_yes {α : Type} (l : List α) : l.filter (fun _ => true) = l := by rw [List.filter_eq_self]; intro a _; rfl
def sg (a u p i rs r iv lv pv o9 : Option V) : L2.St := [a, u, p, i, rs, r, iv, lv, pv, o9, none, none, none]
theorem lfL_get {w c : Nat} {l ink : Ink} (hc : c < w) : ((lfL w l ink).map eN)[c]? = some (.int (lf (colS l) ink c : Int)) := by
  unfold lfL
  rw [List.getElem?_map, List.getElem?_map, List.getElem?_range hc]; rfl
section
variable {H : Hp} {a u p iV rs r iv o9 : Option V} {lv pv : V} {l ink : Ink} {w : Nat} {part : List Nat}
theorem t1 (tl : Tp H lv (eNs (lfL w l ink))) (tp : Tp H pv (eNs part)) (hp : ∀ c, c ∈ part → c < w) (hz : part.length < 100000) :
    Ev (tCB (rAll K) (tCons (tC1 K) tNil)) (sg a u p iV rs r iv (some lv) (some pv) o9) H (.bl (part.all fun c => decide (0 < lf (colS l) ink c))) := by
  have k : EvM (tC1 K) (sg a u p iV rs r iv (some lv) (some pv) o9) H ((part.map fun c => decide (0 < lf (colS l) ink c)).map PyData.bool) := by
    have := evm_lcT (K := K) (tl := tVar 8) (g := gName 11) (tt := tYes) (te := tOp (rI0 fun i j => .bl (decide (j < i))) (tOp (rIxT K) (tVar 7) (tVar 11)) (tC (.int 0))) (vs := [11]) (σ := sg a u p iV rs r iv (some lv) (some pv) o9) (enc := eN) (ls := part) (p := fun _ => true) (f := fun c => .bool (decide (0 < lf (colS l) ink c))) (evd_var rfl tp) hz fun c v H1 hc x tc => by
      cases tc
      refine ⟨[a, u, p, iV, rs, r, iv, some lv, some pv, o9, none, some (.int (c : Int)), none], rfl, fun Q h => h, fun H2 x2 Q q => q H2 (Ex.refl H2), fun _ => evd_of (ev_is (ev_op (x := .int (lf (colS l) ink c : Int)) (y := .int 0) (ev_int (evd_ixT (i := c) (evd_var rfl (tl.mono (.of x))) (ev_var rfl) (lfL_get (hp c hc)))) ev_c rv_I0) ?_) (.bl _)⟩
      exact congrArg V.bl (decide_eq_decide.mpr (by omega))
    rw [filter_yes] at this
    rw [List.map_map]
    exact this
  refine ev_is (ev_all k) ?_
  rw [List.all_map]; rfl
def lsL (w : Nat) (l ink : Ink) (part : List Nat) : List Nat := (List.range w).map fun c => lf (colS l) ink c - if c ∈ part then 1 else 0
theorem t2 (tl : Tp H lv (eNs (lfL w l ink))) (tp : Tp H pv (eNs part)) (hpos : ∀ c, c ∈ part → 0 < lf (colS l) ink c) (hz : w < 100000) :
    EvD (tCB (rTupOf K) (tCons (tC2 K) tNil)) (sg a u p iV rs r iv (some lv) (some pv) o9) H (eNs (lsL w l ink part)) := by
  have k := evm_lcE (K := K) (σ := sg a u p iV rs r iv (some lv) (some pv) o9) (te0 := tVar 7) (g := gTup K 2 (gCons (gName 11) (gCons (gName 12) gNil))) (tt := tYes)
    (te := tOp (rI0 fun i j => .int (i - j)) (tVar 12) (tCB (fun xs H Q => (∃ i, xs = [.int i] ∧ Q (.int i) H) ∨ ∃ k, xs = [.bl k] ∧ Q (.int (if k then 1 else 0)) H) (tCons (tOp (rInT K) (tVar 11) (tVar 8)) tNil))) (vs := [11, 12])
    (enc := eN) (ls := lfL w l ink) (pr := fun _ _ => true) (fr := fun c n => .int ((n : Int) - if c ∈ part then 1 else 0)) (evd_var rfl tl) (by unfold lfL; simp; omega) fun c n v T H1 hc x tc hT => by
      cases tc
      refine ⟨[a, u, p, iV, rs, r, iv, some lv, some pv, o9, none, some (.int (c : Int)), some (.int (n : Int))], rfl, fun Q h => ⟨T, _, rfl, .of hT, rfl, _, _, rfl, _, _, rfl, rfl, h⟩, fun H2 x2 Q q => q H2 (Ex.refl H2), fun _ => evd_int (ev_is (ev_op (x := .int (n : Int)) (y := .int (if decide (c ∈ part) = true then 1 else 0)) (z := .int ((n : Int) - (if decide (c ∈ part) = true then 1 else 0))) (ev_var rfl) (ev_cb (vs := [.bl (decide (c ∈ part))]) (ea_cons (ev_inT (evd_int (ev_var rfl)) (evd_var rfl (tp.mono (.of x))) (eN_pure c) (pureA_map eN_pure part) (by simp [PyData.depth]) (Nat.le_trans (eNs_depth part) (by decide)) (by rw [decide_eq_true_iff]; exact (mem_map_inj (f := eN) fun a b => eN_inj).symm)) ea_nil) fun H3 x3 Q q => .inr ⟨_, rfl, q H3 (Ex.refl H3)⟩) rv_I0) ?_)⟩
      by_cases z : c ∈ part <;> simp [z]
  rw [filter_yes (α := Nat × Nat)] at k
  have e : (lfL w l ink).zipIdx.map (fun z => PyData.int ((z.1 : Int) - if z.2 ∈ part then 1 else 0)) = (lsL w l ink part).map eN := by
    unfold lfL lsL
    rw [zip_range, List.map_map, List.map_map]
    refine List.map_congr_left fun c hc => ?_
    show PyData.int _ = PyData.int _
    congr 1
    simp only
    split
    · have := hpos c ‹_›; omega
    · omega
  rw [e] at k
  exact evd_tupleOf k
theorem t3 {ro : V} {R : List Nat} {i h : Nat} {les : V} (tr : Tp H ro (eNs R)) (hR : R.length = h) (hi : i < h) (tl : Tp H les (eNs (lsL w l ink part))) (hz : w < 100000) :
    Ev (tCB (rAll K) (tCons (tC3 K) tNil)) (sg (some ro) u p (some (.int (i : Int))) rs r iv (some lv) (some pv) (some les)) H (.bl ((List.range w).all fun c => decide (lf (colS l) ink c - (if c ∈ part then 1 else 0) < h - i))) := by
  have k : EvM (tC3 K) (sg (some ro) u p (some (.int (i : Int))) rs r iv (some lv) (some pv) (some les)) H (((lsL w l ink part).map fun n => decide (n < h - i)).map PyData.bool) := by
    have := evm_lcT (K := K) (σ := sg (some ro) u p (some (.int (i : Int))) rs r iv (some lv) (some pv) (some les)) (tl := tVar 9) (g := gName 12) (tt := tYes) (te := tOp (rI0 fun i j => .bl (decide (i < j))) (tVar 12) (tOp (rI0 fun i j => .int (i - j)) (tCB (rLenS K) (tCons (tVar 0) tNil)) (tVar 3))) (vs := [12]) (enc := eN) (ls := lsL w l ink part) (p := fun _ => true) (f := fun n => .bool (decide (n < h - i))) (evd_var rfl tl) (by unfold lsL; simp; omega) fun n v H1 hc x tc => by
      cases tc
      refine ⟨[some ro, u, p, some (.int (i : Int)), rs, r, iv, some lv, some pv, some les, none, none, some (.int (n : Int))], rfl, fun Q h => h, fun H2 x2 Q q => q H2 (Ex.refl H2), fun _ => evd_of (ev_is (ev_op (x := .int (n : Int)) (y := .int ((h : Int) - i)) (ev_var rfl) (ev_op (x := .int (h : Int)) (y := .int (i : Int)) (ev_is (ev_lenD (evd_var rfl (tr.mono (.of x)))) (by rw [List.length_map, hR])) (ev_var rfl) rv_I0) rv_I0) ?_) (.bl _)⟩
      exact congrArg V.bl (decide_eq_decide.mpr (by omega))
    rw [filter_yes] at this
    rw [List.map_map]
    exact this
  refine ev_is (ev_all k) ?_
  unfold lsL
  rw [List.all_map, List.all_map]; rfl
theorem t4 {i : Nat} {ik : V} (ti : Tp H ik (eInk ink)) (tp : Tp H pv (eNs part)) (hz : ink.length + part.length < 100000) :
    EvD (tOp (rCatA K) (tVar 6) (tCB (rTupOf K) (tCons (tC4 K) tNil))) (sg a u p (some (.int (i : Int))) rs r (some ik) (some lv) (some pv) o9) H (eInk (ext i ink part)) := by
  have k := evm_lcT (K := K) (σ := sg a u p (some (.int (i : Int))) rs r (some ik) (some lv) (some pv) o9) (tl := tVar 8) (g := gName 11) (tt := tYes) (te := tTup (tCons (tVar 3) (tCons (tVar 11) tNil))) (vs := [11]) (enc := eN) (ls := part) (p := fun _ => true) (f := fun c => eC (i, c)) (evd_var rfl tp) (by omega) fun c v H1 hc x tc => by
    cases tc
    exact ⟨[a, u, p, some (.int (i : Int)), rs, r, some ik, some lv, some pv, o9, none, some (.int (c : Int)), none], rfl, fun Q h => h, fun H2 x2 Q q => q H2 (Ex.refl H2), fun _ => cell_ev (ev_var rfl) (ev_var rfl)⟩
  rw [filter_yes] at k
  have e : eInk (ext i ink part) = .tuple (ink.map eC ++ part.map fun c => eC (i, c)) := by
    unfold eInk ext
    rw [List.map_append, List.map_map]; rfl
  rw [e]
  exact evd_cat (evd_var rfl ti) (evd_tupleOf k) (by rw [List.length_map, List.length_map]; omega)
end
theorem lsL_ext {w i : Nat} {l ink : Ink} {part : List Nat} (hp : part.Nodup) : lsL w l ink part = lfL w l (ext i ink part) := by
  unfold lsL lfL
  refine List.map_congr_left fun c _ => ?_
  unfold lf
  rw [colS_ext hp]; omega
theorem ok_all (T : Txt K mg) : Cl P w K mg base 5 "all_pictures" ["rows", "columns"] spAll := by
  refine cl_mk T.all_pictures sc_all (fun vs H Q E h => ?_) (fun _ _ _ _ _ _ us hl => match us, hl with | [_, _], _ => rfl) fun f cdv A outer s H vs Q E hr h => ?_
  · obtain ⟨v, u, l, h, w, rfl, _⟩ := h; rfl
  · obtain ⟨v, u, l, h, w, rfl, tv, tu, fl, h1, h2, w1, w2, hw, q⟩ := h
    refine ⟨_, pss_cons (ps_expr (pe_cl (ok_need_both T) hr (pa_cons (pv 0) (pa_cons (pv 1) pa_nil))))
      (pss_cons (ps_set (i := 2) sc_all.nd rfl (.inl rfl) (pe_lst (pa_cons (pe_tup (pa_cons (pe_tup pa_nil) (pa_cons (pv 1) pa_nil))) pa_nil)))
      (pss_cons (ps_for PassesOwn.never rfl (pi_enumT (by rfl) T.b_enumerate (pa_cons (pv 0) pa_nil)) (pg_tup rfl (pgs_cons (pg_name (i := 3) sc_all.nd rfl (.inr rfl)) (pgs_cons (pg_name (i := 4) sc_all.nd rfl (.inl rfl)) pgs_nil)))
        (pss_cons (ps_set (i := 5) sc_all.nd rfl (.inl rfl) (pe_lst pa_nil))
        (pss_cons (ps_for PassesOwn.never rfl (pi_list (pv 2)) (pg_tup rfl (pgs_cons (pg_name (i := 6) sc_all.nd rfl (.inl rfl)) (pgs_cons (pg_name (i := 7) sc_all.nd rfl (.inr rfl)) pgs_nil)))
          (pss_one (ps_for PassesOwn.never rfl (pi_list (pe_cl (ok_chs T) hr (pa_cons (pe_callB call_len_seq (by rfl) T.b_len PySem.boot_len (pa_cons (pv 1) pa_nil)) (pa_cons (pv 4) pa_nil)))) (pg_name (i := 8) sc_all.nd rfl (.inr rfl))
            (pss_one (ps_if (pt_val (pe_callB (cr_all rfl) (by rfl) T.b_all (by decide +kernel) (pa_cons (pe_lc (g := gName 11) (tt := tYes) (te := tOp (rI0 fun i j => .bl (decide (j < i))) (tOp (rIxT K) (tVar 7) (tVar 11)) (tC (.int 0))) (own := [("column", 11)]) rfl sc_all.nd (pi_tup (pv 8)) (blkOk_by (N := nAll) (sc := defScope (tp 30)) (by decide +kernel))
                  (fun _ _ _ _ _ => by exact pg_name (i := 11) sc_all.nd rfl (.inl rfl)) (fun _ _ _ _ _ => by exact pts_nil) (fun _ _ _ _ _ => by exact pe_cmpR op_gt (pe_ix ix_tup (pv 7) (pv 11) (fun _ _ => rfl)) pe_int (nomark _))) pa_nil)))
              (pss_cons (ps_set (i := 9) sc_all.nd rfl (.inl rfl) (pe_callTy call_tuple_of (by rfl) T.b_tuple (by decide +kernel) (pa_cons (pe_lc (g := gTup K 2 (gCons (gName 11) (gCons (gName 12) gNil))) (tt := tYes)
                  (te := tOp (rI0 fun i j => .int (i - j)) (tVar 12) (tCB (fun xs H Q => (∃ i, xs = [.int i] ∧ Q (.int i) H) ∨ ∃ k, xs = [.bl k] ∧ Q (.int (if k then 1 else 0)) H) (tCons (tOp (rInT K) (tVar 11) (tVar 8)) tNil))) (own := [("column", 11), ("many", 12)]) rfl sc_all.nd (pi_enumT (by rfl) T.b_enumerate (pa_cons (pv 7) pa_nil)) (blkOk_by (N := nAll) (sc := defScope (tp 30)) (by decide +kernel))
                  (fun _ _ _ _ _ => by exact pg_tup rfl (pgs_cons (pg_name (i := 11) sc_all.nd rfl (.inl rfl)) (pgs_cons (pg_name (i := 12) sc_all.nd rfl (.inl rfl)) pgs_nil))) (fun _ _ _ _ _ => by exact pts_nil)
                  (fun _ _ _ _ _ => by exact pe_op op_sub (pv 12) (pe_callTy call_int1 (by rfl) T.b_int (by decide +kernel) (pa_cons (pe_cmpR (op_inT (hu65 hr)) (pv 11) (pv 8) (by rfl)) pa_nil)))) pa_nil)))
              (pss_one (ps_if (pt_val (pe_callB (cr_all rfl) (by rfl) T.b_all (by decide +kernel) (pa_cons (pe_lc (g := gName 12) (tt := tYes) (te := tOp (rI0 fun i j => .bl (decide (i < j))) (tVar 12) (tOp (rI0 fun i j => .int (i - j)) (tCB (rLenS K) (tCons (tVar 0) tNil)) (tVar 3))) (own := [("many", 12)]) rfl sc_all.nd (pi_tup (pv 9)) (blkOk_by (N := nAll) (sc := defScope (tp 30)) (by decide +kernel))
                  (fun _ _ _ _ _ => by exact pg_name (i := 12) sc_all.nd rfl (.inl rfl)) (fun _ _ _ _ _ => by exact pts_nil) (fun _ _ _ _ _ => by exact pe_cmpR op_lt (pv 12) (pe_op op_sub (pe_callB call_len_seq (by rfl) T.b_len PySem.boot_len (pa_cons (pv 0) pa_nil)) (pv 3)) (nomark _))) pa_nil)))
                (pss_one (ps_expr (pe_bm PySem.F.plainAttrs_list PySem.F.slot_list_append PySem.F.type_list_append mt_append (pv 5) (pa_cons (pe_tup (pa_cons (pe_op op_catA (pv 6) (pe_callTy call_tuple_of (by rfl) T.b_tuple (by decide +kernel) (pa_cons (pe_lc (g := gName 11) (tt := tYes) (te := tTup (tCons (tVar 3) (tCons (tVar 11) tNil))) (own := [("column", 11)]) rfl sc_all.nd (pi_tup (pv 8)) (blkOk_by (N := nAll) (sc := defScope (tp 30)) (by decide +kernel))
                    (fun _ _ _ _ _ => by exact pg_name (i := 11) sc_all.nd rfl (.inl rfl)) (fun _ _ _ _ _ => by exact pts_nil) (fun _ _ _ _ _ => by exact pe_tup (pa_cons (pv 3) (pa_cons (pv 11) pa_nil)))) pa_nil))) (pa_cons (pv 9) pa_nil))) pa_nil)))) pss_nil))) pss_nil)))))
        (pss_cons (ps_set (i := 2) sc_all.nd rfl (.inl rfl) (pv 5))
        (pss_one (ps_if (pt_cmpR op_gt (pe_callB call_len_seq (by rfl) T.b_len PySem.boot_len (pa_cons (pv 2) pa_nil)) (pe_op op_mul (pe_gl T.MOST_PICTURES) (pe_gl T.MOST_SIDE)) (nomark _)) (pss_one ps_never) pss_nil))))))
      (pss_cons (ps_set (i := 10) sc_all.nd rfl (.inl rfl) (pe_callB (cr_sortedD (hu65 hr)) (by rfl) T.b_sorted (by decide +kernel) (pa_cons (pe_lc (g := gTup K 2 (gCons (gName 6) (gCons (gName 7) gNil))) (tt := tNot (tB (tCB (rAnyT K) (tCons (tVar 7) tNil)))) (te := tVar 6) (own := [("ink", 6), ("left", 7)]) rfl sc_all.nd (pi_list (pv 2)) (blkOk_by (N := nAll) (sc := defScope (tp 30)) (by decide +kernel))
          (fun _ _ _ _ _ => by exact pg_tup rfl (pgs_cons (pg_name (i := 6) sc_all.nd rfl (.inl rfl)) (pgs_cons (pg_name (i := 7) sc_all.nd rfl (.inl rfl)) pgs_nil))) (fun _ _ _ _ _ => by exact pts_one (pt_not (pt_val (pe_callB (cr_anyT rfl) (by rfl) T.b_any (by decide +kernel) (pa_cons (pv 7) pa_nil))))) (fun _ _ _ _ _ => by exact pv 6)) pa_nil)))
      (pss_cons (ps_if (pt_cmpR op_gt (pe_callB call_len_seq (by rfl) T.b_len PySem.boot_len (pa_cons (pv 10) pa_nil)) (pe_gl T.MOST_PICTURES) (nomark _)) (pss_one ps_never) pss_nil)
      (pss_one (ps_ret (pv 10))))))), ?_⟩
    obtain ⟨a, xr, rfl, ha, hxr⟩ := tp_tup tv
    have hlr : xr.length = h := by rw [hxr.length, List.length_map, List.length_map, List.length_range]
    obtain ⟨few, few2⟩ := fnd_few fl h1 h2 w2 hw
    refine ⟨_, rfl, _, rfl, .ref a, u, _, _, rfl, tv, tu, by simp; omega, by simp; omega, fun n hn => ?_, by simp; omega, by simp; omega, fun n hn => ?_, fun H1 e1 => ?_⟩
    · obtain ⟨r, hr, rfl⟩ := List.mem_map.mp hn
      exact Nat.le_trans (rowS_le fl r) (by omega)
    · obtain ⟨r, hr, rfl⟩ := List.mem_map.mp hn
      exact Nat.le_trans (colS_le fl r) (by omega)
    dsimp only
    refine q_asgM (ds := (fn h w l 0).map (eP w l)) (evm_lst (ead_cons (evd_tup (ead_cons (evd_tup ead_nil (by decide)) (ead_cons (evd_var rfl (tu.mono (.of e1))) ead_nil)) (by show 2 ≤ 100000; decide)) ead_nil) (by show 1 ≤ 100000; decide)) fun p0 ys H2 hp0 x2 hl0 hx0 => ?_
    refine ⟨_, rfl, a, xr, rfl, .of ((e1.trans x2) a _ ha), for_enumT (xs := xr) (fun i σ H' => Ex H H' ∧ ∃ p xs, H p = none ∧ H' p = some (.lst xs) ∧ TpA H' xs ((fn h w l i).map (eP w l)) ∧ ∃ o3 o4 o5 o6 o7 o8 o9, σ = [some (.ref a), some u, some (.ref p), o3, o4, o5, o6, o7, o8, o9, none, none, none]) ⟨e1.trans x2, p0, ys, fresh_back e1 hp0, hl0, hx0, _, _, _, _, _, _, _, rfl⟩ (fun i σ H' _ z => z.1 a _ ha) ?_ ?_⟩
    · rintro i x t σ H3 hi ⟨e3, p, xs, pn, hp, hxs, o3, o4, o5, o6, o7, o8, o9, rfl⟩ hT
      have hih : i < h := by rw [← hlr]; exact (List.getElem?_eq_some_iff.mp hi).1
      obtain ⟨rs, hrs, trs⟩ := hxr.mapGet hi
      rw [List.getElem?_map, List.getElem?_range hih] at hrs
      have hrs' : rowS l i = rs := Option.some.inj hrs
      subst hrs'
      cases trs
      have xT : Ex H3 (upd H3 t (.tup [.int (i : Nat), .int (rowS l i : Int)])) := Ex.new hT
      refine ⟨t, _, rfl, .of upd_same, rfl, .int (i : Nat), _, rfl, _, [], rfl, rfl, ?_⟩
      have e4 := e3.trans xT
      have hp4 := xT p _ hp
      have hxs4 := hxs.mono (.of xT)
      show tSeq _ _ _ _ _
      refine q_asgM (ds := []) (evm_lst ead_nil (by decide)) fun r zs H5 hr5 x5 hl5 hx5 => ?_
      have ezs : zs = [] := by cases hx5; rfl
      subst ezs
      have rn : H r = none := fresh_back e4 hr5
      have pr : p ≠ r := by rintro rfl; rw [hp4] at hr5; cases hr5
      have e5 := e4.trans x5
      have fi : (fn h w l i).length ≤ 1296 := few i (by omega)
      have cl : (chs w (rowS l i)).length ≤ 6 := chs_len4 w w2 _ (Nat.le_trans (rowS_le fl i) w2)
      have tpl : ∀ ink, (turnP h w l i ink).length ≤ 6 := fun ink => by
        unfold turnP
        rw [List.length_map]
        exact Nat.le_trans (List.length_filter_le _ _) cl
      refine q_forLD (l := p) (xs := xs) (ls := fn h w l i) (enc := eP w l) (ev_var rfl) (x5 p _ hp4) (fun j σ H' => Mo w l H p r xs (fn h w l i) (((fn h w l i).take j).flatMap (turnP h w l i)) H' ∧ ∃ o6 o7 o8 o9, σ = [some (.ref a), some u, some (.ref p), some (.int (i : Int)), some (.int (rowS l i : Int)), some (.ref r), o6, o7, o8, o9, none, none, none]) (fun H6 x6 => ⟨⟨e5.trans x6, (x5.trans x6) p _ hp4, hxs4.mono (.of (x5.trans x6)), [], x6 r _ hl5, .nil⟩, _, _, _, _, rfl⟩) (hxs4.mono (.of x5)) (fun j σ' H' z => ⟨z.1.pf, z.1.pt⟩) ?_ ?_
      · rintro j ink v σ H6 hj tv6 ⟨mo, o6, o7, o8, o9, rfl⟩
        have hink := List.mem_of_getElem? hj
        have good := good_fnd hink
        have hinkl : ink.length ≤ 12 * 12 := Nat.le_trans (inF_len good.f) (Nat.mul_le_mul (show i ≤ 12 by omega) (show w ≤ 12 by omega))
        obtain ⟨b, bs, rfl, hb, hbs⟩ := tp_tup tv6
        cases hbs with | cons ti hbs => cases hbs with | cons tl hbs =>
        cases hbs
        rename_i iv lv
        refine ⟨b, _, rfl, .of hb, rfl, _, _, rfl, _, _, rfl, rfl, ?_⟩
        have cs : EvM (tCall spChs [] E0 (tCons (tCB (rLenS K) (tCons (tVar 1) tNil)) (tCons (tVar 4) tNil))) [some (.ref a), some u, some (.ref p), some (.int (i : Int)), some (.int (rowS l i : Int)), some (.ref r), some iv, some lv, o8, o9, none, none, none] H6 ((chs w (rowS l i)).map eNs) :=
          evm_call (ds := [.int (w : Int), .int (rowS l i : Int)]) (ead_cons (evd_int (ev_is (ev_lenD (evd_var rfl (tu.mono (.of mo.ex)))) (by rw [List.length_map, List.length_map, List.length_range]))) (ead_cons (evd_int (ev_var rfl)) ead_nil)) fun us H7 x7 tus Q E q1 => by
            cases tus with | cons c1 tus => cases tus with | cons c2 tus =>
            cases tus; cases c1; cases c2
            exact ⟨w, rowS l i, rfl, w2, Nat.le_trans (rowS_le fl i) w2, q1⟩
        refine s_forMD cs (fun c zs k σ H' => Mo w l H p r xs (fn h w l i) (((fn h w l i).take j).flatMap (turnP h w l i) ++ (((chs w (rowS l i)).take k).filter (okp h w (colS l) i ink)).map (ext i ink)) H' ∧ H' c = some (.lst zs) ∧ TpA H' zs ((chs w (rowS l i)).map eNs) ∧ Tp H' iv (eInk ink) ∧ Tp H' lv (eNs (lfL w l ink)) ∧ c ≠ r ∧
          ∃ o8 o9, σ = [some (.ref a), some u, some (.ref p), some (.int (i : Int)), some (.int (rowS l i : Int)), some (.ref r), some iv, some lv, o8, o9, none, none, none]) (fun c zs H7 hc7 x7 hz7 tz7 => ⟨by simpa using mo.go x7, hz7, tz7, ti.mono (.of x7), tl.mono (.of x7), ?_, _, _, rfl⟩) (fun c zs k σ' H' z => ⟨z.2.1, z.2.2.1⟩) ?_ ?_
        · rintro rfl
          obtain ⟨_, h', _⟩ := mo.rf
          rw [h'] at hc7; cases hc7
        · rintro c zs k part pv σ H7 hk tp ⟨mo, hz, tz, ti, tl, cr, o8, o9, rfl⟩
          obtain ⟨pl, pa, pw⟩ := mem_chs.mp (List.mem_of_getElem? hk)
          have nd : part.Nodup := pa.imp fun {a b} (z : a < b) => by omega
          have hpl : part.length ≤ 4 := by rw [pl]; exact Nat.le_trans (rowS_le fl i) w2
          have fk : (((chs w (rowS l i)).take (k + 1)).filter (okp h w (colS l) i ink)).map (ext i ink) = if okp h w (colS l) i ink part = true then (((chs w (rowS l i)).take k).filter (okp h w (colS l) i ink)).map (ext i ink) ++ [ext i ink part] else (((chs w (rowS l i)).take k).filter (okp h w (colS l) i ink)).map (ext i ink) := filter_takeG hk
          have stop : okp h w (colS l) i ink part = false → ∀ H8, Ex H7 H8 → Mo w l H p r xs (fn h w l i) (((fn h w l i).take j).flatMap (turnP h w l i) ++ (((chs w (rowS l i)).take (k + 1)).filter (okp h w (colS l) i ink)).map (ext i ink)) H8 ∧ H8 c = some (.lst zs) ∧ TpA H8 zs ((chs w (rowS l i)).map eNs) ∧ Tp H8 iv (eInk ink) ∧ Tp H8 lv (eNs (lfL w l ink)) ∧ c ≠ r := fun hn H8 x8 => by
            rw [fk, hn, if_neg (by decide)]
            exact ⟨mo.go x8, x8 c _ hz, tz.mono (.of x8), ti.mono (.of x8), tl.mono (.of x8), cr⟩
          refine s_when (b := part.all fun c => decide (0 < lf (colS l) ink c)) (et_B (t1 tl tp pw (by omega))) (fun hb8 H8 x8 => ?_) (fun hb8 H8 x8 => ?_)
          · have hpos : ∀ c, c ∈ part → 0 < lf (colS l) ink c := fun c hc => of_decide_eq_true (List.all_eq_true.mp hb8 c hc)
            refine q_asgD (t2 (tl.mono (.of x8)) (tp.mono (.of x8)) hpos (by omega)) fun les H9 x9 tles => ?_
            have x79 := x8.trans x9
            refine s_when (b := (List.range w).all fun c => decide (lf (colS l) ink c - (if c ∈ part then 1 else 0) < h - i)) (et_B (t3 (tv.mono (.of (mo.ex.trans x79))) (by rw [List.length_map, List.length_range]) hih tles (by omega))) (fun hb10 H10 x10 => ?_) (fun hb10 H10 x10 => ?_)
            · have ok : okp h w (colS l) i ink part = true := by
                unfold okp; rw [Bool.and_eq_true]; exact ⟨hb8, hb10⟩
              have x710 := x79.trans x10
              obtain ⟨m1, m2, m3, ys, m4, m5⟩ := mo.go x710
              rw [lsL_ext (i := i) nd] at tles
              have c1 : (((fn h w l i).take j).flatMap (turnP h w l i)).length ≤ 7776 := Nat.le_trans (flat_le fun x _ => tpl x) (by rw [List.length_take]; have := Nat.min_le_right j (fn h w l i).length; omega)
              have c2 : ((((chs w (rowS l i)).take k).filter (okp h w (colS l) i ink)).map (ext i ink)).length ≤ 6 := by
                rw [List.length_map]
                refine Nat.le_trans (List.length_filter_le _ _) ?_
                rw [List.length_take]; have := Nat.min_le_right k (chs w (rowS l i)).length; omega
              refine s_appD (d := eP w l (ext i ink part)) m4 m5 (ev_var rfl) (evd_tup (ead_cons (t4 (ti.mono (.of x710)) (tp.mono (.of x710)) (by omega)) (ead_cons (evd_var rfl (tles.mono (.of x10))) ead_nil)) (by show 2 ≤ 100000; decide)) (by rw [List.length_map, List.length_append]; omega) fun nv H11 x11 t11 t12 => ?_
              have tk := tk_lst (ys := ys ++ [nv]) (x11 r _ m4)
              refine ⟨⟨Ex.mut (m1.trans x11) rn, by rw [upd_ne pr]; exact x11 p _ m2, (m3.mono (.of x11)).mono tk, _, upd_same, ?_⟩, by rw [upd_ne cr]; exact (x710.trans x11) c _ hz, (tz.mono (.of (x710.trans x11))).mono tk, (ti.mono (.of (x710.trans x11))).mono tk, (tl.mono (.of (x710.trans x11))).mono tk, cr, _, _, rfl⟩
              rw [fk, ok, if_pos rfl, ← List.append_assoc, List.map_append]
              exact t12
            · have nok : okp h w (colS l) i ink part = false := by unfold okp; rw [hb10, Bool.and_false]
              obtain ⟨z1, z2, z3, z4, z5, z6⟩ := stop nok H10 (x79.trans x10)
              exact ⟨z1, z2, z3, z4, z5, z6, _, _, rfl⟩
          · have nok : okp h w (colS l) i ink part = false := by unfold okp; rw [hb8, Bool.false_and]
            obtain ⟨z1, z2, z3, z4, z5, z6⟩ := stop nok H8 x8
            exact ⟨z1, z2, z3, z4, z5, z6, _, _, rfl⟩
        · rintro c zs σ H7 ⟨mo, hz, tz, ti, tl, cr, o8, o9, rfl⟩
          rw [List.take_length] at mo
          rw [flat_take hj]
          exact ⟨mo, _, _, _, _, rfl⟩
      · rintro σ H6 ⟨mo, o6, o7, o8, o9, rfl⟩
        rw [List.take_length, ← fn_s] at mo
        obtain ⟨m1, m2, m3, ys, m4, m5⟩ := mo
        refine q_asg (v := .ref r) (ev_var rfl) fun H7 x7 => ?_
        have len : ys.length ≤ 1296 := by rw [m5.length, List.length_map]; exact few (i + 1) (by omega)
        refine s_when (b := false) (et_is (et_test (ev_op (x := .int (ys.length : Int)) (y := .int (500 * 12)) (z := .bl (decide ((500 * 12 : Int) < (ys.length : Int)))) (ev_len (ev_var rfl) (.of (x7 r _ m4))) (ev_op ev_c ev_c (rv_I (.inl ⟨by decide, by decide⟩))) rv_I0)) (decide_eq_false (by omega))) (fun z => by cases z) fun _ H8 x8 => ?_
        exact ⟨m1.trans (x7.trans x8), r, ys, rn, (x7.trans x8) r _ m4, m5.mono (.of (x7.trans x8)), _, _, _, _, _, _, _, rfl⟩
    · rintro σ H3 ⟨e3, p, xs, pn, hp, hxs, o3, o4, o5, o6, o7, o8, o9, rfl⟩
      rw [hlr] at hxs
      have mem : ∀ m, m ∈ fn h w l h → InF h w m ∧ SameS h w l m := fun m hm => (mem_fnd fl h1).mp hm
      have k5 : EvM (tC5 K) [some (.ref a), some u, some (.ref p), o3, o4, o5, o6, o7, o8, o9, none, none, none] H3 ((fn h w l h).map eInk) := by
        have := evm_lcL (K := K) (σ := [some (.ref a), some u, some (.ref p), o3, o4, o5, o6, o7, o8, o9, none, none, none]) (tl := tVar 2) (g := gTup K 2 (gCons (gName 6) (gCons (gName 7) gNil))) (tt := tNot (tB (tCB (rAnyT K) (tCons (tVar 7) tNil)))) (te := tVar 6) (vs := [6, 7]) (enc := eP w l) (ls := fn h w l h) (p := fun _ => true) (f := eInk) (ev_var rfl) hp hxs (by have := few h (Nat.le_refl h); show (fnd h w (rowS l) (colS l) h).length < 100000; omega) fun m v H4 hm x4 tv4 => by
          obtain ⟨b, bs, rfl, hb, hbs⟩ := tp_tup tv4
          cases hbs with | cons ti hbs => cases hbs with | cons tl hbs =>
          cases hbs
          rename_i iv lv
          refine ⟨[some (.ref a), some u, some (.ref p), o3, o4, o5, some iv, some lv, o8, o9, none, none, none], rfl, fun Q h => ⟨b, _, rfl, .of hb, rfl, _, _, rfl, _, _, rfl, rfl, h⟩, ?_, fun _ => evd_var rfl ti⟩
          refine et_is (et_not (et_B (ev_anyT (ns := (lfL w l m).map fun n : Nat => (n : Int)) (evd_var rfl (d := .tuple (((lfL w l m).map fun n : Nat => (n : Int)).map PyData.int)) ?_)))) ?_
          · rw [List.map_map]; exact tl
          · rw [List.any_map, Bool.not_eq_true', List.any_eq_false]
            intro n hn
            unfold lfL at hn
            obtain ⟨c, hc, rfl⟩ := List.mem_map.mp hn
            have sc := (mem m hm).2.col c (List.mem_range.mp hc)
            have : lf (colS l) m c = 0 := by
              unfold lf
              rw [fl.colS, (mem m hm).1.colS]; omega
            simp [this]
        rw [filter_yes] at this
        exact this
      have hal : PySem.W.AllAlike ((fn h w l h).map eInk) := PySem.W.AllAlike.of fun x y => alike_ink x y
      have hcs : CanSort ((fn h w l h).map eInk) := by
        by_cases z : l = []
        · refine .inr ⟨fun d hd => ?_, ?_⟩
          · obtain ⟨m, _, rfl⟩ := List.mem_map.mp hd
            intro q; cases q
          · rw [List.length_map]
            refine one_at_most (fnd_nodup h) fun x y hx hy => ?_
            have key : ∀ m, m ∈ fn h w l h → m = [] := fun m hm => by
              obtain ⟨f, ss⟩ := mem m hm
              refine InF.ext f fl (fun r c hr hc => ?_) |>.trans z
              have := ss.row r hr
              subst z
              rw [show cnt w (fun c => has [] r c) = 0 from cnt_zero_iff.mpr fun i _ => by simp [has]] at this
              rw [cnt_zero_iff.mp this.symm c hc]; simp [has]
            rw [key x hx, key y hy]
        · refine .inl (.inl fun d hd => ?_)
          obtain ⟨m, hm, rfl⟩ := List.mem_map.mp hd
          obtain ⟨f, ss⟩ := mem m hm
          cases m with
          | cons x m => exact ⟨eC x, m.map eC, rfl⟩
          | nil =>
            refine absurd (InF.ext fl f fun r c hr hc => ?_) z
            have := ss.row r hr
            rw [show cnt w (fun c => has [] r c) = 0 from cnt_zero_iff.mpr fun i _ => by simp [has]] at this
            rw [cnt_zero_iff.mp this c hc]; simp [has]
      have hdp : PyData.depthAll ((fn h w l h).map eInk) ≤ 60 := Nat.le_trans (depthA_map (n := 2) (fun a => eInk_depth a) _) (by decide)
      refine q_asgM (evm_sorted k5 hal hcs hdp) fun d ds H4 hd4 x4 hl4 hx4 => ?_
      have perm := List.mergeSort_perm (fn h w l h) (PySem.W.dataLe false eInk)
      have len : ds.length ≤ 243 := by rw [hx4.length, List.length_map, perm.length_eq]; exact few2
      refine q_when (b := false) (et_is (et_test (ev_op (x := .int (ds.length : Int)) (y := .int 500) (z := .bl (decide ((500 : Int) < (ds.length : Int)))) (ev_len (ev_var rfl) (.of hl4)) ev_c rv_I0)) (decide_eq_false (by omega))) (fun z => by cases z) fun _ H5 x5 => ?_
      exact ⟨_, rfl, q d ds H5 (fresh_back e3 hd4) (e3.trans (x4.trans x5)) (x5 d _ hl4) (hx4.mono (.of x5))⟩
end
end K53

-- part K53W11
set_option maxRecDepth 100000
set_option maxHeartbeats 4000000
namespace K53
open PySem PySem.Spec PyProof.Rows L2 Evl
theorem cut_to {xs : List V} {k : Nat} : cutV xs none (some (k : Int)) = xs.take k := by
  unfold cutV
  rw [HT.sIx_none, HT.sIx_nat, List.drop_zero, Nat.sub_zero, ← List.take_take, List.take_length]
theorem TpA.take {H : Hp} : ∀ {vs : List V} {ds : List PyData} (k : Nat), TpA H vs ds → TpA H (vs.take k) (ds.take k)
  | _, _, 0, _ => by simpa using TpA.nil
  | _, [], k + 1, h => by cases h; exact .nil
  | _, d :: ds, k + 1, h => by cases h with | cons h1 h2 => exact .cons h1 (h2.take k)
section
variable {K : PySem.W.Frag} {σ : L2.St} {H H' : Hp} {ta tb te tl : TE} {d e : PyData} {ds es : List PyData}
theorem evm_rev (h : EvM te σ H ds) : EvM (tRevL K te) σ H ds.reverse := fun H1 x Q q => h H1 x _ fun p xs H2 hp x2 hl t =>
  ⟨p, xs, rfl, .of hl, fun r hr => q r _ _ (fresh_back x2 hr) (x2.trans (Ex.new hr)) upd_same (t.reverse.mono (.of (Ex.new hr)))⟩
theorem evm_toL {l : Addr} {xs : List V} {k : Nat} (h : Ev te σ H (.ref l)) (hl : H l = some (.lst xs)) (hx : TpA H xs ds) (hk : Ev ta σ H (.int (k : Int))) : EvM (tSl (rSlL K) te tNoPart (tPart ta)) σ H (ds.take k) := fun H1 x Q q =>
  h H1 x _ fun H2 x2 => hk H2 (x.trans x2) _ fun H3 x3 => ⟨_, rfl, l, xs, rfl, .of (((x.trans x2).trans x3) l _ hl), fun r hr => by
    rw [cut_to]
    exact q r _ _ (fresh_back (x2.trans x3) hr) ((x2.trans x3).trans (Ex.new hr)) upd_same ((hx.mono (.of (((x.trans x2).trans x3).trans (Ex.new hr)))).take k)⟩
theorem ev_notNone (h : EvD te σ H .none) : Ev (tNotN te) σ H (.bl false) := fun H1 x Q q => h H1 x _ fun v H2 x2 t => by cases t; exact q H2 x2
theorem evm_sortedL {β : Type} {en : β → PyData} {bs : List β} {l : Addr} {xs : List V} (h : Ev te σ H (.ref l)) (hl : H l = some (.lst xs)) (hx : TpA H xs (bs.map en)) (hal : PySem.W.AllAlike (bs.map en)) (hk : CanSort (bs.map en)) (hd : PyData.depthAll (bs.map en) ≤ 60) :
    EvM (tCB (rSortedD K) (tCons te tNil)) σ H ((bs.mergeSort (PySem.W.dataLe false en)).map en) := fun H1 x Q q =>
  h H1 x _ fun H2 x2 => ⟨l, xs, β, en, bs, fun x b => Tp H2 x (en b), rfl, .inl (.of ((x.trans x2) l _ hl)), tpa_each (hx.mono (.of (x.trans x2))), fun x b h => h.dp, hal, hk, hd, fun ys l hl2 hd2 => q l ys _ (fresh_back x2 hl2) (x2.trans (Ex.new hl2)) upd_same ((each_tpa hd2).mono (.of (Ex.new hl2)))⟩
end
theorem nInts (l : List Nat) : l.map eN = (l.map fun n : Nat => (n : Int)).map PyData.int := by rw [List.map_map]; rfl
theorem sum_cast : ∀ l : List Nat, (l.map fun n : Nat => (n : Int)).sum = ((l.sum : Nat) : Int)
  | [] => rfl
  | a :: l => by rw [List.map_cons, List.sum_cons, List.sum_cons, sum_cast l]; omega
section
variable {mg : Str → Option Value} {P : Program} {K : PySem.W.Frag} {w : World} {base : Heap}
def spLack : Sp := fun vs H Q _ => ∃ (v u : V) (l : Ink) (h w : Nat), vs = [v, u] ∧ Tp H v (eNs ((List.range h).map (rowS l))) ∧ Tp H u (eNs ((List.range w).map (colS l))) ∧ InF h w l ∧ 1 ≤ h ∧ h ≤ 12 ∧ 1 ≤ w ∧ w ≤ 12 ∧ ∀ H', Ex H H' → Q .non H'
theorem sc_lack : FnScope ["rows", "columns", "line", "many", "column"] ["rows", "columns"] (defScope (tp 23)) := ⟨rfl, rfl, rfl, by decide +kernel, rfl, by decide +kernel, by decide +kernel⟩
abbrev tM1 (K : PySem.W.Frag) : TE := tLc (iTup K (tVar 1)) (gName 4) tYes (tCB (fun xs H Q => ∃ i j : Int, xs = [.int i, .int j] ∧ Q (.int (if j < i then j else i)) H) (tCons (tVar 3) (tCons (tVar 4) tNil))) [4]
theorem alike_n (f : Nat → Nat) (l : List Nat) : PySem.W.AllAlike (l.map fun i => eN (f i)) := PySem.W.AllAlike.of fun a b => by simp [eN, PySem.W.alike]
theorem sort_n (f : Nat → Nat) (l : List Nat) : CanSort (l.map fun i => eN (f i)) := .inl (PySem.W.Sortable.others fun b => ⟨(fun q => by cases q), (fun xs q => by cases q)⟩)
theorem ok_lack (T : Txt K mg) : Cl P w K mg base 5 "first_lack" ["rows", "columns"] spLack := by
  refine cl_mk T.first_lack sc_lack (fun vs H Q E h => ?_) (fun _ _ _ _ _ _ us hl => match us, hl with | [_, _], _ => rfl) fun f cdv A outer s H vs Q E hr h => ?_
  · obtain ⟨v, u, l, h, w, rfl, _⟩ := h; rfl
  · obtain ⟨v, u, l, h, w, rfl, tv, tu, fl, h1, h2, w1, w2, q⟩ := h
    refine ⟨_, pss_cons (ps_expr (pe_cl (ok_need_both T) hr (pa_cons (pv 0) (pa_cons (pv 1) pa_nil))))
      (pss_cons (ps_if (pt_cmpR op_ne (pe_callB (cr_sumT rfl) (by rfl) T.b_sum (by decide +kernel) (pa_cons (pv 0) pa_nil)) (pe_callB (cr_sumT rfl) (by rfl) T.b_sum (by decide +kernel) (pa_cons (pv 1) pa_nil)) (by rfl)) (pss_one (ps_ret pe_int)) pss_nil)
      (pss_cons (ps_set (i := 2) sc_lack.nd rfl (.inl rfl) (pe_revL (pe_callB (cr_sortedD (hu65 hr)) (by rfl) T.b_sorted (by decide +kernel) (pa_cons (pv 0) pa_nil))))
      (pss_cons (ps_for PassesOwn.never rfl (pi_range2 (by rfl) T.b_range (pa_cons pe_int (pa_cons (pe_op op_add (pe_callB call_len_seq (by rfl) T.b_len PySem.boot_len (pa_cons (pv 2) pa_nil)) pe_int) pa_nil))) (pg_name (i := 3) sc_lack.nd rfl (.inr rfl))
        (pss_one (ps_if (pt_cmpR op_gt (pe_callB (cr_sum rfl) (by rfl) T.b_sum (by decide +kernel) (pa_cons (pe_slice sl_list (pv 2) po_none (po_some (pv 3))) pa_nil)) (pe_callB (cr_sum rfl) (by rfl) T.b_sum (by decide +kernel) (pa_cons
            (pe_lc (g := gName 4) (tt := tYes) (te := tCB (fun xs H Q => ∃ i j : Int, xs = [.int i, .int j] ∧ Q (.int (if j < i then j else i)) H) (tCons (tVar 3) (tCons (tVar 4) tNil))) (own := [("column", 4)]) rfl sc_lack.nd (pi_tup (pv 1)) (blkOk_by (N := ["rows", "columns", "line", "many", "column"]) (sc := defScope (tp 23)) (by decide +kernel))
              (fun _ _ _ _ _ => by exact pg_name (i := 4) sc_lack.nd rfl (.inl rfl)) (fun _ _ _ _ _ => by exact pts_nil) (fun _ _ _ _ _ => by exact pe_callB (call_min2 rfl) (by rfl) T.b_min (by decide +kernel) (pa_cons (pv 3) (pa_cons (pv 4) pa_nil)))) pa_nil)) (by rfl))
          (pss_one (ps_ret (pv 3))) pss_nil)))
      (pss_one (ps_ret pe_non))))), ?_⟩
    have hR : ((List.range h).map (rowS l)).map eN = (((List.range h).map (rowS l)).map fun n : Nat => (n : Int)).map PyData.int := nInts _
    have hC : ((List.range w).map (colS l)).map eN = (((List.range w).map (colS l)).map fun n : Nat => (n : Int)).map PyData.int := nInts _
    refine ⟨_, rfl, _, rfl, v, u, _, _, rfl, tv, tu, by simp; omega, by simp; omega, fun n hn => ?_, by simp; omega, by simp; omega, fun n hn => ?_, fun H1 e1 => ?_⟩
    · obtain ⟨r, hr, rfl⟩ := List.mem_map.mp hn
      exact Nat.le_trans (rowS_le fl r) (by omega)
    · obtain ⟨r, hr, rfl⟩ := List.mem_map.mp hn
      exact Nat.le_trans (colS_le fl r) (by omega)
    dsimp only
    have tv1 := tv.mono (.of e1)
    have tu1 := tu.mono (.of e1)
    have tv1' : Tp H1 v (.tuple ((((List.range h).map (rowS l)).map fun n : Nat => (n : Int)).map PyData.int)) := by rw [← hR]; exact tv1
    have tu1' : Tp H1 u (.tuple ((((List.range w).map (colS l)).map fun n : Nat => (n : Int)).map PyData.int)) := by rw [← hC]; exact tu1
    refine q_when (b := false) (et_is (et_test (ev_op (x := .int (((List.range h).map (rowS l)).sum : Nat)) (y := .int (((List.range w).map (colS l)).sum : Nat)) (ev_is (ev_sumT (evd_var rfl tv1')) (by rw [sum_cast])) (ev_is (ev_sumT (evd_var rfl tu1')) (by rw [sum_cast])) (rv_ne rfl))) (by rw [sums_eq fl]; simp)) (fun z => by cases z) fun _ H2 x2 => ?_
    have tv2 : Tp H2 v (.tuple ((List.range h).map fun i => eN (rowS l i))) := by
      have := tv1.mono (.of x2)
      unfold eNs at this
      rw [List.map_map] at this; exact this
    have srt := evm_rev (K := K) (evm_sortedT (K := K) (σ := start ["rows", "columns", "line", "many", "column"] [v, u]) (te := tVar 0) (en := fun i => eN (rowS l i)) (bs := List.range h) (evd_var rfl tv2) (alike_n _ _) (sort_n _ _) (Nat.le_trans (depthA_map (n := 0) (fun a => by rw [eN_depth]; exact Nat.le_refl _) _) (by decide)))
    rw [← List.map_reverse] at srt
    have perm : ((List.range h).mergeSort (PySem.W.dataLe false fun i => eN (rowS l i))).reverse.Perm (List.range h) := (List.reverse_perm _).trans (List.mergeSort_perm _ _)
    refine q_asgM srt fun p xs H3 hp x3 hl hx => ?_
    generalize ((List.range h).mergeSort (PySem.W.dataLe false fun i => eN (rowS l i))).reverse = ρ at perm hx
    have hlen : xs.length = h := by rw [hx.length, List.length_map, perm.length_eq, List.length_range]
    refine q_forR2 (lo := 1) (n := (h : Int) + 1) (ea_cons ev_c (ea_cons (ev_op (x := .int (h : Int)) (y := .int 1) (ev_is (ev_len (ev_var rfl) (.of hl)) (by rw [hlen])) ev_c rv_I0) ea_nil)) ⟨by omega, by omega, by omega, by omega⟩ (fun i σ H' => Ex H3 H' ∧ ∃ o, σ = [some v, some u, some (.ref p), o, none]) (fun H4 x4 => ⟨x4, _, rfl⟩) ?_ ?_
    · rintro i σ H4 hi ⟨x4, o, rfl⟩
      have ei : (1 : Int) + (i : Int) = ((i + 1 : Nat) : Int) := by omega
      rw [ei]
      have hl4 := x4 p _ hl
      have hx4 := hx.mono (.of x4)
      have s1 : Ev (tCB (rSum K) (tCons (tSl (rSlL K) (tVar 2) tNoPart (tPart (tVar 3))) tNil)) [some v, some u, some (.ref p), some (.int ((i + 1 : Nat) : Int)), none] H4 (.int ((((ρ.take (i + 1)).map (rowS l)).sum : Nat) : Int)) := by
        have k := evm_toL (K := K) (σ := [some v, some u, some (.ref p), some (.int ((i + 1 : Nat) : Int)), none]) (te := tVar 2) (ta := tVar 3) (k := i + 1) (ev_var rfl) hl4 hx4 (ev_var rfl)
        have e : (ρ.map fun i => eN (rowS l i)).take (i + 1) = (((ρ.take (i + 1)).map (rowS l)).map fun n : Nat => (n : Int)).map PyData.int := by
          rw [← List.map_take, List.map_map, List.map_map]; rfl
        rw [e] at k
        exact ev_is (ev_sumM k) (by rw [sum_cast])
      have s2 : Ev (tCB (rSum K) (tCons (tM1 K) tNil)) [some v, some u, some (.ref p), some (.int ((i + 1 : Nat) : Int)), none] H4 (.int ((((List.range w).map fun c => min (i + 1) (colS l c)).sum : Nat) : Int)) := by
        have k := evm_lcT (K := K) (σ := [some v, some u, some (.ref p), some (.int ((i + 1 : Nat) : Int)), none]) (tl := tVar 1) (g := gName 4) (tt := tYes) (te := tCB (fun xs H Q => ∃ i j : Int, xs = [.int i, .int j] ∧ Q (.int (if j < i then j else i)) H) (tCons (tVar 3) (tCons (tVar 4) tNil))) (vs := [4]) (enc := eN) (ls := (List.range w).map (colS l)) (p := fun _ => true) (f := fun n => .int ((min (i + 1) n : Nat) : Int)) (evd_var rfl (tu1.mono (.of ((x2.trans x3).trans x4)))) (by simp; omega) fun n nv H5 hn x5 tn => by
          cases tn
          refine ⟨[some v, some u, some (.ref p), some (.int ((i + 1 : Nat) : Int)), some (.int (n : Int))], rfl, fun Q h => h, fun H6 x6 Q q => q H6 (Ex.refl H6), fun _ => evd_int (ev_is (ev_cb (z := .int (if (n : Int) < ((i + 1 : Nat) : Int) then (n : Int) else ((i + 1 : Nat) : Int))) (ea_cons (ev_var rfl) (ea_cons (ev_var rfl) ea_nil)) fun H7 x7 Q q => ⟨_, _, rfl, q H7 (Ex.refl H7)⟩) ?_)⟩
          congr 1
          split <;> omega
        rw [filter_yes] at k
        have e : ((List.range w).map (colS l)).map (fun n => PyData.int ((min (i + 1) n : Nat) : Int)) = (((List.range w).map fun c => min (i + 1) (colS l c)).map fun n : Nat => (n : Int)).map PyData.int := by
          rw [List.map_map, List.map_map, List.map_map]; rfl
        rw [e] at k
        exact ev_is (ev_sumM k) (by rw [sum_cast])
      have nl := no_lack (k := i + 1) fl perm
      refine s_when (b := false) (et_is (et_test (ev_op s1 s2 rv_I0)) (decide_eq_false (by omega))) (fun z => by cases z) fun _ H5 x5 => ⟨x4.trans x5, _, rfl⟩
    · rintro σ H4 ⟨x4, o, rfl⟩
      exact q H4 (((e1.trans x2).trans x3).trans x4)
end
end K53

-- part K53W12
set_option maxRecDepth 100000
set_option maxHeartbeats 4000000
namespace K53
open PySem PySem.Spec PyProof.Rows L2 Evl
def e1 (l : Ink) (r : Nat) : PyData := .tuple [.int (-(rowS l r : Int)), .int (r : Int)]
def e2 (f : Nat → Nat) (c : Nat) : PyData := .tuple [.int (-(f c : Int)), .int (c : Int)]
theorem e2_alike (f : Nat → Nat) (l : List Nat) : PySem.W.AllAlike (l.map (e2 f)) := PySem.W.AllAlike.of fun a b => by simp [e2, PySem.W.alike, PySem.W.alikeAll]
theorem e1_alike (f : Ink) (l : List Nat) : PySem.W.AllAlike (l.map (e1 f)) := PySem.W.AllAlike.of fun a b => by simp [e1, PySem.W.alike, PySem.W.alikeAll]
theorem e2_sort (f : Nat → Nat) (l : List Nat) : CanSort (l.map (e2 f)) := .inl (PySem.W.Sortable.tuples fun b => ⟨_, _, rfl⟩)
theorem e1_sort (f : Ink) (l : List Nat) : CanSort (l.map (e1 f)) := .inl (PySem.W.Sortable.tuples fun b => ⟨_, _, rfl⟩)
theorem e2_depth (f : Nat → Nat) (l : List Nat) : PyData.depthAll (l.map (e2 f)) ≤ 60 := Nat.le_trans (depthA_map (n := 1) (fun a => by simp [e2, PyData.depth, PyData.depthAll]) _) (by decide)
theorem e1_depth (f : Ink) (l : List Nat) : PyData.depthAll (l.map (e1 f)) ≤ 60 := Nat.le_trans (depthA_map (n := 1) (fun a => by simp [e1, PyData.depth, PyData.depthAll]) _) (by decide)
theorem e2_pair {w : Nat} (f : Nat → Nat) : ((List.range w).mergeSort (PySem.W.dataLe false (e2 f))).Pairwise fun a b => f b ≤ f a := by
  have e : PySem.W.dataLe false (e2 f) = fun p q => decide (-(f p : Int) < -(f q : Int) ∨ (-(f p : Int) = -(f q : Int) ∧ (p : Int) ≤ (q : Int))) := PySem.W.dataLe_ii (fun c => -(f c : Int)) (fun c : Nat => (c : Int))
  rw [e]
  refine (List.pairwise_mergeSort (fun a b c => by simp only [decide_eq_true_eq]; omega) (fun a b => by simp only [Bool.or_eq_true, decide_eq_true_eq]; omega) (List.range w)).imp fun {a b} h => ?_
  have := of_decide_eq_true h
  omega
theorem tp_two {H : Hp} {v : V} {i j : Int} (h : Tp H v (.tuple [.int i, .int j])) : ∃ a, v = .ref a ∧ H a = some (.tup [.int i, .int j]) := by
  obtain ⟨a, xs, rfl, h1, h2⟩ := tp_tup h
  cases h2 with | cons q1 q2 =>
  cases q2 with | cons q3 q4 =>
  cases q4; cases q1; cases q3
  exact ⟨a, rfl, h1⟩
theorem q_forMD {K : PySem.W.Frag} {σ : L2.St} {H : Hp} {tl : TE} {D : Ends} {tu tz : TS} {g : TG} {α : Type} {enc : α → PyData} {ls : List α} (h : EvM tl σ H (ls.map enc)) (Pv : Addr → List V → Nat → L2.St → Hp → Prop) (h0 : ∀ p xs H1, H p = none → Ex H H1 → H1 p = some (.lst xs) → TpA H1 xs (ls.map enc) → Pv p xs 0 σ H1) (hk : ∀ p xs i σ' H', Pv p xs i σ' H' → H' p = some (.lst xs) ∧ TpA H' xs (ls.map enc))
    (hs : ∀ p xs i a v σ' H', ls[i]? = some a → Tp H' v (enc a) → Pv p xs i σ' H' → g v σ' H' fun σ2 H2 => tu { D with nx := Pv p xs (i + 1), ct := Pv p xs (i + 1), bk := tz D } σ2 H2) (hd : ∀ p xs σ' H', Pv p xs ls.length σ' H' → tz D σ' H') : tSeq (tFor (iList K tl) g tu) tz D σ H :=
  s_forMD (D := { D with nx := tz D }) h Pv h0 hk hs hd
theorem nodup_take {α : Type} {l : List α} {i : Nat} {a : α} (h : l.Nodup) (hi : l[i]? = some a) : a ∉ l.take i := by
  intro hm
  have := h.sublist (List.take_sublist (i + 1) l)
  rw [takeS hi, List.nodup_append] at this
  exact this.2.2 a hm a (by simp) rfl
section
variable {mg : Str → Option Value} {P : Program} {K : PySem.W.Frag} {w : World} {base : Heap}
def spPic : Sp := fun vs H Q _ => ∃ (v u : V) (l : Ink) (h w : Nat), vs = [v, u] ∧ Tp H v (eNs ((List.range h).map (rowS l))) ∧ Tp H u (eNs ((List.range w).map (colS l))) ∧ InF h w l ∧ 1 ≤ h ∧ h ≤ 12 ∧ 1 ≤ w ∧ w ≤ 12 ∧
  ∀ m v H', InF h w m → SameS h w l m → Ex H H' → Tp H' v (eInk m) → Q v H'
abbrev nPic : List Str := ["rows", "columns", "left", "found", "size", "row", "order", "many", "column"]
theorem sc_pic : FnScope nPic ["rows", "columns"] (defScope (tp 24)) := ⟨rfl, rfl, rfl, by decide +kernel, rfl, by decide +kernel, by decide +kernel⟩
/-- the two lists under work, and the order of the rows -/
structure Wk (l : Ink) (w : Nat) (H : Hp) (a b c : Addr) (zs : List V) (ρ : List Nat) (left : Nat → Nat) (found : Ink) (H' : Hp) : Prop where
  ex : Ex H H'
  le : H' a = some (.lst (rowI w left))
  fo : ∃ xs, H' b = some (.lst xs) ∧ TpA H' xs (found.map eC)
  ro : H' c = some (.lst zs) ∧ TpA H' zs (ρ.map (e1 l))
theorem Wk.go {l : Ink} {w : Nat} {H H1 H2 : Hp} {a b c : Addr} {zs : List V} {ρ : List Nat} {left : Nat → Nat} {found : Ink} (m : Wk l w H a b c zs ρ left found H1) (x : Ex H1 H2) : Wk l w H a b c zs ρ left found H2 := by
  obtain ⟨m1, m2, ⟨ys, m4, m5⟩, m6, m7⟩ := m
  exact ⟨m1.trans x, x a _ m2, ⟨ys, x b _ m4, m5.mono (.of x)⟩, x c _ m6, m7.mono (.of x)⟩
theorem ok_pic (T : Txt K mg) : Cl P w K mg base 6 "picture_of" ["rows", "columns"] spPic := by
  refine cl_mk T.picture_of sc_pic (fun vs H Q E h => ?_) (fun _ _ _ _ _ _ us hl => match us, hl with | [_, _], _ => rfl) fun f cdv A outer s H vs Q E hr h => ?_
  · obtain ⟨v, u, l, h, w, rfl, _⟩ := h; rfl
  · obtain ⟨v, u, l, h, w, rfl, tv, tu, fl, h1, h2, w1, w2, q⟩ := h
    refine ⟨_, pss_cons (ps_if (pt_cmp (pc_notN (pe_cl (ok_lack T) hr (pa_cons (pv 0) (pa_cons (pv 1) pa_nil))))) (pss_one (ps_ret pe_non)) pss_nil)
      (pss_cons (ps_asg (pe_tup (pa_cons (pe_callTy call_list_of (by rfl) T.b_list (by decide +kernel) (pa_cons (pv 1) pa_nil)) (pa_cons (pe_lst pa_nil) pa_nil))) (pg_tup rfl (pgs_cons (pg_name (i := 2) sc_pic.nd rfl (.inr rfl)) (pgs_cons (pg_name (i := 3) sc_pic.nd rfl (.inl rfl)) pgs_nil))))
      (pss_cons (ps_for PassesOwn.never rfl (pi_list (pe_callB (cr_sortedD (hu65 hr)) (by rfl) T.b_sorted (by decide +kernel) (pa_cons
            (pe_lc (g := gTup K 2 (gCons (gName 5) (gCons (gName 4) gNil))) (tt := tYes) (te := tTup (tCons (tUn (rU fun i => .int (-i)) (tVar 4)) (tCons (tVar 5) tNil))) (own := [("row", 5), ("size", 4)]) rfl sc_pic.nd (pi_enumT (by rfl) T.b_enumerate (pa_cons (pv 0) pa_nil)) (blkOk_by (N := nPic) (sc := defScope (tp 24)) (by decide +kernel))
              (fun _ _ _ _ _ => by exact pg_tup rfl (pgs_cons (pg_name (i := 5) sc_pic.nd rfl (.inl rfl)) (pgs_cons (pg_name (i := 4) sc_pic.nd rfl (.inl rfl)) pgs_nil))) (fun _ _ _ _ _ => by exact pts_nil) (fun _ _ _ _ _ => by exact pe_tup (pa_cons (pe_un un_neg (pv 4)) (pa_cons (pv 5) pa_nil)))) pa_nil)))
          (pg_tup rfl (pgs_cons (pg_name (i := 4) sc_pic.nd rfl (.inl rfl)) (pgs_cons (pg_name (i := 5) sc_pic.nd rfl (.inl rfl)) pgs_nil)))
        (pss_cons (ps_set (i := 6) sc_pic.nd rfl (.inl rfl) (pe_callB (cr_sortedD (hu65 hr)) (by rfl) T.b_sorted (by decide +kernel) (pa_cons
            (pe_lc (g := gName 8) (tt := tYes) (te := tTup (tCons (tUn (rU fun i => .int (-i)) (tOp (rIxL K) (tVar 2) (tVar 8))) (tCons (tVar 8) tNil))) (own := [("column", 8)]) rfl sc_pic.nd (pi_range1 (by rfl) T.b_range (pa_cons (pe_callB call_len_seq (by rfl) T.b_len PySem.boot_len (pa_cons (pv 2) pa_nil)) pa_nil)) (blkOk_by (N := nPic) (sc := defScope (tp 24)) (by decide +kernel))
              (fun _ _ _ _ _ => by exact pg_name (i := 8) sc_pic.nd rfl (.inl rfl)) (fun _ _ _ _ _ => by exact pts_nil) (fun _ _ _ _ _ => by exact pe_tup (pa_cons (pe_un un_neg (pe_ix ix_list (pv 2) (pv 8) (fun _ _ => rfl))) (pa_cons (pv 8) pa_nil)))) pa_nil)))
        (pss_one (ps_for PassesOwn.never rfl (pi_list (pe_slice sl_list (pv 6) po_none (po_some (pe_un un_neg (pv 4))))) (pg_tup rfl (pgs_cons (pg_name (i := 7) sc_pic.nd rfl (.inl rfl)) (pgs_cons (pg_name (i := 8) sc_pic.nd rfl (.inl rfl)) pgs_nil)))
          (pss_cons (ps_augS (pv 2) (pv 8) get_list pe_int ip_sub set_list)
          (pss_one (ps_expr (pe_bm PySem.F.plainAttrs_list PySem.F.slot_list_append PySem.F.type_list_append mt_append (pv 3) (pa_cons (pe_tup (pa_cons (pv 5) (pa_cons (pv 8) pa_nil))) pa_nil)))))))))
      (pss_one (ps_ret (pe_callTy call_tuple_of (by rfl) T.b_tuple (by decide +kernel) (pa_cons (pe_callB (cr_sortedD (hu65 hr)) (by rfl) T.b_sorted (by decide +kernel) (pa_cons (pv 3) pa_nil)) pa_nil)))))), ?_⟩
    obtain ⟨uu, us, rfl, hu, hus⟩ := tp_tup tu
    have eus : us = rowI w (colS l) := by
      rw [nInts] at hus
      rw [hus.ints]; unfold rowI; rw [List.map_map, List.map_map]; rfl
    subst eus
    refine q_when (b := false) (et_B (ev_notNone (evd_call (ead_cons (evd_var rfl tv) (ead_cons (evd_var rfl tu) ead_nil)) fun us H1 x1 tus Q E q1 => ?_))) (fun z => by cases z) fun _ H1 x1 => ?_
    · cases tus with | cons c1 tus => cases tus with | cons c2 tus =>
      cases tus
      exact ⟨_, _, l, h, w, rfl, c1, c2, fl, h1, h2, w1, w2, fun H2 x2 => q1 _ H2 x2 .non⟩
    refine ⟨_, rfl, uu, _, rfl, .inr (.of (x1 uu _ hu)), fun p hp => ⟨by show 0 ≤ sizeLine; decide, fun r hr0 => ⟨by show 2 ≤ sizeLine; decide, fun a ha => ⟨a, _, rfl, .of upd_same, rfl, _, _, rfl, _, _, rfl, rfl, ?_⟩⟩⟩⟩
    have y1 := Ex.new (o := .lst (rowI w (colS l))) hp
    have y2 := Ex.new (o := .lst []) hr0
    have y3 := Ex.new (o := .tup [.ref p, .ref r]) ha
    have e4 := ((x1.trans y1).trans y2).trans y3
    have pn : H p = none := fresh_back x1 hp
    have rn : H r = none := fresh_back (x1.trans y1) hr0
    have pr : p ≠ r := by
      rintro rfl
      rw [upd_same] at hr0; cases hr0
    have hlp := y3 p _ (y2 p _ upd_same)
    have hlr := y3 r _ (upd_same (a := r) (o := .lst []))
    have tv4 := tv.mono (.of e4)
    generalize upd (upd (upd H1 p (.lst (rowI w (colS l)))) r (.lst [])) a (.tup [.ref p, .ref r]) = H4 at e4 hlp hlr tv4
    have k1 : EvM (tLc (iEnumT K (tCons (tVar 0) tNil)) (gTup K 2 (gCons (gName 5) (gCons (gName 4) gNil))) tYes (tTup (tCons (tUn (rU fun i => .int (-i)) (tVar 4)) (tCons (tVar 5) tNil))) [5, 4]) [some v, some (.ref uu), some (.ref p), some (.ref r), none, none, none, none, none] H4 ((List.range h).map (e1 l)) := by
      have := evm_lcE (K := K) (σ := [some v, some (.ref uu), some (.ref p), some (.ref r), none, none, none, none, none]) (te0 := tVar 0) (g := gTup K 2 (gCons (gName 5) (gCons (gName 4) gNil))) (tt := tYes) (te := tTup (tCons (tUn (rU fun i => .int (-i)) (tVar 4)) (tCons (tVar 5) tNil))) (vs := [5, 4]) (enc := eN) (ls := (List.range h).map (rowS l)) (pr := fun _ _ => true) (fr := fun c n => .tuple [.int (-(n : Int)), .int (c : Int)]) (evd_var rfl tv4) (by simp; omega) fun c n nv T H5 hc x5 tn hT => by
        cases tn
        exact ⟨[some v, some (.ref uu), some (.ref p), some (.ref r), some (.int (n : Int)), some (.int (c : Int)), none, none, none], rfl, fun Q h => ⟨T, _, rfl, .of hT, rfl, _, _, rfl, _, _, rfl, rfl, h⟩, fun H6 x6 Q q => q H6 (Ex.refl H6), fun _ =>
          evd_tup (ead_cons (evd_int (ev_un (x := .int (n : Int)) (z := .int (-(n : Int))) (ev_var rfl) fun H7 x7 Q q => ⟨_, rfl, q H7 (Ex.refl H7)⟩)) (ead_cons (evd_int (ev_var rfl)) ead_nil)) (by show 2 ≤ 100000; decide)⟩
      rw [filter_yes (α := Nat × Nat), zip_range, List.map_map] at this
      exact this
    have k2 := evm_sorted (K := K) k1 (e1_alike l _) (e1_sort l _) (e1_depth l _)
    have perm : ((List.range h).mergeSort (PySem.W.dataLe false (e1 l))).Perm (List.range h) := List.mergeSort_perm _ _
    generalize (List.range h).mergeSort (PySem.W.dataLe false (e1 l)) = ρ at k2 perm
    have ρn : ρ.Nodup := perm.nodup_iff.mpr List.nodup_range
    have ρh : ∀ x, x ∈ ρ ↔ x < h := fun x => by rw [perm.mem_iff, List.mem_range]
    refine q_forMD k2 (fun c zs k σ H' => ∃ left found, Wk l w H p r c zs ρ left found H' ∧ Pic h w l (fun x => decide (x ∈ ρ.take k)) left found ∧ found.length ≤ 12 * k ∧ c ≠ p ∧ c ≠ r ∧ ∃ o4 o5 o6 o7 o8, σ = [some v, some (.ref uu), some (.ref p), some (.ref r), o4, o5, o6, o7, o8])
      (fun c zs H5 hc5 x5 hl5 hx5 => ⟨colS l, [], ⟨e4.trans x5, x5 p _ hlp, ⟨[], x5 r _ hlr, .nil⟩, hl5, hx5⟩, by simpa using Pic.zero fl, by simp, (by rintro rfl; rw [hlp] at hc5; cases hc5), (by rintro rfl; rw [hlr] at hc5; cases hc5), _, _, _, _, _, rfl⟩) (fun c zs k σ' H' z => by obtain ⟨left, found, wk, _⟩ := z; exact wk.ro) ?_ ?_
    · rintro c zs k rr ev σ H5 hk te5 ⟨left, found, wk, pic, fz, cp, cr, o4, o5, o6, o7, o8, rfl⟩
      have rh : rr < h := (ρh rr).mp (List.mem_of_getElem? hk)
      have rnot := nodup_take ρn hk
      obtain ⟨b, rfl, hb⟩ := tp_two te5
      refine ⟨b, _, rfl, .of hb, rfl, _, _, rfl, _, _, rfl, rfl, ?_⟩
      have k3 : EvM (tLc (iRng1 (tCons (tCB (rLenS K) (tCons (tVar 2) tNil)) tNil)) (gName 8) tYes (tTup (tCons (tUn (rU fun i => .int (-i)) (tOp (rIxL K) (tVar 2) (tVar 8))) (tCons (tVar 8) tNil))) [8]) [some v, some (.ref uu), some (.ref p), some (.ref r), some (.int (-(rowS l rr : Int))), some (.int (rr : Int)), o6, o7, o8] H5 ((List.range w).map (e2 left)) := by
        have := evm_lcR (σ := [some v, some (.ref uu), some (.ref p), some (.ref r), some (.int (-(rowS l rr : Int))), some (.int (rr : Int)), o6, o7, o8]) (H := H5) (ta := tCons (tCB (rLenS K) (tCons (tVar 2) tNil)) tNil) (g := gName 8) (tt := tYes) (te := tTup (tCons (tUn (rU fun i => .int (-i)) (tOp (rIxL K) (tVar 2) (tVar 8))) (tCons (tVar 8) tNil))) (vs := [8]) (n := w) (pr := fun _ => true) (fr := e2 left) (ea_cons (ev_is (ev_len (ev_var rfl) (.of wk.le)) (by rw [rowI_len])) ea_nil) (by omega) fun c H6 hc x6 =>
          ⟨[some v, some (.ref uu), some (.ref p), some (.ref r), some (.int (-(rowS l rr : Int))), some (.int (rr : Int)), o6, o7, some (.int (c : Int))], rfl, fun Q h => h, fun H7 x7 Q q => q H7 (Ex.refl H7), fun _ =>
            evd_tup (ead_cons (evd_int (ev_un (x := .int (left c : Int)) (z := .int (-(left c : Int))) (ev_op (x := .ref p) (y := .int (c : Int)) (ev_var rfl) (ev_var rfl) (rv_ixL (.of (x6 p _ wk.le)) (atI_nat (rowI_get hc)))) fun H7 x7 Q q => ⟨_, rfl, q H7 (Ex.refl H7)⟩)) (ead_cons (evd_int (ev_var rfl)) ead_nil)) (by show 2 ≤ 100000; decide)⟩
        rw [filter_yes] at this
        exact this
      have k4 := evm_sorted (K := K) k3 (e2_alike left _) (e2_sort left _) (e2_depth left _)
      have tperm : ((List.range w).mergeSort (PySem.W.dataLe false (e2 left))).Perm (List.range w) := List.mergeSort_perm _ _
      have tpair := e2_pair (w := w) left
      generalize (List.range w).mergeSort (PySem.W.dataLe false (e2 left)) = τ at k4 tperm tpair
      show tSeq _ _ _ _ _
      refine q_asgM k4 fun o os H6 ho x6 hlo hxo => ?_
      have rw_le : rowS l rr ≤ w := rowS_le fl rr
      obtain ⟨tn, tw, tord⟩ := take_ord (k := rowS l rr) tperm tpair
      have tlen : (τ.take (rowS l rr)).length = rowS l rr := by rw [List.length_take, tperm.length_eq, List.length_range]; omega
      have k5 := evm_toL (K := K) (σ := [some v, some (.ref uu), some (.ref p), some (.ref r), some (.int (-(rowS l rr : Int))), some (.int (rr : Int)), some (.ref o), o7, o8]) (te := tVar 6) (ta := tUn (rU fun i => .int (-i)) (tVar 4)) (k := rowS l rr) (ev_var rfl) hlo hxo (ev_un (x := .int (-(rowS l rr : Int))) (z := .int (rowS l rr : Int)) (ev_var rfl) fun H7 x7 Q q => ⟨_, rfl, by show Q (.int (- -(rowS l rr : Int))) H7; rw [Int.neg_neg]; exact q H7 (Ex.refl H7)⟩)
      rw [← List.map_take] at k5
      generalize τ.take (rowS l rr) = T at k5 tn tw tord tlen
      obtain ⟨pstep, ppos⟩ := pic.step fl rh (decide_eq_false rnot) tn tw tlen tord
      refine s_forMD k5 (fun c2 zs2 j σ H' => Wk l w H p r c zs ρ (fun x => left x - if x ∈ T.take j then 1 else 0) (found ++ (T.take j).map fun x => (rr, x)) H' ∧ H' c2 = some (.lst zs2) ∧ TpA H' zs2 (T.map (e2 left)) ∧ c2 ≠ p ∧ c2 ≠ r ∧ ∃ o7 o8, σ = [some v, some (.ref uu), some (.ref p), some (.ref r), some (.int (-(rowS l rr : Int))), some (.int (rr : Int)), some (.ref o), o7, o8])
        (fun c2 zs2 H7 hc7 x7 hl7 hx7 => ⟨by simpa using wk.go (x6.trans x7), hl7, hx7, ?_, ?_, _, _, rfl⟩) (fun c2 zs2 j σ' H' z => ⟨z.2.1, z.2.2.1⟩) ?_ ?_
      · rintro rfl; rw [(wk.go x6).le] at hc7; cases hc7
      · rintro rfl
        obtain ⟨_, h', _⟩ := (wk.go x6).fo
        rw [h'] at hc7; cases hc7
      · rintro c2 zs2 j cc cv σ H7 hj tc7 ⟨⟨m1, m2, ⟨ys, m4, m5⟩, m6, m7⟩, hz2, tz2, c2p, c2r, o7, o8, rfl⟩
        have cw : cc < w := tw cc (List.mem_of_getElem? hj)
        have cpos := ppos cc (List.mem_of_getElem? hj)
        have cnot := nodup_take tn hj
        have ts := takeS hj
        obtain ⟨b2, rfl, hb2⟩ := tp_two tc7
        refine ⟨b2, _, rfl, .of hb2, rfl, _, _, rfl, _, _, rfl, rfl, ?_⟩
        refine ⟨_, rfl, _, rfl, p, _, cc, _, rfl, rfl, m2, rowI_get cw, _, _, rfl, rfl, p, _, _, cc, rfl, rfl, m2, by rw [rowI_len]; exact ixN_nat cw, ?_⟩
        rw [rowI_set (g := fun x => left x - if x ∈ T.take (j + 1) then 1 else 0) (by
          rw [if_neg cnot, if_pos (by rw [ts]; simp)]
          congr 1
          show ((left cc - 0 : Nat) : Int) - 1 = ((left cc - 1 : Nat) : Int)
          omega) fun x _ hx => by
            have : x ∈ T.take (j + 1) ↔ x ∈ T.take j := by rw [ts]; simp [hx]
            by_cases z : x ∈ T.take j
            · rw [if_pos z, if_pos (this.mpr z)]
            · rw [if_neg z, if_neg (fun y => z (this.mp y))]]
        have tk1 := tk_lst (ys := rowI w fun x => left x - if x ∈ T.take (j + 1) then 1 else 0) m2
        have m4' : upd H7 p (.lst (rowI w fun x => left x - if x ∈ T.take (j + 1) then 1 else 0)) r = some (.lst ys) := by rw [upd_ne (fun e => pr e.symm)]; exact m4
        have fz2 : (found ++ (T.take j).map fun x => (rr, x)).length ≤ 12 * k + 12 := by
          rw [List.length_append, List.length_map, List.length_take]
          have := Nat.min_le_right j T.length
          omega
        have kh : k < h := by
          have := (List.getElem?_eq_some_iff.mp hk).1
          rw [perm.length_eq, List.length_range] at this; exact this
        refine s_appD (d := eC (rr, cc)) m4' (m5.mono tk1) (ev_var rfl) (cell_ev (ev_var rfl) (ev_var rfl)) (by rw [List.length_map]; omega) fun nv H8 x8 t8 t9 => ?_
        have tk2 := tk_lst (ys := ys ++ [nv]) (x8 r _ m4')
        have tk := (tk1.trans (.of x8)).trans tk2
        have keep : ∀ z ob, z ≠ p → z ≠ r → H7 z = some ob → upd H8 r (.lst (ys ++ [nv])) z = some ob := fun z ob zp zr e => by
          rw [upd_ne zr]
          exact x8 z _ (by rw [upd_ne zp]; exact e)
        refine ⟨⟨Ex.mut ((Ex.mut m1 pn).trans x8) rn, by rw [upd_ne pr]; exact x8 p _ upd_same, ⟨_, upd_same, ?_⟩, keep c _ cp cr m6, m7.mono tk⟩, keep c2 _ c2p c2r hz2, tz2.mono tk, c2p, c2r, _, _, rfl⟩
        have ee : found ++ (T.take j ++ [cc]).map (fun x => (rr, x)) = (found ++ (T.take j).map fun x => (rr, x)) ++ [(rr, cc)] := by simp
        rw [ts, ee, List.map_append]
        exact t9
      · rintro c2 zs2 σ H7 ⟨wk2, hz2, tz2, c2p, c2r, o7, o8, rfl⟩
        rw [List.take_length] at wk2
        refine ⟨_, _, wk2, ?_, ?_, cp, cr, _, _, _, _, _, rfl⟩
        · have e : (fun x => decide (x ∈ ρ.take (k + 1))) = fun x => decide (x ∈ ρ.take k) || x == rr := by
            funext x
            rw [takeS hk]
            by_cases z : x = rr <;> simp [z]
          rw [e]
          exact pstep
        · rw [List.length_append, List.length_map]; omega
    · rintro c zs σ H5 ⟨left, found, wk, pic, fz, cp, cr, o4, o5, o6, o7, o8, rfl⟩
      obtain ⟨f1, f2⟩ := pic.last fun x hx => by rw [List.take_length]; exact decide_eq_true ((ρh x).mpr hx)
      obtain ⟨ys, m4, m5⟩ := wk.fo
      have k6 := evm_sortedL (K := K) (σ := [some v, some (.ref uu), some (.ref p), some (.ref r), o4, o5, o6, o7, o8]) (te := tVar 3) (ev_var rfl) m4 m5 (alike_cells _) (sort_cells _) (depth_cells _)
      rw [dataLe_cell] at k6
      exact s_retD (evd_tupleOf k6) fun z H6 x6 tz => q _ z H6 f1 f2 (wk.ex.trans x6) tz
end
end K53

-- part K53W13
set_option maxRecDepth 100000
set_option maxHeartbeats 4000000
namespace K53
open PySem PySem.Spec PyProof.Rows L2 Evl
/-- the heap but for one place -/
def er (H : Hp) (a : Addr) : Hp := fun b => if b = a then none else H b
theorem er_ne {H : Hp} {a b : Addr} (h : b ≠ a) : er H a b = H b := by unfold er; rw [if_neg h]
theorem er_same {H : Hp} {a : Addr} : er H a a = none := by unfold er; rw [if_pos rfl]
theorem er_ex {H H1 : Hp} {a : Addr} {o : HO} (x : Ex H H1) : Ex (er H a) (upd H1 a o) := fun b u e => by
  by_cases q : b = a
  · subst q; rw [er_same] at e; cases e
  · rw [er_ne q] at e; rw [upd_ne q]; exact x b u e
theorem er_of {H H1 : Hp} {a : Addr} (x : Ex H H1) : Ex (er H a) H1 := fun b u e => by
  by_cases q : b = a
  · subst q; rw [er_same] at e; cases e
  · rw [er_ne q] at e; exact x b u e
theorem er_trans {H H1 H2 : Hp} {a : Addr} (x : Ex (er H a) H1) (y : Ex (er H1 a) H2) : Ex (er H a) H2 := fun b u e => by
  by_cases q : b = a
  · subst q; rw [er_same] at e; cases e
  · exact y b u (by rw [er_ne q]; exact x b u e)
theorem er_at {H H1 : Hp} {a b : Addr} {o : HO} (x : Ex (er H a) H1) (h : b ≠ a) (hb : H b = some o) : H1 b = some o := x b o (by rw [er_ne h]; exact hb)
theorem er_tk {H H1 : Hp} {a : Addr} {xs : List V} (x : Ex (er H a) H1) (h : H a = some (.lst xs)) : TK H H1 := fun b ys e => er_at x (by rintro rfl; rw [h] at e; cases e) e
/-- the law's row -/
def Rw (K : PySem.W.Frag) (sc : Addr) (ns : List Int) (H : Hp) (rw : Addr) : Prop := ∃ (k : Nat) (st rest : Int), H rw = some (.lst [.ref sc, .int (k : Int), .int st, .int rest]) ∧ SqL K H sc (ns.map V.int) ∧ ∀ (H' : Hp) (o : HO), SqL K H' sc (ns.map V.int) → SqL K (upd H' rw o) sc (ns.map V.int)
theorem sql_upd {K : PySem.W.Frag} {H : Hp} {a b : Addr} {o : HO} {xs : List V} (h : SqL K H a xs) (n : a ≠ b) : SqL K (upd H b o) a xs := h.elim (fun h => .inl (h.elim (fun h => .inl (by rw [upd_ne n]; exact h)) fun ⟨o, h⟩ => .inr ⟨o, by rw [upd_ne n]; exact h⟩)) fun h => .inr h
theorem sql_new {K : PySem.W.Frag} {H H' : Hp} {a b : Addr} {o : HO} {xs : List V} (h : SqL K H a xs) (hb : H b = none) (h' : SqL K H' a xs) : SqL K (upd H' b o) a xs := h.elim (fun z => sql_upd h' (by
  rintro rfl
  rcases z with z | ⟨o, z⟩ <;> (rw [hb] at z; cases z))) fun h => .inr h
theorem Rw.mono {K : PySem.W.Frag} {sc : Addr} {ns : List Int} {H H' : Hp} {rw : Addr} (h : Rw K sc ns H rw) (x : Ex H H') : Rw K sc ns H' rw := by
  obtain ⟨k, st, rest, h1, h2, h3⟩ := h
  exact ⟨k, st, rest, x rw _ h1, ex_l x h2, h3⟩
theorem Rw.lst {K : PySem.W.Frag} {sc : Addr} {ns : List Int} {H : Hp} {rw : Addr} (h : Rw K sc ns H rw) : ∃ xs, H rw = some (.lst xs) := by
  obtain ⟨k, st, rest, h1, h2, h3⟩ := h
  exact ⟨_, h1⟩
theorem Rw.tk {K : PySem.W.Frag} {sc : Addr} {ns : List Int} {H H' : Hp} {rw : Addr} (h : Rw K sc ns H rw) (x : Ex (er H rw) H') : TK H H' := by
  obtain ⟨xs, h1⟩ := h.lst
  exact er_tk x h1
/-- a list of this def grows -/
theorem Rw.grow {K : PySem.W.Frag} {sc : Addr} {ns : List Int} {H H' : Hp} {rw b : Addr} {o : HO} (h : Rw K sc ns H rw) (hb : H b = none) (h' : Rw K sc ns H' rw) : Rw K sc ns (upd H' b o) rw := by
  obtain ⟨k, st, rest, h1, h2, h3⟩ := h
  obtain ⟨k', st', rest', g1, g2, g3⟩ := h'
  have ne : rw ≠ b := by rintro rfl; rw [hb] at h1; cases h1
  exact ⟨k', st', rest', by rw [upd_ne ne]; exact g1, sql_new h2 hb g2, g3⟩
theorem modN (x : Int) {m : Nat} (h : 1 ≤ m) : ∃ r : Nat, x % (m : Int) = (r : Int) ∧ r < m := by
  have a := Int.emod_nonneg x (b := (m : Int)) (by omega)
  have b := Int.emod_lt_of_pos x (b := (m : Int)) (by omega)
  exact ⟨(x % (m : Int)).toNat, by omega, by omega⟩
section
variable {mg : Str → Option Value} {P : Program} {K : PySem.W.Frag} {w : World} {base : Heap}
def spTaken (K : PySem.W.Frag) : Sp := fun vs H Q _ => ∃ (rw : Addr) (many : Nat) (sc : Addr) (ns : List Int), vs = [.ref rw, .int (many : Int)] ∧ 1 ≤ many ∧ many ≤ 1000000 ∧ Rw K sc ns H rw ∧ ∀ (r : Nat) (H' : Hp), r < many → Ex (er H rw) H' → Rw K sc ns H' rw → Q (.int (r : Int)) H'
theorem sc_taken : FnScope ["_law_row", "_law_many", "_law_found", "_law_cell"] ["_law_row", "_law_many"] (defScope (tp 36)) := ⟨rfl, rfl, rfl, by decide +kernel, rfl, by decide +kernel, by decide +kernel⟩
theorem ev_toInt {σ : L2.St} {H : Hp} {te : TE} {i : Int} (h : Ev te σ H (.int i)) : Ev (tCB (fun xs H Q => (∃ i, xs = [.int i] ∧ Q (.int i) H) ∨ ∃ k, xs = [.bl k] ∧ Q (.int (if k then 1 else 0)) H) (tCons te tNil)) σ H (.int i) :=
  ev_cb (vs := [.int i]) (ea_cons h ea_nil) fun H1 x Q q => .inl ⟨i, rfl, q H1 (Ex.refl H1)⟩
theorem ok_taken (T : Txt K mg) : Cl P w K mg base 1 "_law_taken" ["_law_row", "_law_many"] (spTaken K) := by
  refine cl_mk T.taken sc_taken (fun vs H Q E h => ?_) (fun _ _ _ _ _ _ us hl => match us, hl with | [_, _], _ => rfl) fun f cdv A outer s H vs Q E hr h => ?_
  · obtain ⟨rw, m, _, _, rfl, _⟩ := h; rfl
  · obtain ⟨rw, m, sc, ns, rfl, m1, m2, row, q⟩ := h
    obtain ⟨k, st, rest, hrw, hsc, ne⟩ := id row
    refine ⟨_, pss_cons (ps_if (pt_cmpR op_gt (pe_ix ix_list (pv 0) pe_int (fun _ _ => rfl)) pe_int (nomark _))
        (pss_cons (ps_set (i := 2) sc_taken.nd rfl (.inl rfl) (pe_op op_mod (pe_callTy call_int1 (by rfl) T.b_int (by decide +kernel) (pa_cons (pe_ix ix_list (pv 0) pe_int (fun _ _ => rfl)) pa_nil)) (pv 1)))
        (pss_cons (ps_asg (pe_op op_fdiv (pe_ix ix_list (pv 0) pe_int (fun _ _ => rfl)) (pv 1)) (pg_sub (pv 0) pe_int set_list))
        (pss_one (ps_ret (pv 2))))) pss_nil)
      (pss_cons (ps_asg (pe_op op_add (pe_ix ix_list (pv 0) pe_int (fun _ _ => rfl)) pe_int) (pg_sub (pv 0) pe_int set_list))
      (pss_cons (ps_if (pt_cmpR op_gt (pe_ix ix_list (pv 0) pe_int (fun _ _ => rfl)) (pe_callB call_len_seq (by rfl) T.b_len PySem.boot_len (pa_cons (pe_ix ix_list (pv 0) pe_int (fun _ _ => rfl)) pa_nil)) (by rfl))
        (pss_cons (ps_asg (pe_op op_mod (pe_callTy call_int1 (by rfl) T.b_int (by decide +kernel) (pa_cons (pe_op op_add (pe_op op_mul (pe_ix ix_list (pv 0) pe_int (fun _ _ => rfl)) pe_int) pe_int) pa_nil)) pe_int) (pg_sub (pv 0) pe_int set_list))
        (pss_one (ps_ret (pe_op op_mod (pe_callTy call_int1 (by rfl) T.b_int (by decide +kernel) (pa_cons (pe_op op_fdiv (pe_ix ix_list (pv 0) pe_int (fun _ _ => rfl)) pe_int) pa_nil)) (pv 1))))) pss_nil)
      (pss_cons (ps_set (i := 3) sc_taken.nd rfl (.inl rfl) (pe_ix ix_list (pe_ix ix_list (pv 0) pe_int (fun _ _ => rfl)) (pe_op op_sub (pe_ix ix_list (pv 0) pe_int (fun _ _ => rfl)) pe_int) (fun _ _ => rfl)))
      (pss_cons (ps_asg (pe_op op_mod (pe_callTy call_int1 (by rfl) T.b_int (by decide +kernel) (pa_cons (pe_op op_add (pe_op op_add (pe_op op_mul (pe_ix ix_list (pv 0) pe_int (fun _ _ => rfl)) pe_int) (pv 3)) pe_int) pa_nil)) pe_int) (pg_sub (pv 0) pe_int set_list))
      (pss_cons (ps_if (pt_cmpR op_ge (pv 3) (pe_op op_pow pe_int pe_int) (nomark _)) (pss_one (ps_asg (pe_op op_fdiv (pv 3) (pv 1)) (pg_sub (pv 0) pe_int set_list))) pss_nil)
      (pss_one (ps_ret (pe_op op_mod (pe_callTy call_int1 (by rfl) T.b_int (by decide +kernel) (pa_cons (pv 3) pa_nil)) (pv 1))))))))), ?_⟩
    have ixr : ∀ {σ : L2.St} {H : Hp} {xs : List V} {v : V} (i : Nat), σ[0]? = some (some (.ref rw)) → H rw = some (.lst xs) → xs[i]? = some v → Ev (tOp (rIxL K) (tVar 0) (tC (.int (i : Int)))) σ H v := fun i h0 h1 h2 => ev_op (ev_var h0) ev_c (rv_ixL (.of h1) (atI_nat h2))
    have fin : ∀ {H1 : Hp} {k' : Nat} {st' rest' : Int} {z : HO}, Ex (er H rw) H1 → SqL K H1 sc (ns.map V.int) → z = .lst [.ref sc, .int (k' : Int), .int st', .int rest'] → Ex (er H rw) (upd H1 rw z) ∧ SqL K (upd H1 rw z) sc (ns.map V.int) ∧ upd H1 rw z rw = some (.lst [.ref sc, .int (k' : Int), .int st', .int rest']) := fun x hs e => ⟨Ex.mut x er_same, ne _ _ hs, by rw [upd_same, e]⟩
    have hscE : ∀ {H1 : Hp}, Ex H H1 → SqL K H1 sc (ns.map V.int) := fun x => ex_l x hsc
    refine q_when (b := decide (0 < rest)) (et_test (ev_op (ixr 3 rfl hrw rfl) ev_c rv_I0)) (fun hb H1 x1 => ?_) fun hb H1 x1 => ?_
    · obtain ⟨r, er1, rm⟩ := modN rest m1
      refine q_asg (v := .int (r : Int)) (ev_is (ev_op (x := .int rest) (y := .int (m : Int)) (ev_toInt (ixr 3 rfl (x1 rw _ hrw) rfl)) (ev_var rfl) (rv_I (by omega))) (by rw [er1])) fun H2 x2 => ?_
      have x12 := x1.trans x2
      refine q_setL (j := 3) (x12 rw _ hrw) (ev_op (x := .int rest) (y := .int (m : Int)) (ixr 3 rfl (x12 rw _ hrw) rfl) (ev_var rfl) (rv_I ⟨by omega, by omega⟩)) (ev_var rfl) ev_c (by simp) fun H3 x3 => ?_
      obtain ⟨f1, f2, f3⟩ := fin (k' := k) (st' := st) (er_of (x12.trans x3)) (hscE (x12.trans x3)) rfl
      exact ⟨_, rfl, q r _ rm f1 ⟨k, st, _, f3, f2, ne⟩⟩
    refine q_setL (j := 1) (v := .int ((k + 1 : Nat) : Int)) (x1 rw _ hrw) (ev_is (ev_op (x := .int (k : Int)) (y := .int 1) (ixr 1 rfl (x1 rw _ hrw) rfl) ev_c rv_I0) (by congr 1)) (ev_var rfl) ev_c (by simp) fun H2 x2 => ?_
    obtain ⟨f1, f2, f3⟩ := fin (z := .lst ([V.ref sc, .int (k : Int), .int st, .int rest].set 1 (.int ((k + 1 : Nat) : Int)))) (k' := k + 1) (st' := st) (rest' := rest) (er_of (x1.trans x2)) (hscE (x1.trans x2)) rfl
    revert f1 f2 f3
    generalize upd H2 rw _ = H3
    intro f1 f2 f3
    have lenE : ∀ {σ : L2.St} {H4 : Hp}, σ[0]? = some (some (.ref rw)) → Ex H3 H4 → Ev (tCB (rLenS K) (tCons (tOp (rIxL K) (tVar 0) (tC (.int (0 : Nat)))) tNil)) σ H4 (.int (ns.length : Int)) := fun h0 x => ev_is (ev_len (ixr 0 h0 (x rw _ f3) rfl) (ex_l x f2)) (by rw [List.length_map])
    refine q_when (b := decide ((ns.length : Int) < ((k + 1 : Nat) : Int))) (et_test (ev_op (ixr 1 rfl f3 rfl) (lenE rfl (Ex.refl H3)) rv_I0)) (fun hb H4 x4 => ?_) fun hb H4 x4 => ?_
    · refine q_setL (j := 2) (x4 rw _ f3) (ev_op (x := .int (st * 48271 + 11)) (y := .int 2147483647) (ev_toInt (ev_op (x := .int (st * 48271)) (y := .int 11) (ev_op (x := .int st) (y := .int 48271) (ixr 2 rfl (x4 rw _ f3) rfl) ev_c (rv_I (.inr ⟨by decide, by decide⟩))) ev_c rv_I0)) ev_c (rv_I (by decide))) (ev_var rfl) ev_c (by simp) fun H5 x5 => ?_
      obtain ⟨g1, g2, g3⟩ := fin (z := .lst ([V.ref sc, .int ((k + 1 : Nat) : Int), .int st, .int rest].set 2 (.int ((st * 48271 + 11) % 2147483647)))) (k' := k + 1) (st' := (st * 48271 + 11) % 2147483647) (rest' := rest) (f1.trans (x4.trans x5)) (ex_l (x4.trans x5) f2) rfl
      revert g1 g2 g3
      generalize upd H5 rw _ = H6
      intro g1 g2 g3
      obtain ⟨r, er1, rm⟩ := modN (((st * 48271 + 11) % 2147483647) / 7) m1
      refine s_ret (v := .int (r : Int)) (ev_is (ev_op (x := .int (((st * 48271 + 11) % 2147483647) / 7)) (y := .int (m : Int)) (ev_toInt (ev_op (x := .int ((st * 48271 + 11) % 2147483647)) (y := .int 7) (ixr 2 rfl g3 rfl) ev_c (rv_I ⟨by decide, by decide⟩))) (ev_var rfl) (rv_I (by omega))) (by rw [er1])) fun H7 x7 => ?_
      exact q r H7 rm (g1.trans x7) ⟨k + 1, _, rest, x7 rw _ g3, ex_l x7 g2, ne⟩
    have hk : k < ns.length := by have := of_decide_eq_false hb; omega
    obtain ⟨cell, hcell⟩ : ∃ c, ns[k]? = some c := ⟨ns[k], List.getElem?_eq_getElem hk⟩
    have hcv : (ns.map V.int)[k]? = some (.int cell) := by rw [List.getElem?_map, hcell]; rfl
    refine q_asg (v := .int cell) (ev_op (x := .ref sc) (y := .int (k : Int)) (ixr 0 rfl (x4 rw _ f3) rfl) (ev_is (ev_op (x := .int ((k + 1 : Nat) : Int)) (y := .int 1) (ixr 1 rfl (x4 rw _ f3) rfl) ev_c rv_I0) (by congr 1; omega)) (rv_ixL (ex_l x4 f2) (atI_nat hcv))) fun H5 x5 => ?_
    have x45 := x4.trans x5
    refine q_setL (j := 2) (x45 rw _ f3) (ev_op (x := .int (st * 48271 + cell + 11)) (y := .int 2147483647) (ev_toInt (ev_op (x := .int (st * 48271 + cell)) (y := .int 11) (ev_op (x := .int (st * 48271)) (y := .int cell) (ev_op (x := .int st) (y := .int 48271) (ixr 2 rfl (x45 rw _ f3) rfl) ev_c (rv_I (.inr ⟨by decide, by decide⟩))) (ev_var rfl) rv_I0) ev_c rv_I0)) ev_c (rv_I (by decide))) (ev_var rfl) ev_c (by simp) fun H6 x6 => ?_
    obtain ⟨g1, g2, g3⟩ := fin (z := .lst ([V.ref sc, .int ((k + 1 : Nat) : Int), .int st, .int rest].set 2 (.int ((st * 48271 + cell + 11) % 2147483647)))) (k' := k + 1) (st' := (st * 48271 + cell + 11) % 2147483647) (rest' := rest) (f1.trans (x45.trans x6)) (ex_l (x45.trans x6) f2) rfl
    revert g1 g2 g3
    generalize upd H6 rw _ = H7
    intro g1 g2 g3
    obtain ⟨r, er1, rm⟩ := modN cell m1
    have last : ∀ H8, Ex (er H rw) H8 → Rw K sc ns H8 rw → tRet (tOp (rI (fun _ j => 0 < j) fun i j => .int (i % j)) (tCB (fun xs H Q => (∃ i, xs = [.int i] ∧ Q (.int i) H) ∨ ∃ k, xs = [.bl k] ∧ Q (.int (if k then 1 else 0)) H) (tCons (tVar 3) tNil)) (tVar 1)) { nx := fun _ H' => Q .non H', rt := Q } [some (.ref rw), some (.int (m : Int)), none, some (.int cell)] H8 := fun H8 z1 z2 =>
      s_ret (v := .int (r : Int)) (ev_is (ev_op (x := .int cell) (y := .int (m : Int)) (ev_toInt (ev_var rfl)) (ev_var rfl) (rv_I (by omega))) (by rw [er1])) fun H9 x9 => q r H9 rm (z1.trans x9) (z2.mono x9)
    refine q_when (b := decide (((10 : Int) ^ (18 : Int).toNat) ≤ cell)) (et_test (ev_op (ev_var rfl) (ev_op (x := .int 10) (y := .int 18) ev_c ev_c (rv_I ⟨by decide, by decide, by decide⟩)) rv_I0)) (fun hb H8 x8 => ?_) fun hb H8 x8 => ?_
    · refine s_setL (j := 3) (x8 rw _ g3) (ev_op (x := .int cell) (y := .int (m : Int)) (ev_var rfl) (ev_var rfl) (rv_I ⟨by omega, by omega⟩)) (ev_var rfl) ev_c (by simp) fun H9 x9 => ?_
      obtain ⟨e1, e2, e3⟩ := fin (k' := k + 1) (st' := (st * 48271 + cell + 11) % 2147483647) (g1.trans (x8.trans x9)) (ex_l (x8.trans x9) g2) rfl
      exact last _ e1 ⟨k + 1, _, _, e3, e2, ne⟩
    · exact last H8 (g1.trans x8) ⟨k + 1, _, rest, x8 rw _ g3, ex_l x8 g2, ne⟩
end
end K53

-- part K53W14
set_option maxRecDepth 100000
set_option maxHeartbeats 4000000
namespace K53
open PySem PySem.Spec PyProof.Rows L2 Evl
theorem ext_inF {i w : Nat} {m : Ink} {part : List Nat} (f : InF i w m) (pa : part.Pairwise (· < ·)) (pw : ∀ c, c ∈ part → c < w) : InF (i + 1) w (ext i m part) := by
  refine ⟨?_, fun c hc => ?_⟩
  · unfold ext
    rw [List.pairwise_append]
    refine ⟨f.asc, List.Pairwise.map _ (fun a b q => .inr ⟨rfl, q⟩) pa, fun a ha b hb => ?_⟩
    obtain ⟨x, hx, rfl⟩ := List.mem_map.mp hb
    exact .inl (f.fr a ha).1
  · unfold ext at hc
    rcases List.mem_append.mp hc with q | q
    · have := f.fr c q; omega
    · obtain ⟨x, hx, rfl⟩ := List.mem_map.mp q
      exact ⟨Nat.lt_succ_self i, pw x hx⟩
section
variable {mg : Str → Option Value} {P : Program} {K : PySem.W.Frag} {w : World} {base : Heap}
def spPick (K : PySem.W.Frag) : Sp := fun vs H Q _ => ∃ (rw th : Addr) (xs : List V) (sc : Addr) (ns : List Int), vs = [.ref rw, .ref th] ∧ H th = some (.lst xs) ∧ 1 ≤ xs.length ∧ xs.length ≤ 1000 ∧ th ≠ rw ∧ Rw K sc ns H rw ∧ ∀ (v : V) (H' : Hp), v ∈ xs → Ex (er H rw) H' → Rw K sc ns H' rw → Q v H'
theorem sc_pick : FnScope ["_law_row", "_law_things"] ["_law_row", "_law_things"] (defScope (tp 37)) := ⟨rfl, rfl, rfl, by decide +kernel, rfl, by decide +kernel, by decide +kernel⟩
theorem ok_pick (T : Txt K mg) : Cl P w K mg base 2 "_law_pick" ["_law_row", "_law_things"] (spPick K) := by
  refine cl_mk T.pick sc_pick (fun vs H Q E h => ?_) (fun _ _ _ _ _ _ us hl => match us, hl with | [_, _], _ => rfl) fun f cdv A outer s H vs Q E hr h => ?_
  · obtain ⟨r, t, xs, _, _, rfl, _⟩ := h; rfl
  · obtain ⟨r, t, xs, sc, ns, rfl, ht, l1, l2, ne, row, q⟩ := h
    refine ⟨_, pss_one (ps_ret (pe_ix ix_list (pv 1) (pe_cl (ok_taken T) hr (pa_cons (pv 0) (pa_cons (pe_callB call_len_seq (by rfl) T.b_len PySem.boot_len (pa_cons (pv 1) pa_nil)) pa_nil))) (fun _ _ => rfl))), ?_⟩
    refine ⟨_, rfl, _, rfl, _, rfl, t, xs, rfl, .inl (.of ht), r, xs.length, sc, ns, rfl, l1, by omega, row, fun k H' hk x hrow => ?_⟩
    exact ⟨t, xs, (k : Int), xs[k], rfl, rfl, .of (er_at x ne ht), atI_nat (List.getElem?_eq_getElem hk), q _ H' (List.getElem_mem hk) x hrow⟩
def spFramed (K : PySem.W.Frag) : Sp := fun vs H Q _ => ∃ (rw : Addr) (h w : Nat) (sc : Addr) (ns : List Int), vs = [.ref rw, .int (h : Int), .int (w : Int)] ∧ h ≤ 12 ∧ w ≤ 12 ∧ Rw K sc ns H rw ∧ ∀ m v H', InF h w m → Ex (er H rw) H' → Rw K sc ns H' rw → Tp H' v (eInk m) → Q v H'
abbrev nFr : List Str := ["_law_row", "_law_high", "_law_wide", "_law_found", "_law_dense", "_law_line", "_law_column"]
theorem sc_framed : FnScope nFr ["_law_row", "_law_high", "_law_wide"] (defScope (tp 38)) := ⟨rfl, rfl, rfl, by decide +kernel, rfl, by decide +kernel, by decide +kernel⟩
theorem ok_framed (T : Txt K mg) : Cl P w K mg base 3 "_law_framed" ["_law_row", "_law_high", "_law_wide"] (spFramed K) := by
  refine cl_mk T.framed sc_framed (fun vs H Q E h => ?_) (fun _ _ _ _ _ _ us hl => match us, hl with | [_, _, _], _ => rfl) fun f cdv A outer s H vs Q E hr h => ?_
  · obtain ⟨r, h, w, _, _, rfl, _⟩ := h; rfl
  · obtain ⟨r, h, w, sc, ns, rfl, h2, w2, row, q⟩ := h
    refine ⟨_, pss_cons (ps_asg (pe_tup (pa_cons (pe_lst pa_nil) (pa_cons (pe_cl (ok_pick T) hr (pa_cons (pv 0) (pa_cons (pe_lst (pa_cons pe_int (pa_cons pe_int (pa_cons pe_int (pa_cons pe_int pa_nil))))) pa_nil))) pa_nil)))
        (pg_tup rfl (pgs_cons (pg_name (i := 3) sc_framed.nd rfl (.inl rfl)) (pgs_cons (pg_name (i := 4) sc_framed.nd rfl (.inr rfl)) pgs_nil))))
      (pss_cons (ps_for PassesOwn.never rfl (pi_range1 (by rfl) T.b_range (pa_cons (pv 1) pa_nil)) (pg_name (i := 5) sc_framed.nd rfl (.inr rfl))
        (pss_one (ps_set (i := 3) sc_framed.nd rfl (.inl rfl) (pe_op op_cat (pv 3) (pe_lc (g := gName 6) (tt := tTest (tOp rEq (tCall (spTaken K) [] E0 (tCons (tVar 0) (tCons (tVar 4) tNil))) (tC (.int 0)))) (te := tTup (tCons (tVar 5) (tCons (tVar 6) tNil))) (own := [("_law_column", 6)]) rfl sc_framed.nd
            (pi_range1 (by rfl) T.b_range (pa_cons (pv 2) pa_nil)) (blkOk_by (N := nFr) (sc := defScope (tp 38)) (by decide +kernel))
            (fun _ _ _ _ _ => by exact pg_name (i := 6) sc_framed.nd rfl (.inl rfl)) (fun _ _ _ _ _ => by exact pts_one (pt_cmpR op_eq (pe_cl (ok_taken T) hr (pa_cons (pv 0) (pa_cons (pv 4) pa_nil))) pe_int (nomark _))) (fun _ _ _ _ _ => by exact pe_tup (pa_cons (pv 5) (pa_cons (pv 6) pa_nil))))))))
      (pss_one (ps_ret (pe_callTy call_tuple_of (by rfl) T.b_tuple (by decide +kernel) (pa_cons (pv 3) pa_nil))))), ?_⟩
    have hrw : ∃ xs, H r = some (.lst xs) := row.lst
    refine ⟨by show 0 ≤ sizeLine; decide, fun p hp => ⟨_, rfl, by show 4 ≤ sizeLine; decide, fun t ht => ?_⟩⟩
    have y1 := Ex.new (o := .lst []) hp
    have y2 := Ex.new (o := .lst [.int 2, .int 2, .int 3, .int 4]) ht
    have pr : p ≠ r := by rintro rfl; obtain ⟨xs, e⟩ := hrw; rw [e] at hp; cases hp
    have tr : t ≠ r := by
      rintro rfl
      obtain ⟨xs, e⟩ := hrw
      rw [y1 _ _ e] at ht; cases ht
    refine ⟨r, t, _, sc, ns, rfl, upd_same, by simp, by simp, tr, (row.mono y1).mono y2, fun v H2 hv x2 row2 => ?_⟩
    have e2 : Ex (er H r) H2 := er_trans (er_of (y1.trans y2)) x2
    have hp2 : H2 p = some (.lst []) := er_at x2 pr (y2 p _ upd_same)
    refine ⟨by show 2 ≤ sizeLine; decide, fun a ha => ?_⟩
    have y3 := Ex.new (o := .tup [.ref p, v]) ha
    refine ⟨a, _, rfl, .of upd_same, rfl, _, _, rfl, _, _, rfl, rfl, ?_⟩
    obtain ⟨dn, rfl, d1, d2⟩ : ∃ n : Nat, v = .int (n : Int) ∧ 1 ≤ n ∧ n ≤ 4 := by
      simp only [List.mem_cons, List.not_mem_nil, or_false] at hv
      rcases hv with rfl | rfl | rfl | rfl
      · exact ⟨2, rfl, by decide, by decide⟩
      · exact ⟨2, rfl, by decide, by decide⟩
      · exact ⟨3, rfl, by decide, by decide⟩
      · exact ⟨4, rfl, by decide, by decide⟩
    refine q_forR1 (n := (h : Int)) (ea_cons (ev_var rfl) ea_nil) ⟨by omega, by omega⟩ (fun i σ H' => Ex (er H r) H' ∧ Rw K sc ns H' r ∧ ∃ p xs m o5, H' p = some (.lst xs) ∧ p ≠ r ∧ TpA H' xs (m.map eC) ∧ InF i w m ∧ σ = [some (.ref r), some (.int (h : Int)), some (.int (w : Int)), some (.ref p), some (.int (dn : Int)), o5, none])
      (fun H3 x3 => ⟨e2.trans (y3.trans x3), row2.mono (y3.trans x3), p, [], [], _, (y3.trans x3) p _ hp2, pr, .nil, ⟨.nil, fun c hc => by simp at hc⟩, rfl⟩) ?_ ?_
    · rintro i σ H3 hi ⟨e3, row3, p, xs, m, o5, hp3, pr, tx, fm, rfl⟩
      have hxl : xs.length ≤ 144 := by rw [tx.length, List.length_map]; exact Nat.le_trans (inF_len fm) (Nat.mul_le_mul (show i ≤ 12 by omega) w2)
      refine ⟨_, rfl, _, rfl, (w : Int), rfl, by omega, by omega, fun D hD => ?_⟩
      have Dr : D ≠ r := by rintro rfl; obtain ⟨xs, e⟩ := row3.lst; rw [e] at hD; cases hD
      have Dp : D ≠ p := by rintro rfl; rw [hp3] at hD; cases hD
      have en : ((w : Int)).toNat = w := by omega
      have eD : er H r D = none := by
        cases z : er H r D with
        | none => rfl
        | some o => rw [e3 D o z] at hD; cases hD
      rw [en]
      have xD := Ex.new (o := .lst []) hD
      refine lc_range (lo := 0) (n := w) (fun j H' => Ex (er H r) H' ∧ Rw K sc ns H' r ∧ H' p = some (.lst xs) ∧ TpA H' xs (m.map eC) ∧ ∃ (part : List Nat) (ys : List V), part.Pairwise (· < ·) ∧ (∀ c, c ∈ part → c < j) ∧ part.length ≤ j ∧ H' D = some (.lst ys) ∧ TpA H' ys (part.map fun c => eC (i, c)))
        ⟨e3.trans xD, row3.mono xD, xD p _ hp3, tx.mono (.of xD), [], [], .nil, fun c hc => by simp at hc, Nat.zero_le _, upd_same, .nil⟩ ?_ ?_
      · rintro j H4 hj ⟨e4, row4, hp4, tx4, part, ys, pa, pj, pl, hy, ty⟩
        have ej : (0 : Int) + (j : Int) = (j : Int) := Int.zero_add _
        rw [ej]
        refine ⟨rfl, _, rfl, _, rfl, r, dn, sc, ns, rfl, d1, by omega, row4, fun k H5 hk x5 row5 => ⟨rfl, _, rfl, ?_⟩⟩
        have e5 := er_trans e4 x5
        have hp5 := er_at x5 pr hp4
        have hy5 := er_at x5 Dr hy
        have tk := row4.tk x5
        by_cases hk0 : k = 0
        · subst hk0
          refine iteT ⟨_, rfl, _, rfl, by show 2 ≤ sizeLine; decide, fun b hb => ⟨ys, ?_, sz_lt ?_, ?_⟩⟩
          · exact (Ex.new hb) D _ hy5
          · rw [ty.length, List.length_map]; omega
          · have xb := Ex.new (o := .tup [.int (i : Int), .int (j : Int)]) hb
            have hyb := xb D _ hy5
            have tk2 := tk_lst (ys := ys ++ [.ref b]) hyb
            refine ⟨Ex.mut (e5.trans xb) eD, ?_, by rw [upd_ne Dp.symm]; exact xb p _ hp5, ((tx4.mono tk).mono (.of xb)).mono tk2, part ++ [j], _, ?_, fun c hc => ?_, by simp; omega, upd_same, ?_⟩
            · exact row3.grow hD (row5.mono xb)
            · rw [List.pairwise_append]
              exact ⟨pa, List.pairwise_singleton _ _, fun x hx y hy => by
                have h1 := pj x hx
                have h2 : y = j := by simpa using hy
                omega⟩
            · rcases List.mem_append.mp hc with z | z
              · have := pj c z; omega
              · have : c = j := by simpa using z
                omega
            · rw [List.map_append]
              exact (((ty.mono tk).mono (.of xb)).mono tk2).app (.one ((tp_cell_of (c := (i, j)) (a := b) upd_same).mono tk2))
        · have z : decide (V.int (k : Int) = V.int 0) = false := decide_eq_false (by intro z; injection z with z; omega)
          rw [z]
          exact iteF ⟨e5, row5, hp5, tx4.mono tk, part, ys, pa, fun c hc => by have := pj c hc; omega, by omega, hy5, ty.mono tk⟩
      · rintro H4 ⟨e4, row4, hp4, tx4, part, ys, pa, pj, pl, hy, ty⟩
        refine ⟨p, D, xs, ys, rfl, rfl, hp4, hy, sz_of (by rw [ty.length, List.length_map]; omega), fun b hb => ?_⟩
        have xb := Ex.new (o := .lst (xs ++ ys)) hb
        have br : b ≠ r := by rintro rfl; obtain ⟨zs, e⟩ := row4.lst; rw [e] at hb; cases hb
        refine ⟨e4.trans xb, row4.mono xb, b, _, ext i m part, _, upd_same, br, ?_, ext_inF fm pa pj, rfl⟩
        unfold ext
        rw [List.map_append, List.map_map]
        exact (tx4.mono (.of xb)).app (ty.mono (.of xb))
    · rintro σ H3 ⟨e3, row3, p, xs, m, o5, hp3, pr, tx, fm, rfl⟩
      have eh : ((h : Int)).toNat = h := by omega
      rw [eh] at fm
      exact s_retD (evd_tupleOfL (ev_var rfl) hp3 tx) fun v H4 x4 tv => q m v H4 fm (e3.trans x4) (row3.mono x4) tv
end
end K53

-- part K53W15
set_option maxRecDepth 100000
set_option maxHeartbeats 4000000
namespace K53
open PySem PySem.Spec PyProof.Rows L2 Evl
/-- what evaluates to something of a kind -/
def EvC (te : TE) (σ : L2.St) (H : Hp) (C : V → Hp → Prop) : Prop := ∀ H1, Ex H H1 → ∀ Q : VK, (∀ v H2, Ex H1 H2 → C v H2 → Q v H2) → te σ H1 Q
theorem q_asgC {σ : L2.St} {H : Hp} {te : TE} {C : V → Hp → Prop} {D : Ends} {tz : TS} {i : Nat} (h : EvC te σ H C) (k : ∀ v H1, Ex H H1 → C v H1 → tz D (σ.set i (some v)) H1) : tSeq (tAsg te (gName i)) tz D σ H := h H (Ex.refl H) _ fun v H1 x c => k v H1 x c
theorem evc_if {σ : L2.St} {H : Hp} {t : TT} {ta tb : TE} {C : V → Hp → Prop} {b : Bool} (h : EvT t σ H b) (h1 : b = true → EvC ta σ H C) (h2 : b = false → EvC tb σ H C) : EvC (tIf t ta tb) σ H C := fun H1 x Q q => h H1 x _ fun H2 x2 => by
  cases b with
  | true => exact h1 rfl H2 (x.trans x2) Q fun v H3 x3 c => q v H3 (x2.trans x3) c
  | false => exact h2 rfl H2 (x.trans x2) Q fun v H3 x3 c => q v H3 (x2.trans x3) c
section
variable {mg : Str → Option Value} {P : Program} {K : PySem.W.Frag} {w : World} {base : Heap}
theorem evm_swsC {σ : L2.St} {H : Hp} {i j k : Nat} {v : V} {l : Ink} {h w : Nat} (hi : σ[i]? = some (some v)) (hj : σ[j]? = some (some (.int (h : Int)))) (hk : σ[k]? = some (some (.int (w : Int)))) (tl : Tp H v (eInk l)) (fl : InF h w l) (h1 : 1 ≤ h) (h2 : h ≤ 12) (w1 : 1 ≤ w) (w2 : w ≤ 12) :
    EvM (tCall spSws [] E0 (tCons (tVar i) (tCons (tVar j) (tCons (tVar k) tNil)))) σ H ((swsM l h w).map eSw) :=
  evm_call (ead_cons (evd_var hi tl) (ead_cons (evd_int (ev_var hj)) (ead_cons (evd_int (ev_var hk)) ead_nil))) fun us H1 x1 tus Q E q1 => by
    cases tus with | cons c1 tus => cases tus with | cons c2 tus => cases tus with | cons c3 tus =>
    cases tus; cases c2; cases c3
    exact ⟨_, l, h, w, rfl, c1, fl, h1, h2, w1, w2, q1⟩
theorem evd_sumsC {σ : L2.St} {H : Hp} {i j k : Nat} {v : V} {l : Ink} {h w : Nat} (hi : σ[i]? = some (some v)) (hj : σ[j]? = some (some (.int (h : Int)))) (hk : σ[k]? = some (some (.int (w : Int)))) (tl : Tp H v (eInk l)) (fl : InF h w l) (h1 : 1 ≤ h) (h2 : h ≤ 12) (w1 : 1 ≤ w) (w2 : w ≤ 12) :
    EvD (tCall spSums [] E0 (tCons (tVar i) (tCons (tVar j) (tCons (tVar k) tNil)))) σ H (eSums (sumsM l h w)) :=
  evd_call (ead_cons (evd_var hi tl) (ead_cons (evd_int (ev_var hj)) (ead_cons (evd_int (ev_var hk)) ead_nil))) fun us H1 x1 tus Q E q1 => by
    cases tus with | cons c1 tus => cases tus with | cons c2 tus => cases tus with | cons c3 tus =>
    cases tus; cases c2; cases c3
    exact ⟨_, l, h, w, rfl, c1, fl, h1, h2, w1, w2, q1⟩
/-- the pictures the law may pick from -/
structure Pics (h w : Nat) (one : Ink) (L : List Ink) : Prop where
  mem : ∀ m, m ∈ L → InF h w m ∧ SameS h w one m
  pos : 1 ≤ L.length
  few : L.length ≤ 1000
  sole : h * w < 17 → (L.length = 1 ↔ swsM one h w = [])
theorem no_sws {h w : Nat} {one : Ink} : swsM one h w = [] ↔ ∀ s, ¬ IsSw h w one s := by
  rw [List.eq_nil_iff_forall_not_mem]
  exact ⟨fun h s q => h s (mem_swsM.mpr q), fun h s q => h s (mem_swsM.mp q)⟩
theorem pics_all {h w : Nat} {one : Ink} (f : InF h w one) (h1 : 1 ≤ h) (h5 : h ≤ 5) (w4 : w ≤ 4) (hw : h * w < 17) : Pics h w one ((fn h w one h).mergeSort (PySem.W.dataLe false eInk)) := by
  have perm := List.mergeSort_perm (fn h w one h) (PySem.W.dataLe false eInk)
  have mem : ∀ m, m ∈ (fn h w one h).mergeSort (PySem.W.dataLe false eInk) ↔ InF h w m ∧ SameS h w one m := fun m => by rw [perm.mem_iff]; exact mem_fnd f h1
  obtain ⟨_, few⟩ := fnd_few f h1 h5 w4 hw
  have len := perm.length_eq
  refine ⟨fun m hm => (mem m).mp hm, List.length_pos_of_mem ((mem one).mpr ⟨f, SameS.refl _ _ _⟩), ?_, fun _ => ?_⟩
  · rw [len]; exact Nat.le_trans few (by decide)
  · rw [no_sws]
    exact len_one f (perm.nodup_iff.mpr (fnd_nodup h)) mem
def spLaw (K : PySem.W.Frag) : Sp := fun vs H Q _ => ∃ (a : Addr) (ns : List Int), vs = [.ref a] ∧ SqL K H a (ns.map V.int) ∧ ∀ H', Q (.bl true) H'
abbrev nLaw : List Str := ["_law_script", "_law_row", "_law_high", "_law_wide", "_law_one", "_law_rows", "_law_columns", "_law_some", "_law_other", "_law_here", "_law_switch", "_law_apart"]
theorem sc_law : FnScope nLaw ["_law_script"] (defScope (tp 39)) := ⟨rfl, rfl, rfl, by decide +kernel, rfl, by decide +kernel, by decide +kernel⟩
theorem ok_law (T : Txt K mg) {f : Addr} {fd : FuncData} (F : Fun K "law" "law" (tp 39) f fd) : FnOk P w K mg base CX0 7 f fd ["_law_script"] (spLaw K) := by
  refine F.ok sc_law (fun vs H Q E h => ?_) (fun cdv A outer s H vs Q E hr h => ?_)
  · obtain ⟨a, ns, rfl, _⟩ := h; rfl
  · obtain ⟨a, ns, rfl, hS, q⟩ := h
    refine ⟨_, pss_cons (ps_set (i := 1) sc_law.nd rfl (.inl rfl) (pe_lst (pa_cons (pv 0) (pa_cons pe_int (pa_cons pe_int (pa_cons pe_int pa_nil))))))
      (pss_cons (ps_par (i := 2) (j := 3) (by rfl) sc_law.nd rfl rfl (by decide) rfl rfl (pa_cons (pe_op op_add pe_int (pe_cl (ok_taken T) hr (pa_cons (pv 1) (pa_cons pe_int pa_nil)))) (pa_cons (pe_op op_add pe_int (pe_cl (ok_taken T) hr (pa_cons (pv 1) (pa_cons pe_int pa_nil)))) pa_nil)) (by rfl))
      (pss_cons (ps_set (i := 4) sc_law.nd rfl (.inl rfl) (pe_cl (ok_framed T) hr (pa_cons (pv 1) (pa_cons (pv 2) (pa_cons (pv 3) pa_nil)))))
      (pss_cons (ps_asg (pe_cl (ok_sums T) hr (pa_cons (pv 4) (pa_cons (pv 2) (pa_cons (pv 3) pa_nil)))) (pg_tup rfl (pgs_cons (pg_name (i := 5) sc_law.nd rfl (.inl rfl)) (pgs_cons (pg_name (i := 6) sc_law.nd rfl (.inl rfl)) pgs_nil))))
      (pss_cons (ps_set (i := 7) sc_law.nd rfl (.inl rfl) (pe_ifExp (pt_cmpR op_lt (pe_op op_mul (pv 2) (pv 3)) pe_int (nomark _)) (pe_cl (ok_all T) hr (pa_cons (pv 5) (pa_cons (pv 6) pa_nil))) (pe_lst (pa_cons (pv 4) (pa_cons (pe_cl (ok_pic T) hr (pa_cons (pv 5) (pa_cons (pv 6) pa_nil))) pa_nil)))))
      (pss_cons (ps_set (i := 8) sc_law.nd rfl (.inl rfl) (pe_cl (ok_pick T) hr (pa_cons (pv 1) (pa_cons (pv 7) pa_nil))))
      (pss_cons (ps_set (i := 9) sc_law.nd rfl (.inl rfl) (pv 4))
      (pss_cons (ps_for PassesOwn.never rfl (pi_tup (pe_cl (ok_road T) hr (pa_cons (pv 4) (pa_cons (pv 8) (pa_cons (pv 2) (pa_cons (pv 3) pa_nil)))))) (pg_name (i := 10) sc_law.nd rfl (.inl rfl))
        (pss_cons (ps_if (pt_cmpR (op_notInD (hu65 hr)) (pv 10) (pe_cl (ok_sws T) hr (pa_cons (pv 9) (pa_cons (pv 2) (pa_cons (pv 3) pa_nil)))) (by rfl)) (pss_one (ps_ret pe_bl)) pss_nil)
        (pss_one (ps_set (i := 9) sc_law.nd rfl (.inl rfl) (pe_cl (ok_swd T) hr (pa_cons (pv 9) (pa_cons (pv 2) (pa_cons (pv 3) (pa_cons (pv 10) pa_nil)))))))))
      (pss_cons (ps_if (pt_cmpR (op_neD hr.units) (pv 9) (pv 8) (by rfl)) (pss_one (ps_ret pe_bl)) pss_nil)
      (pss_cons (ps_if (PW.pt (pw_and (pt_cmpR op_lt (pe_op op_mul (pv 2) (pv 3)) pe_int (nomark _)) (pw_and1 (pt_cmpR op_ne (pe_cmpR op_eq (pe_callB call_len_seq (by rfl) T.b_len PySem.boot_len (pa_cons (pv 7) pa_nil)) pe_int (nomark _)) (pe_cmpR (op_eqD hr.units) (pe_cl (ok_sws T) hr (pa_cons (pv 4) (pa_cons (pv 2) (pa_cons (pv 3) pa_nil)))) (pe_lst pa_nil) (by rfl)) (by rfl))))) (pss_one (ps_ret pe_bl)) pss_nil)
      (pss_cons (ps_set (i := 11) sc_law.nd rfl (.inl rfl) (pe_cl (ok_framed T) hr (pa_cons (pv 1) (pa_cons (pv 2) (pa_cons (pv 3) pa_nil)))))
      (pss_one (ps_ret (pe_cmpR op_eq (pe_cmp (pc_isN (pe_cl (ok_road T) hr (pa_cons (pv 4) (pa_cons (pv 11) (pa_cons (pv 2) (pa_cons (pv 3) pa_nil)))))) (by rfl)) (pe_cmpR (op_neD hr.units) (pe_cl (ok_sums T) hr (pa_cons (pv 11) (pa_cons (pv 2) (pa_cons (pv 3) pa_nil)))) (pe_tup (pa_cons (pv 5) (pa_cons (pv 6) pa_nil))) (by rfl)) (by rfl)))))))))))))), ?_⟩
    -- row
    refine ⟨_, rfl, by show 4 ≤ sizeLine; decide, fun p hp => ?_⟩
    have y1 := Ex.new (o := .lst [.ref a, .int 0, .int 3753, .int 0]) hp
    have row1 : Rw K a ns (upd H p (.lst [.ref a, .int 0, .int 3753, .int 0])) p := ⟨0, 3753, 0, upd_same, ex_l y1 hS, fun H' o z => sql_new hS hp z⟩
    revert row1
    generalize upd H p (.lst [.ref a, .int 0, .int 3753, .int 0]) = H1
    intro row1
    -- high, wide
    refine ⟨_, rfl, p, 5, a, ns, rfl, by decide, by decide, row1, fun r1 H2 hr1 x2 row2 => ⟨_, _, rfl, rfl, _, rfl, p, 4, a, ns, rfl, by decide, by decide, row2, fun r2 H3 hr2 x3 row3 => ⟨_, _, rfl, rfl, _, _, rfl, ?_⟩⟩⟩
    obtain ⟨h, eh, h1, h5⟩ : ∃ h : Nat, (1 : Int) + (r1 : Int) = (h : Int) ∧ 1 ≤ h ∧ h ≤ 5 := ⟨r1 + 1, by omega, by omega, by omega⟩
    obtain ⟨w, ew, w1, w4⟩ : ∃ w : Nat, (1 : Int) + (r2 : Int) = (w : Int) ∧ 1 ≤ w ∧ w ≤ 4 := ⟨r2 + 1, by omega, by omega, by omega⟩
    dsimp only
    rw [eh, ew]
    have h12 : h ≤ 12 := by omega
    have w12 : w ≤ 12 := by omega
    -- one
    refine ⟨_, rfl, _, rfl, _, rfl, p, h, w, a, ns, rfl, h12, w12, row3, fun one v1 H4 f1 x4 row4 t1 => ?_⟩
    have hz : one.length ≤ 144 := Nat.le_trans (inF_len f1) (Nat.mul_le_mul h12 w12)
    -- rows, columns
    refine ⟨_, rfl, _, rfl, _, rfl, v1, one, h, w, rfl, t1, f1, h1, h12, w1, w12, fun sv H5 x5 ts => ?_⟩
    obtain ⟨b, bs, rfl, hb, hbs⟩ := tp_tup ts
    cases hbs with | cons trv hbs => cases hbs with | cons tcv hbs =>
    cases hbs
    rename_i rv cv
    refine ⟨b, _, rfl, .of hb, rfl, _, _, rfl, _, _, rfl, rfl, ?_⟩
    have row5 := row4.mono x5
    have t15 := t1.mono (.of x5)
    -- some
    have hsome : EvC (tIf (tTest (tOp (rI0 fun i j => .bl (decide (i < j))) (tOp (rI CMul fun i j => .int (i * j)) (tVar 2) (tVar 3)) (tC (.int 17)))) (tCall spAll [] E0 (tCons (tVar 5) (tCons (tVar 6) tNil))) (tLst (tCons (tVar 4) (tCons (tCall spPic [] E0 (tCons (tVar 5) (tCons (tVar 6) tNil))) tNil))))
        [some (.ref a), some (.ref p), some (.int (h : Int)), some (.int (w : Int)), some v1, some rv, some cv, none, none, none, none, none] H5
        (fun v H' => ∃ sp xs L, v = .ref sp ∧ H5 sp = none ∧ H' sp = some (.lst xs) ∧ TpA H' xs (L.map eInk) ∧ Pics h w one L) := by
      refine evc_if (b := decide (h * w < 17)) (et_is (et_test (ev_op (x := .int ((h : Int) * w)) (y := .int 17) (ev_op (x := .int (h : Int)) (y := .int (w : Int)) (ev_var rfl) (ev_var rfl) (rv_I (.inl ⟨by omega, by omega⟩))) ev_c rv_I0)) (decide_eq_decide.mpr (by
        have : (h : Int) * w = ((h * w : Nat) : Int) := by rw [Int.natCast_mul]
        rw [this]; omega))) (fun hb H6 x6 Q q6 => ?_) (fun hb H6 x6 Q q6 => ?_)
      · have hw := of_decide_eq_true hb
        refine ⟨_, rfl, _, rfl, rv, cv, one, h, w, rfl, trv.mono (.of x6), tcv.mono (.of x6), f1, h1, h5, w1, w4, hw, fun sp xs H7 hsp x7 hl hx => ?_⟩
        exact q6 _ H7 x7 ⟨sp, xs, _, rfl, fresh_back x6 hsp, hl, hx, pics_all f1 h1 h5 w4 hw⟩
      · have hw := of_decide_eq_false hb
        refine ⟨_, rfl, _, rfl, _, rfl, rv, cv, one, h, w, rfl, trv.mono (.of x6), tcv.mono (.of x6), f1, h1, h12, w1, w12, fun m mv H7 fm sm x7 tm => ⟨by show 2 ≤ sizeLine; decide, fun sp hsp => ?_⟩⟩
        have xn := Ex.new (o := .lst [v1, mv]) hsp
        exact q6 _ _ (x7.trans xn) ⟨sp, _, [one, m], rfl, fresh_back (x6.trans x7) hsp, upd_same, .cons (t15.mono (.of ((x6.trans x7).trans xn))) (.cons (tm.mono (.of xn)) .nil), ⟨fun z hz => by
          rcases List.mem_cons.mp hz with rfl | hz
          · exact ⟨f1, SameS.refl _ _ _⟩
          · rw [List.mem_singleton] at hz; subst hz; exact ⟨fm, sm⟩, by simp, by simp, fun z => absurd z hw⟩⟩
    refine q_asgC hsome fun v H6 x6 hv => ?_
    obtain ⟨sp, xs, L, rfl, hsp0, hsp, hxs, pics⟩ := hv
    have row6 := row5.mono x6
    have spp : sp ≠ p := by rintro rfl; obtain ⟨zs, e⟩ := row5.lst; rw [e] at hsp0; cases hsp0
    have lenL : xs.length = L.length := by rw [hxs.length, List.length_map]
    -- other
    refine ⟨_, rfl, _, rfl, p, sp, xs, a, ns, rfl, hsp, by rw [lenL]; exact pics.pos, by rw [lenL]; exact pics.few, spp, row6, fun ov H7 hov x7 row7 => ?_⟩
    obtain ⟨oi, hoi⟩ := List.getElem?_of_mem hov
    obtain ⟨m, hm, tov⟩ := hxs.mapGet hoi
    obtain ⟨fm, sm⟩ := pics.mem m (List.mem_of_getElem? hm)
    have tk7 := row6.tk x7
    have hsp7 := er_at x7 spp hsp
    have t17 := (t15.mono (.of x6)).mono tk7
    have trv7 := (trv.mono (.of x6)).mono tk7
    have tcv7 := (tcv.mono (.of x6)).mono tk7
    have tov7 := tov.mono tk7
    -- here
    refine q_asg (v := v1) (ev_var rfl) fun H8 x8 => ?_
    have same : sumsM one h w = sumsM m h w := (sameS_iff f1 fm).mpr sm
    refine ⟨_, rfl, _, rfl, _, rfl, _, rfl, v1, ov, one, m, h, w, rfl, t17.mono (.of x8), tov7.mono (.of x8), f1, fm, h1, h12, w1, w12, fun ne => absurd same ne, fun _ t rdv H9 path x9 trd => ?_⟩
    obtain ⟨c, ws, rfl, hc, hws⟩ := tp_tup trd
    have lenT : ws.length = t.length := by rw [hws.length, List.length_map]
    have x89 := x8.trans x9
    refine ⟨c, rfl, ⟨ws, .of hc⟩, for_tup (xs := ws) (fun i σ H' => Ex H9 H' ∧ ∃ hv cur, Tp H' hv (eInk cur) ∧ InF h w cur ∧ Path h w cur m (t.drop i) ∧ ∃ o10, σ = [some (.ref a), some (.ref p), some (.int (h : Int)), some (.int (w : Int)), some v1, some rv, some cv, some (.ref sp), some ov, some hv, o10, none])
      ⟨Ex.refl H9, v1, one, t17.mono (.of x89), f1, path, _, rfl⟩ (fun i σ H' _ z => .of (z.1 c _ hc)) ?_ ?_⟩
    · rintro i x σ H10 hi ⟨e10, hv, cur, thv, fc, pth, o10, rfl⟩
      obtain ⟨sw, hsw, tsw⟩ := (hws.mono (.of e10)).mapGet hi
      have dr : t.drop i = sw :: t.drop (i + 1) := by
        have hlt := (List.getElem?_eq_some_iff.mp hsw).1
        rw [List.drop_eq_getElem_cons hlt, (List.getElem?_eq_some_iff.mp hsw).2]
      rw [dr] at pth
      cases pth with | cons is rest =>
      refine q_when (b := false) ?_ (fun z => by cases z) fun _ H11 x11 => ?_
      · refine et_is (a := !true) (et_test ?_) rfl
        refine ev_niM (evd_var rfl tsw) (evm_swsC rfl rfl rfl thv fc h1 h12 w1 w12) (eSw_pure _) (pureA_map eSw_pure _) (by rw [eSw_depth]; decide) (depthLst (fun a => by rw [eSw_depth]; decide) _) ?_
        exact ⟨fun _ => (mem_map_inj fun a b => eSw_inj).mpr (mem_swsM.mpr is), fun _ => rfl⟩
      · refine ⟨_, rfl, _, rfl, _, rfl, _, rfl, hv, x, cur, h, w, sw, rfl, thv.mono (.of x11), tsw.mono (.of x11), fc, h1, h12, w1, w12, is, fun nv H12 x12 tnv => ?_⟩
        exact ⟨(e10.trans x11).trans x12, nv, swM cur sw, tnv, swM_inF fc is, rest, _, rfl⟩
    · rintro σ H10 ⟨e10, hv, cur, thv, fc, pth, o10, rfl⟩
      rw [lenT, List.drop_length] at pth
      cases pth
      have e7 := x89.trans e10
      -- here != other
      refine q_when (b := false) (et_is (et_test (ev_neD (evd_var rfl thv) (evd_var rfl (tov7.mono (.of e7))) (shaped_of (pure_flat (eInk_pure _)) (Nat.le_trans (eInk_depth _) (by decide))) (shaped_of (pure_flat (eInk_pure _)) (Nat.le_trans (eInk_depth _) (by decide))))) (by
        rw [eqv_dec (p := True) (eInk_pure _) (eInk_pure _) ⟨fun _ => trivial, fun _ => rfl⟩]; rfl)) (fun z => by cases z) fun _ H11 x11 => ?_
      have e11 := e7.trans x11
      have t1b := t17.mono (.of e11)
      -- one picture alone
      refine q_when (b := false) ?_ (fun z => by cases z) fun _ H12 x12 => ?_
      · refine et_is (et_and (a := decide (h * w < 17)) (b := !decide (V.bl (decide ((xs.length : Int) = 1)) = V.bl (decide ((swsM one h w).map eSw = [])))) (et_is (et_test (ev_op (x := .int ((h : Int) * w)) (y := .int 17) (ev_op (x := .int (h : Int)) (y := .int (w : Int)) (ev_var rfl) (ev_var rfl) (rv_I (.inl ⟨by omega, by omega⟩))) ev_c rv_I0)) (decide_eq_decide.mpr (by
            have : (h : Int) * w = ((h * w : Nat) : Int) := by rw [Int.natCast_mul]
            rw [this]; omega))) fun _ => et_test (ev_op (x := .bl (decide ((xs.length : Int) = 1))) (y := .bl (decide ((swsM one h w).map eSw = []))) (ev_is (ev_op (x := .int (xs.length : Int)) (y := .int 1) (ev_len (ev_var rfl) (.of (e11 sp _ hsp7))) ev_c (rv_eq rfl)) (congrArg V.bl (decide_eq_decide.mpr ⟨fun z => by injection z, fun z => by rw [z]⟩))) (ev_eqN (evm_swsC rfl rfl rfl t1b f1 h1 h12 w1 w12) (pureA_map eSw_pure _) (depthLst (fun a => by rw [eSw_depth]; decide) _)) (rv_ne rfl))) ?_
        by_cases hw : h * w < 17
        · have := pics.sole hw
          have e : decide ((xs.length : Int) = 1) = decide ((swsM one h w).map eSw = []) := decide_eq_decide.mpr (by
            rw [List.map_eq_nil_iff, ← this, lenL]; omega)
          rw [e]; simp
        · simp [hw]
      · -- apart
        have e12 := e11.trans x12
        have row12 := row7.mono e12
        refine ⟨_, rfl, _, rfl, _, rfl, p, h, w, a, ns, rfl, h12, w12, row12, fun ap v2 H13 f2 x13 row13 t2 => ?_⟩
        have tk13 := row12.tk x13
        have t113 := (t17.mono (.of e12)).mono tk13
        have trv13 := (trv7.mono (.of e12)).mono tk13
        have tcv13 := (tcv7.mono (.of e12)).mono tk13
        have r1 : Ev (tIsN (tCall spRoad [] E0 (tCons (tVar 4) (tCons (tVar 11) (tCons (tVar 2) (tCons (tVar 3) tNil)))))) [some (.ref a), some (.ref p), some (.int (h : Int)), some (.int (w : Int)), some v1, some rv, some cv, some (.ref sp), some ov, some hv, o10, some v2] H13 (.bl (decide (sumsM one h w ≠ sumsM ap h w))) := fun H14 x14 Q q14 => by
          refine ⟨_, rfl, _, rfl, _, rfl, _, rfl, v1, v2, one, ap, h, w, rfl, t113.mono (.of x14), t2.mono (.of x14), f1, f2, h1, h12, w1, w12, fun ne H15 x15 => ?_, fun eq t v H15 _ x15 tv => ?_⟩
          · rw [decide_eq_true ne] at q14
            exact q14 H15 x15
          · rw [decide_eq_false (fun z => z eq)] at q14
            obtain ⟨c, ws, rfl, _⟩ := tp_tup tv
            exact q14 H15 x15
        have r2 : Ev (tOp (rNeD K) (tCall spSums [] E0 (tCons (tVar 11) (tCons (tVar 2) (tCons (tVar 3) tNil)))) (tTup (tCons (tVar 5) (tCons (tVar 6) tNil)))) [some (.ref a), some (.ref p), some (.int (h : Int)), some (.int (w : Int)), some v1, some rv, some cv, some (.ref sp), some ov, some hv, o10, some v2] H13 (.bl (!decide (sumsM ap h w = sumsM one h w))) := by
          have k := ev_neD (K := K) (σ := [some (.ref a), some (.ref p), some (.int (h : Int)), some (.int (w : Int)), some v1, some rv, some cv, some (.ref sp), some ov, some hv, o10, some v2]) (evd_sumsC (i := 11) (j := 2) (k := 3) rfl rfl rfl t2 f2 h1 h12 w1 w12) (evd_tup (ead_cons (evd_var (i := 5) rfl trv13) (ead_cons (evd_var (i := 6) rfl tcv13) ead_nil)) (by show 2 ≤ 100000; decide)) (shaped_of (pure_flat (eSums_pure _)) (Nat.le_trans (eSums_depth _) (by decide))) (shaped_of (pure_flat (eSums_pure (sumsM one h w))) (Nat.le_trans (eSums_depth (sumsM one h w)) (by decide)))
          have e : PyData.eqv (eSums (sumsM ap h w)) (eSums (sumsM one h w)) = decide (sumsM ap h w = sumsM one h w) := eqv_dec (eSums_pure _) (eSums_pure _) ⟨fun z => eSums_inj z, fun z => by rw [z]⟩
          have e2 : PyData.eqv (eSums (sumsM ap h w)) (.tuple [eNs (sumsM one h w).1, eNs (sumsM one h w).2]) = decide (sumsM ap h w = sumsM one h w) := e
          rw [← e2]
          exact k
        refine s_ret (v := .bl true) (ev_is (ev_op r1 r2 (rv_eq rfl)) ?_) fun H14 x14 => q H14
        congr 1
        by_cases z : sumsM one h w = sumsM ap h w
        · simp [z]
        · have z2 : ¬ sumsM ap h w = sumsM one h w := fun y => z y.symm
          simp [z, z2]
end
end K53

-- part K53End
set_option maxRecDepth 100000
set_option maxHeartbeats 4000000
namespace K53
open PySem PySem.Spec PyProof.Rows L2 Evl
theorem at_mk {K : PySem.W.Frag} {mg : Str → Option Value} {h : Heap} {x : Str} {st : Stmt} {f : Addr} {oc : Value} {od an : Option Addr} {osl : Array (Option Value)} {kV doc pm cdv ct : Value} (X : K.In h) (G : h.Ns mainGlobals mg)
    (a : PySem.W.nsIn K mainGlobals x = some (some (.ref f))) (l : K.lookup f = some ⟨oc, od, .func (PySem.W.fnOf x x (defArgs st) (defBody st) (defScope st) .none kV doc pm an cdv ct), osl⟩) (c : PySem.W.codeIn K cdv x = true) (k : PySem.W.keepIn K (.ref f) = true) : FnAt K mg x st :=
  ⟨f, _, PySem.W.mg_of X G a, fun_mk l c k⟩
theorem co_mk {K : PySem.W.Frag} {mg : Str → Option Value} {h : Heap} {x : Str} {u : Value} {i : Int} (X : K.In h) (G : h.Ns mainGlobals mg) (a : PySem.W.nsIn K mainGlobals x = some (some u)) (r : RelV (.int i) u) : ∃ u, mg x = some u ∧ RelV (.int i) u := ⟨u, PySem.W.mg_of X G a, r⟩
theorem all_mk {l : PySem.W.OpenLaw} {w : World} {K : PySem.W.Frag} {h : Heap} {mg : Str → Option Value} {fa : Addr} (X : K.In h) (G : h.Ns mainGlobals mg) (hfa : mg "law" = some (.ref fa))
    {f0 : Addr} {od0 an0 : Option Addr} {sl0 : Array (Option Value)} {oc0 kV0 dc0 pm0 cd0 ct0 : Value}
    (a0 : PySem.W.nsIn K mainGlobals "is_integer" = some (some (.ref f0))) (l0 : K.lookup f0 = some ⟨oc0, od0, .func (PySem.W.fnOf "is_integer" "is_integer" (defArgs (tp 1)) (defBody (tp 1)) (defScope (tp 1)) .none kV0 dc0 pm0 an0 cd0 ct0), sl0⟩) (c0 : PySem.W.codeIn K cd0 "is_integer" = true) (k0 : PySem.W.keepIn K (.ref f0) = true)
    {f1 : Addr} {od1 an1 : Option Addr} {sl1 : Array (Option Value)} {oc1 kV1 dc1 pm1 cd1 ct1 : Value}
    (a1 : PySem.W.nsIn K mainGlobals "is_in" = some (some (.ref f1))) (l1 : K.lookup f1 = some ⟨oc1, od1, .func (PySem.W.fnOf "is_in" "is_in" (defArgs (tp 2)) (defBody (tp 2)) (defScope (tp 2)) .none kV1 dc1 pm1 an1 cd1 ct1), sl1⟩) (c1 : PySem.W.codeIn K cd1 "is_in" = true) (k1 : PySem.W.keepIn K (.ref f1) = true)
    {f2 : Addr} {od2 an2 : Option Addr} {sl2 : Array (Option Value)} {oc2 kV2 dc2 pm2 cd2 ct2 : Value}
    (a2 : PySem.W.nsIn K mainGlobals "is_list" = some (some (.ref f2))) (l2 : K.lookup f2 = some ⟨oc2, od2, .func (PySem.W.fnOf "is_list" "is_list" (defArgs (tp 3)) (defBody (tp 3)) (defScope (tp 3)) .none kV2 dc2 pm2 an2 cd2 ct2), sl2⟩) (c2 : PySem.W.codeIn K cd2 "is_list" = true) (k2 : PySem.W.keepIn K (.ref f2) = true)
    {f3 : Addr} {od3 an3 : Option Addr} {sl3 : Array (Option Value)} {oc3 kV3 dc3 pm3 cd3 ct3 : Value}
    (a3 : PySem.W.nsIn K mainGlobals "is_cell" = some (some (.ref f3))) (l3 : K.lookup f3 = some ⟨oc3, od3, .func (PySem.W.fnOf "is_cell" "is_cell" (defArgs (tp 13)) (defBody (tp 13)) (defScope (tp 13)) .none kV3 dc3 pm3 an3 cd3 ct3), sl3⟩) (c3 : PySem.W.codeIn K cd3 "is_cell" = true) (k3 : PySem.W.keepIn K (.ref f3) = true)
    {f4 : Addr} {od4 an4 : Option Addr} {sl4 : Array (Option Value)} {oc4 kV4 dc4 pm4 cd4 ct4 : Value}
    (a4 : PySem.W.nsIn K mainGlobals "need_ink" = some (some (.ref f4))) (l4 : K.lookup f4 = some ⟨oc4, od4, .func (PySem.W.fnOf "need_ink" "need_ink" (defArgs (tp 14)) (defBody (tp 14)) (defScope (tp 14)) .none kV4 dc4 pm4 an4 cd4 ct4), sl4⟩) (c4 : PySem.W.codeIn K cd4 "need_ink" = true) (k4 : PySem.W.keepIn K (.ref f4) = true)
    {f5 : Addr} {od5 an5 : Option Addr} {sl5 : Array (Option Value)} {oc5 kV5 dc5 pm5 cd5 ct5 : Value}
    (a5 : PySem.W.nsIn K mainGlobals "need_sums" = some (some (.ref f5))) (l5 : K.lookup f5 = some ⟨oc5, od5, .func (PySem.W.fnOf "need_sums" "need_sums" (defArgs (tp 18)) (defBody (tp 18)) (defScope (tp 18)) .none kV5 dc5 pm5 an5 cd5 ct5), sl5⟩) (c5 : PySem.W.codeIn K cd5 "need_sums" = true) (k5 : PySem.W.keepIn K (.ref f5) = true)
    {f6 : Addr} {od6 an6 : Option Addr} {sl6 : Array (Option Value)} {oc6 kV6 dc6 pm6 cd6 ct6 : Value}
    (a6 : PySem.W.nsIn K mainGlobals "need_both" = some (some (.ref f6))) (l6 : K.lookup f6 = some ⟨oc6, od6, .func (PySem.W.fnOf "need_both" "need_both" (defArgs (tp 19)) (defBody (tp 19)) (defScope (tp 19)) .none kV6 dc6 pm6 an6 cd6 ct6), sl6⟩) (c6 : PySem.W.codeIn K cd6 "need_both" = true) (k6 : PySem.W.keepIn K (.ref f6) = true)
    {f7 : Addr} {od7 an7 : Option Addr} {sl7 : Array (Option Value)} {oc7 kV7 dc7 pm7 cd7 ct7 : Value}
    (a7 : PySem.W.nsIn K mainGlobals "need_frame" = some (some (.ref f7))) (l7 : K.lookup f7 = some ⟨oc7, od7, .func (PySem.W.fnOf "need_frame" "need_frame" (defArgs (tp 20)) (defBody (tp 20)) (defScope (tp 20)) .none kV7 dc7 pm7 an7 cd7 ct7), sl7⟩) (c7 : PySem.W.codeIn K cd7 "need_frame" = true) (k7 : PySem.W.keepIn K (.ref f7) = true)
    {f8 : Addr} {od8 an8 : Option Addr} {sl8 : Array (Option Value)} {oc8 kV8 dc8 pm8 cd8 ct8 : Value}
    (a8 : PySem.W.nsIn K mainGlobals "sums_in" = some (some (.ref f8))) (l8 : K.lookup f8 = some ⟨oc8, od8, .func (PySem.W.fnOf "sums_in" "sums_in" (defArgs (tp 21)) (defBody (tp 21)) (defScope (tp 21)) .none kV8 dc8 pm8 an8 cd8 ct8), sl8⟩) (c8 : PySem.W.codeIn K cd8 "sums_in" = true) (k8 : PySem.W.keepIn K (.ref f8) = true)
    {f9 : Addr} {od9 an9 : Option Addr} {sl9 : Array (Option Value)} {oc9 kV9 dc9 pm9 cd9 ct9 : Value}
    (a9 : PySem.W.nsIn K mainGlobals "sums" = some (some (.ref f9))) (l9 : K.lookup f9 = some ⟨oc9, od9, .func (PySem.W.fnOf "sums" "sums" (defArgs (tp 22)) (defBody (tp 22)) (defScope (tp 22)) .none kV9 dc9 pm9 an9 cd9 ct9), sl9⟩) (c9 : PySem.W.codeIn K cd9 "sums" = true) (k9 : PySem.W.keepIn K (.ref f9) = true)
    {f10 : Addr} {od10 an10 : Option Addr} {sl10 : Array (Option Value)} {oc10 kV10 dc10 pm10 cd10 ct10 : Value}
    (a10 : PySem.W.nsIn K mainGlobals "first_lack" = some (some (.ref f10))) (l10 : K.lookup f10 = some ⟨oc10, od10, .func (PySem.W.fnOf "first_lack" "first_lack" (defArgs (tp 23)) (defBody (tp 23)) (defScope (tp 23)) .none kV10 dc10 pm10 an10 cd10 ct10), sl10⟩) (c10 : PySem.W.codeIn K cd10 "first_lack" = true) (k10 : PySem.W.keepIn K (.ref f10) = true)
    {f11 : Addr} {od11 an11 : Option Addr} {sl11 : Array (Option Value)} {oc11 kV11 dc11 pm11 cd11 ct11 : Value}
    (a11 : PySem.W.nsIn K mainGlobals "picture_of" = some (some (.ref f11))) (l11 : K.lookup f11 = some ⟨oc11, od11, .func (PySem.W.fnOf "picture_of" "picture_of" (defArgs (tp 24)) (defBody (tp 24)) (defScope (tp 24)) .none kV11 dc11 pm11 an11 cd11 ct11), sl11⟩) (c11 : PySem.W.codeIn K cd11 "picture_of" = true) (k11 : PySem.W.keepIn K (.ref f11) = true)
    {f12 : Addr} {od12 an12 : Option Addr} {sl12 : Array (Option Value)} {oc12 kV12 dc12 pm12 cd12 ct12 : Value}
    (a12 : PySem.W.nsIn K mainGlobals "switches" = some (some (.ref f12))) (l12 : K.lookup f12 = some ⟨oc12, od12, .func (PySem.W.fnOf "switches" "switches" (defArgs (tp 25)) (defBody (tp 25)) (defScope (tp 25)) .none kV12 dc12 pm12 an12 cd12 ct12), sl12⟩) (c12 : PySem.W.codeIn K cd12 "switches" = true) (k12 : PySem.W.keepIn K (.ref f12) = true)
    {f13 : Addr} {od13 an13 : Option Addr} {sl13 : Array (Option Value)} {oc13 kV13 dc13 pm13 cd13 ct13 : Value}
    (a13 : PySem.W.nsIn K mainGlobals "switches_in" = some (some (.ref f13))) (l13 : K.lookup f13 = some ⟨oc13, od13, .func (PySem.W.fnOf "switches_in" "switches_in" (defArgs (tp 26)) (defBody (tp 26)) (defScope (tp 26)) .none kV13 dc13 pm13 an13 cd13 ct13), sl13⟩) (c13 : PySem.W.codeIn K cd13 "switches_in" = true) (k13 : PySem.W.keepIn K (.ref f13) = true)
    {f14 : Addr} {od14 an14 : Option Addr} {sl14 : Array (Option Value)} {oc14 kV14 dc14 pm14 cd14 ct14 : Value}
    (a14 : PySem.W.nsIn K mainGlobals "corners" = some (some (.ref f14))) (l14 : K.lookup f14 = some ⟨oc14, od14, .func (PySem.W.fnOf "corners" "corners" (defArgs (tp 27)) (defBody (tp 27)) (defScope (tp 27)) .none kV14 dc14 pm14 an14 cd14 ct14), sl14⟩) (c14 : PySem.W.codeIn K cd14 "corners" = true) (k14 : PySem.W.keepIn K (.ref f14) = true)
    {f15 : Addr} {od15 an15 : Option Addr} {sl15 : Array (Option Value)} {oc15 kV15 dc15 pm15 cd15 ct15 : Value}
    (a15 : PySem.W.nsIn K mainGlobals "switched_in" = some (some (.ref f15))) (l15 : K.lookup f15 = some ⟨oc15, od15, .func (PySem.W.fnOf "switched_in" "switched_in" (defArgs (tp 28)) (defBody (tp 28)) (defScope (tp 28)) .none kV15 dc15 pm15 an15 cd15 ct15), sl15⟩) (c15 : PySem.W.codeIn K cd15 "switched_in" = true) (k15 : PySem.W.keepIn K (.ref f15) = true)
    {f16 : Addr} {od16 an16 : Option Addr} {sl16 : Array (Option Value)} {oc16 kV16 dc16 pm16 cd16 ct16 : Value}
    (a16 : PySem.W.nsIn K mainGlobals "switched" = some (some (.ref f16))) (l16 : K.lookup f16 = some ⟨oc16, od16, .func (PySem.W.fnOf "switched" "switched" (defArgs (tp 29)) (defBody (tp 29)) (defScope (tp 29)) .none kV16 dc16 pm16 an16 cd16 ct16), sl16⟩) (c16 : PySem.W.codeIn K cd16 "switched" = true) (k16 : PySem.W.keepIn K (.ref f16) = true)
    {f17 : Addr} {od17 an17 : Option Addr} {sl17 : Array (Option Value)} {oc17 kV17 dc17 pm17 cd17 ct17 : Value}
    (a17 : PySem.W.nsIn K mainGlobals "all_pictures" = some (some (.ref f17))) (l17 : K.lookup f17 = some ⟨oc17, od17, .func (PySem.W.fnOf "all_pictures" "all_pictures" (defArgs (tp 30)) (defBody (tp 30)) (defScope (tp 30)) .none kV17 dc17 pm17 an17 cd17 ct17), sl17⟩) (c17 : PySem.W.codeIn K cd17 "all_pictures" = true) (k17 : PySem.W.keepIn K (.ref f17) = true)
    {f18 : Addr} {od18 an18 : Option Addr} {sl18 : Array (Option Value)} {oc18 kV18 dc18 pm18 cd18 ct18 : Value}
    (a18 : PySem.W.nsIn K mainGlobals "choices" = some (some (.ref f18))) (l18 : K.lookup f18 = some ⟨oc18, od18, .func (PySem.W.fnOf "choices" "choices" (defArgs (tp 31)) (defBody (tp 31)) (defScope (tp 31)) .none kV18 dc18 pm18 an18 cd18 ct18), sl18⟩) (c18 : PySem.W.codeIn K cd18 "choices" = true) (k18 : PySem.W.keepIn K (.ref f18) = true)
    {f19 : Addr} {od19 an19 : Option Addr} {sl19 : Array (Option Value)} {oc19 kV19 dc19 pm19 cd19 ct19 : Value}
    (a19 : PySem.W.nsIn K mainGlobals "road" = some (some (.ref f19))) (l19 : K.lookup f19 = some ⟨oc19, od19, .func (PySem.W.fnOf "road" "road" (defArgs (tp 32)) (defBody (tp 32)) (defScope (tp 32)) .none kV19 dc19 pm19 an19 cd19 ct19), sl19⟩) (c19 : PySem.W.codeIn K cd19 "road" = true) (k19 : PySem.W.keepIn K (.ref f19) = true)
    {f20 : Addr} {od20 an20 : Option Addr} {sl20 : Array (Option Value)} {oc20 kV20 dc20 pm20 cd20 ct20 : Value}
    (a20 : PySem.W.nsIn K mainGlobals "only_in" = some (some (.ref f20))) (l20 : K.lookup f20 = some ⟨oc20, od20, .func (PySem.W.fnOf "only_in" "only_in" (defArgs (tp 33)) (defBody (tp 33)) (defScope (tp 33)) .none kV20 dc20 pm20 an20 cd20 ct20), sl20⟩) (c20 : PySem.W.codeIn K cd20 "only_in" = true) (k20 : PySem.W.keepIn K (.ref f20) = true)
    {f21 : Addr} {od21 an21 : Option Addr} {sl21 : Array (Option Value)} {oc21 kV21 dc21 pm21 cd21 ct21 : Value}
    (a21 : PySem.W.nsIn K mainGlobals "rectangle" = some (some (.ref f21))) (l21 : K.lookup f21 = some ⟨oc21, od21, .func (PySem.W.fnOf "rectangle" "rectangle" (defArgs (tp 34)) (defBody (tp 34)) (defScope (tp 34)) .none kV21 dc21 pm21 an21 cd21 ct21), sl21⟩) (c21 : PySem.W.codeIn K cd21 "rectangle" = true) (k21 : PySem.W.keepIn K (.ref f21) = true)
    {f22 : Addr} {od22 an22 : Option Addr} {sl22 : Array (Option Value)} {oc22 kV22 dc22 pm22 cd22 ct22 : Value}
    (a22 : PySem.W.nsIn K mainGlobals "_law_taken" = some (some (.ref f22))) (l22 : K.lookup f22 = some ⟨oc22, od22, .func (PySem.W.fnOf "_law_taken" "_law_taken" (defArgs (tp 36)) (defBody (tp 36)) (defScope (tp 36)) .none kV22 dc22 pm22 an22 cd22 ct22), sl22⟩) (c22 : PySem.W.codeIn K cd22 "_law_taken" = true) (k22 : PySem.W.keepIn K (.ref f22) = true)
    {f23 : Addr} {od23 an23 : Option Addr} {sl23 : Array (Option Value)} {oc23 kV23 dc23 pm23 cd23 ct23 : Value}
    (a23 : PySem.W.nsIn K mainGlobals "_law_pick" = some (some (.ref f23))) (l23 : K.lookup f23 = some ⟨oc23, od23, .func (PySem.W.fnOf "_law_pick" "_law_pick" (defArgs (tp 37)) (defBody (tp 37)) (defScope (tp 37)) .none kV23 dc23 pm23 an23 cd23 ct23), sl23⟩) (c23 : PySem.W.codeIn K cd23 "_law_pick" = true) (k23 : PySem.W.keepIn K (.ref f23) = true)
    {f24 : Addr} {od24 an24 : Option Addr} {sl24 : Array (Option Value)} {oc24 kV24 dc24 pm24 cd24 ct24 : Value}
    (a24 : PySem.W.nsIn K mainGlobals "_law_framed" = some (some (.ref f24))) (l24 : K.lookup f24 = some ⟨oc24, od24, .func (PySem.W.fnOf "_law_framed" "_law_framed" (defArgs (tp 38)) (defBody (tp 38)) (defScope (tp 38)) .none kV24 dc24 pm24 an24 cd24 ct24), sl24⟩) (c24 : PySem.W.codeIn K cd24 "_law_framed" = true) (k24 : PySem.W.keepIn K (.ref f24) = true)
    {fL : Addr} {odL anL : Option Addr} {slL : Array (Option Value)} {ocL kVL dcL pmL cdL ctL : Value}
    (aL : PySem.W.nsIn K mainGlobals "law" = some (some (.ref fL))) (lL : K.lookup fL = some ⟨ocL, odL, .func (PySem.W.fnOf "law" "law" (defArgs (tp 39)) (defBody (tp 39)) (defScope (tp 39)) .none kVL dcL pmL anL cdL ctL), slL⟩) (cL : PySem.W.codeIn K cdL "law" = true) (kL : PySem.W.keepIn K (.ref fL) = true)
    {u0 : Value} (m0 : PySem.W.nsIn K mainGlobals "MOST" = some (some u0)) (r0 : RelV (.int 60) u0)
    {u1 : Value} (m1 : PySem.W.nsIn K mainGlobals "MOST_CELLS" = some (some u1)) (r1 : RelV (.int 400) u1)
    {u2 : Value} (m2 : PySem.W.nsIn K mainGlobals "MOST_SIDE" = some (some u2)) (r2 : RelV (.int 12) u2)
    {u3 : Value} (m3 : PySem.W.nsIn K mainGlobals "MOST_PICTURES" = some (some u3)) (r3 : RelV (.int 500) u3)
    (z0 : PySem.W.nsIn K mainGlobals "isinstance" = some none)
    (z1 : PySem.W.nsIn K mainGlobals "int" = some none)
    (z2 : PySem.W.nsIn K mainGlobals "bool" = some none)
    (z3 : PySem.W.nsIn K mainGlobals "tuple" = some none)
    (z4 : PySem.W.nsIn K mainGlobals "list" = some none)
    (z5 : PySem.W.nsIn K mainGlobals "len" = some none)
    (z6 : PySem.W.nsIn K mainGlobals "enumerate" = some none)
    (z7 : PySem.W.nsIn K mainGlobals "range" = some none)
    (z8 : PySem.W.nsIn K mainGlobals "sum" = some none)
    (z9 : PySem.W.nsIn K mainGlobals "sorted" = some none)
    (z10 : PySem.W.nsIn K mainGlobals "min" = some none)
    (z11 : PySem.W.nsIn K mainGlobals "max" = some none)
    (z12 : PySem.W.nsIn K mainGlobals "all" = some none)
    (z13 : PySem.W.nsIn K mainGlobals "any" = some none)
    (z14 : PySem.W.nsIn K mainGlobals "reversed" = some none)
    : ∃ fd : FuncData, (∀ (s : Shared) (v : Value), BindsTo s fd ⟨[v], []⟩ [("_law_script", v)]) ∧ ∀ base : Heap, K.In base → base.Ns mainGlobals mg → FnOk l.prog w K mg base CX0 7 fa fd ["_law_script"] (spLaw K) := by
  have e := hfa.symm.trans (PySem.W.mg_of X G aL)
  cases e
  have T : Txt K mg := ⟨at_mk X G a0 l0 c0 k0, at_mk X G a1 l1 c1 k1, at_mk X G a2 l2 c2 k2, at_mk X G a3 l3 c3 k3, at_mk X G a4 l4 c4 k4, at_mk X G a5 l5 c5 k5, at_mk X G a6 l6 c6 k6, at_mk X G a7 l7 c7 k7, at_mk X G a8 l8 c8 k8, at_mk X G a9 l9 c9 k9, at_mk X G a10 l10 c10 k10, at_mk X G a11 l11 c11 k11, at_mk X G a12 l12 c12 k12, at_mk X G a13 l13 c13 k13, at_mk X G a14 l14 c14 k14, at_mk X G a15 l15 c15 k15, at_mk X G a16 l16 c16 k16, at_mk X G a17 l17 c17 k17, at_mk X G a18 l18 c18 k18, at_mk X G a19 l19 c19 k19, at_mk X G a20 l20 c20 k20, at_mk X G a21 l21 c21 k21, at_mk X G a22 l22 c22 k22, at_mk X G a23 l23 c23 k23, at_mk X G a24 l24 c24 k24, co_mk X G m0 r0, co_mk X G m1 r1, co_mk X G m2 r2, co_mk X G m3 r3, PySem.W.mg_none_of X G z0, PySem.W.mg_none_of X G z1, PySem.W.mg_none_of X G z2, PySem.W.mg_none_of X G z3, PySem.W.mg_none_of X G z4, PySem.W.mg_none_of X G z5, PySem.W.mg_none_of X G z6, PySem.W.mg_none_of X G z7, PySem.W.mg_none_of X G z8, PySem.W.mg_none_of X G z9, PySem.W.mg_none_of X G z10, PySem.W.mg_none_of X G z11, PySem.W.mg_none_of X G z12, PySem.W.mg_none_of X G z13, PySem.W.mg_none_of X G z14⟩
  exact ⟨PySem.W.fnOf "law" "law" (defArgs (tp 39)) (defBody (tp 39)) (defScope (tp 39)) .none kVL dcL pmL anL cdL ctL, fun s v => .of_eq rfl, fun base _ _ => ok_law T (fun_mk (st := tp 39) lL cL kL)⟩
theorem walk {l : PySem.W.OpenLaw} {q : Program} {loose : List Str} {XP : (Str → Option Value) → Heap → Prop} {YP : World → Heap → Prop} {d : DefRec} {K : Params → PySem.W.Frag} (hn : l.most = some 63) (hdf : d.params.defaults = [])
    (hY : ∀ (w : World) (h : Heap), YP w h → (K w.params).In h)
    (F : ∀ (w : World) (mg : Str → Option Value) (fa : Addr) (h : Heap), (K w.params).In h → h.Ns mainGlobals mg → mg d.name = some (.ref fa) →
      ∃ fd : FuncData, (∀ (s : Shared) (u : Value), BindsTo s fd ⟨[u], []⟩ [("_law_script", u)]) ∧ ∀ base : Heap, (K w.params).In base → base.Ns mainGlobals mg → FnOk l.prog w (K w.params) mg base CX0 7 fa fd ["_law_script"] (spLaw (K w.params))) :
    PySem.W.WalkO q loose XP YP l.row.toRowW d [] (fun f vs => PySem.call f vs) :=
  L2.walk_of (n := 63) (k := 7) (x := "_law_script") (CX := fun _ => CX0) (sp := fun w => spLaw (K w.params)) hn (by decide) hdf ⟨rfl, by decide, by decide⟩ hY F (fun _ _ a ns _ _ hS => ⟨a, ns, rfl, hS, fun _ => rfl⟩) fun _ _ _ _ _ z => z
end K53

open PySem PySem.W PyProof.Rows in
set_option maxRecDepth 100000 in
set_option maxHeartbeats 0 in
theorem PySem.Challenge.cw_gridink_k53_whole_roads_of_switches_holds : PySem.Challenge.rw_gridink_k53_whole_roads_of_switches.Holds := by
  w_on; o_law; k_head; (case hw => w_witness2)
  k_fill
  refine K53.walk (l := PySem.Challenge.rw_gridink_k53_whole_roads_of_switches) rfl rfl (fun w h Y => PySem.W.kIn_of Y) ?F
  case F =>
    intro w mg fa h KX G hmg
    refine' K53.all_mk KX G hmg ?a0 ?l0 ?c0 ?k0 ?a1 ?l1 ?c1 ?k1 ?a2 ?l2 ?c2 ?k2 ?a3 ?l3 ?c3 ?k3 ?a4 ?l4 ?c4 ?k4 ?a5 ?l5 ?c5 ?k5 ?a6 ?l6 ?c6 ?k6 ?a7 ?l7 ?c7 ?k7 ?a8 ?l8 ?c8 ?k8 ?a9 ?l9 ?c9 ?k9 ?a10 ?l10 ?c10 ?k10 ?a11 ?l11 ?c11 ?k11 ?a12 ?l12 ?c12 ?k12 ?a13 ?l13 ?c13 ?k13 ?a14 ?l14 ?c14 ?k14 ?a15 ?l15 ?c15 ?k15 ?a16 ?l16 ?c16 ?k16 ?a17 ?l17 ?c17 ?k17 ?a18 ?l18 ?c18 ?k18 ?a19 ?l19 ?c19 ?k19 ?a20 ?l20 ?c20 ?k20 ?a21 ?l21 ?c21 ?k21 ?a22 ?l22 ?c22 ?k22 ?a23 ?l23 ?c23 ?k23 ?a24 ?l24 ?c24 ?k24 ?aL ?lL ?cL ?kL ?m0 ?r0 ?m1 ?r1 ?m2 ?r2 ?m3 ?r3 ?z0 ?z1 ?z2 ?z3 ?z4 ?z5 ?z6 ?z7 ?z8 ?z9 ?z10 ?z11 ?z12 ?z13 ?z14
    (case a0 => k_is)
    (case l0 => k_is)
    (case c0 => k_is)
    (case k0 => k_is)
    (case a1 => k_is)
    (case l1 => k_is)
    (case c1 => k_is)
    (case k1 => k_is)
    (case a2 => k_is)
    (case l2 => k_is)
    (case c2 => k_is)
    (case k2 => k_is)
    (case a3 => k_is)
    (case l3 => k_is)
    (case c3 => k_is)
    (case k3 => k_is)
    (case a4 => k_is)
    (case l4 => k_is)
    (case c4 => k_is)
    (case k4 => k_is)
    (case a5 => k_is)
    (case l5 => k_is)
    (case c5 => k_is)
    (case k5 => k_is)
    (case a6 => k_is)
    (case l6 => k_is)
    (case c6 => k_is)
    (case k6 => k_is)
    (case a7 => k_is)
    (case l7 => k_is)
    (case c7 => k_is)
    (case k7 => k_is)
    (case a8 => k_is)
    (case l8 => k_is)
    (case c8 => k_is)
    (case k8 => k_is)
    (case a9 => k_is)
    (case l9 => k_is)
    (case c9 => k_is)
    (case k9 => k_is)
    (case a10 => k_is)
    (case l10 => k_is)
    (case c10 => k_is)
    (case k10 => k_is)
    (case a11 => k_is)
    (case l11 => k_is)
    (case c11 => k_is)
    (case k11 => k_is)
    (case a12 => k_is)
    (case l12 => k_is)
    (case c12 => k_is)
    (case k12 => k_is)
    (case a13 => k_is)
    (case l13 => k_is)
    (case c13 => k_is)
    (case k13 => k_is)
    (case a14 => k_is)
    (case l14 => k_is)
    (case c14 => k_is)
    (case k14 => k_is)
    (case a15 => k_is)
    (case l15 => k_is)
    (case c15 => k_is)
    (case k15 => k_is)
    (case a16 => k_is)
    (case l16 => k_is)
    (case c16 => k_is)
    (case k16 => k_is)
    (case a17 => k_is)
    (case l17 => k_is)
    (case c17 => k_is)
    (case k17 => k_is)
    (case a18 => k_is)
    (case l18 => k_is)
    (case c18 => k_is)
    (case k18 => k_is)
    (case a19 => k_is)
    (case l19 => k_is)
    (case c19 => k_is)
    (case k19 => k_is)
    (case a20 => k_is)
    (case l20 => k_is)
    (case c20 => k_is)
    (case k20 => k_is)
    (case a21 => k_is)
    (case l21 => k_is)
    (case c21 => k_is)
    (case k21 => k_is)
    (case a22 => k_is)
    (case l22 => k_is)
    (case c22 => k_is)
    (case k22 => k_is)
    (case a23 => k_is)
    (case l23 => k_is)
    (case c23 => k_is)
    (case k23 => k_is)
    (case a24 => k_is)
    (case l24 => k_is)
    (case c24 => k_is)
    (case k24 => k_is)
    (case aL => k_is)
    (case lL => k_is)
    (case cL => k_is)
    (case kL => k_is)
    (case m0 => k_is)
    (case r0 => exact ⟨_, rfl⟩)
    (case m1 => k_is)
    (case r1 => exact ⟨_, rfl⟩)
    (case m2 => k_is)
    (case r2 => exact ⟨_, rfl⟩)
    (case m3 => k_is)
    (case r3 => exact ⟨_, rfl⟩)
    (case z0 => k_is)
    (case z1 => k_is)
    (case z2 => k_is)
    (case z3 => k_is)
    (case z4 => k_is)
    (case z5 => k_is)
    (case z6 => k_is)
    (case z7 => k_is)
    (case z8 => k_is)
    (case z9 => k_is)
    (case z10 => k_is)
    (case z11 => k_is)
    (case z12 => k_is)
    (case z13 => k_is)
    (case z14 => k_is)
#print axioms PySem.Challenge.cw_gridink_k53_whole_roads_of_switches_holds

