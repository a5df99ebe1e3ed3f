import PyProof.Rows.All
import Wide.All
import OpenK.AllK
import Wide.FinOn
import HandS.ForMost
import HandS.SortKw
import HandS.IsInst
import HandS.Conv
import HandS.TupLe
import HandS.TupAny
import HandS.DictTup
import HandS.SetFor
import HandS.EndTab
import HandS.Nested
import HandS.Lambda
import HandS.Flow
import HandS.Walk
import KE.KNestM
import PySem.Challenge.RW_duelwebs_k06_whole_free_lots
import KE.GoesEnum
import KE.SortData
import KE.DatumOrd
import KE.SortKeyed
import KE.SortKeyHeap
import KE.SortCalls
import KE.SortUse
import HandS.Star
import HandS.SortRule
set_option Elab.async false
set_option linter.all false
set_option maxRecDepth 100000
/-! Plain Lean: webs, what hangs together, lots and their costs. No program in sight. -/
namespace DW

abbrev Tie := Int × Int

/-! ### sorted lists -/
def isort (l : List Int) : List Int := l.mergeSort (fun a b => decide (a ≤ b))
theorem isort_perm (l : List Int) : (isort l).Perm l := List.mergeSort_perm _ _
theorem isort_sorted (l : List Int) : (isort l).Pairwise (· ≤ ·) := by
  have h := List.pairwise_mergeSort (le := fun a b : Int => decide (a ≤ b)) (by intro a b c; simp; omega) (by intro a b; simp; omega) l
  exact h.imp (by intro a b h; simpa using h)
theorem isort_uniq {l m : List Int} (p : m.Perm l) (s : m.Pairwise (· ≤ ·)) : m = isort l :=
  List.Perm.eq_of_pairwise (le := (· ≤ ·)) (fun a b _ _ h1 h2 => by omega) s (isort_sorted l) (p.trans (isort_perm l).symm)
theorem mem_isort {l : List Int} {x : Int} : x ∈ isort l ↔ x ∈ l := (isort_perm l).mem_iff
theorem length_isort (l : List Int) : (isort l).length = l.length := (isort_perm l).length_eq

abbrev Rise (l : List Int) : Prop := l.Pairwise (· < ·)
theorem Rise.nodup {l : List Int} (h : Rise l) : l.Nodup := by
  unfold List.Nodup
  exact h.imp fun h e => by omega
theorem Rise.le {l : List Int} (h : Rise l) : l.Pairwise (· ≤ ·) := h.imp fun h => by omega
theorem Rise.filter {l : List Int} (h : Rise l) (p : Int → Bool) : Rise (l.filter p) := List.Pairwise.filter p h
theorem Rise.eq {l m : List Int} (h1 : Rise l) (h2 : Rise m) (h : ∀ x, x ∈ l ↔ x ∈ m) : l = m :=
  List.Perm.eq_of_pairwise (le := (· ≤ ·)) (fun a b _ _ h1 h2 => by omega) h1.le h2.le ((List.perm_ext_iff_of_nodup h1.nodup h2.nodup).mpr h)
theorem isort_of_rise {l m : List Int} (h1 : m.Nodup) (h2 : Rise l) (h : ∀ x, x ∈ l ↔ x ∈ m) : isort m = l := by
  refine (isort_uniq ?_ h2.le).symm
  exact (List.perm_ext_iff_of_nodup h2.nodup h1).mpr h
theorem sub_of_len {s t : List Int} (hs : s.Nodup) (h : s ⊆ t) (hl : t.length ≤ s.length) : t ⊆ s := by
  intro y hy
  by_cases hm : y ∈ s
  · exact hm
  · have h1 : (y :: s).Nodup := List.nodup_cons.mpr ⟨hm, hs⟩
    have h2 : (y :: s) ⊆ t := fun z hz => by
      rcases List.mem_cons.mp hz with e | hz
      · rw [e]; exact hy
      · exact h hz
    have h3 := List.Nodup.length_le_of_subset h1 h2
    simp at h3
    omega

/-! ### ties -/
def touch (p : Int) (t : Tie) : Bool := decide (p = t.1) || decide (p = t.2)
def tiedL (ts : List Tie) (p : Int) : List Int := (ts.filter (touch p)).map fun t => t.1 + t.2 - p
def tied (ts : List Tie) (p : Int) : List Int := isort (tiedL ts p)
def Adj (ts : List Tie) (p q : Int) : Prop := (p, q) ∈ ts ∨ (q, p) ∈ ts
theorem Adj.symm {ts : List Tie} {p q : Int} (h : Adj ts p q) : Adj ts q p := h.elim .inr .inl
theorem mem_tied {ts : List Tie} {p q : Int} : q ∈ tied ts p ↔ Adj ts p q := by
  unfold tied
  rw [mem_isort]
  unfold tiedL
  rw [List.mem_map]
  constructor
  · rintro ⟨⟨a, b⟩, h, rfl⟩
    obtain ⟨h1, h2⟩ := List.mem_filter.mp h
    simp only [touch, Bool.or_eq_true, decide_eq_true_eq] at h2
    rcases h2 with rfl | rfl
    · left
      have e : p + b - p = b := by omega
      simpa [e] using h1
    · right
      have e : a + p - p = a := by omega
      simpa [e] using h1
  · rintro (h | h)
    · exact ⟨(p, q), List.mem_filter.mpr ⟨h, by simp [touch]⟩, by show p + q - p = q; omega⟩
    · exact ⟨(q, p), List.mem_filter.mpr ⟨h, by simp [touch]⟩, by show q + p - p = q; omega⟩

inductive Reach (ts : List Tie) (lot : List Int) : Int → Int → Prop where
  | refl (p : Int) : Reach ts lot p p
  | step {p q r : Int} : Reach ts lot p q → Adj ts q r → r ∈ lot → Reach ts lot p r
theorem Reach.trans {ts : List Tie} {lot : List Int} {p q r : Int} (h : Reach ts lot p q) (k : Reach ts lot q r) : Reach ts lot p r := by
  induction k with
  | refl => exact h
  | step _ a m ih => exact .step ih a m
theorem Reach.mem {ts : List Tie} {lot : List Int} {p q : Int} (h : Reach ts lot p q) (hp : p ∈ lot) : q ∈ lot := by
  cases h with
  | refl => exact hp
  | step _ _ m => exact m
theorem Reach.symm {ts : List Tie} {lot : List Int} {p q : Int} (h : Reach ts lot p q) (hp : p ∈ lot) : Reach ts lot q p := by
  induction h with
  | refl => exact .refl _
  | step k a m ih => exact (Reach.step (.refl _) a.symm (k.mem hp)).trans ih
theorem Reach.mono {ts : List Tie} {lot lot' : List Int} (hs : lot ⊆ lot') {p q : Int} (h : Reach ts lot p q) : Reach ts lot' p q := by
  induction h with
  | refl => exact .refl _
  | step k a m ih => exact .step ih a (hs m)

open Classical in
noncomputable def comp (ts : List Tie) (lot : List Int) (p : Int) : List Int := lot.filter fun q => decide (Reach ts lot p q)
theorem mem_comp {ts : List Tie} {lot : List Int} {p q : Int} : q ∈ comp ts lot p ↔ q ∈ lot ∧ Reach ts lot p q := by
  unfold comp
  rw [List.mem_filter]
  simp
theorem comp_rise {ts : List Tie} {lot : List Int} {p : Int} (h : Rise lot) : Rise (comp ts lot p) := h.filter _
theorem self_comp {ts : List Tie} {lot : List Int} {p : Int} (h : p ∈ lot) : p ∈ comp ts lot p := mem_comp.mpr ⟨h, .refl _⟩
theorem comp_sub {ts : List Tie} {lot : List Int} {p : Int} : comp ts lot p ⊆ lot := fun _ h => (mem_comp.mp h).1

def without (l m : List Int) : List Int := l.filter fun y => decide (y ∉ m)
theorem mem_without {l m : List Int} {x : Int} : x ∈ without l m ↔ x ∈ l ∧ x ∉ m := by
  unfold without
  rw [List.mem_filter]
  simp
theorem without_lt {l m : List Int} {x : Int} (h1 : x ∈ l) (h2 : x ∈ m) : (without l m).length < l.length := by
  unfold without
  rw [List.length_filter_lt_length_iff_exists]
  exact ⟨x, h1, by simp [h2]⟩

noncomputable def partsOf (ts : List Tie) : List Int → List (List Int)
  | [] => []
  | x :: r => comp ts (x :: r) x :: partsOf ts (without (x :: r) (comp ts (x :: r) x))
termination_by l => l.length
decreasing_by exact without_lt List.mem_cons_self (self_comp List.mem_cons_self)
theorem partsOf_nil (ts : List Tie) : partsOf ts [] = [] := by unfold partsOf; rfl
theorem partsOf_cons (ts : List Tie) (x : Int) (r : List Int) : partsOf ts (x :: r) = comp ts (x :: r) x :: partsOf ts (without (x :: r) (comp ts (x :: r) x)) := by
  rw [partsOf]

theorem parts_ind {ts : List Tie} {P : List Int → Prop} (h0 : P []) (h1 : ∀ x r, P (without (x :: r) (comp ts (x :: r) x)) → P (x :: r)) : ∀ (n : Nat) (l : List Int), l.length ≤ n → P l
  | _, [], _ => h0
  | 0, _ :: _, h => by simp at h
  | n + 1, x :: r, h => h1 x r (parts_ind h0 h1 n _ (by
      have := without_lt (l := x :: r) (m := comp ts (x :: r) x) (x := x) List.mem_cons_self (self_comp List.mem_cons_self)
      omega))
/-- what a piece is -/
theorem mem_parts {ts : List Tie} {piece : List Int} : ∀ l : List Int, piece ∈ partsOf ts l → piece ≠ [] ∧ piece ⊆ l := by
  intro l
  refine parts_ind (ts := ts) (P := fun l => piece ∈ partsOf ts l → piece ≠ [] ∧ piece ⊆ l) (fun h => ?_) (fun x r ih h => ?_) l.length l (Nat.le_refl _)
  · rw [partsOf_nil] at h; cases h
  · rw [partsOf_cons] at h
    rcases List.mem_cons.mp h with e | h
    · subst e
      exact ⟨List.ne_nil_of_mem (self_comp List.mem_cons_self), comp_sub⟩
    · obtain ⟨a, b⟩ := ih h
      exact ⟨a, fun z hz => (mem_without.mp (b hz)).1⟩
/-- a piece is closed -/
theorem parts_closed {ts : List Tie} {piece : List Int} : ∀ l : List Int, piece ∈ partsOf ts l → ∀ q ∈ piece, ∀ r, Adj ts q r → r ∈ l → r ∈ piece := by
  intro l
  refine parts_ind (ts := ts) (P := fun l => piece ∈ partsOf ts l → ∀ q ∈ piece, ∀ r, Adj ts q r → r ∈ l → r ∈ piece) (fun h => ?_) (fun x r ih h => ?_) l.length l (Nat.le_refl _)
  · rw [partsOf_nil] at h; cases h
  · rw [partsOf_cons] at h
    rcases List.mem_cons.mp h with e | h
    · subst e
      intro q hq s ha hs
      exact mem_comp.mpr ⟨hs, .step (mem_comp.mp hq).2 ha hs⟩
    · intro q hq s ha hs
      refine ih h q hq s ha (mem_without.mpr ⟨hs, fun hc => ?_⟩)
      have h1 := mem_without.mp ((mem_parts _ h).2 hq)
      exact h1.2 (mem_comp.mpr ⟨h1.1, .step (mem_comp.mp hc).2 ha.symm h1.1⟩)
theorem parts_len {ts : List Tie} (l : List Int) : (partsOf ts l).length ≤ l.length := by
  refine parts_ind (ts := ts) (P := fun l => (partsOf ts l).length ≤ l.length) (by rw [partsOf_nil]; exact Nat.le_refl _) (fun x r ih => ?_) l.length l (Nat.le_refl _)
  rw [partsOf_cons]
  have := without_lt (l := x :: r) (m := comp ts (x :: r) x) (x := x) List.mem_cons_self (self_comp List.mem_cons_self)
  simp only [List.length_cons] at *
  omega
theorem parts_cover {ts : List Tie} (l : List Int) : ∀ q ∈ l, ∃ piece ∈ partsOf ts l, q ∈ piece := by
  refine parts_ind (ts := ts) (P := fun l => ∀ q ∈ l, ∃ piece ∈ partsOf ts l, q ∈ piece) (fun q h => by cases h) (fun x r ih q h => ?_) l.length l (Nat.le_refl _)
  rw [partsOf_cons]
  by_cases hq : q ∈ comp ts (x :: r) x
  · exact ⟨_, List.mem_cons_self, hq⟩
  · obtain ⟨p, hp, hm⟩ := ih q (mem_without.mpr ⟨h, hq⟩)
    exact ⟨p, List.mem_cons_of_mem _ hp, hm⟩

theorem piece_len {ts : List Tie} {piece : List Int} : ∀ l : List Int, piece ∈ partsOf ts l → piece.length ≤ l.length := by
  intro l
  refine parts_ind (ts := ts) (P := fun l => piece ∈ partsOf ts l → piece.length ≤ l.length) (fun h => ?_) (fun x r ih h => ?_) l.length l (Nat.le_refl _)
  · rw [partsOf_nil] at h; cases h
  · rw [partsOf_cons] at h
    rcases List.mem_cons.mp h with e | h
    · rw [e]
      exact List.length_filter_le _ _
    · have := without_lt (l := x :: r) (m := comp ts (x :: r) x) (x := x) List.mem_cons_self (self_comp List.mem_cons_self)
      have := ih h
      omega

/-! ### the program's search -/
structure HInv (ts : List Tie) (lot : List Int) (p : Int) (f e : List Int) : Prop where
  nd : f.Nodup
  hp : p ∈ f
  sub : ∀ q ∈ f, q ∈ lot ∧ Reach ts lot p q
  es : ∀ q ∈ e, q ∈ f
  closed : ∀ q ∈ f, q ∉ e → ∀ r, Adj ts q r → r ∈ lot → r ∈ f
theorem hinv_start {ts : List Tie} {lot : List Int} {p : Int} (h : p ∈ lot) : HInv ts lot p [p] [p] where
  nd := by simp
  hp := by simp
  sub := fun q hq => by
    have e : q = p := by simpa using hq
    subst e
    exact ⟨h, .refl _⟩
  es := fun q hq => hq
  closed := fun q hq hn => absurd hq hn
def sw (lot : List Int) (fe : List Int × List Int) (o : Int) : List Int × List Int := if o ∈ lot ∧ o ∉ fe.1 then (fe.1 ++ [o], fe.2 ++ [o]) else fe
def sweep (lot : List Int) (fe : List Int × List Int) (os : List Int) : List Int × List Int := os.foldl (sw lot) fe
theorem sweep_snoc (lot : List Int) (fe : List Int × List Int) (os : List Int) (o : Int) : sweep lot fe (os ++ [o]) = sw lot (sweep lot fe os) o := by
  unfold sweep
  rw [List.foldl_append]
  rfl
def meas (lot : List Int) (f e : List Int) : Nat := 2 * (lot.length - f.length) + e.length
structure HMid (ts : List Tie) (lot : List Int) (p here : Int) (done f e : List Int) : Prop where
  nd : f.Nodup
  hp : p ∈ f
  hh : here ∈ f
  sub : ∀ q ∈ f, q ∈ lot ∧ Reach ts lot p q
  es : ∀ q ∈ e, q ∈ f
  closed : ∀ q ∈ f, q ∉ e → q ≠ here → ∀ r, Adj ts q r → r ∈ lot → r ∈ f
  did : ∀ r ∈ done, r ∈ lot → r ∈ f
theorem hmid_step {ts : List Tie} {lot : List Int} {p here o : Int} {done : List Int} {fe : List Int × List Int} (h : HMid ts lot p here done fe.1 fe.2) (ho : Adj ts here o) :
    HMid ts lot p here (done ++ [o]) (sw lot fe o).1 (sw lot fe o).2 ∧ meas lot (sw lot fe o).1 (sw lot fe o).2 ≤ meas lot fe.1 fe.2 := by
  unfold sw
  by_cases c : o ∈ lot ∧ o ∉ fe.1
  · rw [if_pos c]
    have nd' : (fe.1 ++ [o]).Nodup := by
      rw [List.nodup_append]
      refine ⟨h.nd, by simp, fun a ha b hb => ?_⟩
      have e : b = o := by simpa using hb
      subst e
      rintro rfl
      exact c.2 ha
    have sub' : ∀ q ∈ fe.1 ++ [o], q ∈ lot ∧ Reach ts lot p q := fun q hq => by
      rcases List.mem_append.mp hq with hq | hq
      · exact h.sub q hq
      · have e : q = o := by simpa using hq
        subst e
        exact ⟨c.1, .step (h.sub _ h.hh).2 ho c.1⟩
    refine ⟨⟨nd', List.mem_append_left _ h.hp, List.mem_append_left _ h.hh, sub', fun q hq => ?_, fun q hq hn hne r ha hr => ?_, fun r hr hl => ?_⟩, ?_⟩
    · rcases List.mem_append.mp hq with hq | hq
      · exact List.mem_append_left _ (h.es q hq)
      · exact List.mem_append_right _ hq
    · rcases List.mem_append.mp hq with hq | hq
      · exact List.mem_append_left _ (h.closed q hq (fun z => hn (List.mem_append_left _ z)) hne r ha hr)
      · exact absurd (List.mem_append_right _ hq) hn
    · rcases List.mem_append.mp hr with hr | hr
      · exact List.mem_append_left _ (h.did r hr hl)
      · exact List.mem_append_right _ hr
    · have h1 : (fe.1 ++ [o]).length ≤ lot.length := List.Nodup.length_le_of_subset nd' fun q hq => (sub' q hq).1
      unfold meas
      simp only [List.length_append, List.length_singleton] at *
      omega
  · rw [if_neg c]
    refine ⟨⟨h.nd, h.hp, h.hh, h.sub, h.es, h.closed, fun r hr hl => ?_⟩, Nat.le_refl _⟩
    rcases List.mem_append.mp hr with hr | hr
    · exact h.did r hr hl
    · have e : r = o := by simpa using hr
      subst e
      by_cases z : r ∈ fe.1
      · exact z
      · exact absurd ⟨hl, z⟩ c
theorem hmid_sweep {ts : List Tie} {lot : List Int} {p here : Int} {f e : List Int} : ∀ (os done : List Int) (fe : List Int × List Int), HMid ts lot p here done fe.1 fe.2 → (∀ o ∈ os, Adj ts here o) →
    HMid ts lot p here (done ++ os) (sweep lot fe os).1 (sweep lot fe os).2 ∧ meas lot (sweep lot fe os).1 (sweep lot fe os).2 ≤ meas lot fe.1 fe.2
  | [], done, fe, h, _ => ⟨by simpa [sweep] using h, Nat.le_refl _⟩
  | o :: os, done, fe, h, ho => by
    obtain ⟨h1, m1⟩ := hmid_step h (ho o List.mem_cons_self)
    obtain ⟨h2, m2⟩ := hmid_sweep (f := f) (e := e) os (done ++ [o]) (sw lot fe o) h1 fun x hx => ho x (List.mem_cons_of_mem _ hx)
    refine ⟨?_, Nat.le_trans m2 m1⟩
    rw [List.append_assoc] at h2
    exact h2
theorem hinv_step {ts : List Tie} {lot : List Int} {p here : Int} {f e : List Int} (h : HInv ts lot p f (e ++ [here])) :
    HInv ts lot p (sweep lot (f, e) (tied ts here)).1 (sweep lot (f, e) (tied ts here)).2 ∧ meas lot (sweep lot (f, e) (tied ts here)).1 (sweep lot (f, e) (tied ts here)).2 < meas lot f (e ++ [here]) := by
  have h0 : HMid ts lot p here [] f e := ⟨h.nd, h.hp, h.es _ (by simp), h.sub, fun q hq => h.es q (List.mem_append_left _ hq), fun q hq hn hne r ha hr => h.closed q hq (fun z => by
    rcases List.mem_append.mp z with z | z
    · exact hn z
    · exact hne (by simpa using z)) r ha hr, fun r hr => by cases hr⟩
  obtain ⟨h1, m1⟩ := hmid_sweep (f := f) (e := e) (tied ts here) [] (f, e) h0 fun o ho => mem_tied.mp ho
  refine ⟨⟨h1.nd, h1.hp, h1.sub, h1.es, fun q hq hn r ha hr => ?_⟩, ?_⟩
  · by_cases c : q = here
    · subst c
      exact h1.did r (by simpa using mem_tied.mpr ha) hr
    · exact h1.closed q hq hn c r ha hr
  · refine Nat.lt_of_le_of_lt m1 ?_
    unfold meas
    simp only [List.length_append, List.length_singleton]
    omega
theorem hinv_end {ts : List Tie} {lot : List Int} {p : Int} {f : List Int} (h : HInv ts lot p f []) (hl : Rise lot) : isort f = comp ts lot p := by
  refine isort_of_rise h.nd (comp_rise hl) fun x => ?_
  rw [mem_comp]
  have all : ∀ y, Reach ts lot p y → y ∈ f := fun y r => by
    induction r with
    | refl => exact h.hp
    | step k a m ih => exact h.closed _ ih (by simp) _ a m
  exact ⟨fun hx => all x hx.2, fun hx => h.sub x hx⟩

/-! ### the law's rounds -/
def lr (lot s : List Int) (t : Tie) : List Int := if t.1 ∈ lot ∧ t.2 ∈ lot ∧ (decide (t.1 ∈ s) != decide (t.2 ∈ s)) = true then s ++ [if t.1 ∈ s then t.2 else t.1] else s
def round (ts : List Tie) (lot s : List Int) : List Int := ts.foldl (lr lot) s
def rounds (ts : List Tie) (lot : List Int) : Nat → List Int → List Int
  | 0, s => s
  | k + 1, s => round ts lot (rounds ts lot k s)
structure SInv (ts : List Tie) (lot : List Int) (x : Int) (s : List Int) : Prop where
  nd : s.Nodup
  hx : x ∈ s
  sub : ∀ q ∈ s, q ∈ lot ∧ Reach ts lot x q
theorem lr_cases {lot s : List Int} {t : Tie} : lr lot s t = s ∨ ∃ a b, lr lot s t = s ++ [b] ∧ a ∈ s ∧ b ∉ s ∧ b ∈ lot ∧ (t = (a, b) ∨ t = (b, a)) := by
  unfold lr
  by_cases c : t.1 ∈ lot ∧ t.2 ∈ lot ∧ (decide (t.1 ∈ s) != decide (t.2 ∈ s)) = true
  · rw [if_pos c]
    obtain ⟨c1, c2, c3⟩ := c
    right
    by_cases h1 : t.1 ∈ s
    · rw [if_pos h1]
      refine ⟨t.1, t.2, rfl, h1, fun h2 => ?_, c2, .inl rfl⟩
      simp [h1, h2] at c3
    · rw [if_neg h1]
      refine ⟨t.2, t.1, rfl, ?_, h1, c1, .inr rfl⟩
      simpa [h1] using c3
  · rw [if_neg c]
    exact .inl rfl
theorem lr_inv {ts : List Tie} {lot s : List Int} {x : Int} {t : Tie} (ht : t ∈ ts) (h : SInv ts lot x s) : SInv ts lot x (lr lot s t) := by
  rcases lr_cases (lot := lot) (s := s) (t := t) with e | ⟨a, b, e, ha, hb, hl, ht2⟩
  · rw [e]; exact h
  · rw [e]
    have adj : Adj ts a b := by
      rcases ht2 with e | e
      · rw [e] at ht; exact .inl ht
      · rw [e] at ht; exact .inr ht
    refine ⟨?_, List.mem_append_left _ h.hx, fun q hq => ?_⟩
    · rw [List.nodup_append]
      refine ⟨h.nd, by simp, fun u hu v hv => ?_⟩
      have e : v = b := by simpa using hv
      subst e
      rintro rfl
      exact hb hu
    · rcases List.mem_append.mp hq with hq | hq
      · exact h.sub q hq
      · have e : q = b := by simpa using hq
        subst e
        exact ⟨hl, .step (h.sub a ha).2 adj hl⟩
theorem lr_le (lot s : List Int) (t : Tie) : s.length ≤ (lr lot s t).length := by
  rcases lr_cases (lot := lot) (s := s) (t := t) with e | ⟨a, b, e, _⟩ <;> rw [e]
  · exact Nat.le_refl _
  · simp
theorem fold_inv {ts : List Tie} {lot : List Int} {x : Int} : ∀ (us : List Tie) (s : List Int), (∀ t ∈ us, t ∈ ts) → SInv ts lot x s → SInv ts lot x (us.foldl (lr lot) s)
  | [], s, _, h => h
  | t :: us, s, hu, h => fold_inv us (lr lot s t) (fun u h => hu u (List.mem_cons_of_mem _ h)) (lr_inv (hu t List.mem_cons_self) h)
theorem fold_le {lot : List Int} : ∀ (us : List Tie) (s : List Int), s.length ≤ (us.foldl (lr lot) s).length
  | [], s => Nat.le_refl _
  | t :: us, s => Nat.le_trans (lr_le lot s t) (fold_le us (lr lot s t))
theorem fold_grows {lot : List Int} {a b : Int} (ha : a ∈ lot) (hb : b ∈ lot) : ∀ (us : List Tie) (s : List Int), ((a, b) ∈ us ∨ (b, a) ∈ us) → a ∈ s → b ∉ s → s.length < (us.foldl (lr lot) s).length
  | [], s, h, _, _ => by simp at h
  | t :: us, s, h, h1, h2 => by
    show s.length < (us.foldl (lr lot) (lr lot s t)).length
    rcases lr_cases (lot := lot) (s := s) (t := t) with e | ⟨u, v, e, _⟩
    · have ne1 : t ≠ (a, b) := fun q => by
        subst q
        simp [lr, ha, hb, h1, h2] at e
      have ne2 : t ≠ (b, a) := fun q => by
        subst q
        simp [lr, ha, hb, h1, h2] at e
      rw [e]
      refine fold_grows ha hb us s ?_ h1 h2
      rcases h with h | h
      · rcases List.mem_cons.mp h with z | z
        · exact absurd z.symm ne1
        · exact .inl z
      · rcases List.mem_cons.mp h with z | z
        · exact absurd z.symm ne2
        · exact .inr z
    · refine Nat.lt_of_lt_of_le ?_ (fold_le us (lr lot s t))
      rw [e]
      simp
theorem not_closed {ts : List Tie} {lot s : List Int} {x : Int} (h : SInv ts lot x s) (hl : s.length < (comp ts lot x).length) (hr : Rise lot) : ∃ a b, Adj ts a b ∧ a ∈ s ∧ b ∉ s ∧ a ∈ lot ∧ b ∈ lot := by
  apply Classical.byContradiction
  intro no
  have cl : ∀ q, Reach ts lot x q → q ∈ s := fun q r => by
    induction r with
    | refl => exact h.hx
    | step k a m ih =>
      apply Classical.byContradiction
      intro hn
      exact no ⟨_, _, a, ih, hn, (h.sub _ ih).1, m⟩
  have := List.Nodup.length_le_of_subset (comp_rise (ts := ts) (p := x) hr).nodup (fun q hq => cl q (mem_comp.mp hq).2)
  omega
theorem rounds_inv {ts : List Tie} {lot : List Int} {x : Int} (hx : x ∈ lot) : ∀ k, SInv ts lot x (rounds ts lot k [x])
  | 0 => ⟨by simp [rounds], by simp [rounds], fun q hq => by
      have e : q = x := by simpa [rounds] using hq
      subst e
      exact ⟨hx, .refl _⟩⟩
  | k + 1 => fold_inv ts _ (fun _ h => h) (rounds_inv hx k)
theorem rounds_len {ts : List Tie} {lot : List Int} {x : Int} (hx : x ∈ lot) (hr : Rise lot) : ∀ k, k + 1 ≤ (rounds ts lot k [x]).length ∨ (comp ts lot x).length ≤ (rounds ts lot k [x]).length
  | 0 => .inl (by simp [rounds])
  | k + 1 => by
    have ih := rounds_len (ts := ts) hx hr k
    have I := rounds_inv (ts := ts) hx k
    by_cases c : (rounds ts lot k [x]).length < (comp ts lot x).length
    · obtain ⟨a, b, adj, ha, hb, la, lb⟩ := not_closed I c hr
      have g := fold_grows la lb ts _ adj ha hb
      have e : rounds ts lot (k + 1) [x] = ts.foldl (lr lot) (rounds ts lot k [x]) := rfl
      rw [e]
      left
      omega
    · right
      have g := fold_le (lot := lot) ts (rounds ts lot k [x])
      have e : rounds ts lot (k + 1) [x] = ts.foldl (lr lot) (rounds ts lot k [x]) := rfl
      rw [e]
      omega
theorem rounds_end {ts : List Tie} {lot : List Int} {x : Int} {k : Nat} (hx : x ∈ lot) (hr : Rise lot) (hk : (comp ts lot x).length ≤ k) : isort (rounds ts lot k [x]) = comp ts lot x := by
  have I := rounds_inv (ts := ts) hx k
  have s1 : rounds ts lot k [x] ⊆ comp ts lot x := fun q hq => mem_comp.mpr (I.sub q hq)
  have s2 : comp ts lot x ⊆ rounds ts lot k [x] := sub_of_len I.nd s1 (by
    rcases rounds_len (ts := ts) hx hr k with h | h <;> omega)
  exact isort_of_rise I.nd (comp_rise hr) fun y => ⟨fun h => s2 h, fun h => s1 h⟩
/-- what is left stays closed, and a piece of it is a piece of the whole -/
def Closed (ts : List Tie) (lot left : List Int) : Prop := left ⊆ lot ∧ ∀ q ∈ left, ∀ r, Adj ts q r → r ∈ lot → r ∈ left
theorem closed_refl (ts : List Tie) (lot : List Int) : Closed ts lot lot := ⟨fun _ h => h, fun _ _ _ _ h => h⟩
theorem closed_reach {ts : List Tie} {lot left : List Int} (h : Closed ts lot left) {x q : Int} (hx : x ∈ left) (r : Reach ts lot x q) : q ∈ left ∧ Reach ts left x q := by
  induction r with
  | refl => exact ⟨hx, .refl _⟩
  | step k a m ih =>
    have hm := h.2 _ ih.1 _ a m
    exact ⟨hm, .step ih.2 a hm⟩
theorem closed_comp {ts : List Tie} {lot left : List Int} (h : Closed ts lot left) (hl : Rise lot) (hr : Rise left) {x : Int} (hx : x ∈ left) : comp ts lot x = comp ts left x := by
  refine Rise.eq (comp_rise hl) (comp_rise hr) fun q => ?_
  rw [mem_comp, mem_comp]
  exact ⟨fun ⟨_, r⟩ => closed_reach h hx r, fun ⟨m, r⟩ => ⟨h.1 m, r.mono h.1⟩⟩
theorem closed_without {ts : List Tie} {lot left : List Int} (h : Closed ts lot left) {x : Int} : Closed ts lot (without left (comp ts left x)) := by
  refine ⟨fun q hq => h.1 (mem_without.mp hq).1, fun q hq r a hr => ?_⟩
  obtain ⟨h1, h2⟩ := mem_without.mp hq
  have h3 := h.2 q h1 r a hr
  exact mem_without.mpr ⟨h3, fun hc => h2 (mem_comp.mpr ⟨h1, .step (mem_comp.mp hc).2 a.symm h1⟩)⟩

/-! ### numbers -/
def minL : List Int → Int
  | [] => 0
  | x :: r => r.foldl min x
def maxL : List Int → Int
  | [] => 0
  | x :: r => r.foldl max x
theorem foldl_min_spec : ∀ (r : List Int) (x : Int), (r.foldl min x = x ∨ r.foldl min x ∈ r) ∧ r.foldl min x ≤ x ∧ ∀ y ∈ r, r.foldl min x ≤ y
  | [], x => ⟨.inl rfl, Int.le_refl _, fun _ h => by cases h⟩
  | z :: r, x => by
    obtain ⟨h1, h2, h3⟩ := foldl_min_spec r (min x z)
    show ((r.foldl min (min x z)) = x ∨ (r.foldl min (min x z)) ∈ z :: r) ∧ (r.foldl min (min x z)) ≤ x ∧ ∀ y ∈ z :: r, (r.foldl min (min x z)) ≤ y
    refine ⟨?_, by omega, fun y hy => ?_⟩
    · rcases h1 with h1 | h1
      · rw [h1]
        by_cases c : x ≤ z
        · left; omega
        · right
          have e : min x z = z := by omega
          rw [e]
          exact List.mem_cons_self
      · exact .inr (List.mem_cons_of_mem _ h1)
    · rcases List.mem_cons.mp hy with e | hy
      · subst e; omega
      · exact h3 y hy
theorem foldl_max_spec : ∀ (r : List Int) (x : Int), (r.foldl max x = x ∨ r.foldl max x ∈ r) ∧ x ≤ r.foldl max x ∧ ∀ y ∈ r, y ≤ r.foldl max x
  | [], x => ⟨.inl rfl, Int.le_refl _, fun _ h => by cases h⟩
  | z :: r, x => by
    obtain ⟨h1, h2, h3⟩ := foldl_max_spec r (max x z)
    show ((r.foldl max (max x z)) = x ∨ (r.foldl max (max x z)) ∈ z :: r) ∧ x ≤ (r.foldl max (max x z)) ∧ ∀ y ∈ z :: r, y ≤ (r.foldl max (max x z))
    refine ⟨?_, by omega, fun y hy => ?_⟩
    · rcases h1 with h1 | h1
      · rw [h1]
        by_cases c : z ≤ x
        · left; omega
        · right
          have e : max x z = z := by omega
          rw [e]
          exact List.mem_cons_self
      · exact .inr (List.mem_cons_of_mem _ h1)
    · rcases List.mem_cons.mp hy with e | hy
      · subst e; omega
      · exact h3 y hy
theorem minL_mem {l : List Int} (h : l ≠ []) : minL l ∈ l := by
  cases l with
  | nil => exact absurd rfl h
  | cons x r =>
    rcases (foldl_min_spec r x).1 with e | e
    · show r.foldl min x ∈ x :: r
      rw [e]; exact List.mem_cons_self
    · exact List.mem_cons_of_mem _ e
theorem minL_le {l : List Int} {y : Int} (h : y ∈ l) : minL l ≤ y := by
  cases l with
  | nil => cases h
  | cons x r =>
    rcases List.mem_cons.mp h with e | h
    · subst e; exact (foldl_min_spec r y).2.1
    · exact (foldl_min_spec r x).2.2 y h
theorem maxL_mem {l : List Int} (h : l ≠ []) : maxL l ∈ l := by
  cases l with
  | nil => exact absurd rfl h
  | cons x r =>
    rcases (foldl_max_spec r x).1 with e | e
    · show r.foldl max x ∈ x :: r
      rw [e]; exact List.mem_cons_self
    · exact List.mem_cons_of_mem _ e
theorem maxL_le {l : List Int} {y : Int} (h : y ∈ l) : y ≤ maxL l := by
  cases l with
  | nil => cases h
  | cons x r =>
    rcases List.mem_cons.mp h with e | h
    · subst e; exact (foldl_max_spec r y).2.1
    · exact (foldl_max_spec r x).2.2 y h
theorem minL_uniq {l : List Int} {m : Int} (h1 : m ∈ l) (h2 : ∀ y ∈ l, m ≤ y) : m = minL l := by
  have a := minL_le h1
  have b := h2 _ (minL_mem (List.ne_nil_of_mem h1))
  omega
theorem maxL_uniq {l : List Int} {m : Int} (h1 : m ∈ l) (h2 : ∀ y ∈ l, y ≤ m) : m = maxL l := by
  have a := maxL_le h1
  have b := h2 _ (maxL_mem (List.ne_nil_of_mem h1))
  omega

def num (ns : List Int) (p : Int) : Int := ns.getD p.toNat 0
def leastOf (ns : List Int) (l : List Int) : Int := minL (l.map (num ns))
def persons (n : Nat) : List Int := (List.range n).map fun i : Nat => (i : Int)
theorem mem_persons {n : Nat} {x : Int} : x ∈ persons n ↔ 0 ≤ x ∧ x < (n : Int) := by
  unfold persons
  rw [List.mem_map]
  constructor
  · rintro ⟨i, hi, rfl⟩
    have := List.mem_range.mp hi
    omega
  · rintro ⟨h1, h2⟩
    exact ⟨x.toNat, List.mem_range.mpr (by omega), by omega⟩
theorem persons_rise (n : Nat) : Rise (persons n) := by
  unfold persons Rise
  rw [List.pairwise_map]
  exact List.pairwise_lt_range.imp fun h => by omega
theorem length_persons (n : Nat) : (persons n).length = n := by unfold persons; simp
theorem persons_succ (n : Nat) : persons (n + 1) = persons n ++ [(n : Int)] := by
  unfold persons
  rw [List.range_succ, List.map_append]
  rfl
def others (n : Nat) (lot : List Int) : List Int := without (persons n) lot
theorem others_rise (n : Nat) (lot : List Int) : Rise (others n lot) := (persons_rise n).filter _
def border (ts : List Tie) (part lot : List Int) : List Int := lot.filter fun one => (tied ts one).any fun o => decide (o ∈ part)
theorem mem_border {ts : List Tie} {part lot : List Int} {x : Int} : x ∈ border ts part lot ↔ x ∈ lot ∧ ∃ o ∈ part, Adj ts x o := by
  unfold border
  rw [List.mem_filter, List.any_eq_true]
  refine and_congr_right fun _ => ?_
  constructor
  · rintro ⟨o, h1, h2⟩
    exact ⟨o, by simpa using h2, mem_tied.mp h1⟩
  · rintro ⟨o, h1, h2⟩
    exact ⟨o, mem_tied.mpr h2, by simpa using h1⟩
def deepB (ns : List Int) (ts : List Tie) (lot piece : List Int) : Bool := decide (leastOf ns piece < leastOf ns (border ts piece lot))
noncomputable def deepOf (ns : List Int) (ts : List Tie) (lot : List Int) : List (List Int) := (partsOf ts (others ns.length lot)).filter (deepB ns ts lot)
noncomputable def cost (ns : List Int) (ts : List Tie) (lot : List Int) : Nat := (deepOf ns ts lot).length

structure WebOk (ns : List Int) (ts : List Tie) : Prop where
  n1 : 1 ≤ ns.length
  n6 : ns.length ≤ 6
  rng : ∀ x ∈ ns, -1000 ≤ x ∧ x ≤ 1000
  tr : ∀ t ∈ ts, 0 ≤ t.1 ∧ t.1 < t.2 ∧ t.2 < (ns.length : Int)
  asc : ts.Pairwise fun t u => t.1 < u.1 ∨ (t.1 = u.1 ∧ t.2 < u.2)
  conn : ∀ p : Int, 1 ≤ p → p < (ns.length : Int) → ∃ q, q < p ∧ (q, p) ∈ ts
  tlen : ts.length ≤ 100
section
variable {ns : List Int} {ts : List Tie}
theorem WebOk.zero (W : WebOk ns ts) : ∀ (k : Nat) (p : Int), p.toNat ≤ k → 0 ≤ p → p < (ns.length : Int) → Reach ts (persons ns.length) 0 p
  | 0, p, h, h0, h1 => by
    have e : p = 0 := by omega
    rw [e]
    exact .refl _
  | k + 1, p, h, h0, h1 => by
    by_cases c : p = 0
    · rw [c]; exact .refl _
    · obtain ⟨q, hq, ht⟩ := W.conn p (by omega) h1
      have := W.tr _ ht
      exact .step (W.zero k q (by omega) this.1 (by omega)) (.inl ht) (mem_persons.mpr ⟨h0, h1⟩)
theorem WebOk.reach (W : WebOk ns ts) {p q : Int} (hp : p ∈ persons ns.length) (hq : q ∈ persons ns.length) : Reach ts (persons ns.length) p q := by
  have h0 : (0 : Int) ∈ persons ns.length := mem_persons.mpr ⟨by omega, by have := W.n1; omega⟩
  obtain ⟨a1, a2⟩ := mem_persons.mp hp
  obtain ⟨b1, b2⟩ := mem_persons.mp hq
  exact ((W.zero _ p (Nat.le_refl _) a1 a2).symm h0).trans (W.zero _ q (Nat.le_refl _) b1 b2)
theorem WebOk.all (W : WebOk ns ts) : comp ts (persons ns.length) 0 = persons ns.length := by
  refine Rise.eq (comp_rise (persons_rise _)) (persons_rise _) fun x => ?_
  rw [mem_comp]
  have h0 : (0 : Int) ∈ persons ns.length := mem_persons.mpr ⟨by omega, by have := W.n1; omega⟩
  exact ⟨fun h => h.1, fun h => ⟨h, W.reach h0 h⟩⟩
theorem WebOk.adj (W : WebOk ns ts) {a b : Int} (h : Adj ts a b) : a ∈ persons ns.length ∧ b ∈ persons ns.length := by
  rcases h with h | h
  · have := W.tr _ h
    exact ⟨mem_persons.mpr ⟨this.1, by omega⟩, mem_persons.mpr ⟨by omega, this.2.2⟩⟩
  · have := W.tr _ h
    exact ⟨mem_persons.mpr ⟨by omega, this.2.2⟩, mem_persons.mpr ⟨this.1, by omega⟩⟩
theorem border_ne (W : WebOk ns ts) {lot piece : List Int} (hl : lot ≠ []) (hs : lot ⊆ persons ns.length) (hp : piece ∈ partsOf ts (others ns.length lot)) : border ts piece lot ≠ [] := by
  obtain ⟨hne, hsub⟩ := mem_parts _ hp
  have hcl := parts_closed _ hp
  intro hb
  obtain ⟨x, hx⟩ := List.exists_mem_of_ne_nil _ hne
  obtain ⟨l, hlm⟩ := List.exists_mem_of_ne_nil _ hl
  have hxo := hsub hx
  have hxp : x ∈ persons ns.length := (mem_without.mp hxo).1
  have all : ∀ q, Reach ts (persons ns.length) x q → q ∈ piece := fun q r => by
    induction r with
    | refl => exact hx
    | @step q r k a m ih =>
      by_cases c : r ∈ lot
      · have : r ∈ border ts piece lot := mem_border.mpr ⟨c, _, ih, a.symm⟩
        rw [hb] at this
        cases this
      · exact hcl _ ih _ a (mem_without.mpr ⟨m, c⟩)
  have h1 := hsub (all l (W.reach hxp (hs hlm)))
  exact (mem_without.mp h1).2 hlm
theorem cost_lt {lot : List Int} (hl : lot ≠ []) (hs : lot ⊆ persons ns.length) : cost ns ts lot < ns.length := by
  obtain ⟨l, hlm⟩ := List.exists_mem_of_ne_nil _ hl
  have h1 : (others ns.length lot).length < (persons ns.length).length := without_lt (hs hlm) hlm
  rw [length_persons] at h1
  have h2 := parts_len (ts := ts) (others ns.length lot)
  have h3 : cost ns ts lot ≤ (partsOf ts (others ns.length lot)).length := List.length_filter_le _ _
  omega
theorem leastOf_le {l : List Int} {p : Int} (h : p ∈ l) : leastOf ns l ≤ num ns p := minL_le (List.mem_map.mpr ⟨p, h, rfl⟩)
theorem leastOf_mem {l : List Int} (h : l ≠ []) : ∃ p ∈ l, num ns p = leastOf ns l := by
  have := minL_mem (l := l.map (num ns)) (by simpa using h)
  exact List.mem_map.mp this
theorem num_mem {p : Int} (h : p ∈ persons ns.length) : num ns p ∈ ns := by
  obtain ⟨h0, h1⟩ := mem_persons.mp h
  unfold num
  rw [List.getD_eq_getElem?_getD, List.getElem?_eq_getElem (by omega)]
  exact List.getElem_mem _
theorem mem_num {x : Int} (h : x ∈ ns) : ∃ p ∈ persons ns.length, num ns p = x := by
  obtain ⟨i, hi, e⟩ := List.getElem_of_mem h
  refine ⟨(i : Int), mem_persons.mpr ⟨by omega, by omega⟩, ?_⟩
  unfold num
  rw [List.getD_eq_getElem?_getD]
  simp [hi, e]
theorem cost_zero {lot : List Int} : cost ns ts lot = 0 ↔ ∀ piece ∈ partsOf ts (others ns.length lot), ¬ leastOf ns piece < leastOf ns (border ts piece lot) := by
  unfold cost deepOf
  rw [List.length_eq_zero_iff, List.filter_eq_nil_iff]
  simp only [deepB, decide_eq_true_eq]
/-- a free lot has a person with the least number of all -/
theorem free_has_low (W : WebOk ns ts) {lot : List Int} (hl : lot ≠ []) (hs : lot ⊆ persons ns.length) (h0 : cost ns ts lot = 0) : minL ns ∈ lot.map (num ns) := by
  apply Classical.byContradiction
  intro no
  have hne : ns ≠ [] := by
    have := W.n1
    intro e
    rw [e] at this
    simp at this
  obtain ⟨p, hp, hn⟩ := mem_num (minL_mem hne)
  have hpo : p ∈ others ns.length lot := mem_without.mpr ⟨hp, fun h => no (List.mem_map.mpr ⟨p, h, hn⟩)⟩
  obtain ⟨piece, hpi, hpp⟩ := parts_cover (ts := ts) _ p hpo
  have hb := border_ne W hl hs hpi
  refine cost_zero.mp h0 piece hpi ?_
  obtain ⟨b, hb1, hb2⟩ := leastOf_mem (ns := ns) hb
  have h1 : leastOf ns piece ≤ minL ns := by rw [← hn]; exact leastOf_le hpp
  have hbl := (mem_border.mp hb1).1
  have h2 : minL ns ≤ num ns b := minL_le (num_mem (hs hbl))
  have h3 : num ns b ≠ minL ns := fun e => no (List.mem_map.mpr ⟨b, hbl, e⟩)
  omega
/-- a lot none of whose persons is above any other person is free -/
theorem low_free (W : WebOk ns ts) {lot : List Int} (hl : lot ≠ []) (hs : lot ⊆ persons ns.length) (h : ∀ p ∈ others ns.length lot, ∀ q ∈ lot, num ns q ≤ num ns p) : cost ns ts lot = 0 := by
  refine cost_zero.mpr fun piece hp => ?_
  obtain ⟨hne, hsub⟩ := mem_parts _ hp
  obtain ⟨b, hb⟩ := List.exists_mem_of_ne_nil _ (border_ne W hl hs hp)
  obtain ⟨a, ha, ea⟩ := leastOf_mem (ns := ns) hne
  have h1 := h a (hsub ha) b (mem_border.mp hb).1
  have h2 := leastOf_le (ns := ns) hb
  omega
theorem exists_low (ns : List Int) : ∀ k, k ≤ ns.length → ∃ f : Int → Bool, ((persons ns.length).filter f).length = k ∧ ∀ p ∈ persons ns.length, f p = false → ∀ q ∈ persons ns.length, f q = true → num ns q ≤ num ns p
  | 0, _ => ⟨fun _ => false, by simp, fun _ _ _ _ _ h => by cases h⟩
  | k + 1, h => by
    obtain ⟨f, hf, hlow⟩ := exists_low ns k (by omega)
    have hne : (persons ns.length).filter (fun p => !f p) ≠ [] := by
      intro e
      have h1 : ∀ p ∈ persons ns.length, f p = true := fun p hp => by
        have := List.filter_eq_nil_iff.mp e p hp
        simpa using this
      rw [List.filter_eq_self.mpr h1, length_persons] at hf
      omega
    obtain ⟨m, hm, em⟩ := leastOf_mem (ns := ns) hne
    obtain ⟨hm1, hm2⟩ := List.mem_filter.mp hm
    have hm3 : f m = false := by simpa using hm2
    refine ⟨fun p => f p || decide (p = m), ?_, fun p hp h1 q hq h2 => ?_⟩
    · have key : ∀ l : List Int, l.Nodup → m ∈ l → (l.filter fun p => f p || decide (p = m)).length = (l.filter f).length + 1 := by
        intro l nd hml
        induction l with
        | nil => cases hml
        | cons x r ih =>
          obtain ⟨n1, n2⟩ := List.nodup_cons.mp nd
          rcases List.mem_cons.mp hml with e | hr
          · subst e
            have e2 : (r.filter fun p => f p || decide (p = m)) = r.filter f := List.filter_congr fun y hy => by
              have : y ≠ m := fun z => n1 (z ▸ hy)
              simp [this]
            rw [List.filter_cons_of_pos (by simp), List.filter_cons_of_neg (by simp [hm3]), e2]
            rfl
          · have hx : x ≠ m := fun z => n1 (z ▸ hr)
            have := ih n2 hr
            by_cases c : f x = true
            · rw [List.filter_cons_of_pos (by simp [c]), List.filter_cons_of_pos c]
              simp only [List.length_cons]
              omega
            · rw [List.filter_cons_of_neg (by simp [c, hx]), List.filter_cons_of_neg c]
              exact this
      rw [key _ (persons_rise _).nodup hm1, hf]
    · simp only [Bool.or_eq_false_iff, decide_eq_false_iff_not] at h1
      simp only [Bool.or_eq_true, decide_eq_true_eq] at h2
      rcases h2 with h2 | h2
      · exact hlow p hp h1.1 q hq h2
      · subst h2
        rw [em]
        exact leastOf_le (List.mem_filter.mpr ⟨hp, by simp [h1.1]⟩)
end
end DW
/-! Plain Lean: all lots, their order, the table of costs. -/
namespace DW

def lexLt : List Int → List Int → Bool
  | [], [] => false
  | [], _ :: _ => true
  | _ :: _, [] => false
  | x :: xs, y :: ys => if x = y then lexLt xs ys else decide (x < y)
theorem lexLt_eq : ∀ xs ys : List Int, decide (xs < ys) = lexLt xs ys
  | [], [] => by simp [lexLt]
  | [], y :: ys => by simp [lexLt]
  | x :: xs, [] => by simp [lexLt]
  | x :: xs, y :: ys => by
    have ih := lexLt_eq xs ys
    unfold lexLt
    rw [← ih]
    by_cases e : x = y
    · subst e
      simp [List.cons_lt_cons_iff]
    · simp [List.cons_lt_cons_iff, e]
theorem lex_tri : ∀ {a b : List Int}, lexLt a b = false → lexLt b a = false → a = b
  | [], [], _, _ => rfl
  | [], _ :: _, h, _ => by simp [lexLt] at h
  | _ :: _, [], _, h => by simp [lexLt] at h
  | x :: xs, y :: ys, h, k => by
    unfold lexLt at h k
    by_cases e : x = y
    · subst e
      rw [if_pos rfl] at h k
      rw [lex_tri h k]
    · rw [if_neg e] at h
      rw [if_neg fun z => e z.symm] at k
      have h1 : ¬ x < y := of_decide_eq_false h
      have h2 : ¬ y < x := of_decide_eq_false k
      omega
theorem lex_asym : ∀ {a b : List Int}, lexLt a b = true → lexLt b a = false
  | [], [], h => by simp [lexLt] at h
  | [], _ :: _, _ => by simp [lexLt]
  | _ :: _, [], h => by simp [lexLt] at h
  | x :: xs, y :: ys, h => by
    unfold lexLt at h ⊢
    by_cases e : x = y
    · subst e
      rw [if_pos rfl] at h ⊢
      exact lex_asym h
    · rw [if_neg e] at h
      rw [if_neg fun z => e z.symm]
      have h1 : x < y := of_decide_eq_true h
      exact decide_eq_false (by omega)
/-- not b < a, not c < b: not c < a -/
theorem lex_tr : ∀ {a b c : List Int}, lexLt b a = false → lexLt c b = false → lexLt c a = false
  | a, [], c, h, k => by
    cases a with
    | nil => exact k
    | cons x xs => simp [lexLt] at h
  | [], y :: ys, c, _, _ => by cases c <;> simp [lexLt]
  | x :: xs, y :: ys, [], h, k => by simp [lexLt] at k
  | x :: xs, y :: ys, z :: zs, h, k => by
    unfold lexLt at h k ⊢
    by_cases e1 : y = x
    · by_cases e2 : z = y
      · subst e1 e2
        rw [if_pos rfl] at h k ⊢
        exact lex_tr h k
      · subst e1
        rw [if_neg e2] at k ⊢
        exact k
    · rw [if_neg e1] at h
      have h1 : ¬ y < x := of_decide_eq_false h
      by_cases e2 : z = y
      · subst e2
        rw [if_neg e1]
        exact h
      · rw [if_neg e2] at k
        have h2 : ¬ z < y := of_decide_eq_false k
        rw [if_neg (by omega)]
        exact decide_eq_false (by omega)
def lotLt (a b : List Int) : Bool := if a.length = b.length then lexLt a b else decide (a.length < b.length)
def lotLe (a b : List Int) : Bool := !lotLt b a
theorem lotLe_anti {a b : List Int} (h : lotLe a b = true) (k : lotLe b a = true) : a = b := by
  unfold lotLe lotLt at h k
  by_cases e : a.length = b.length
  · rw [if_pos e.symm] at h
    rw [if_pos e] at k
    exact lex_tri (by simpa using k) (by simpa using h)
  · rw [if_neg fun z => e z.symm] at h
    rw [if_neg e] at k
    simp at h k
    omega
theorem lotLe_total (a b : List Int) : (lotLe a b || lotLe b a) = true := by
  unfold lotLe lotLt
  by_cases e : a.length = b.length
  · rw [if_pos e.symm, if_pos e]
    cases h : lexLt b a with
    | false => simp
    | true => rw [lex_asym h]; simp
  · rw [if_neg fun z => e z.symm, if_neg e]
    simp
    omega
theorem lotLe_trans (a b c : List Int) (h : lotLe a b = true) (k : lotLe b c = true) : lotLe a c = true := by
  unfold lotLe lotLt at *
  by_cases e1 : b.length = a.length
  · by_cases e2 : c.length = b.length
    · rw [if_pos e1] at h
      rw [if_pos e2] at k
      rw [if_pos (e2.trans e1)]
      have := lex_tr (a := a) (b := b) (c := c) (by simpa using h) (by simpa using k)
      simp [this]
    · rw [if_neg e2] at k
      rw [if_neg (by omega)]
      simp at k ⊢
      omega
  · rw [if_neg e1] at h
    by_cases e2 : c.length = b.length
    · rw [if_neg (by omega)]
      simp at h ⊢
      omega
    · rw [if_neg e2] at k
      simp at h k
      rw [if_neg (by omega)]
      simp
      omega
theorem lot_sorted (l : List (List Int)) : (l.mergeSort lotLe).Pairwise fun a b => lotLe a b = true := List.pairwise_mergeSort lotLe_trans lotLe_total l
theorem sort_filter (l : List (List Int)) (p : List Int → Bool) : (l.mergeSort lotLe).filter p = (l.filter p).mergeSort lotLe := by
  refine List.Perm.eq_of_pairwise (le := fun a b => lotLe a b = true) (fun a b _ _ h k => lotLe_anti h k) ((lot_sorted l).filter p) (lot_sorted _) ?_
  exact ((List.mergeSort_perm l lotLe).filter p).trans (List.mergeSort_perm _ lotLe).symm

def subs : Nat → List (List Int)
  | 0 => [[]]
  | n + 1 => subs n ++ (subs n).map fun l => l ++ [(n : Int)]
theorem subs_len : ∀ n, (subs n).length = 2 ^ n
  | 0 => rfl
  | n + 1 => by
    unfold subs
    rw [List.length_append, List.length_map, subs_len n]
    omega
theorem mem_subs : ∀ {n : Nat} {l : List Int}, l ∈ subs n → Rise l ∧ l ⊆ persons n
  | 0, l, h => by
    have e : l = [] := by simpa [subs] using h
    subst e
    exact ⟨.nil, fun _ h => by cases h⟩
  | n + 1, l, h => by
    unfold subs at h
    rw [persons_succ]
    rcases List.mem_append.mp h with h | h
    · obtain ⟨h1, h2⟩ := mem_subs h
      exact ⟨h1, fun x hx => List.mem_append_left _ (h2 hx)⟩
    · obtain ⟨m, hm, rfl⟩ := List.mem_map.mp h
      obtain ⟨h1, h2⟩ := mem_subs hm
      refine ⟨?_, fun x hx => ?_⟩
      · rw [Rise, List.pairwise_append]
        refine ⟨h1, by simp, fun a ha b hb => ?_⟩
        have e : b = (n : Int) := by simpa using hb
        have := (mem_persons.mp (h2 ha)).2
        omega
      · rcases List.mem_append.mp hx with hx | hx
        · exact List.mem_append_left _ (h2 hx)
        · exact List.mem_append_right _ hx
theorem filter_subs (f : Int → Bool) : ∀ n, (persons n).filter f ∈ subs n
  | 0 => by simp [persons, subs]
  | n + 1 => by
    rw [persons_succ, List.filter_append]
    unfold subs
    by_cases c : f (n : Int) = true
    · rw [List.filter_cons_of_pos c, List.filter_nil]
      exact List.mem_append_right _ (List.mem_map.mpr ⟨_, filter_subs f n, rfl⟩)
    · rw [List.filter_cons_of_neg c, List.filter_nil, List.append_nil]
      exact List.mem_append_left _ (filter_subs f n)
def lots (n : Nat) : List (List Int) := ((subs n).filter fun l => decide (l ≠ [])).mergeSort lotLe
theorem mem_lots {n : Nat} {l : List Int} : l ∈ lots n ↔ l ∈ subs n ∧ l ≠ [] := by
  unfold lots
  rw [(List.mergeSort_perm _ lotLe).mem_iff, List.mem_filter]
  simp
theorem lots_len (n : Nat) : (lots n).length ≤ 2 ^ n := by
  unfold lots
  rw [(List.mergeSort_perm _ lotLe).length_eq, ← subs_len]
  exact List.length_filter_le _ _
theorem lots_len6 {n : Nat} (h : n ≤ 6) : (lots n).length ≤ 64 := by
  have h1 := lots_len n
  have h2 : 2 ^ n ≤ 2 ^ 6 := Nat.pow_le_pow_right (by decide) h
  omega
structure LotOk (n : Nat) (l : List Int) : Prop where
  ne : l ≠ []
  rise : Rise l
  sub : l ⊆ persons n
theorem lots_ok {n : Nat} {l : List Int} (h : l ∈ lots n) : LotOk n l := by
  obtain ⟨h1, h2⟩ := mem_lots.mp h
  obtain ⟨h3, h4⟩ := mem_subs h1
  exact ⟨h2, h3, h4⟩
theorem LotOk.len {n : Nat} {l : List Int} (h : LotOk n l) : 1 ≤ l.length ∧ l.length ≤ n := by
  have h1 := List.Nodup.length_le_of_subset h.rise.nodup h.sub
  rw [length_persons] at h1
  have h2 := List.length_pos_iff.mpr h.ne
  omega
/-- the lots of the law: sorted with the empty one, then without it -/
theorem lots_alt (n : Nat) : ((subs n).mergeSort lotLe).filter (fun l => decide (0 < l.length)) = lots n := by
  rw [sort_filter]
  unfold lots
  congr 1
  refine List.filter_congr fun l _ => ?_
  cases l <;> simp

section
variable (ns : List Int) (ts : List Tie)
noncomputable def freeL : List (List Int) := (lots ns.length).filter fun l => decide ((cost ns ts l : Int) = 0)
/-- the costs of the lots of a size -/
noncomputable def costsAt (k : Int) : List Int := ((lots ns.length).filter fun l => decide ((l.length : Int) = k)).map fun l => (cost ns ts l : Int)
noncomputable def rowT (s : Nat) : List Int := (List.range ns.length).map fun c : Nat => ((costsAt ns ts (s + 1)).count (c : Int) : Int)
noncomputable def tableT : List (List Int) := (List.range ns.length).map fun s => rowT ns ts s
/-- how many of some lots have a size and a cost -/
noncomputable def hits (ls : List (List Int)) (s c : Nat) : Nat := (ls.filter fun l => decide (l.length = s + 1) && decide (cost ns ts l = c)).length
theorem hits_all (s c : Nat) : ((hits ns ts (lots ns.length) s c : Nat) : Int) = ((costsAt ns ts (s + 1)).count (c : Int) : Int) := by
  unfold hits costsAt
  congr 1
  generalize lots ns.length = ls
  induction ls with
  | nil => rfl
  | cons l ls ih =>
    by_cases c1 : l.length = s + 1
    · have c1' : ((l.length : Nat) : Int) = (s : Int) + 1 := by omega
      rw [List.filter_cons_of_pos (p := fun l : List Int => decide ((l.length : Int) = (s : Int) + 1)) (by simpa using c1'), List.map_cons, List.count_cons]
      by_cases c2 : cost ns ts l = c
      · rw [List.filter_cons_of_pos (by simp [c1, c2])]
        simp [c2, ih]
      · have c2' : ¬ ((cost ns ts l : Nat) : Int) = (c : Int) := by omega
        rw [List.filter_cons_of_neg (by simp [c1, c2])]
        simp [c2', ih]
    · have c1' : ¬ ((l.length : Nat) : Int) = (s : Int) + 1 := by omega
      rw [List.filter_cons_of_neg (p := fun l : List Int => decide ((l.length : Int) = (s : Int) + 1)) (by simpa using c1'), List.filter_cons_of_neg (by simp [c1])]
      exact ih
theorem hits_snoc (ls : List (List Int)) (l : List Int) (s c : Nat) : hits ns ts (ls ++ [l]) s c = hits ns ts ls s c + if l.length = s + 1 ∧ cost ns ts l = c then 1 else 0 := by
  unfold hits
  rw [List.filter_append, List.length_append]
  congr 1
  by_cases h : l.length = s + 1 ∧ cost ns ts l = c
  · rw [if_pos h, List.filter_cons_of_pos (by simp [h.1, h.2])]
    rfl
  · rw [if_neg h, List.filter_cons_of_neg (by simpa using h)]
    rfl
end
section
variable {ns : List Int} {ts : List Tie}
/-- each size has a lot without cost -/
theorem free_size (W : WebOk ns ts) {k : Nat} (h1 : 1 ≤ k) (h2 : k ≤ ns.length) : ∃ l ∈ lots ns.length, l.length = k ∧ cost ns ts l = 0 := by
  obtain ⟨f, hf, hlow⟩ := exists_low ns k h2
  have hne : (persons ns.length).filter f ≠ [] := fun e => by
    rw [e] at hf
    simp at hf
    omega
  have hsub : (persons ns.length).filter f ⊆ persons ns.length := fun x hx => (List.mem_filter.mp hx).1
  refine ⟨(persons ns.length).filter f, mem_lots.mpr ⟨filter_subs f _, hne⟩, hf, low_free W hne hsub fun p hp q hq => ?_⟩
  obtain ⟨p1, p2⟩ := mem_without.mp hp
  obtain ⟨q1, q2⟩ := List.mem_filter.mp hq
  refine hlow p p1 ?_ q q1 q2
  cases e : f p with
  | false => rfl
  | true => exact absurd (List.mem_filter.mpr ⟨p1, e⟩) p2
theorem costsAt_ne (W : WebOk ns ts) {k : Int} (h1 : 1 ≤ k) (h2 : k ≤ (ns.length : Int)) : costsAt ns ts k ≠ [] := by
  obtain ⟨l, hl, hk, h0⟩ := free_size W (k := k.toNat) (by omega) (by omega)
  refine List.ne_nil_of_mem (a := (cost ns ts l : Int)) (List.mem_map.mpr ⟨l, List.mem_filter.mpr ⟨hl, ?_⟩, rfl⟩)
  have : ((l.length : Nat) : Int) = k := by omega
  simpa using this
theorem least_zero (W : WebOk ns ts) {k : Int} (h1 : 1 ≤ k) (h2 : k ≤ (ns.length : Int)) : minL (costsAt ns ts k) = 0 := by
  obtain ⟨l, hl, hk, h0⟩ := free_size W (k := k.toNat) (by omega) (by omega)
  have e : ((l.length : Nat) : Int) = k := by omega
  refine (minL_uniq ?_ fun y hy => ?_).symm
  · refine List.mem_map.mpr ⟨l, List.mem_filter.mpr ⟨hl, by simpa using e⟩, ?_⟩
    rw [h0]
    rfl
  · obtain ⟨m, _, rfl⟩ := List.mem_map.mp hy
    omega
/-- no free lot without a least person -/
theorem no_high (W : WebOk ns ts) : ((lots ns.length).filter fun l => decide ((cost ns ts l : Int) = 0) && decide (minL ns ∉ l.map (num ns))) = [] := by
  refine List.filter_eq_nil_iff.mpr fun l hl h => ?_
  simp only [Bool.and_eq_true, decide_eq_true_eq] at h
  have ok := lots_ok hl
  exact h.2 (free_has_low W ok.ne ok.sub (by omega))
end
end DW
namespace DV
open PySem PySem.Spec L2 DW

/-! ### data made of ints, bools and tuples: it stands for ever -/
structure TS (H H' : Hp) : Prop where
  t : ∀ b xs, H b = some (.tup xs) → H' b = some (.tup xs)
  f : ∀ b o u, H b = some (.frz o u) → H' b = some (.frz o u)
theorem TS.refl (H : Hp) : TS H H := ⟨fun _ _ h => h, fun _ _ _ h => h⟩
theorem TS.trans {H H1 H2 : Hp} (a : TS H H1) (b : TS H1 H2) : TS H H2 := ⟨fun c xs h => b.t c xs (a.t c xs h), fun c o u h => b.f c o u (a.f c o u h)⟩
theorem sts {H H' : Hp} (s : Same H H') : TS H H' := ⟨fun b xs h => s b _ h, fun b o u h => s b _ h⟩
theorem ets {H H' : Hp} (s : LamX.ExtN H H') : TS H H' := ⟨fun b xs h => s b _ h (fun ps z => by cases z), fun b o u h => s b _ h (fun ps z => by cases z)⟩
theorem sext {H H' : Hp} (s : Same H H') : LamX.ExtN H H' := fun b o h _ => s b o h
theorem ts_new {H : Hp} {a : Addr} (h : H a = none) (o : HO) : TS H (upd H a o) := ⟨fun b xs e => by rw [upd_ne (ne_of_none e h)]; exact e, fun b u v e => by rw [upd_ne (ne_of_none e h)]; exact e⟩
theorem ts_lst {H : Hp} {a : Addr} {xs : List V} (h : H a = some (.lst xs)) (o : HO) : TS H (upd H a o) :=
  ⟨fun b ys e => by rw [upd_ne (ne_of e h (by intro z; cases z))]; exact e, fun b u v e => by rw [upd_ne (ne_of e h (by intro z; cases z))]; exact e⟩
theorem same_new {H : Hp} {p : Addr} (h : H p = none) (o : HO) : Same H (upd H p o) := fun b u q => by rw [upd_ne (ne_of_none q h)]; exact q
theorem TS.sqt {K : PySem.W.Frag} {H H' : Hp} {a : Addr} {xs : List V} (e : TS H H') (h : SqT K H a xs) : SqT K H' a xs := by
  rcases h with (h | ⟨o, h⟩) | h
  · exact .inl (.inl (e.t _ _ h))
  · exact .inl (.inr ⟨o, e.f _ _ _ h⟩)
  · exact .inr h

mutual
def Tp (K : PySem.W.Frag) (H : Hp) : PyData → V → Prop
  | .int i, v => v = .int i
  | .bool b, v => v = .bl b
  | .tuple ds, v => ∃ (a : Addr) (xs : List V), v = .ref a ∧ SqT K H a xs ∧ TpL K H ds xs
  | _, _ => False
def TpL (K : PySem.W.Frag) (H : Hp) : List PyData → List V → Prop
  | [], xs => xs = []
  | d :: ds, xs => ∃ (x : V) (r : List V), xs = x :: r ∧ Tp K H d x ∧ TpL K H ds r
end
section
variable {K : PySem.W.Frag} {H H' : Hp}
mutual
theorem Tp.mono (e : TS H H') : ∀ (d : PyData) (v : V), Tp K H d v → Tp K H' d v
  | .int i, v, h => h
  | .bool b, v, h => h
  | .tuple ds, v, h => by
    obtain ⟨a, xs, h1, h2, h3⟩ := h
    exact ⟨a, xs, h1, e.sqt h2, TpL.mono e ds xs h3⟩
  | .none, v, h => h
  | .str _, v, h => h
  | .list _, v, h => h
  | .dict _, v, h => h
theorem TpL.mono (e : TS H H') : ∀ (ds : List PyData) (xs : List V), TpL K H ds xs → TpL K H' ds xs
  | [], xs, h => h
  | d :: ds, xs, h => by
    obtain ⟨x, r, h1, h2, h3⟩ := h
    exact ⟨x, r, h1, Tp.mono e d x h2, TpL.mono e ds r h3⟩
end
mutual
theorem Tp.dp : ∀ (d : PyData) (v : V), Tp K H d v → Dp K H v d
  | .int i, v, h => by
    have h : v = .int i := h
    rw [h]; exact .int i
  | .bool b, v, h => by
    have h : v = .bl b := h
    rw [h]; exact .bl b
  | .tuple ds, v, h => by
    obtain ⟨a, xs, h1, h2, h3⟩ := h
    rw [h1]
    exact .tup h2 (TpL.dp ds xs h3)
  | .none, v, h => False.elim h
  | .str _, v, h => False.elim h
  | .list _, v, h => False.elim h
  | .dict _, v, h => False.elim h
theorem TpL.dp : ∀ (ds : List PyData) (xs : List V), TpL K H ds xs → DpAll K H xs ds
  | [], xs, h => by
    have h : xs = [] := h
    rw [h]; exact .nil
  | d :: ds, xs, h => by
    obtain ⟨x, r, h1, h2, h3⟩ := h
    rw [h1]
    exact .cons (Tp.dp d x h2) (TpL.dp ds r h3)
end
theorem TpL.len : ∀ {ds : List PyData} {xs : List V}, TpL K H ds xs → xs.length = ds.length
  | [], xs, h => by
    have h : xs = [] := h
    rw [h]; rfl
  | d :: ds, xs, h => by
    obtain ⟨x, r, h1, h2, h3⟩ := h
    rw [h1, List.length_cons, List.length_cons, TpL.len h3]
theorem TpL.get : ∀ {ds : List PyData} {xs : List V} {i : Nat} {d : PyData}, TpL K H ds xs → ds[i]? = some d → ∃ x, xs[i]? = some x ∧ Tp K H d x
  | [], _, _, _, _, h => by simp at h
  | d :: ds, xs, 0, e, h, q => by
    obtain ⟨x, r, h1, h2, h3⟩ := h
    have q : d = e := by simpa using q
    subst q
    exact ⟨x, by rw [h1]; rfl, h2⟩
  | d :: ds, xs, i + 1, e, h, q => by
    obtain ⟨x, r, h1, h2, h3⟩ := h
    obtain ⟨y, hy, ty⟩ := TpL.get (i := i) h3 (by simpa using q)
    exact ⟨y, by rw [h1]; simpa using hy, ty⟩
theorem TpL.snoc : ∀ {ds : List PyData} {xs : List V} {d : PyData} {x : V}, TpL K H ds xs → Tp K H d x → TpL K H (ds ++ [d]) (xs ++ [x])
  | [], xs, d, x, h, q => by
    have h : xs = [] := h
    rw [h]
    exact ⟨x, [], rfl, q, rfl⟩
  | e :: ds, xs, d, x, h, q => by
    obtain ⟨y, r, h1, h2, h3⟩ := h
    rw [h1]
    exact ⟨y, r ++ [x], rfl, h2, TpL.snoc h3 q⟩
theorem TpL.app : ∀ {ds es : List PyData} {xs ys : List V}, TpL K H ds xs → TpL K H es ys → TpL K H (ds ++ es) (xs ++ ys)
  | [], es, xs, ys, h, q => by
    have h : xs = [] := h
    rw [h]
    exact q
  | d :: ds, es, xs, ys, h, q => by
    obtain ⟨y, r, h1, h2, h3⟩ := h
    rw [h1]
    exact ⟨y, r ++ ys, rfl, h2, TpL.app h3 q⟩
theorem TpL.ints : ∀ (l : List Int) {xs : List V}, TpL K H (l.map .int) xs → xs = l.map V.int
  | [], xs, h => h
  | i :: l, xs, h => by
    obtain ⟨x, r, h1, h2, h3⟩ := h
    have h2 : x = .int i := h2
    rw [h1, h2, TpL.ints l h3]
    rfl
theorem TpL.of_ints : ∀ (l : List Int), TpL K H (l.map .int) (l.map V.int)
  | [] => rfl
  | i :: l => ⟨_, _, rfl, rfl, TpL.of_ints l⟩
theorem TpL.bools : ∀ (l : List Bool) {xs : List V}, TpL K H (l.map .bool) xs → xs = l.map V.bl
  | [], xs, h => h
  | i :: l, xs, h => by
    obtain ⟨x, r, h1, h2, h3⟩ := h
    have h2 : x = .bl i := h2
    rw [h1, h2, TpL.bools l h3]
    rfl
/-- a tuple of ints -/
def dI (l : List Int) : PyData := .tuple (l.map .int)
theorem Tp.iT {l : List Int} {v : V} (h : Tp K H (dI l) v) : ∃ a, v = .ref a ∧ SqT K H a (l.map V.int) := by
  obtain ⟨a, xs, h1, h2, h3⟩ := h
  rw [TpL.ints l h3] at h2
  exact ⟨a, h1, h2⟩
theorem Tp.of_iT {l : List Int} {a : Addr} (h : SqT K H a (l.map V.int)) : Tp K H (dI l) (.ref a) := ⟨a, _, rfl, h, TpL.of_ints l⟩
theorem Tp.tup {ds : List PyData} {v : V} (h : Tp K H (.tuple ds) v) : ∃ a xs, v = .ref a ∧ SqT K H a xs ∧ TpL K H ds xs := h
def tieD (t : Tie) : PyData := .tuple [.int t.1, .int t.2]
theorem Tp.tie {t : Tie} {v : V} (h : Tp K H (tieD t) v) : ∃ a, v = .ref a ∧ SqT K H a [.int t.1, .int t.2] := by
  obtain ⟨a, xs, h1, h2, x, r, h3, h4, y, q, h5, h6, h7⟩ := h
  have h4 : x = _ := h4
  have h6 : y = _ := h6
  have h7 : q = [] := h7
  subst h7 h6 h4
  subst h5
  subst h3
  exact ⟨a, h1, h2⟩
theorem Tp.of_tie {t : Tie} {a : Addr} (h : SqT K H a [.int t.1, .int t.2]) : Tp K H (tieD t) (.ref a) := ⟨a, _, rfl, h, _, _, rfl, rfl, _, _, rfl, rfl, rfl⟩
def webD (ns : List Int) (ts : List Tie) : PyData := .tuple [dI ns, .tuple (ts.map tieD)]
/-- the parts of a web: the tuple of numbers, the tuple of ties -/
theorem Tp.web {ns : List Int} {ts : List Tie} {v : V} (h : Tp K H (webD ns ts) v) : ∃ a b c xs, v = .ref a ∧ SqT K H a [.ref b, .ref c] ∧ SqT K H b (ns.map V.int) ∧ SqT K H c xs ∧ TpL K H (ts.map tieD) xs := by
  obtain ⟨a, xs, h1, h2, x, r, h3, h4, y, q, h5, h6, h7⟩ := h
  have h7 : q = [] := h7
  obtain ⟨b, e1, s1⟩ := Tp.iT h4
  obtain ⟨c, ys, e2, s2, s3⟩ := h6
  subst h7 e1 e2
  subst h5
  subst h3
  exact ⟨a, b, c, ys, h1, h2, s1, s2, s3⟩
end
/-- what a value may be that a loop or an 'in' goes over: a list or a tuple of ints -/
def SqI (K : PySem.W.Frag) (H : Hp) (v : V) (l : List Int) : Prop := ∃ a, v = .ref a ∧ (SqL K H a (l.map V.int) ∨ SqT K H a (l.map V.int))
theorem SqI.mono {K : PySem.W.Frag} {H H' : Hp} {v : V} {l : List Int} (e : Same H H') (h : SqI K H v l) : SqI K H' v l := by
  obtain ⟨a, h1, h2 | h2⟩ := h
  · exact ⟨a, h1, .inl (e.seq h2)⟩
  · exact ⟨a, h1, .inr ((sts e).sqt h2)⟩
theorem Tp.sqi {K : PySem.W.Frag} {H : Hp} {v : V} {l : List Int} (h : Tp K H (dI l) v) : SqI K H v l := by
  obtain ⟨a, h1, h2⟩ := h.iT
  exact ⟨a, h1, .inr h2⟩
end DV
namespace DV
open PySem PySem.Spec L2 DW

section
variable {K : PySem.W.Frag} {α : Type}
/-- one turn of a comprehension that leaves all as it stands: from the item a (its data dec a) it keeps f a where p a holds -/
def Turn1 (K : PySem.W.Frag) (H1 : Hp) (dec : α → PyData) (p : α → Bool) (f : α → PyData) (g : TG) (tt : TT) (te : TE) (vs : List Nat) (σ : St) (a : α) : Prop :=
  ∀ (x : V) (H : Hp) (N0 : Hp → Prop) (N1 : V → Hp → Prop), Same H1 H → Tp K H (dec a) x →
    (p a = false → ∀ H', Same H H' → N0 H') → (p a = true → ∀ y H', Same H H' → Tp K H' (f a) y → N1 y H') →
    g x (wipe σ vs) H fun σ2 H2 => wipe σ2 vs = wipe σ vs ∧ tt σ2 H2 fun b H3 => if b = true then te σ2 H3 N1 else N0 H3
def LcInv (K : PySem.W.Frag) (H1 : Hp) (as : List α) (p : α → Bool) (f : α → PyData) (D : Addr) (i : Nat) (H : Hp) : Prop :=
  Same H1 H ∧ ∃ acc, H D = some (.lst acc) ∧ acc.length ≤ i ∧ TpL K H (((as.take i).filter p).map f) acc
variable {as : List α} {dec : α → PyData} {p : α → Bool} {f : α → PyData} {g : TG} {tt : TT} {te : TE} {vs : List Nat} {σ : St} {H1 : Hp} {D a : Addr} {xs : List V} {Qd : Hp → Prop}
theorem lc_start (hD : H1 D = none) : LcInv K H1 as p f D 0 (upd H1 D (.lst [])) := ⟨same_new hD _, [], upd_same, Nat.le_refl _, rfl⟩
theorem lc_turn {i : Nat} {x : V} {H : Hp} {c : α} (hD : H1 D = none) (hi : i < sizeLine) (hc : as[i]? = some c) (hx : Tp K H1 (dec c) x) (turn : Turn1 K H1 dec p f g tt te vs σ c) (I : LcInv K H1 as p f D i H) :
    g x (wipe σ vs) H fun σ2 H2 => wipe σ2 vs = wipe σ vs ∧ tt σ2 H2 fun b H3 =>
      if b = true then te σ2 H3 fun y H4 => ∃ acc, H4 D = some (.lst acc) ∧ acc.length < sizeLine ∧ LcInv K H1 as p f D (i + 1) (upd H4 D (.lst (acc ++ [y]))) else LcInv K H1 as p f D (i + 1) H3 := by
  obtain ⟨s, acc, hacc, hle, ht⟩ := I
  obtain ⟨hlt, e⟩ := List.getElem?_eq_some_iff.mp hc
  have tk : as.take (i + 1) = as.take i ++ [c] := by rw [List.take_succ_eq_append_getElem hlt, e]
  refine turn x H _ _ s (Tp.mono (sts s) _ _ hx) (fun hp H' s' => ?_) (fun hp y H' s' hy => ?_)
  · refine ⟨s.trans s', acc, s' _ _ hacc, by omega, ?_⟩
    rw [tk, List.filter_append, List.filter_cons_of_neg (by simp [hp]), List.filter_nil, List.append_nil]
    exact TpL.mono (sts s') _ _ ht
  · have hacc' : H' D = some (.lst acc) := s' _ _ hacc
    refine ⟨acc, hacc', by omega, ?_, acc ++ [y], upd_same, by simp; omega, ?_⟩
    · intro b o hb
      have hne : b ≠ D := ne_of_none hb hD
      rw [upd_ne hne]
      exact s' _ _ (s _ _ hb)
    · rw [tk, List.filter_append, List.filter_cons_of_pos hp, List.filter_nil, List.map_append]
      exact TpL.snoc (TpL.mono ((sts s').trans (ts_lst hacc' _)) _ _ ht) (Tp.mono (ts_lst hacc' _) _ _ hy)
theorem lc_fin {n : Nat} {H : Hp} (hn : n = as.length) (I : LcInv K H1 as p f D n H) (done : ∀ (ys : List V) (H : Hp), Same H1 H → H D = some (.lst ys) → TpL K H ((as.filter p).map f) ys → Qd H) : Qd H := by
  obtain ⟨s, acc, hacc, _, ht⟩ := I
  rw [hn, List.take_length] at ht
  exact done acc H s hacc ht
theorem map_len {ds : List α} (hd : TpL K H1 (ds.map dec) xs) : xs.length = ds.length := by rw [hd.len, List.length_map]
theorem get_dec {i : Nat} {x : V} (hd : TpL K H1 (as.map dec) xs) (hx : xs[i]? = some x) : ∃ c, as[i]? = some c ∧ Tp K H1 (dec c) x := by
  have hl := map_len hd
  obtain ⟨h1, _⟩ := List.getElem?_eq_some_iff.mp hx
  have h2 : i < as.length := by omega
  obtain ⟨y, hy, ty⟩ := TpL.get (i := i) (d := dec as[i]) hd (by rw [List.getElem?_map, List.getElem?_eq_getElem h2]; rfl)
  rw [hx] at hy
  cases hy
  exact ⟨as[i], List.getElem?_eq_getElem h2, ty⟩
/-- over a list -/
theorem lc_tpL (hS : SqL K H1 a xs) (hd : TpL K H1 (as.map dec) xs) (hD : H1 D = none) (hz : xs.length ≤ 1000) (turn : ∀ c ∈ as, Turn1 K H1 dec p f g tt te vs σ c)
    (done : ∀ (ys : List V) (H : Hp), Same H1 H → H D = some (.lst ys) → TpL K H ((as.filter p).map f) ys → Qd H) :
    ∃ W : Nat → Nat → Hp → Prop, (∃ m, W 0 m (upd H1 D (.lst []))) ∧ ∀ i m H, W i m H →
      ((Itl K a).stop i H ∧ Qd H) ∨ ((Itl K a).go i H ∧ ∃ Nx : Hp → Prop, (∀ H', Nx H' → ∃ m', m' < m ∧ W (i + 1) m' H') ∧ ∀ x H', (Itl K a).yld i H x H' → g x (wipe σ vs) H' fun σ2 H2 => wipe σ2 vs = wipe σ vs ∧ tt σ2 H2 fun b H3 =>
        if b = true then te σ2 H3 fun y H4 => ∃ acc, H4 D = some (.lst acc) ∧ acc.length < sizeLine ∧ Nx (upd H4 D (.lst (acc ++ [y]))) else Nx H3) := by
  have hsl := small1000 (n := 1000) (Nat.le_refl _)
  refine lc_list (K := K) (a := a) (xs := xs) (LcInv K H1 as p f D) (lc_start hD) (fun i H _ I => I.1.seq hS) (fun i x H hx I => ?_) (fun H I => lc_fin (map_len hd) I done)
  obtain ⟨c, hc, hx'⟩ := get_dec hd hx
  have := (List.getElem?_eq_some_iff.mp hx).1
  exact lc_turn hD (by omega) hc hx' (turn c (List.mem_of_getElem? hc)) I
/-- over a tuple -/
theorem lc_tpT (hS : SqT K H1 a xs) (hd : TpL K H1 (as.map dec) xs) (hD : H1 D = none) (hz : xs.length ≤ 1000) (turn : ∀ c ∈ as, Turn1 K H1 dec p f g tt te vs σ c)
    (done : ∀ (ys : List V) (H : Hp), Same H1 H → H D = some (.lst ys) → TpL K H ((as.filter p).map f) ys → Qd H) :
    ∃ W : Nat → Nat → Hp → Prop, (∃ m, W 0 m (upd H1 D (.lst []))) ∧ ∀ i m H, W i m H →
      ((Itt K a).stop i H ∧ Qd H) ∨ ((Itt K a).go i H ∧ ∃ Nx : Hp → Prop, (∀ H', Nx H' → ∃ m', m' < m ∧ W (i + 1) m' H') ∧ ∀ x H', (Itt K a).yld i H x H' → g x (wipe σ vs) H' fun σ2 H2 => wipe σ2 vs = wipe σ vs ∧ tt σ2 H2 fun b H3 =>
        if b = true then te σ2 H3 fun y H4 => ∃ acc, H4 D = some (.lst acc) ∧ acc.length < sizeLine ∧ Nx (upd H4 D (.lst (acc ++ [y]))) else Nx H3) := by
  have hsl := small1000 (n := 1000) (Nat.le_refl _)
  refine lc_tup (K := K) (a := a) (xs := xs) (LcInv K H1 as p f D) (lc_start hD) (fun i H _ I => (sts I.1).sqt hS) (fun i x H hx I => ?_) (fun H I => lc_fin (map_len hd) I done)
  obtain ⟨c, hc, hx'⟩ := get_dec hd hx
  have := (List.getElem?_eq_some_iff.mp hx).1
  exact lc_turn hD (by omega) hc hx' (turn c (List.mem_of_getElem? hc)) I
/-- over a range -/
theorem lc_tpR {lo : Int} {n : Nat} {p : Nat → Bool} {f : Nat → PyData} (hD : H1 D = none) (hz : n ≤ 1000) (turn : ∀ c, c < n → Turn1 K H1 (fun i : Nat => .int (lo + i)) p f g tt te vs σ c)
    (done : ∀ (ys : List V) (H : Hp), Same H1 H → H D = some (.lst ys) → TpL K H (((List.range n).filter p).map f) ys → Qd H) :
    ∃ W : Nat → Nat → Hp → Prop, (∃ m, W 0 m (upd H1 D (.lst []))) ∧ ∀ i m H, W i m H →
      ((Itr lo n).stop i H ∧ Qd H) ∨ ((Itr lo n).go i H ∧ ∃ Nx : Hp → Prop, (∀ H', Nx H' → ∃ m', m' < m ∧ W (i + 1) m' H') ∧ ∀ x H', (Itr lo n).yld i H x H' → g x (wipe σ vs) H' fun σ2 H2 => wipe σ2 vs = wipe σ vs ∧ tt σ2 H2 fun b H3 =>
        if b = true then te σ2 H3 fun y H4 => ∃ acc, H4 D = some (.lst acc) ∧ acc.length < sizeLine ∧ Nx (upd H4 D (.lst (acc ++ [y]))) else Nx H3) := by
  have hsl := small1000 (n := 1000) (Nat.le_refl _)
  refine lc_range (LcInv K H1 (List.range n) p f D) (lc_start hD) (fun i H hi I => ?_) (fun H I => lc_fin (by simp) I done)
  exact lc_turn (dec := fun i : Nat => .int (lo + i)) hD (by omega) (List.getElem?_range hi) (show V.int (lo + (i : Nat)) = V.int (lo + (i : Nat)) from rfl) (turn i hi) I
end

/-! ### calls -/
structure Cal (P : Program) (w : World) (K : PySem.W.Frag) (mg : Str → Option Value) (base : Heap) (x : Str) (k : Nat) (f : Addr) (fd : FuncData) (ps : List Str) (sp : Sp) : Prop where
  G : FnOk P w K mg base CX0 k f fd ps sp
  b : Binds K fd ps []
  kp : PySem.W.keepIn K (.ref f) = true
  m : mg x = some (.ref f)
theorem pe_cal {X : Cx} {x : Str} {k j : Nat} {f : Addr} {fd : FuncData} {ps : List Str} {sp : Sp} {e : Expr} {es : List Expr} {t : TA} {p pos : Pos} (C : Cal X.prog X.w X.K X.mg X.base x k f fd ps sp) (hr : Room j X.A) (hk : k ≤ j) (ha : PA X (e :: es) t) (hg : Gl X x := by rfl)
    (hdb : (x == ("__debug__" : Str)) = false := by decide) (he : starEach (e :: es) X.env = (false, eval e X.env) :: starEach es X.env := by rfl) (hpl : (backTo pos (starEach es X.env)).any (·.1) = false := by rfl) :
    PE X (.Call (.Name x p) (e :: es) [] pos) (tCall sp [] E0 t) :=
  pe_call C.G (hr.mono hk) hg C.m C.kp C.b .nil pass0 ha hdb he hpl
theorem tcall {sp : Sp} {t : TA} {σ : St} {H : Hp} {Q : VK} (h : t σ H fun vs H1 => sp vs H1 Q E0) : tCall sp [] E0 t σ H Q := by
  unfold tCall
  simpa using h
end DV
namespace DV
open PySem PySem.Spec L2 DW
/-! ### the rules with the written part K said (within comprehensions) -/
section
variable {X : Cx} (K : PySem.W.Frag)
theorem op_inK (h : X.K = K := by rfl) : OpR X (compareOp .In) (rIn K false) := h ▸ op_in_seq
theorem op_ninK (h : X.K = K := by rfl) : OpR X (compareOp .NotIn) (rIn K true) := h ▸ op_notIn_seq
theorem ix_tupK (h : X.K = K := by rfl) : IxR X (rIxT K) := h ▸ ix_tup
theorem ix_listK (h : X.K = K := by rfl) : IxR X (rIxL K) := h ▸ ix_list
theorem pi_listK {tg l : Expr} {tl : TE} (hl : PE X l tl) (h : X.K = K := by rfl) : PI X tg l (iList K tl) := h ▸ pi_list hl
theorem pi_tupK {tg l : Expr} {tl : TE} (hl : PE X l tl) (h : X.K = K := by rfl) : PI X tg l (iTup K tl) := h ▸ pi_tup hl
theorem pg_tupK {es : List Expr} {k : Nat} {t : TGs} {n : Nat} {pos : Pos} (hc : X.calm = true) (h : PGs X es t) (hn : (assignEach es X.env).length = n := by rfl) (hst : (assignEach es X.env).findIdx? (·.1) = none := by rfl) (e : X.K = K := by rfl) :
    PG X (.Tuple es k pos) (gTup K n t) := e ▸ pg_tup hc h hn hst
theorem call_lenK (h : X.K = K := by rfl) : CallR X (.builtin "len") (fun xs H Q => ∃ p ys, xs = [.ref p] ∧ (SqL K H p ys ∨ SqT K H p ys) ∧ Q (.int ys.length) H) := h ▸ call_len_seq
theorem cr_anyK (hc : X.calm = true) (h : X.K = K := by rfl) : CallR X (.builtin "any") (rAny K) := h ▸ cr_any hc
theorem call_tupleK (h : X.K = K := by rfl) : CallR X (.type "tuple") (fun xs H Q => ∃ p ys, xs = [.ref p] ∧ ((SqL K H p ys ∧ ∀ l, H l = none → Q (.ref l) (upd H l (.tup ys))) ∨ (SqT K H p ys ∧ Q (.ref p) H))) := h ▸ call_tuple_of
theorem op_neDK (hu : X.A.units + 64 < cLine) (h : X.K = K := by rfl) : OpR X (compareOp .NotEq) (rNeD K) := h ▸ op_neD hu
theorem op_eqDK (hu : X.A.units + 64 < cLine) (h : X.K = K := by rfl) : OpR X (compareOp .Eq) (rEqD K) := h ▸ op_eqD hu
theorem mt_lcountK (h : X.K = K := by rfl) : MtR X "list.count" (rCntI K) := h ▸ mt_lcount
end
end DV
namespace DV
open PySem PySem.Spec L2 DW
theorem yes {te : TE} {N1 : VK} {N0 : Hp → Prop} {σ2 : L2.St} {H2 : Hp} (h : te σ2 H2 N1) : tYes σ2 H2 fun b H3 => if b = true then te σ2 H3 N1 else N0 H3 := iteT (B := N0 H2) h
end DV
/-! The text by places: printed by gen_text.py -/
namespace DV
open PySem PySem.Spec L2 DW
def topS (i : Nat) : Stmt := PySem.Challenge.pw_duelwebs_k06_whole_free_lots.main.body.getD i (.Pass ⟨0, 0, 0, 0⟩)
/-- is_int: 0 value -/
abbrev sIsInt : Stmt := topS 8
abbrev nIsInt : List Str := ["value"]
theorem scIsInt : FnScope nIsInt ["value"] (defScope sIsInt) := ⟨rfl, rfl, rfl, by decide +kernel, rfl, by decide +kernel, by decide +kernel⟩
/-- is_from: 0 value 1 least 2 most -/
abbrev sIsFrom : Stmt := topS 9
abbrev nIsFrom : List Str := ["value", "least", "most"]
theorem scIsFrom : FnScope nIsFrom ["value", "least", "most"] (defScope sIsFrom) := ⟨rfl, rfl, rfl, by decide +kernel, rfl, by decide +kernel, by decide +kernel⟩
/-- need_from: 0 value 1 least 2 most -/
abbrev sNeedFrom : Stmt := topS 10
abbrev nNeedFrom : List Str := ["value", "least", "most"]
theorem scNeedFrom : FnScope nNeedFrom ["value", "least", "most"] (defScope sNeedFrom) := ⟨rfl, rfl, rfl, by decide +kernel, rfl, by decide +kernel, by decide +kernel⟩
/-- is_tie: 0 value 1 many -/
abbrev sIsTie : Stmt := topS 11
abbrev nIsTie : List Str := ["value", "many"]
theorem scIsTie : FnScope nIsTie ["value", "many"] (defScope sIsTie) := ⟨rfl, rfl, rfl, by decide +kernel, rfl, by decide +kernel, by decide +kernel⟩
/-- need_web: 0 value 1 numbers 2 ties 3 index 4 tie 5 number -/
abbrev sNeedWeb : Stmt := topS 12
abbrev nNeedWeb : List Str := ["value", "numbers", "ties", "index", "tie", "number"]
theorem scNeedWeb : FnScope nNeedWeb ["value"] (defScope sNeedWeb) := ⟨rfl, rfl, rfl, by decide +kernel, rfl, by decide +kernel, by decide +kernel⟩
/-- everybody: 0 web -/
abbrev sEverybody : Stmt := topS 13
abbrev nEverybody : List Str := ["web"]
theorem scEverybody : FnScope nEverybody ["web"] (defScope sEverybody) := ⟨rfl, rfl, rfl, by decide +kernel, rfl, by decide +kernel, by decide +kernel⟩
/-- tied_to: 0 web 1 person 2 found 3 one 4 other -/
abbrev sTiedTo : Stmt := topS 14
abbrev nTiedTo : List Str := ["web", "person", "found", "one", "other"]
theorem scTiedTo : FnScope nTiedTo ["web", "person"] (defScope sTiedTo) := ⟨rfl, rfl, rfl, by decide +kernel, rfl, by decide +kernel, by decide +kernel⟩
/-- hanging: 0 web 1 person 2 lot 3 found 4 edge 5 here 6 other -/
abbrev sHanging : Stmt := topS 15
abbrev nHanging : List Str := ["web", "person", "lot", "found", "edge", "here", "other"]
theorem scHanging : FnScope nHanging ["web", "person", "lot"] (defScope sHanging) := ⟨rfl, rfl, rfl, by decide +kernel, rfl, by decide +kernel, by decide +kernel⟩
/-- parts_of: 0 web 1 lot 2 found 3 left 4 part 5 one -/
abbrev sPartsOf : Stmt := topS 16
abbrev nPartsOf : List Str := ["web", "lot", "found", "left", "part", "one"]
theorem scPartsOf : FnScope nPartsOf ["web", "lot"] (defScope sPartsOf) := ⟨rfl, rfl, rfl, by decide +kernel, rfl, by decide +kernel, by decide +kernel⟩
/-- others: 0 web 1 lot 2 one -/
abbrev sOthers : Stmt := topS 17
abbrev nOthers : List Str := ["web", "lot", "one"]
theorem scOthers : FnScope nOthers ["web", "lot"] (defScope sOthers) := ⟨rfl, rfl, rfl, by decide +kernel, rfl, by decide +kernel, by decide +kernel⟩
/-- border_of: 0 web 1 part 2 lot 3 other 4 one -/
abbrev sBorderOf : Stmt := topS 18
abbrev nBorderOf : List Str := ["web", "part", "lot", "other", "one"]
theorem scBorderOf : FnScope nBorderOf ["web", "part", "lot"] (defScope sBorderOf) := ⟨rfl, rfl, rfl, by decide +kernel, rfl, by decide +kernel, by decide +kernel⟩
/-- least_of: 0 web 1 lot 2 one -/
abbrev sLeastOf : Stmt := topS 19
abbrev nLeastOf : List Str := ["web", "lot", "one"]
theorem scLeastOf : FnScope nLeastOf ["web", "lot"] (defScope sLeastOf) := ⟨rfl, rfl, rfl, by decide +kernel, rfl, by decide +kernel, by decide +kernel⟩
/-- lots_of: 0 many 1 found 2 person 3 lot -/
abbrev sLotsOf : Stmt := topS 20
abbrev nLotsOf : List Str := ["many", "found", "person", "lot"]
theorem scLotsOf : FnScope nLotsOf ["many"] (defScope sLotsOf) := ⟨rfl, rfl, rfl, by decide +kernel, rfl, by decide +kernel, by decide +kernel⟩
/-- is_deep: 0 web 1 piece 2 lot -/
abbrev sIsDeep : Stmt := topS 22
abbrev nIsDeep : List Str := ["web", "piece", "lot"]
theorem scIsDeep : FnScope nIsDeep ["web", "piece", "lot"] (defScope sIsDeep) := ⟨rfl, rfl, rfl, by decide +kernel, rfl, by decide +kernel, by decide +kernel⟩
/-- deep_of: 0 web 1 lot 2 piece -/
abbrev sDeepOf : Stmt := topS 23
abbrev nDeepOf : List Str := ["web", "lot", "piece"]
theorem scDeepOf : FnScope nDeepOf ["web", "lot"] (defScope sDeepOf) := ⟨rfl, rfl, rfl, by decide +kernel, rfl, by decide +kernel, by decide +kernel⟩
/-- cost_of: 0 web 1 lot -/
abbrev sCostOf : Stmt := topS 24
abbrev nCostOf : List Str := ["web", "lot"]
theorem scCostOf : FnScope nCostOf ["web", "lot"] (defScope sCostOf) := ⟨rfl, rfl, rfl, by decide +kernel, rfl, by decide +kernel, by decide +kernel⟩
/-- free_lots: 0 web 1 lot -/
abbrev sFreeLots : Stmt := topS 25
abbrev nFreeLots : List Str := ["web", "lot"]
theorem scFreeLots : FnScope nFreeLots ["web"] (defScope sFreeLots) := ⟨rfl, rfl, rfl, by decide +kernel, rfl, by decide +kernel, by decide +kernel⟩
/-- cost_table: 0 web 1 many 2 found 3 lot 4 size 5 row -/
abbrev sCostTable : Stmt := topS 26
abbrev nCostTable : List Str := ["web", "many", "found", "lot", "size", "row"]
theorem scCostTable : FnScope nCostTable ["web"] (defScope sCostTable) := ⟨rfl, rfl, rfl, by decide +kernel, rfl, by decide +kernel, by decide +kernel⟩
/-- greatest_cost: 0 web 1 size 2 lot -/
abbrev sGreatestCost : Stmt := topS 27
abbrev nGreatestCost : List Str := ["web", "size", "lot"]
theorem scGreatestCost : FnScope nGreatestCost ["web", "size"] (defScope sGreatestCost) := ⟨rfl, rfl, rfl, by decide +kernel, rfl, by decide +kernel, by decide +kernel⟩
/-- least_cost: 0 web 1 size 2 lot -/
abbrev sLeastCost : Stmt := topS 28
abbrev nLeastCost : List Str := ["web", "size", "lot"]
theorem scLeastCost : FnScope nLeastCost ["web", "size"] (defScope sLeastCost) := ⟨rfl, rfl, rfl, by decide +kernel, rfl, by decide +kernel, by decide +kernel⟩
/-- _law_taken: 0 _law_row 1 _law_many 2 _law_found 3 _law_cell -/
abbrev sLawTaken : Stmt := topS 30
abbrev nLawTaken : List Str := ["_law_row", "_law_many", "_law_found", "_law_cell"]
theorem scLawTaken : FnScope nLawTaken ["_law_row", "_law_many"] (defScope sLawTaken) := ⟨rfl, rfl, rfl, by decide +kernel, rfl, by decide +kernel, by decide +kernel⟩
/-- _law_alike: 0 _law_found 1 _law_due 2 _law_k -/
abbrev sLawAlike : Stmt := topS 31
abbrev nLawAlike : List Str := ["_law_found", "_law_due", "_law_k"]
theorem scLawAlike : FnScope nLawAlike ["_law_found", "_law_due"] (defScope sLawAlike) := ⟨rfl, rfl, rfl, by decide +kernel, rfl, by decide +kernel, by decide +kernel⟩
/-- _law_web: 0 _law_row 1 _law_most 2 _law_high 3 _law_many 4 _law_person 5 _law_numbers 6 _law_ties_here 7 _law_turn 8 _law_one -/
abbrev sLawWeb : Stmt := topS 32
abbrev nLawWeb : List Str := ["_law_row", "_law_most", "_law_high", "_law_many", "_law_person", "_law_numbers", "_law_ties_here", "_law_turn", "_law_one"]
theorem scLawWeb : FnScope nLawWeb ["_law_row", "_law_most", "_law_high"] (defScope sLawWeb) := ⟨rfl, rfl, rfl, by decide +kernel, rfl, by decide +kernel, by decide +kernel⟩
/-- _law_ties: 0 _law_web_here 1 _law_person 2 _law_one 3 _law_other -/
abbrev sLawTies : Stmt := topS 33
abbrev nLawTies : List Str := ["_law_web_here", "_law_person", "_law_one", "_law_other"]
theorem scLawTies : FnScope nLawTies ["_law_web_here", "_law_person"] (defScope sLawTies) := ⟨rfl, rfl, rfl, by decide +kernel, rfl, by decide +kernel, by decide +kernel⟩
/-- _law_parts: 0 _law_web_here 1 _law_lot 2 _law_found 3 _law_left 4 _law_some 5 _law_turn 6 _law_one 7 _law_other 8 _law_person -/
abbrev sLawParts : Stmt := topS 34
abbrev nLawParts : List Str := ["_law_web_here", "_law_lot", "_law_found", "_law_left", "_law_some", "_law_turn", "_law_one", "_law_other", "_law_person"]
theorem scLawParts : FnScope nLawParts ["_law_web_here", "_law_lot"] (defScope sLawParts) := ⟨rfl, rfl, rfl, by decide +kernel, rfl, by decide +kernel, by decide +kernel⟩
/-- _law_rest: 0 _law_web_here 1 _law_lot 2 _law_person -/
abbrev sLawRest : Stmt := topS 35
abbrev nLawRest : List Str := ["_law_web_here", "_law_lot", "_law_person"]
theorem scLawRest : FnScope nLawRest ["_law_web_here", "_law_lot"] (defScope sLawRest) := ⟨rfl, rfl, rfl, by decide +kernel, rfl, by decide +kernel, by decide +kernel⟩
/-- _law_border: 0 _law_web_here 1 _law_part 2 _law_lot 3 _law_other 4 _law_one -/
abbrev sLawBorder : Stmt := topS 36
abbrev nLawBorder : List Str := ["_law_web_here", "_law_part", "_law_lot", "_law_other", "_law_one"]
theorem scLawBorder : FnScope nLawBorder ["_law_web_here", "_law_part", "_law_lot"] (defScope sLawBorder) := ⟨rfl, rfl, rfl, by decide +kernel, rfl, by decide +kernel, by decide +kernel⟩
/-- _law_deep: 0 _law_web_here 1 _law_lot 2 _law_found 3 _law_piece 4 _law_low 5 _law_one -/
abbrev sLawDeep : Stmt := topS 37
abbrev nLawDeep : List Str := ["_law_web_here", "_law_lot", "_law_found", "_law_piece", "_law_low", "_law_one"]
theorem scLawDeep : FnScope nLawDeep ["_law_web_here", "_law_lot"] (defScope sLawDeep) := ⟨rfl, rfl, rfl, by decide +kernel, rfl, by decide +kernel, by decide +kernel⟩
/-- _law_lots: 0 _law_many 1 _law_found 2 _law_person 3 _law_lot 4 _law_size -/
abbrev sLawLots : Stmt := topS 38
abbrev nLawLots : List Str := ["_law_many", "_law_found", "_law_person", "_law_lot", "_law_size"]
theorem scLawLots : FnScope nLawLots ["_law_many"] (defScope sLawLots) := ⟨rfl, rfl, rfl, by decide +kernel, rfl, by decide +kernel, by decide +kernel⟩
/-- law: 0 _law_script 1 _law_row 2 _law_web_here 3 _law_many 4 _law_costs 5 _law_table 6 _law_size 7 _law_some 8 _law_low 9 _law_lot 10 _law_price 11 _law_one -/
abbrev sLaw : Stmt := topS 39
abbrev nLaw : List Str := ["_law_script", "_law_row", "_law_web_here", "_law_many", "_law_costs", "_law_table", "_law_size", "_law_some", "_law_low", "_law_lot", "_law_price", "_law_one"]
theorem scLaw : FnScope nLaw ["_law_script"] (defScope sLaw) := ⟨rfl, rfl, rfl, by decide +kernel, rfl, by decide +kernel, by decide +kernel⟩
end DV
namespace DV
open PySem PySem.Spec L2 DW

/-- the names of built-ins that the module leaves alone -/
structure Bi (mg : Str → Option Value) : Prop where
  isinstance : mg "isinstance" = none
  int : mg "int" = none
  bool : mg "bool" = none
  str : mg "str" = none
  tuple : mg "tuple" = none
  list : mg "list" = none
  len : mg "len" = none
  range : mg "range" = none
  sorted : mg "sorted" = none
  min : mg "min" = none
  max : mg "max" = none
  any : mg "any" = none
  all : mg "all" = none
  enumerate : mg "enumerate" = none
theorem bt_isinstance : bootBuiltins "isinstance" = some (.builtin "isinstance") := by decide +kernel
theorem bt_int : bootBuiltins "int" = some (.type "int") := by decide +kernel
theorem bt_bool : bootBuiltins "bool" = some (.type "bool") := by decide +kernel
theorem bt_str : bootBuiltins "str" = some (.type "str") := by decide +kernel
theorem bt_tuple : bootBuiltins "tuple" = some (.type "tuple") := by decide +kernel
theorem bt_list : bootBuiltins "list" = some (.type "list") := by decide +kernel
theorem bt_len : bootBuiltins "len" = some (.builtin "len") := by decide +kernel
theorem bt_sorted : bootBuiltins "sorted" = some (.builtin "sorted") := by decide +kernel
theorem bt_min : bootBuiltins "min" = some (.builtin "min") := by decide +kernel
theorem bt_max : bootBuiltins "max" = some (.builtin "max") := by decide +kernel
theorem bt_any : bootBuiltins "any" = some (.builtin "any") := by decide +kernel
theorem bt_all : bootBuiltins "all" = some (.builtin "all") := by decide +kernel

theorem sqt_ty {K : PySem.W.Frag} {H : Hp} {a : Addr} {xs : List V} (h : SqT K H a xs) : TyX K H (.ref a) (.type "tuple") := by
  rcases h with (h | ⟨o, h⟩) | ⟨o, its, n, h1, h2, _⟩
  · exact .base (.tup h)
  · exact .fTuple h
  · exact .kTuple h1 h2
theorem sql_ty {K : PySem.W.Frag} {H : Hp} {a : Addr} {xs : List V} (h : SqL K H a xs) : TyX K H (.ref a) (.type "list") := by
  rcases h with (h | ⟨o, h⟩) | ⟨o, its, n, h1, h2, _⟩
  · exact .base (.lst h)
  · exact .base (.frz h)
  · exact .kList h1 h2
theorem tuple_no_int {K : PySem.W.Frag} : PySem.W.kitOne K (.type "tuple") (.type "tuple") = some true := kit_ty (by decide +kernel)

/-! ### promises -/
def Ret (K : PySem.W.Frag) (H : Hp) (d : PyData) (Q : VK) : Prop := ∀ (v : V) (H' : Hp), Same H H' → Tp K H' d v → Q v H'
theorem Ret.mono {K : PySem.W.Frag} {H H' : Hp} {d : PyData} {Q : VK} (h : Ret K H d Q) (s : Same H H') : Ret K H' d Q := fun v H2 s2 t => h v H2 (s.trans s2) t
def spIsInt : Sp := fun vs H Q _ => ∃ i : Int, vs = [.int i] ∧ Q (.bl true) H
def spIsFrom : Sp := fun vs H Q _ => ∃ x lo hi : Int, vs = [.int x, .int lo, .int hi] ∧ Q (.bl (decide (lo ≤ x ∧ x ≤ hi))) H
def spNeedFrom : Sp := fun vs H Q _ => ∃ x lo hi : Int, vs = [.int x, .int lo, .int hi] ∧ lo ≤ x ∧ x ≤ hi ∧ Q .non H
def spIsTie (K : PySem.W.Frag) : Sp := fun vs H Q _ => ∃ (v : V) (t : Tie) (n : Int), vs = [v, .int n] ∧ Tp K H (tieD t) v ∧ 0 ≤ t.1 ∧ t.1 < t.2 ∧ t.2 < n ∧ Q (.bl true) H
def spEverybody (K : PySem.W.Frag) : Sp := fun vs H Q _ => ∃ (v : V) (ns : List Int) (ts : List Tie), vs = [v] ∧ Tp K H (webD ns ts) v ∧ ns.length ≤ 6 ∧ Ret K H (dI (persons ns.length)) Q
def spTiedTo (K : PySem.W.Frag) : Sp := fun vs H Q _ => ∃ (v : V) (ns : List Int) (ts : List Tie) (p : Int), vs = [v, .int p] ∧ Tp K H (webD ns ts) v ∧ ts.length ≤ 100 ∧
  ∀ (a : Addr) (H' : Hp), Same H H' → H a = none → H' a = some (.lst ((tied ts p).map V.int)) → Q (.ref a) H'

section
variable {P : Program} {w : World} {K : PySem.W.Frag} {mg : Str → Option Value} {base : Heap} {f : Addr} {fd : FuncData}
theorem ok_is_int (F : Fun K "is_int" "is_int" sIsInt f fd) (B : Bi mg) : FnOk P w K mg base CX0 1 f fd ["value"] spIsInt := by
  refine F.ok scIsInt (fun vs H Q E h => ?_) (fun cdv A outer s H vs Q E hr h => ?_)
  · obtain ⟨i, rfl, _⟩ := h
    rfl
  · obtain ⟨i, rfl, k⟩ := h
    refine ⟨_, pss_one (ps_ret (pe_and (pe_callB call_isi (by rfl) B.isinstance bt_isinstance (pa_cons (pv 0) (pa_cons (pe_bltn (v := .ty "int") (by rfl) B.int bt_int rfl) pa_nil)))
      (pe_one (pe_not (pe_callB call_isi (by rfl) B.isinstance bt_isinstance (pa_cons (pv 0) (pa_cons (pe_bltn (v := .ty "bool") (by rfl) B.bool bt_bool rfl) pa_nil))))))), ?_⟩
    refine ⟨_, rfl, _, _, _, _, true, rfl, .ty _, .base (.int _), kit_ty (by decide +kernel), true, rfl, iteT ?_⟩
    exact ⟨_, rfl, _, _, _, _, false, rfl, .ty _, .base (.int _), kit_ty (by decide +kernel), false, rfl, k⟩
theorem ok_is_from {f1 : Addr} {fd1 : FuncData} (F : Fun K "is_from" "is_from" sIsFrom f fd) (C1 : Cal P w K mg base "is_int" 1 f1 fd1 ["value"] spIsInt) : FnOk P w K mg base CX0 2 f fd ["value", "least", "most"] spIsFrom := by
  refine F.ok scIsFrom (fun vs H Q E h => ?_) (fun cdv A outer s H vs Q E hr h => ?_)
  · obtain ⟨x, lo, hi, rfl, _⟩ := h
    rfl
  · obtain ⟨x, lo, hi, rfl, k⟩ := h
    refine ⟨_, pss_one (ps_ret (pe_and (pe_cal C1 hr (by decide) (pa_cons (pv 0) pa_nil)) (pe_one (pe_chain op_le op_le (pv 1) (pv 0) (pv 2))))), ?_⟩
    refine ⟨_, rfl, x, rfl, true, rfl, iteT ?_⟩
    refine ⟨_, rfl, _, rfl, _, _, rfl, rfl, _, rfl, ?_⟩
    refine ite2 (fun c => ?_) (fun c => ?_)
    · have c' : lo ≤ x := of_decide_eq_true c
      refine ⟨_, rfl, _, _, rfl, rfl, ?_⟩
      have e : decide (x ≤ hi) = decide (lo ≤ x ∧ x ≤ hi) := by simp [c']
      show Q (.bl (decide (x ≤ hi))) H
      rw [e]
      exact k
    · have c' : ¬ lo ≤ x := fun z => c (decide_eq_true z)
      have e : false = decide (lo ≤ x ∧ x ≤ hi) := by simp [c']
      rw [e]
      exact k
theorem ok_need_from {f1 : Addr} {fd1 : FuncData} (F : Fun K "need_from" "need_from" sNeedFrom f fd) (C1 : Cal P w K mg base "is_from" 2 f1 fd1 ["value", "least", "most"] spIsFrom) : FnOk P w K mg base CX0 3 f fd ["value", "least", "most"] spNeedFrom := by
  refine F.ok scNeedFrom (fun vs H Q E h => ?_) (fun cdv A outer s H vs Q E hr h => ?_)
  · obtain ⟨x, lo, hi, rfl, _⟩ := h
    rfl
  · obtain ⟨x, lo, hi, rfl, h1, h2, k⟩ := h
    refine ⟨_, pss_one (ps_if (pt_not (pt_val (pe_cal C1 hr (by decide) (pa_cons (pv 0) (pa_cons (pv 1) (pa_cons (pv 2) pa_nil)))))) (pss_one ps_never) pss_nil), ?_⟩
    refine ⟨_, rfl, _, rfl, _, rfl, x, lo, hi, rfl, _, rfl, ?_⟩
    have e : decide (lo ≤ x ∧ x ≤ hi) = true := decide_eq_true ⟨h1, h2⟩
    rw [e]
    exact iteF k
theorem ok_everybody (F : Fun K "everybody" "everybody" sEverybody f fd) (B : Bi mg) : FnOk P w K mg base CX0 1 f fd ["web"] (spEverybody K) := by
  refine F.ok scEverybody (fun vs H Q E h => ?_) (fun cdv A outer s H vs Q E hr h => ?_)
  · obtain ⟨v, ns, ts, rfl, _⟩ := h
    rfl
  · obtain ⟨v, ns, ts, rfl, hw, hn, k⟩ := h
    obtain ⟨a, b, c, xs, rfl, s1, s2, s3, s4⟩ := hw.web
    refine ⟨_, pss_one (ps_ret (pe_tupRg rfl (by rfl) B.tuple (prg_1 (by rfl) B.range (pe_callB call_len_seq (by rfl) B.len bt_len (pa_cons (pe_ix ix_tup (pv 0) pe_int (fun _ _ => rfl)) pa_nil))))), ?_⟩
    refine ⟨_, rfl, a, _, 0, _, rfl, rfl, s1, atI_nat (j := 0) rfl, b, _, rfl, .inr s2, _, rfl, ?_⟩
    rw [List.length_map]
    refine ⟨RgOk.of_le (by omega) (by omega) (by omega) (by omega), fun q hq => k _ _ (same_new hq _) ?_⟩
    refine Tp.of_iT ?_
    have e : rgV 0 ((ns.length : Nat) : Int) = (persons ns.length).map V.int := by
      unfold rgV persons
      rw [List.map_map]
      have e2 : (((ns.length : Nat) : Int) - 0).toNat = ns.length := by omega
      rw [e2]
      refine List.map_congr_left fun i _ => ?_
      show V.int (0 + (i : Int)) = V.int (i : Int)
      rw [Int.zero_add]
    rw [e]
    exact SqT.of upd_same
end
end DV
namespace DV
open PySem PySem.Spec L2 DW

theorem inV_ints (p : Int) : ∀ l : List Int, inV (.int p) (l.map V.int) = decide (p ∈ l)
  | [] => by simp [inV]
  | x :: l => by
    have ih := inV_ints p l
    unfold inV at *
    rw [List.map_cons, List.any_cons, ih]
    show ((x == p) || decide (p ∈ l)) = decide (p ∈ x :: l)
    by_cases e : x = p
    · subst e; simp
    · have e' : ¬ p = x := fun z => e z.symm
      simp [e, e']
theorem flat_ints (l : List Int) : (l.map V.int).all flatV = true := by
  rw [List.all_map]
  exact List.all_eq_true.mpr fun _ _ => rfl
theorem rin_ints {K : PySem.W.Frag} {H : Hp} {Q : VK} {p : Int} {y : V} {l : List Int} {neg : Bool} (h : SqI K H y l) (k : Q (.bl (if neg then !decide (p ∈ l) else decide (p ∈ l))) H) : rIn K neg (.int p) y H Q := by
  obtain ⟨a, rfl, h⟩ := h
  refine ⟨a, _, rfl, h, rfl, flat_ints l, ?_⟩
  rw [inV_ints]
  exact k
theorem Tp.fst {K : PySem.W.Frag} {H : Hp} {t : Tie} {v : V} (h : Tp K H (tieD t) v) : True := trivial
theorem num_at {ns : List Int} {p : Int} (h : p ∈ persons ns.length) : atI (ns.map V.int) p = some (.int (num ns p)) := by
  obtain ⟨h0, h1⟩ := mem_persons.mp h
  have e : p = ((p.toNat : Nat) : Int) := by omega
  have hl : p.toNat < ns.length := by omega
  rw [e]
  refine atI_nat ?_
  rw [List.getElem?_map, List.getElem?_eq_getElem hl]
  show some (V.int ns[p.toNat]) = some (V.int (num ns ((p.toNat : Nat) : Int)))
  unfold num
  rw [Int.toNat_natCast, List.getD_eq_getElem?_getD, List.getElem?_eq_getElem hl]
  rfl

def spOthers (K : PySem.W.Frag) : Sp := fun vs H Q _ => ∃ (v u : V) (ns : List Int) (ts : List Tie) (lot : List Int), vs = [v, u] ∧ Tp K H (webD ns ts) v ∧ Tp K H (dI lot) u ∧ ns.length ≤ 6 ∧ Ret K H (dI (others ns.length lot)) Q
def spLeast (K : PySem.W.Frag) : Sp := fun vs H Q _ => ∃ (v u : V) (ns : List Int) (ts : List Tie) (lot : List Int), vs = [v, u] ∧ Tp K H (webD ns ts) v ∧ Tp K H (dI lot) u ∧ lot ≠ [] ∧ lot ⊆ persons ns.length ∧ lot.length ≤ 100 ∧
  ∀ H', Same H H' → Q (.int (leastOf ns lot)) H'
def spBorder (K : PySem.W.Frag) : Sp := fun vs H Q _ => ∃ (v u z : V) (ns : List Int) (ts : List Tie) (part lot : List Int), vs = [v, u, z] ∧ Tp K H (webD ns ts) v ∧ Tp K H (dI part) u ∧ Tp K H (dI lot) z ∧ ts.length ≤ 100 ∧ lot.length ≤ 100 ∧
  Ret K H (dI (border ts part lot)) Q
section
variable {P : Program} {w : World} {K : PySem.W.Frag} {mg : Str → Option Value} {base : Heap} {f : Addr} {fd : FuncData}
theorem ok_is_tie {f1 : Addr} {fd1 : FuncData} (F : Fun K "is_tie" "is_tie" sIsTie f fd) (B : Bi mg) (C1 : Cal P w K mg base "is_from" 2 f1 fd1 ["value", "least", "most"] spIsFrom) : FnOk P w K mg base CX0 3 f fd ["value", "many"] (spIsTie K) := by
  refine F.ok scIsTie (fun vs H Q E h => ?_) (fun cdv A outer s H vs Q E hr h => ?_)
  · obtain ⟨v, t, n, rfl, _⟩ := h
    rfl
  · obtain ⟨v, t, n, rfl, ht, h0, h1, h2, k⟩ := h
    obtain ⟨a, rfl, s1⟩ := ht.tie
    refine ⟨_, pss_cons (ps_if (PW.pt (pw_or (pt_not (pt_val (pe_callB call_isi (by rfl) B.isinstance bt_isinstance (pa_cons (pv 0) (pa_cons (pe_bltn (v := .ty "tuple") (by rfl) B.tuple bt_tuple rfl) pa_nil)))))
        (pw_or1 (pt_cmpR op_ne (pe_callB call_len_seq (by rfl) B.len bt_len (pa_cons (pv 0) pa_nil)) pe_int (nomark _))))) (pss_one (ps_ret pe_bl)) pss_nil)
      (pss_one (ps_ret (pe_and (pe_cal C1 hr (by decide) (pa_cons (pe_ix ix_tup (pv 0) pe_int (fun _ _ => rfl)) (pa_cons pe_int (pa_cons (pe_op op_sub (pv 1) pe_int) pa_nil))))
        (pe_and (pe_cal C1 hr (by decide) (pa_cons (pe_ix ix_tup (pv 0) pe_int (fun _ _ => rfl)) (pa_cons pe_int (pa_cons (pe_op op_sub (pv 1) pe_int) pa_nil))))
          (pe_one (pe_cmpR op_lt (pe_ix ix_tup (pv 0) pe_int (fun _ _ => rfl)) (pe_ix ix_tup (pv 0) pe_int (fun _ _ => rfl)) (nomark _))))))), ?_⟩
    refine ⟨_, rfl, _, _, _, _, true, rfl, .ty _, sqt_ty s1, kit_ty (by decide +kernel), true, rfl, iteF ?_⟩
    refine ⟨_, rfl, a, _, rfl, .inr s1, rfl, _, rfl, iteF ?_⟩
    refine ⟨_, rfl, a, _, 0, _, rfl, rfl, s1, atI_nat (j := 0) rfl, _, rfl, _, _, rfl, rfl, _, _, _, rfl, _, rfl, ?_⟩
    have e1 : decide (0 ≤ t.1 ∧ t.1 ≤ n - 1) = true := decide_eq_true ⟨h0, by omega⟩
    rw [e1]
    refine iteT ?_
    refine ⟨_, rfl, a, _, 1, _, rfl, rfl, s1, atI_nat (j := 1) rfl, _, rfl, _, _, rfl, rfl, _, _, _, rfl, _, rfl, ?_⟩
    have e2 : decide (0 ≤ t.2 ∧ t.2 ≤ n - 1) = true := decide_eq_true ⟨by omega, by omega⟩
    rw [e2]
    refine iteT ?_
    refine ⟨_, rfl, a, _, 0, _, rfl, rfl, s1, atI_nat (j := 0) rfl, _, rfl, a, _, 1, _, rfl, rfl, s1, atI_nat (j := 1) rfl, _, _, rfl, rfl, ?_⟩
    have e3 : decide (t.1 < t.2) = true := decide_eq_true h1
    show Q (.bl (decide (t.1 < t.2))) H
    rw [e3]
    exact k
theorem ok_tied_to (F : Fun K "tied_to" "tied_to" sTiedTo f fd) (B : Bi mg) : FnOk P w K mg base CX0 1 f fd ["web", "person"] (spTiedTo K) := by
  refine F.ok scTiedTo (fun vs H Q E h => ?_) (fun cdv A outer s H vs Q E hr h => ?_)
  · obtain ⟨v, ns, ts, p, rfl, _⟩ := h
    rfl
  · obtain ⟨v, ns, ts, p, rfl, hw, hl, k⟩ := h
    obtain ⟨a, b, c, xs, rfl, s1, s2, s3, s4⟩ := hw.web
    refine ⟨_, pss_cons (ps_set (i := 2) scTiedTo.nd rfl (Or.inl rfl) (pe_lst pa_nil))
      (pss_cons (ps_for PassesOwn.never rfl (pi_tup (pe_ix ix_tup (pv 0) pe_int (fun _ _ => rfl))) (pg_tup rfl (pgs_cons (pg_name (i := 3) scTiedTo.nd rfl (Or.inl rfl)) (pgs_cons (pg_name (i := 4) scTiedTo.nd rfl (Or.inl rfl)) pgs_nil)))
        (pss_one (ps_if (pt_cmpR op_in_seq (pv 1) (pe_tup (pa_cons (pv 3) (pa_cons (pv 4) pa_nil))) (by rfl))
          (pss_one (ps_expr (pe_bm PySem.F.plainAttrs_list PySem.F.slot_list_append PySem.F.type_list_append mt_append (pv 2) (pa_cons (pe_op op_sub (pe_op op_add (pv 3) (pv 4)) (pv 1)) pa_nil)))) pss_nil)))
      (pss_one (ps_ret (pe_callB cr_sortedI (by rfl) B.sorted bt_sorted (pa_cons (pv 2) pa_nil))))), ?_⟩
    refine ⟨Nat.zero_le _, fun l hl0 => ?_⟩
    have s0 : Same H (upd H l (.lst [])) := same_new hl0 _
    have hxs := map_len s4
    refine ⟨_, rfl, a, _, 1, _, rfl, rfl, (sts s0).sqt s1, atI_nat (j := 1) rfl, c, rfl, ⟨_, (sts s0).sqt s3⟩, ?_⟩
    refine for_tup (K := K) (a := c) (xs := xs) (fun i σ H' => ∃ (y z : Option V), σ = [some (.ref a), some (.int p), some (.ref l), y, z] ∧ Same H H' ∧ H' l = some (.lst ((tiedL (ts.take i) p).map V.int)))
      ⟨none, none, rfl, s0, upd_same⟩ (fun i σ H' _ ⟨_, _, _, s, _⟩ => (sts s).sqt s3) ?_ ?_
    · rintro i x σ H' hi ⟨y, z, rfl, s, hl'⟩
      obtain ⟨t, htc, htx⟩ := get_dec s4 hi
      obtain ⟨q, rfl, sq⟩ := (Tp.mono (sts s) _ _ htx).tie
      have hlt := (List.getElem?_eq_some_iff.mp htc).1
      have tk : ts.take (i + 1) = ts.take i ++ [t] := by rw [List.take_succ_eq_append_getElem hlt, (List.getElem?_eq_some_iff.mp htc).2]
      refine ⟨q, _, rfl, sq, rfl, _, _, rfl, _, _, rfl, rfl, ?_⟩
      refine ⟨_, rfl, _, rfl, _, rfl, (by show 2 ≤ sizeLine; decide), fun d hd => ?_⟩
      have hdl : l ≠ d := ne_of_none hl' hd
      have s' : Same H (upd H' d (.tup [.int t.1, .int t.2])) := s.trans (same_new hd _)
      refine rin_ints (l := [t.1, t.2]) ⟨d, rfl, .inr (SqT.of upd_same)⟩ ⟨_, rfl, ?_⟩
      have ein : (if false then !decide (p ∈ [t.1, t.2]) else decide (p ∈ [t.1, t.2])) = touch p t := by
        unfold touch
        by_cases e1 : p = t.1 <;> by_cases e2 : p = t.2 <;> simp [e1, e2]
      rw [ein]
      refine ite2 (fun ct => ?_) (fun ct => ?_)
      · refine ⟨_, rfl, .inl ⟨rfl, _, SqL.of ((upd_ne hdl).trans hl')⟩, _, rfl, _, rfl, _, _, rfl, rfl, _, rfl, _, _, rfl, rfl, l, _, _, rfl, rfl, (upd_ne hdl).trans hl', ?_, ?_⟩
        · rw [List.length_map]
          unfold tiedL
          rw [List.length_map]
          refine small1000 ?_
          have h1 := List.length_filter_le (touch p) (ts.take i)
          have h2 := List.length_take_le i ts
          have h3 := List.length_take_le' i ts
          omega
        · refine ⟨_, _, rfl, fun b o e => ?_, ?_⟩
          · have hbl : b ≠ l := ne_of_none e hl0
            rw [upd_ne hbl]
            exact s' _ _ e
          · rw [upd_same, tk]
            unfold tiedL
            rw [List.filter_append, List.filter_cons_of_pos ct, List.filter_nil, List.map_append, List.map_append]
            rfl
      · refine ⟨_, _, rfl, s', ?_⟩
        rw [upd_ne hdl, hl', tk]
        unfold tiedL
        rw [List.filter_append, List.filter_cons_of_neg ct, List.filter_nil, List.append_nil]
    · rintro σ H' ⟨y, z, rfl, s, hl'⟩
      rw [hxs, List.take_length] at hl'
      refine ⟨_, rfl, l, _, rfl, SqL.of hl', fun ns' q h1 h2 hq => ?_⟩
      refine k q _ (s.trans (same_new hq _)) (s.free hq) ?_
      rw [upd_same, isort_uniq h1 h2]
      rfl
theorem ok_others {f1 : Addr} {fd1 : FuncData} (F : Fun K "others" "others" sOthers f fd) (B : Bi mg) (C1 : Cal P w K mg base "everybody" 1 f1 fd1 ["web"] (spEverybody K)) : FnOk P w K mg base CX0 2 f fd ["web", "lot"] (spOthers K) := by
  refine F.ok scOthers (fun vs H Q E h => ?_) (fun cdv A outer s H vs Q E hr h => ?_)
  · obtain ⟨v, u, ns, ts, lot, rfl, _⟩ := h
    rfl
  · obtain ⟨v, u, ns, ts, lot, rfl, hw, hl, hn, k⟩ := h
    refine ⟨_, pss_one (ps_ret (pe_callTy call_tuple_of (by rfl) B.tuple bt_tuple (pa_cons (pe_lc (own := [("one", 2)]) (g := gName 2) rfl scOthers.nd (pi_tup (pe_cal C1 hr (by decide) (pa_cons (pv 0) pa_nil)))
      (blkOk_by (N := nOthers) (sc := defScope sOthers) (by decide +kernel)) (fun _ _ _ _ _ => pg_name (i := 2) scOthers.nd rfl (Or.inl rfl))
      (fun _ _ _ _ _ => pts_one (pt_cmpR (op_ninK K) (pv 2) (pv 1) (by rfl))) (fun _ _ _ _ _ => pv 2)) pa_nil))), ?_⟩
    refine ⟨_, rfl, v, ns, ts, rfl, hw, hn, fun z H1 e1 tz => ?_⟩
    obtain ⟨a, rfl, sa⟩ := tz.iT
    refine ⟨a, rfl, ⟨_, sa⟩, fun D hD => ?_⟩
    refine lc_tpT (K := K) (as := persons ns.length) (dec := .int) (p := fun x => decide (x ∉ lot)) (f := .int) sa (TpL.of_ints _) hD (by rw [List.length_map, length_persons]; omega) (fun c _ => ?_) (fun ys H2 e2 hy ty => ?_)
    · intro x H2 N0 N1 e2 hx n0 n1
      obtain rfl : x = .int c := hx
      refine ⟨rfl, _, rfl, _, rfl, ?_⟩
      refine rin_ints (Tp.sqi (Tp.mono (sts (e1.trans e2)) _ _ hl)) ⟨_, rfl, ?_⟩
      refine ite2 (fun ct => ?_) (fun ct => ?_)
      · exact ⟨_, rfl, n1 (by simpa using ct) _ _ (Same.refl _) rfl⟩
      · exact n0 (by simpa using ct) _ (Same.refl _)
    · rw [TpL.ints _ ty] at hy
      refine ⟨D, _, rfl, .inl ⟨SqL.of hy, fun q hq => k _ _ ((e1.trans e2).trans (same_new hq _)) (Tp.of_iT (SqT.of upd_same))⟩⟩
theorem ok_least_of (F : Fun K "least_of" "least_of" sLeastOf f fd) (B : Bi mg) : FnOk P w K mg base CX0 1 f fd ["web", "lot"] (spLeast K) := by
  refine F.ok scLeastOf (fun vs H Q E h => ?_) (fun cdv A outer s H vs Q E hr h => ?_)
  · obtain ⟨v, u, ns, ts, lot, rfl, _⟩ := h
    rfl
  · obtain ⟨v, u, ns, ts, lot, rfl, hw, hl, hne, hsub, hlen, k⟩ := h
    obtain ⟨a, b, c, xs, rfl, s1, s2, s3, s4⟩ := hw.web
    obtain ⟨d, rfl, sd⟩ := hl.iT
    refine ⟨_, pss_one (ps_ret (pe_callB (cr_min rfl) (by rfl) B.min bt_min (pa_cons (pe_lc (own := [("one", 2)]) (g := gName 2) rfl scLeastOf.nd (pi_tup (pv 1))
      (blkOk_by (N := nLeastOf) (sc := defScope sLeastOf) (by decide +kernel)) (fun _ _ _ _ _ => pg_name (i := 2) scLeastOf.nd rfl (Or.inl rfl))
      (fun _ _ _ _ _ => pts_nil) (fun _ _ _ _ _ => pe_ix (ix_tupK K) (pe_ix (ix_tupK K) (pv 0) pe_int (fun _ _ => rfl)) (pv 2) (fun _ _ => rfl))) pa_nil))), ?_⟩
    refine ⟨_, rfl, d, rfl, ⟨_, sd⟩, fun D hD => ?_⟩
    refine lc_tpT (K := K) (as := lot) (dec := .int) (p := fun _ => true) (f := fun x => .int (num ns x)) sd (TpL.of_ints _) hD (by rw [List.length_map]; omega) (fun c' hc => ?_) (fun ys H2 e2 hy ty => ?_)
    · intro x H2 N0 N1 e2 hx n0 n1
      obtain rfl : x = .int c' := hx
      refine ⟨rfl, yes ?_⟩
      refine ⟨_, rfl, a, _, 0, _, rfl, rfl, (sts e2).sqt s1, atI_nat (j := 0) rfl, _, rfl, b, _, c', _, rfl, rfl, (sts e2).sqt s2, num_at (hsub hc), ?_⟩
      exact n1 rfl _ _ (Same.refl _) rfl
    · have e : (lot.filter fun _ => true) = lot := List.filter_eq_self.mpr fun _ _ => rfl
      rw [e, show lot.map (fun x => PyData.int (num ns x)) = (lot.map (num ns)).map PyData.int by rw [List.map_map]; rfl] at ty
      rw [TpL.ints _ ty] at hy
      refine ⟨D, _, rfl, SqL.of hy, ?_, fun m hm hle => ?_⟩
      · rw [List.length_map]
        exact List.length_pos_iff.mpr hne
      · rw [minL_uniq hm hle]
        exact k _ e2
end
end DV
namespace DV
open PySem PySem.Spec L2 DW

theorem depthAll_ints : ∀ l : List Int, PyData.depthAll (l.map .int) = 0
  | [] => by simp [PyData.depthAll]
  | x :: l => by simp [PyData.depthAll, PyData.depth, depthAll_ints l]
theorem canLayAll_ints : ∀ l : List Int, PyData.canLayAll0 (l.map .int) = true
  | [] => by simp [PyData.canLayAll0]
  | x :: l => by simp [PyData.canLayAll0, PyData.canLay0, canLayAll_ints l]
theorem shaped_ints (l : List Int) : SeqAt.shaped (.list (l.map .int)) = true := by
  simp [SeqAt.shaped, PyData.canLay0, PyData.depth, canLayAll_ints, depthAll_ints]
theorem shaped_tints (l : List Int) : SeqAt.shaped (dI l) = true := by
  simp [dI, SeqAt.shaped, PyData.canLay0, PyData.depth, canLayAll_ints, depthAll_ints]
theorem eqv_ints_nil (l : List Int) : PyData.eqv (.list (l.map .int)) (.list []) = decide (l = []) := by
  cases l <;> simp [PyData.eqv, PyData.eqvAll]
/-- xs != [] of a list of ints -/
theorem rne_nil {K : PySem.W.Frag} {H : Hp} {Q : VK} {a b : Addr} {l : List Int} (h : SqL K H a (l.map V.int)) (h' : SqL K H b []) (k : Q (.bl (!decide (l = []))) H) : rNeD K (.ref a) (.ref b) H Q := by
  refine ⟨.list (l.map .int), .list [], .lst h (TpL.dp _ _ (TpL.of_ints l)), .lst h' .nil, shaped_ints l, shaped_ints [], ?_⟩
  rw [eqv_ints_nil]
  exact k

def lcScope : Expr → Scope
  | .ListComp _ _ sc _ => sc
  | _ => { kind := .function, names := [], isGenerator := false, isCoroutine := false }
/-- the first argument of the call that is returned -/
def retArg : List Stmt → Expr
  | [.Return (some (.Call _ (a :: _) _ _)) _] => a
  | _ => .Constant .none 0 ⟨0, 0, 0, 0⟩

def spHanging (K : PySem.W.Frag) : Sp := fun vs H Q _ => ∃ (v u : V) (ns : List Int) (ts : List Tie) (p : Int) (lot : List Int), vs = [v, .int p, u] ∧ Tp K H (webD ns ts) v ∧ SqI K H u lot ∧ ts.length ≤ 100 ∧ lot.length ≤ 100 ∧ Rise lot ∧ p ∈ lot ∧
  Ret K H (dI (comp ts lot p)) Q
section
variable {P : Program} {w : World} {K : PySem.W.Frag} {mg : Str → Option Value} {base : Heap} {f : Addr} {fd : FuncData}
theorem ok_border {f1 : Addr} {fd1 : FuncData} (F : Fun K "border_of" "border_of" sBorderOf f fd) (B : Bi mg) (C1 : Cal P w K mg base "tied_to" 1 f1 fd1 ["web", "person"] (spTiedTo K)) : FnOk P w K mg base CX0 2 f fd ["web", "part", "lot"] (spBorder K) := by
  refine F.ok scBorderOf (fun vs H Q E h => ?_) (fun cdv A outer s H vs Q E hr h => ?_)
  · obtain ⟨v, u, z, ns, ts, part, lot, rfl, _⟩ := h
    rfl
  · obtain ⟨v, u, z, ns, ts, part, lot, rfl, hw, hp, hl, ht, hn, k⟩ := h
    obtain ⟨d, rfl, sd⟩ := hl.iT
    refine ⟨_, pss_one (ps_ret (pe_callTy call_tuple_of (by rfl) B.tuple bt_tuple (pa_cons (pe_lc (own := [("one", 4)]) (g := gName 4) rfl scBorderOf.nd (pi_tup (pv 2))
      (blkOk_by (N := nBorderOf) (sc := defScope sBorderOf) (by decide +kernel)) (fun _ _ _ _ _ => pg_name (i := 4) scBorderOf.nd rfl (Or.inl rfl))
      (fun _ _ _ _ _ => pts_one (pt_val (pe_callB (cr_anyK K rfl) (by rfl) B.any bt_any (pa_cons (pe_lc (own := [("other", 3)]) (g := gName 3) rfl scBorderOf.nd (pi_listK K (pe_cal C1 hr (by decide) (pa_cons (pv 0) (pa_cons (pv 4) pa_nil))))
        (blkOk_by (N := nBorderOf) (sc := relS (lcScope (retArg (defBody sBorderOf))) (defScope sBorderOf)) (by decide +kernel)) (fun _ _ _ _ _ => pg_name (i := 3) scBorderOf.nd rfl (Or.inl rfl))
        (fun _ _ _ _ _ => pts_nil) (fun _ _ _ _ _ => pe_cmpR (op_inK K) (pv 3) (pv 1) (by rfl))) pa_nil))))
      (fun _ _ _ _ _ => pv 4)) pa_nil))), ?_⟩
    refine ⟨_, rfl, d, rfl, ⟨_, sd⟩, fun D hD => ?_⟩
    refine lc_tpT (K := K) (as := lot) (dec := .int) (p := fun one => (tied ts one).any fun o => decide (o ∈ part)) (f := .int) sd (TpL.of_ints _) hD (by rw [List.length_map]; omega) (fun c hc => ?_) (fun ys H2 e2 hy ty => ?_)
    · intro x H2 N0 N1 e2 hx n0 n1
      obtain rfl : x = .int c := hx
      refine ⟨rfl, ?_⟩
      refine ⟨_, rfl, _, rfl, v, ns, ts, c, rfl, Tp.mono (sts e2) _ _ hw, ht, fun a H3 e3 _ ha => ?_⟩
      refine ⟨a, rfl, ⟨_, SqL.of ha⟩, fun D2 hD2 => ?_⟩
      have hlen : ((tied ts c).map V.int).length ≤ 1000 := by
        rw [List.length_map]
        unfold tied
        rw [length_isort]
        unfold tiedL
        rw [List.length_map]
        have := List.length_filter_le (touch c) ts
        omega
      refine lc_tpL (K := K) (as := tied ts c) (dec := .int) (p := fun _ => true) (f := fun o => .bool (decide (o ∈ part))) (SqL.of ha) (TpL.of_ints _) hD2 hlen (fun o ho => ?_) (fun ys H4 e4 hy ty => ?_)
      · intro x H4 M0 M1 e4 hx m0 m1
        obtain rfl : x = .int o := hx
        refine ⟨rfl, yes ?_⟩
        refine ⟨_, rfl, _, rfl, rin_ints (Tp.sqi (Tp.mono (sts ((e2.trans e3).trans e4)) _ _ hp)) ?_⟩
        exact m1 rfl _ _ (Same.refl _) rfl
      · have e : ((tied ts c).filter fun _ => true) = tied ts c := List.filter_eq_self.mpr fun _ _ => rfl
        rw [e, show (tied ts c).map (fun o => PyData.bool (decide (o ∈ part))) = ((tied ts c).map fun o => decide (o ∈ part)).map PyData.bool by rw [List.map_map]; rfl] at ty
        rw [TpL.bools _ ty] at hy
        refine ⟨D2, _, rfl, SqL.of hy, _, rfl, ?_⟩
        have eb : ((tied ts c).map fun o => decide (o ∈ part)).any id = (tied ts c).any fun o => decide (o ∈ part) := by rw [List.any_map]; rfl
        rw [eb]
        refine ite2 (fun ct => ?_) (fun ct => ?_)
        · exact ⟨_, rfl, n1 ct _ _ (e3.trans e4) rfl⟩
        · exact n0 (by simpa using ct) _ (e3.trans e4)
    · rw [TpL.ints _ ty] at hy
      exact ⟨D, _, rfl, .inl ⟨SqL.of hy, fun q hq => k _ _ (e2.trans (same_new hq _)) (Tp.of_iT (SqT.of upd_same))⟩⟩
/-- the measure of the search -/
def hMeas (n : Nat) (fl el : Addr) (H : Hp) : Nat := match H fl, H el with
  | some (.lst xs), some (.lst ys) => 2 * (n - xs.length) + ys.length
  | _, _ => 0
theorem hMeas_eq {n : Nat} {fl el : Addr} {H : Hp} {f e : List Int} (h1 : H fl = some (.lst (f.map V.int))) (h2 : H el = some (.lst (e.map V.int))) : hMeas n fl el H = 2 * (n - f.length) + e.length := by
  unfold hMeas
  rw [h1, h2]
  simp
theorem ok_hanging {f1 : Addr} {fd1 : FuncData} (F : Fun K "hanging" "hanging" sHanging f fd) (B : Bi mg) (C1 : Cal P w K mg base "tied_to" 1 f1 fd1 ["web", "person"] (spTiedTo K)) : FnOk P w K mg base CX0 2 f fd ["web", "person", "lot"] (spHanging K) := by
  refine F.ok scHanging (fun vs H Q E h => ?_) (fun cdv A outer s H vs Q E hr h => ?_)
  · obtain ⟨v, u, ns, ts, p, lot, rfl, _⟩ := h
    rfl
  · obtain ⟨v, u, ns, ts, p, lot, rfl, hw, hl, ht, hn, hR, hp, k⟩ := h
    refine ⟨_, pss_cons (ps_par (i := 3) (j := 4) (by rfl) scHanging.nd rfl rfl (by decide) rfl rfl (pa_cons (pe_lst (pa_cons (pv 1) pa_nil)) (pa_cons (pe_lst (pa_cons (pv 1) pa_nil)) pa_nil)) (by rfl))
      (pss_cons (ps_while PassesOwn.never (pt_cmpR (op_neD hr.units) (pv 4) (pe_lst pa_nil) (nomark _))
        (pss_cons (ps_set (i := 5) scHanging.nd rfl (Or.inl rfl) (pe_bm0 PySem.F.plainAttrs_list PySem.F.slot_list_pop PySem.F.type_list_pop mt_pop (pv 4)))
        (pss_one (ps_for PassesOwn.never rfl (pi_list (pe_cal C1 hr (by decide) (pa_cons (pv 0) (pa_cons (pv 5) pa_nil)))) (pg_name (i := 6) scHanging.nd rfl (Or.inl rfl))
          (pss_one (ps_if (PW.pt (pw_and (pt_cmpR op_in_seq (pv 6) (pv 2) (by rfl)) (pw_and1 (pt_cmpR op_notIn_seq (pv 6) (pv 3) (by rfl)))))
            (pss_cons (ps_expr (pe_bm PySem.F.plainAttrs_list PySem.F.slot_list_append PySem.F.type_list_append mt_append (pv 3) (pa_cons (pv 6) pa_nil)))
              (pss_one (ps_expr (pe_bm PySem.F.plainAttrs_list PySem.F.slot_list_append PySem.F.type_list_append mt_append (pv 4) (pa_cons (pv 6) pa_nil))))) pss_nil))))))
      (pss_one (ps_ret (pe_callTy call_tuple_of (by rfl) B.tuple bt_tuple (pa_cons (pe_callB cr_sortedI (by rfl) B.sorted bt_sorted (pa_cons (pv 3) pa_nil)) pa_nil))))), ?_⟩
    refine ⟨_, rfl, (by show 1 ≤ sizeLine; decide), fun fl hfl => ⟨_, rfl, (by show 1 ≤ sizeLine; decide), fun el hel => ⟨_, _, rfl, ?_⟩⟩⟩
    have nef : fl ≠ el := ne_of_none upd_same hel
    have hel0 : H el = none := by
      rw [upd_ne nef.symm] at hel
      exact hel
    have s0 : Same H (upd (upd H fl (.lst [.int p])) el (.lst [.int p])) := (same_new hfl _).trans (same_new hel _)
    refine while_by (fun σ H' => ∃ (f e : List Int) (y z : Option V), σ = [some v, some (.int p), some u, some (.ref fl), some (.ref el), y, z] ∧ Same H H' ∧ H' fl = some (.lst (f.map V.int)) ∧ H' el = some (.lst (e.map V.int)) ∧ HInv ts lot p f e ∧ meas lot f e ≤ 200)
      (fun σ H' => hMeas lot.length fl el H') ⟨[p], [p], none, none, rfl, s0, (upd_ne nef).trans upd_same, upd_same, hinv_start hp, (by unfold meas; simp only [List.length_singleton]; omega)⟩ ?_ ?_
    · rintro σ H1 ⟨fo, e, y, z, rfl, s1, h1, h2, I, hm⟩
      refine ⟨_, rfl, Nat.zero_le _, fun b hb => ?_⟩
      have nb : ∀ {c : Addr} {o : HO}, H1 c = some o → c ≠ b := fun e => ne_of_none e hb
      refine rne_nil (SqL.of ((upd_ne (nb h2)).trans h2)) (SqL.of upd_same) ⟨_, rfl, ?_⟩
      have s2 : Same H (upd H1 b (.lst [])) := s1.trans (same_new hb _)
      have h1' : upd H1 b (.lst []) fl = some (.lst (fo.map V.int)) := (upd_ne (nb h1)).trans h1
      have h2' : upd H1 b (.lst []) el = some (.lst (e.map V.int)) := (upd_ne (nb h2)).trans h2
      generalize upd H1 b (.lst []) = H2 at s2 h1' h2'
      refine ite2 (fun ce => ?_) (fun ce => ?_)
      · have ene : e ≠ [] := by simpa using ce
        have eq : e = e.dropLast ++ [e.getLast ene] := (List.dropLast_concat_getLast ene).symm
        generalize e.dropLast = e0 at eq
        generalize e.getLast ene = here at eq
        subst eq
        refine ⟨_, rfl, .inl ⟨rfl, _, SqL.of h2'⟩, el, _, .int here, rfl, rfl, h2', ?_, ?_⟩
        · simp
        · have edl : ((e0 ++ [here]).map V.int).dropLast = e0.map V.int := by simp
          rw [edl]
          have s3 : Same H (upd H2 el (.lst (e0.map V.int))) := fun c o hc => by
            rw [upd_ne (ne_of_none hc hel0)]
            exact s2 _ _ hc
          refine ⟨_, rfl, _, rfl, v, ns, ts, here, rfl, Tp.mono (sts s3) _ _ hw, ht, fun a H4 s4 ha0 ha => ?_⟩
          have h3f : H4 fl = some (.lst (fo.map V.int)) := s4 _ _ ((upd_ne nef).trans h1')
          have h3e : H4 el = some (.lst (e0.map V.int)) := s4 _ _ upd_same
          have naf : fl ≠ a := ne_of_none ((upd_ne nef).trans h1') ha0
          have nae : el ≠ a := ne_of_none upd_same ha0
          have mone : hMeas lot.length fl el H1 = meas lot fo (e0 ++ [here]) := hMeas_eq h1 h2
          obtain ⟨J, lt⟩ := hinv_step I
          refine ⟨a, rfl, ⟨_, SqL.of ha⟩, for_list (K := K) (a := a) (xs := (tied ts here).map V.int) (fun i σ H' => ∃ (o : Option V), σ = [some v, some (.int p), some u, some (.ref fl), some (.ref el), some (.int here), o] ∧ Same H H' ∧ H' a = some (.lst ((tied ts here).map V.int)) ∧
            H' fl = some (.lst ((sweep lot (fo, e0) ((tied ts here).take i)).1.map V.int)) ∧ H' el = some (.lst ((sweep lot (fo, e0) ((tied ts here).take i)).2.map V.int))) ⟨_, rfl, s3.trans s4, ha, h3f, h3e⟩ (fun i σ H' _ ⟨_, _, _, q, _⟩ => SqL.of q) ?_ ?_⟩
          · rintro i x σ H' hi ⟨o, rfl, s5, ga, gf, ge⟩
            obtain ⟨hi', hx⟩ := List.getElem?_eq_some_iff.mp hi
            rw [List.length_map] at hi'
            rw [List.getElem_map] at hx
            subst hx
            have tk : (tied ts here).take (i + 1) = (tied ts here).take i ++ [(tied ts here)[i]] := List.take_succ_eq_append_getElem hi'
            have sn : sweep lot (fo, e0) ((tied ts here).take (i + 1)) = sw lot (sweep lot (fo, e0) ((tied ts here).take i)) (tied ts here)[i] := by rw [tk, sweep_snoc]
            generalize (tied ts here)[i] = o1 at sn
            generalize hfe : sweep lot (fo, e0) ((tied ts here).take i) = fe at sn gf ge
            have flen : fe.1.length ≤ 100 ∧ fe.2.length ≤ 1000 := by
              have h0 : HMid ts lot p here [] fo e0 := ⟨I.nd, I.hp, I.es _ (by simp), I.sub, fun q hq => I.es q (List.mem_append_left _ hq), fun q hq hn hne r ha hr => I.closed q hq (fun z => by
                rcases List.mem_append.mp z with z | z
                · exact hn z
                · exact hne (by simpa using z)) r ha hr, fun r hr => by cases hr⟩
              obtain ⟨g1, g2⟩ := hmid_sweep (f := fo) (e := e0) ((tied ts here).take i) [] (fo, e0) h0 fun o ho => mem_tied.mp (List.mem_of_mem_take ho)
              rw [hfe] at g1 g2
              have q1 := List.Nodup.length_le_of_subset g1.nd fun q hq => (g1.sub q hq).1
              unfold meas at g2 hm
              simp only [List.length_append, List.length_singleton] at g2 hm
              constructor <;> omega
            refine ⟨_, rfl, _, rfl, rin_ints (hl.mono s5) ⟨_, rfl, ?_⟩⟩
            have fin : ∀ (H3 : Hp), Same H H3 → H3 a = some (.lst ((tied ts here).map V.int)) → H3 fl = some (.lst ((sw lot fe o1).1.map V.int)) → H3 el = some (.lst ((sw lot fe o1).2.map V.int)) →
                ∃ (o : Option V), [some v, some (.int p), some u, some (.ref fl), some (.ref el), some (.int here), some (.int o1)] = [some v, some (.int p), some u, some (.ref fl), some (.ref el), some (.int here), o] ∧ Same H H3 ∧ H3 a = some (.lst ((tied ts here).map V.int)) ∧
                  H3 fl = some (.lst ((sweep lot (fo, e0) ((tied ts here).take (i + 1))).1.map V.int)) ∧ H3 el = some (.lst ((sweep lot (fo, e0) ((tied ts here).take (i + 1))).2.map V.int)) := fun H3 a1 a2 a3 a4 => ⟨_, rfl, a1, a2, by rw [sn]; exact a3, by rw [sn]; exact a4⟩
            refine ite2 (fun c1 => ?_) (fun c1 => ?_)
            · have c1' : o1 ∈ lot := by simpa using c1
              refine ⟨_, rfl, _, rfl, rin_ints ⟨fl, rfl, .inl (SqL.of gf)⟩ ⟨_, rfl, ?_⟩⟩
              refine ite2 (fun c2 => ?_) (fun c2 => ?_)
              · have c2' : o1 ∉ fe.1 := by simpa using c2
                have esw : sw lot fe o1 = (fe.1 ++ [o1], fe.2 ++ [o1]) := by unfold sw; rw [if_pos ⟨c1', c2'⟩]
                refine ⟨_, rfl, .inl ⟨rfl, _, SqL.of gf⟩, _, rfl, fl, _, _, rfl, rfl, gf, ?_, ?_⟩
                · rw [List.length_map]; exact small1000 (by omega)
                · have ge2 : upd H' fl (.lst (fe.1.map V.int ++ [V.int o1])) el = some (.lst (fe.2.map V.int)) := (upd_ne nef.symm).trans ge
                  refine ⟨_, rfl, .inl ⟨rfl, _, SqL.of ge2⟩, _, rfl, el, _, _, rfl, rfl, ge2, ?_, ?_⟩
                  · rw [List.length_map]; exact small1000 (by omega)
                  · refine fin _ (fun c o hc => ?_) ?_ ?_ ?_
                    · rw [upd_ne (ne_of_none hc hel0), upd_ne (ne_of_none hc hfl)]
                      exact s5 _ _ hc
                    · rw [upd_ne nae.symm, upd_ne naf.symm]; exact ga
                    · rw [upd_ne nef, upd_same, esw, List.map_append]; rfl
                    · rw [upd_same, esw, List.map_append]; rfl
              · have c2' : ¬ (o1 ∈ lot ∧ o1 ∉ fe.1) := fun z => c2 (by simpa using z.2)
                have esw : sw lot fe o1 = fe := by unfold sw; rw [if_neg c2']
                exact fin _ s5 ga (by rw [esw]; exact gf) (by rw [esw]; exact ge)
            · have c1' : ¬ (o1 ∈ lot ∧ o1 ∉ fe.1) := fun z => c1 (by simpa using z.1)
              have esw : sw lot fe o1 = fe := by unfold sw; rw [if_neg c1']
              exact fin _ s5 ga (by rw [esw]; exact gf) (by rw [esw]; exact ge)
          · rintro σ H' ⟨o, rfl, s5, ga, gf, ge⟩
            rw [List.length_map, List.take_length] at gf ge
            refine ⟨⟨_, _, _, _, rfl, s5, gf, ge, J, by omega⟩, ?_⟩
            show hMeas lot.length fl el H' < hMeas lot.length fl el H1
            rw [mone, hMeas_eq gf ge]
            exact lt
      · have ee : e = [] := by simpa using ce
        subst ee
        refine ⟨_, rfl, fl, _, rfl, SqL.of h1', fun ns' q g1 g2 hq => ?_⟩
        refine ⟨q, _, rfl, .inl ⟨SqL.of upd_same, fun q2 hq2 => ?_⟩⟩
        refine k _ _ ((s2.trans (same_new hq _)).trans (same_new hq2 _)) (Tp.of_iT ?_)
        rw [← hinv_end I hR, ← isort_uniq g1 g2]
        exact SqT.of upd_same
    · rintro σ H1 Q1 Q2 hQ ⟨x, e1, m1, m2⟩
      exact ⟨x, e1, m1, fun b hb => by
        obtain ⟨d, e, d1, d2, d3, d4, kk, e5, q⟩ := m2 b hb
        exact ⟨d, e, d1, d2, d3, d4, kk, e5, hQ _ _ q⟩⟩
end
end DV
namespace DV
open PySem PySem.Spec L2 DW

def lotsT (ps : List (List Int)) : PyData := .tuple (ps.map dI)
def spPartsOf (K : PySem.W.Frag) : Sp := fun vs H Q _ => ∃ (v u : V) (ns : List Int) (ts : List Tie) (lot : List Int), vs = [v, u] ∧ Tp K H (webD ns ts) v ∧ Tp K H (dI lot) u ∧ ts.length ≤ 100 ∧ lot.length ≤ 100 ∧ Rise lot ∧
  Ret K H (lotsT (partsOf ts lot)) Q
def spIsDeep (K : PySem.W.Frag) : Sp := fun vs H Q _ => ∃ (v u z : V) (ns : List Int) (ts : List Tie) (piece lot : List Int), vs = [v, u, z] ∧ Tp K H (webD ns ts) v ∧ Tp K H (dI piece) u ∧ Tp K H (dI lot) z ∧ ts.length ≤ 100 ∧ piece.length ≤ 100 ∧ lot.length ≤ 100 ∧
  piece ≠ [] ∧ piece ⊆ persons ns.length ∧ lot ⊆ persons ns.length ∧ border ts piece lot ≠ [] ∧ ∀ H', Same H H' → Q (.bl (deepB ns ts lot piece)) H'
def spDeepOf (K : PySem.W.Frag) : Sp := fun vs H Q _ => ∃ (v u : V) (ns : List Int) (ts : List Tie) (lot : List Int), vs = [v, u] ∧ Tp K H (webD ns ts) v ∧ Tp K H (dI lot) u ∧ WebOk ns ts ∧ lot ≠ [] ∧ lot ⊆ persons ns.length ∧ lot.length ≤ 100 ∧
  Ret K H (lotsT (deepOf ns ts lot)) Q
def spCostOf (K : PySem.W.Frag) : Sp := fun vs H Q _ => ∃ (v u : V) (ns : List Int) (ts : List Tie) (lot : List Int), vs = [v, u] ∧ Tp K H (webD ns ts) v ∧ Tp K H (dI lot) u ∧ WebOk ns ts ∧ lot ≠ [] ∧ lot ⊆ persons ns.length ∧ lot.length ≤ 100 ∧
  ∀ H', Same H H' → Q (.int (cost ns ts lot)) H'
/-- the length of the list in slot i -/
def slotLen (i : Nat) (σ : L2.St) (H : Hp) : Nat := match σ[i]? with
  | some (some (.ref a)) => (match H a with
    | some (.lst xs) => xs.length
    | _ => 0)
  | _ => 0
section
variable {P : Program} {w : World} {K : PySem.W.Frag} {mg : Str → Option Value} {base : Heap} {f : Addr} {fd : FuncData}
theorem ok_parts_of {f1 : Addr} {fd1 : FuncData} (F : Fun K "parts_of" "parts_of" sPartsOf f fd) (B : Bi mg) (C1 : Cal P w K mg base "hanging" 2 f1 fd1 ["web", "person", "lot"] (spHanging K)) : FnOk P w K mg base CX0 3 f fd ["web", "lot"] (spPartsOf K) := by
  refine F.ok scPartsOf (fun vs H Q E h => ?_) (fun cdv A outer s H vs Q E hr h => ?_)
  · obtain ⟨v, u, ns, ts, lot, rfl, _⟩ := h
    rfl
  · obtain ⟨v, u, ns, ts, lot, rfl, hw, hl, ht, hn, hR, k⟩ := h
    obtain ⟨d, rfl, sd⟩ := hl.iT
    refine ⟨_, pss_cons (ps_par (i := 2) (j := 3) (by rfl) scPartsOf.nd rfl rfl (by decide) rfl rfl (pa_cons (pe_lst pa_nil) (pa_cons (pe_callTy call_list_of (by rfl) B.list bt_list (pa_cons (pv 1) pa_nil)) pa_nil)) (by rfl))
      (pss_cons (ps_while PassesOwn.never (pt_cmpR (op_neD hr.units) (pv 3) (pe_lst pa_nil) (nomark _))
        (pss_cons (ps_set (i := 4) scPartsOf.nd rfl (Or.inr rfl) (pe_cal C1 hr (by decide) (pa_cons (pv 0) (pa_cons (pe_ix ix_list (pv 3) pe_int (fun _ _ => rfl)) (pa_cons (pv 3) pa_nil)))))
        (pss_cons (ps_expr (pe_bm PySem.F.plainAttrs_list PySem.F.slot_list_append PySem.F.type_list_append mt_append (pv 2) (pa_cons (pv 4) pa_nil)))
        (pss_one (ps_setLc (i := 3) (own := [("one", 5)]) (g := gName 5) rfl scPartsOf.nd rfl rfl (sw_true rfl rfl rfl (by decide +kernel)) (pi_list (pv 3))
          (blkOk_by (N := nPartsOf) (sc := defScope sPartsOf) (by decide +kernel)) (fun _ _ _ _ _ => pg_name (i := 5) scPartsOf.nd rfl (Or.inl rfl))
          (fun _ _ _ _ _ => pts_one (pt_cmpR (op_ninK K) (pv 5) (pv 4) (by rfl))) (fun _ _ _ _ _ => pv 5))))))
      (pss_one (ps_ret (pe_callTy call_tuple_of (by rfl) B.tuple bt_tuple (pa_cons (pv 2) pa_nil))))), ?_⟩
    refine ⟨Nat.zero_le _, fun fl hfl => ?_⟩
    have sA : Same H (upd H fl (.lst [])) := same_new hfl _
    refine ⟨_, rfl, d, _, rfl, .inr ((sts sA).sqt sd), fun la hla => ⟨_, _, rfl, ?_⟩⟩
    have nfl : fl ≠ la := ne_of_none upd_same hla
    have s0 : Same H (upd (upd H fl (.lst [])) la (.lst (lot.map V.int))) := sA.trans (same_new hla _)
    refine while_by (fun σ H' => ∃ (la : Addr) (l : List Int) (fs : List V) (done : List (List Int)) (y z : Option V), σ = [some v, some (.ref d), some (.ref fl), some (.ref la), y, z] ∧ Same H H' ∧ fl ≠ la ∧ H' la = some (.lst (l.map V.int)) ∧ H' fl = some (.lst fs) ∧ TpL K H' (done.map dI) fs ∧
        done ++ partsOf ts l = partsOf ts lot ∧ Rise l ∧ l.length ≤ 100 ∧ done.length + l.length ≤ lot.length) (fun σ H' => slotLen 3 σ H')
      ⟨la, lot, [], [], none, none, rfl, s0, nfl, upd_same, (upd_ne nfl).trans upd_same, rfl, rfl, hR, hn, by simp⟩ ?_ ?_
    · rintro σ H1 ⟨la, l, fs, done, y, z, rfl, s1, nfl, h1, h2, h3, h4, h5, h6, h7⟩
      refine ⟨_, rfl, Nat.zero_le _, fun b hb => ?_⟩
      have nb : ∀ {c : Addr} {o : HO}, H1 c = some o → c ≠ b := fun e => ne_of_none e hb
      have mone : slotLen 3 [some v, some (.ref d), some (.ref fl), some (.ref la), y, z] H1 = l.length := by
        show (match H1 la with | some (.lst xs) => xs.length | _ => 0) = _
        rw [h1]; simp
      refine rne_nil (SqL.of ((upd_ne (nb h1)).trans h1)) (SqL.of upd_same) ⟨_, rfl, ?_⟩
      have s2 : Same H (upd H1 b (.lst [])) := s1.trans (same_new hb _)
      have h1' : upd H1 b (.lst []) la = some (.lst (l.map V.int)) := (upd_ne (nb h1)).trans h1
      have h2' : upd H1 b (.lst []) fl = some (.lst fs) := (upd_ne (nb h2)).trans h2
      have h3' : TpL K (upd H1 b (.lst [])) (done.map dI) fs := TpL.mono (ts_new hb _) _ _ h3
      generalize upd H1 b (.lst []) = H2 at s2 h1' h2' h3'
      refine ite2 (fun ce => ?_) (fun ce => ?_)
      · cases l with
        | nil => simp at ce
        | cons x r =>
          refine ⟨_, rfl, _, rfl, la, _, 0, _, rfl, rfl, SqL.of h1', atI_nat (j := 0) rfl, _, rfl, v, _, ns, ts, x, x :: r, rfl, Tp.mono (sts s2) _ _ hw, ⟨la, rfl, .inl (SqL.of h1')⟩, ht, h6, h5, List.mem_cons_self, fun pv H3 e3 tp => ?_⟩
          have g1 : H3 la = some (.lst ((x :: r).map V.int)) := e3 _ _ h1'
          have g2 : H3 fl = some (.lst fs) := e3 _ _ h2'
          have g3 := TpL.mono (sts e3) _ _ h3'
          have flen : fs.length ≤ 100 := by
            have := map_len g3
            simp only [List.length_cons] at h7
            omega
          refine ⟨_, rfl, .inl ⟨rfl, _, SqL.of g2⟩, _, rfl, fl, _, _, rfl, rfl, g2, small1000 (by omega), ?_⟩
          have t4 : TS H3 (upd H3 fl (.lst (fs ++ [pv]))) := ts_lst g2 _
          have s4 : Same H (upd H3 fl (.lst (fs ++ [pv]))) := fun c o hc => by
            rw [upd_ne (ne_of_none hc hfl)]
            exact e3 _ _ (s2 _ _ hc)
          have g1' : upd H3 fl (.lst (fs ++ [pv])) la = some (.lst ((x :: r).map V.int)) := (upd_ne nfl.symm).trans g1
          have g2' : upd H3 fl (.lst (fs ++ [pv])) fl = some (.lst (fs ++ [pv])) := upd_same
          have g3' : TpL K (upd H3 fl (.lst (fs ++ [pv]))) ((done ++ [comp ts (x :: r) x]).map dI) (fs ++ [pv]) := by
            rw [List.map_append]
            exact TpL.snoc (TpL.mono t4 _ _ g3) (Tp.mono t4 _ _ tp)
          have tp' := Tp.mono t4 _ _ tp
          generalize upd H3 fl (.lst (fs ++ [pv])) = H4 at s4 g1' g2' g3' tp'
          refine ⟨_, rfl, la, rfl, ⟨_, SqL.of g1'⟩, fun D hD => ?_⟩
          refine lc_tpL (K := K) (as := x :: r) (dec := .int) (p := fun y => decide (y ∉ comp ts (x :: r) x)) (f := .int) (SqL.of g1') (TpL.of_ints _) hD (by rw [List.length_map]; omega) (fun c _ => ?_) (fun ys H5 e5 hy ty => ?_)
          · intro x2 H5 N0 N1 e5 hx n0 n1
            obtain rfl : x2 = .int c := hx
            refine ⟨rfl, _, rfl, _, rfl, ?_⟩
            refine rin_ints (Tp.sqi (Tp.mono (sts e5) _ _ tp')) ⟨_, rfl, ?_⟩
            refine ite2 (fun ct => ?_) (fun ct => ?_)
            · exact ⟨_, rfl, n1 (by simpa using ct) _ _ (Same.refl _) rfl⟩
            · exact n0 (by simpa using ct) _ (Same.refl _)
          · rw [TpL.ints _ ty] at hy
            have ew : (x :: r).filter (fun y => decide (y ∉ comp ts (x :: r) x)) = DW.without (x :: r) (comp ts (x :: r) x) := rfl
            rw [ew] at hy
            have lt := without_lt (l := x :: r) (m := comp ts (x :: r) x) (x := x) List.mem_cons_self (self_comp List.mem_cons_self)
            have hfD : fl ≠ D := ne_of_none g2' hD
            refine ⟨⟨D, DW.without (x :: r) (comp ts (x :: r) x), _, done ++ [comp ts (x :: r) x], _, _, rfl, s4.trans e5, hfD, hy, e5 _ _ g2', TpL.mono (sts e5) _ _ g3', ?_, h5.filter _, by omega, by simp only [List.length_append, List.length_singleton]; omega⟩, ?_⟩
            · rw [← h4, partsOf_cons, List.append_assoc]
              rfl
            · show slotLen 3 _ H5 < _
              rw [mone]
              show (match H5 D with | some (.lst xs) => xs.length | _ => 0) < _
              rw [hy]
              simpa using lt
      · have ee : l = [] := by simpa using ce
        subst ee
        rw [partsOf_nil, List.append_nil] at h4
        refine ⟨_, rfl, fl, _, rfl, .inl ⟨SqL.of h2', fun q hq => k _ _ (s2.trans (same_new hq _)) ⟨q, fs, rfl, SqT.of upd_same, ?_⟩⟩⟩
        rw [← h4]
        exact TpL.mono (ts_new hq _) _ _ h3'
    · rintro σ H1 Q1 Q2 hQ ⟨x, e1, m1, m2⟩
      exact ⟨x, e1, m1, fun b hb => by
        obtain ⟨d, e, d1, d2, d3, d4, kk, e5, q⟩ := m2 b hb
        exact ⟨d, e, d1, d2, d3, d4, kk, e5, hQ _ _ q⟩⟩
theorem ok_is_deep {f1 f2 : Addr} {fd1 fd2 : FuncData} (F : Fun K "is_deep" "is_deep" sIsDeep f fd) (C1 : Cal P w K mg base "least_of" 1 f1 fd1 ["web", "lot"] (spLeast K)) (C2 : Cal P w K mg base "border_of" 2 f2 fd2 ["web", "part", "lot"] (spBorder K)) :
    FnOk P w K mg base CX0 3 f fd ["web", "piece", "lot"] (spIsDeep K) := by
  refine F.ok scIsDeep (fun vs H Q E h => ?_) (fun cdv A outer s H vs Q E hr h => ?_)
  · obtain ⟨v, u, z, ns, ts, piece, lot, rfl, _⟩ := h
    rfl
  · obtain ⟨v, u, z, ns, ts, piece, lot, rfl, hw, hp, hl, h1, h2, h3, h4, h5, h6, h7, k⟩ := h
    refine ⟨_, pss_one (ps_ret (pe_cmpR op_lt (pe_cal C1 hr (by decide) (pa_cons (pv 0) (pa_cons (pv 1) pa_nil))) (pe_cal C1 hr (by decide) (pa_cons (pv 0) (pa_cons (pe_cal C2 hr (by decide) (pa_cons (pv 0) (pa_cons (pv 1) (pa_cons (pv 2) pa_nil)))) pa_nil))) (nomark _))), ?_⟩
    refine ⟨_, rfl, _, rfl, v, u, ns, ts, piece, rfl, hw, hp, h4, h5, h2, fun H1 e1 => ?_⟩
    refine ⟨_, rfl, _, rfl, _, rfl, _, rfl, v, u, z, ns, ts, piece, lot, rfl, Tp.mono (sts e1) _ _ hw, Tp.mono (sts e1) _ _ hp, Tp.mono (sts e1) _ _ hl, h1, h3, fun bv H2 e2 tb => ?_⟩
    have hsub : border ts piece lot ⊆ persons ns.length := fun x hx => h6 (mem_border.mp hx).1
    have hlen : (border ts piece lot).length ≤ 100 := Nat.le_trans (List.length_filter_le _ _) h3
    refine ⟨v, bv, ns, ts, border ts piece lot, rfl, Tp.mono (sts (e1.trans e2)) _ _ hw, tb, h7, hsub, hlen, fun H3 e3 => ?_⟩
    exact ⟨_, _, rfl, rfl, k _ ((e1.trans e2).trans e3)⟩
theorem ok_deep_of {f1 f2 f3 : Addr} {fd1 fd2 fd3 : FuncData} (F : Fun K "deep_of" "deep_of" sDeepOf f fd) (B : Bi mg) (C1 : Cal P w K mg base "parts_of" 3 f1 fd1 ["web", "lot"] (spPartsOf K)) (C2 : Cal P w K mg base "others" 2 f2 fd2 ["web", "lot"] (spOthers K))
    (C3 : Cal P w K mg base "is_deep" 3 f3 fd3 ["web", "piece", "lot"] (spIsDeep K)) : FnOk P w K mg base CX0 4 f fd ["web", "lot"] (spDeepOf K) := by
  refine F.ok scDeepOf (fun vs H Q E h => ?_) (fun cdv A outer s H vs Q E hr h => ?_)
  · obtain ⟨v, u, ns, ts, lot, rfl, _⟩ := h
    rfl
  · obtain ⟨v, u, ns, ts, lot, rfl, hw, hl, W, h1, h2, h3, k⟩ := h
    refine ⟨_, pss_one (ps_ret (pe_callTy call_tuple_of (by rfl) B.tuple bt_tuple (pa_cons (pe_lc (own := [("piece", 2)]) (g := gName 2) rfl scDeepOf.nd
      (pi_tup (pe_cal C1 hr (by decide) (pa_cons (pv 0) (pa_cons (pe_cal C2 hr (by decide) (pa_cons (pv 0) (pa_cons (pv 1) pa_nil))) pa_nil))))
      (blkOk_by (N := nDeepOf) (sc := defScope sDeepOf) (by decide +kernel)) (fun _ _ _ _ _ => pg_name (i := 2) scDeepOf.nd rfl (Or.inl rfl))
      (fun _ _ _ _ _ => pts_one (pt_val (pe_cal C3 hr (by decide) (pa_cons (pv 0) (pa_cons (pv 2) (pa_cons (pv 1) pa_nil)))))) (fun _ _ _ _ _ => pv 2)) pa_nil))), ?_⟩
    refine ⟨_, rfl, _, rfl, _, rfl, v, u, ns, ts, lot, rfl, hw, hl, W.n6, fun ov H1 e1 to => ?_⟩
    have olen : (others ns.length lot).length ≤ 100 := by
      have a := List.length_filter_le (fun y => decide (y ∉ lot)) (persons ns.length)
      have b := length_persons ns.length
      have c := W.n6
      unfold others DW.without
      omega
    refine ⟨v, ov, ns, ts, others ns.length lot, rfl, Tp.mono (sts e1) _ _ hw, to, W.tlen, olen, others_rise _ _, fun pv H2 e2 tp => ?_⟩
    obtain ⟨a, xs, rfl, sx, tx⟩ := tp.tup
    have plen := parts_len (ts := ts) (others ns.length lot)
    refine ⟨a, rfl, ⟨_, sx⟩, fun D hD => ?_⟩
    refine lc_tpT (K := K) (as := partsOf ts (others ns.length lot)) (dec := dI) (p := deepB ns ts lot) (f := dI) sx tx hD (by rw [map_len tx]; omega) (fun c hc => ?_) (fun ys H3 e3 hy ty => ?_)
    · intro x H3 N0 N1 e3 hx n0 n1
      have hm := mem_parts _ hc
      have e13 := (e1.trans e2).trans e3
      have clen : c.length ≤ 100 := Nat.le_trans (piece_len _ hc) olen
      refine ⟨rfl, _, rfl, _, rfl, _, rfl, v, x, u, ns, ts, c, lot, rfl, Tp.mono (sts e13) _ _ hw, hx, Tp.mono (sts e13) _ _ hl, W.tlen, clen, h3, hm.1, fun y hy => (mem_without.mp (hm.2 hy)).1, h2, border_ne W h1 h2 hc, fun H4 e4 => ?_⟩
      refine ⟨_, rfl, ?_⟩
      refine ite2 (fun ct => ?_) (fun ct => ?_)
      · exact ⟨_, rfl, n1 ct _ _ e4 (Tp.mono (sts e4) _ _ hx)⟩
      · exact n0 (by simpa using ct) _ e4
    · refine ⟨D, _, rfl, .inl ⟨SqL.of hy, fun q hq => k _ _ (((e1.trans e2).trans e3).trans (same_new hq _)) ⟨q, ys, rfl, SqT.of upd_same, TpL.mono (ts_new hq _) _ _ ty⟩⟩⟩
theorem ok_cost_of {f1 : Addr} {fd1 : FuncData} (F : Fun K "cost_of" "cost_of" sCostOf f fd) (B : Bi mg) (C1 : Cal P w K mg base "deep_of" 4 f1 fd1 ["web", "lot"] (spDeepOf K)) : FnOk P w K mg base CX0 5 f fd ["web", "lot"] (spCostOf K) := by
  refine F.ok scCostOf (fun vs H Q E h => ?_) (fun cdv A outer s H vs Q E hr h => ?_)
  · obtain ⟨v, u, ns, ts, lot, rfl, _⟩ := h
    rfl
  · obtain ⟨v, u, ns, ts, lot, rfl, hw, hl, W, h1, h2, h3, k⟩ := h
    refine ⟨_, pss_one (ps_ret (pe_callB call_len_seq (by rfl) B.len bt_len (pa_cons (pe_cal C1 hr (by decide) (pa_cons (pv 0) (pa_cons (pv 1) pa_nil))) pa_nil))), ?_⟩
    refine ⟨_, rfl, _, rfl, v, u, ns, ts, lot, rfl, hw, hl, W, h1, h2, h3, fun dv H1 e1 td => ?_⟩
    obtain ⟨a, xs, rfl, sx, tx⟩ := td.tup
    refine ⟨a, _, rfl, .inr sx, ?_⟩
    rw [map_len tx]
    exact k _ e1
end
end DV
namespace DV
open PySem PySem.Spec L2 DW

/-- a promise of a list: new, of the data ds -/
def RetL (K : PySem.W.Frag) (H : Hp) (ds : List PyData) (Q : VK) : Prop := ∀ (a : Addr) (xs : List V) (H' : Hp), Same H H' → H a = none → H' a = some (.lst xs) → TpL K H' ds xs → Q (.ref a) H'
def spLawRest (K : PySem.W.Frag) : Sp := fun vs H Q _ => ∃ (v u : V) (ns : List Int) (ts : List Tie) (lot : List Int), vs = [v, u] ∧ Tp K H (webD ns ts) v ∧ Tp K H (dI lot) u ∧ ns.length ≤ 6 ∧ Ret K H (dI (others ns.length lot)) Q
def spLawParts (K : PySem.W.Frag) : Sp := fun vs H Q _ => ∃ (v u : V) (ns : List Int) (ts : List Tie) (lot : List Int), vs = [v, u] ∧ Tp K H (webD ns ts) v ∧ Tp K H (dI lot) u ∧ ts.length ≤ 100 ∧ lot.length ≤ 100 ∧ Rise lot ∧
  RetL K H ((partsOf ts lot).map dI) Q
def spLawDeep (K : PySem.W.Frag) : Sp := fun vs H Q _ => ∃ (v u : V) (ns : List Int) (ts : List Tie) (lot : List Int), vs = [v, u] ∧ Tp K H (webD ns ts) v ∧ Tp K H (dI lot) u ∧ WebOk ns ts ∧ lot ≠ [] ∧ lot ⊆ persons ns.length ∧ lot.length ≤ 100 ∧
  RetL K H ((deepOf ns ts lot).map dI) Q
theorem tied_len (ts : List Tie) (p : Int) : (tied ts p).length ≤ ts.length := by
  unfold tied
  rw [length_isort]
  unfold tiedL
  rw [List.length_map]
  exact List.length_filter_le _ _
theorem touch_eq (p : Int) (t : Tie) : decide (p ∈ [t.1, t.2]) = touch p t := by
  unfold touch
  by_cases e1 : p = t.1 <;> by_cases e2 : p = t.2 <;> simp [e1, e2]
theorem filter_ne_nil {l : List Int} {q : Int → Bool} : (!decide (l.filter q = [])) = l.any q := by
  by_cases h : l.any q = true
  · rw [h]
    obtain ⟨x, hx, hq⟩ := List.any_eq_true.mp h
    have : l.filter q ≠ [] := List.ne_nil_of_mem (List.mem_filter.mpr ⟨hx, hq⟩)
    simp [this]
  · have h' : l.any q = false := by simpa using h
    rw [h']
    have : l.filter q = [] := List.filter_eq_nil_iff.mpr fun x hx hq => h (List.any_eq_true.mpr ⟨x, hx, hq⟩)
    simp [this]
theorem others_range (n : Nat) (lot : List Int) : ((List.range n).filter fun i : Nat => decide ((i : Int) ∉ lot)).map (fun i : Nat => PyData.int (i : Int)) = (others n lot).map PyData.int := by
  unfold others DW.without persons
  rw [List.filter_map, List.map_map]
  rfl
section
variable {P : Program} {w : World} {K : PySem.W.Frag} {mg : Str → Option Value} {base : Heap} {f : Addr} {fd : FuncData}
theorem ok_law_ties (F : Fun K "_law_ties" "_law_ties" sLawTies f fd) (B : Bi mg) : FnOk P w K mg base CX0 1 f fd ["_law_web_here", "_law_person"] (spTiedTo K) := by
  refine F.ok scLawTies (fun vs H Q E h => ?_) (fun cdv A outer s H vs Q E hr h => ?_)
  · obtain ⟨v, ns, ts, p, rfl, _⟩ := h
    rfl
  · obtain ⟨v, ns, ts, p, rfl, hw, hl, k⟩ := h
    obtain ⟨a, b, c, xs, rfl, s1, s2, s3, s4⟩ := hw.web
    refine ⟨_, pss_one (ps_ret (pe_callB cr_sortedI (by rfl) B.sorted bt_sorted (pa_cons (pe_lc (own := [("_law_one", 2), ("_law_other", 3)]) (g := gTup K 2 (gCons (gName 2) (gCons (gName 3) gNil))) rfl scLawTies.nd
      (pi_tup (pe_ix ix_tup (pv 0) pe_int (fun _ _ => rfl))) (blkOk_by (N := nLawTies) (sc := defScope sLawTies) (by decide +kernel))
      (fun _ _ _ _ _ => pg_tupK K rfl (pgs_cons (pg_name (i := 2) scLawTies.nd rfl (Or.inl rfl)) (pgs_cons (pg_name (i := 3) scLawTies.nd rfl (Or.inl rfl)) pgs_nil)))
      (fun _ _ _ _ _ => pts_one (pt_cmpR (op_inK K) (pv 1) (pe_tup (pa_cons (pv 2) (pa_cons (pv 3) pa_nil))) (by rfl)))
      (fun _ _ _ _ _ => pe_op op_sub (pe_op op_add (pv 2) (pv 3)) (pv 1))) pa_nil))), ?_⟩
    have hxs := map_len s4
    refine ⟨_, rfl, a, _, 1, _, rfl, rfl, s1, atI_nat (j := 1) rfl, c, rfl, ⟨_, s3⟩, fun D hD => ?_⟩
    refine lc_tpT (K := K) (as := ts) (dec := tieD) (p := touch p) (f := fun t => .int (t.1 + t.2 - p)) s3 s4 hD (by omega) (fun t ht => ?_) (fun ys H2 e2 hy ty => ?_)
    · intro x H2 N0 N1 e2 hx n0 n1
      obtain ⟨q, rfl, sq⟩ := hx.tie
      refine ⟨q, _, rfl, sq, rfl, _, _, rfl, _, _, rfl, rfl, rfl, ?_⟩
      refine ⟨_, rfl, _, rfl, _, rfl, (by show 2 ≤ sizeLine; decide), fun d hd => ?_⟩
      have s' := same_new hd (.tup [.int t.1, .int t.2])
      refine rin_ints (l := [t.1, t.2]) ⟨d, rfl, .inr (SqT.of upd_same)⟩ ⟨_, rfl, ?_⟩
      rw [if_neg Bool.false_ne_true, touch_eq]
      refine ite2 (fun ct => ?_) (fun ct => ?_)
      · exact ⟨_, rfl, _, rfl, _, _, rfl, rfl, _, rfl, _, _, rfl, rfl, n1 ct _ _ s' rfl⟩
      · exact n0 (by simpa using ct) _ s'
    · rw [show (ts.filter (touch p)).map (fun t => PyData.int (t.1 + t.2 - p)) = (tiedL ts p).map PyData.int by unfold tiedL; rw [List.map_map]; rfl] at ty
      rw [TpL.ints _ ty] at hy
      refine ⟨D, _, rfl, SqL.of hy, fun ns' q h1 h2 hq => ?_⟩
      refine k q _ (e2.trans (same_new hq _)) (e2.free hq) ?_
      rw [upd_same, isort_uniq h1 h2]
      rfl
theorem ok_law_rest (F : Fun K "_law_rest" "_law_rest" sLawRest f fd) (B : Bi mg) : FnOk P w K mg base CX0 1 f fd ["_law_web_here", "_law_lot"] (spLawRest K) := by
  refine F.ok scLawRest (fun vs H Q E h => ?_) (fun cdv A outer s H vs Q E hr h => ?_)
  · obtain ⟨v, u, ns, ts, lot, rfl, _⟩ := h
    rfl
  · obtain ⟨v, u, ns, ts, lot, rfl, hw, hl, hn, k⟩ := h
    obtain ⟨a, b, c, xs, rfl, s1, s2, s3, s4⟩ := hw.web
    refine ⟨_, pss_one (ps_ret (pe_callTy call_tuple_of (by rfl) B.tuple bt_tuple (pa_cons (pe_lc (own := [("_law_person", 2)]) (g := gName 2) rfl scLawRest.nd
      (pi_range1 (by rfl) B.range (pa_cons (pe_callB call_len_seq (by rfl) B.len bt_len (pa_cons (pe_ix ix_tup (pv 0) pe_int (fun _ _ => rfl)) pa_nil)) pa_nil))
      (blkOk_by (N := nLawRest) (sc := defScope sLawRest) (by decide +kernel)) (fun _ _ _ _ _ => pg_name (i := 2) scLawRest.nd rfl (Or.inl rfl))
      (fun _ _ _ _ _ => pts_one (pt_cmpR (op_ninK K) (pv 2) (pv 1) (by rfl))) (fun _ _ _ _ _ => pv 2)) pa_nil))), ?_⟩
    refine ⟨_, rfl, a, _, 0, _, rfl, rfl, s1, atI_nat (j := 0) rfl, b, _, rfl, .inr s2, ((ns.length : Nat) : Int), by rw [List.length_map], by omega, by omega, fun D hD => ?_⟩
    rw [Int.toNat_natCast]
    refine lc_tpR (K := K) (p := fun i : Nat => decide ((i : Int) ∉ lot)) (f := fun i : Nat => .int (i : Int)) hD (by omega) (fun c' _ => ?_) (fun ys H2 e2 hy ty => ?_)
    · intro x H2 N0 N1 e2 hx n0 n1
      have hx : x = .int (0 + (c' : Int)) := hx
      rw [Int.zero_add] at hx
      subst hx
      refine ⟨rfl, _, rfl, _, rfl, ?_⟩
      refine rin_ints (Tp.sqi (Tp.mono (sts e2) _ _ hl)) ⟨_, rfl, ?_⟩
      refine ite2 (fun ct => ?_) (fun ct => ?_)
      · exact ⟨_, rfl, n1 (by simpa using ct) _ _ (Same.refl _) rfl⟩
      · exact n0 (by simpa using ct) _ (Same.refl _)
    · rw [others_range] at ty
      rw [TpL.ints _ ty] at hy
      exact ⟨D, _, rfl, .inl ⟨SqL.of hy, fun q hq => k _ _ (e2.trans (same_new hq _)) (Tp.of_iT (SqT.of upd_same))⟩⟩
theorem ok_law_border {f1 : Addr} {fd1 : FuncData} (F : Fun K "_law_border" "_law_border" sLawBorder f fd) (B : Bi mg) (C1 : Cal P w K mg base "_law_ties" 1 f1 fd1 ["_law_web_here", "_law_person"] (spTiedTo K)) :
    FnOk P w K mg base CX0 2 f fd ["_law_web_here", "_law_part", "_law_lot"] (spBorder K) := by
  refine F.ok scLawBorder (fun vs H Q E h => ?_) (fun cdv A outer s H vs Q E hr h => ?_)
  · obtain ⟨v, u, z, ns, ts, part, lot, rfl, _⟩ := h
    rfl
  · obtain ⟨v, u, z, ns, ts, part, lot, rfl, hw, hp, hl, ht, hn, k⟩ := h
    obtain ⟨d, rfl, sd⟩ := hl.iT
    refine ⟨_, pss_one (ps_ret (pe_callTy call_tuple_of (by rfl) B.tuple bt_tuple (pa_cons (pe_lc (own := [("_law_one", 4)]) (g := gName 4) rfl scLawBorder.nd (pi_tup (pv 2))
      (blkOk_by (N := nLawBorder) (sc := defScope sLawBorder) (by decide +kernel)) (fun _ _ _ _ _ => pg_name (i := 4) scLawBorder.nd rfl (Or.inl rfl))
      (fun _ _ _ _ _ => pts_one (pt_cmpR (op_neDK K hr.units) (pe_lc (own := [("_law_other", 3)]) (g := gName 3) rfl scLawBorder.nd (pi_listK K (pe_cal C1 hr (by decide) (pa_cons (pv 0) (pa_cons (pv 4) pa_nil))))
        (blkOk_by (N := nLawBorder) (sc := relS (lcScope (retArg (defBody sLawBorder))) (defScope sLawBorder)) (by decide +kernel)) (fun _ _ _ _ _ => pg_name (i := 3) scLawBorder.nd rfl (Or.inl rfl))
        (fun _ _ _ _ _ => pts_one (pt_cmpR (op_inK K) (pv 3) (pv 1) (by rfl))) (fun _ _ _ _ _ => pv 3)) (pe_lst pa_nil) (nomark _)))
      (fun _ _ _ _ _ => pv 4)) pa_nil))), ?_⟩
    refine ⟨_, rfl, d, rfl, ⟨_, sd⟩, fun D hD => ?_⟩
    refine lc_tpT (K := K) (as := lot) (dec := .int) (p := fun one => (tied ts one).any fun o => decide (o ∈ part)) (f := .int) sd (TpL.of_ints _) hD (by rw [List.length_map]; omega) (fun c hc => ?_) (fun ys H2 e2 hy ty => ?_)
    · intro x H2 N0 N1 e2 hx n0 n1
      obtain rfl : x = .int c := hx
      refine ⟨rfl, ?_⟩
      refine ⟨_, rfl, _, rfl, v, ns, ts, c, rfl, Tp.mono (sts e2) _ _ hw, ht, fun a H3 e3 _ ha => ?_⟩
      refine ⟨a, rfl, ⟨_, SqL.of ha⟩, fun D2 hD2 => ?_⟩
      have tl := tied_len ts c
      refine lc_tpL (K := K) (as := tied ts c) (dec := .int) (p := fun o => decide (o ∈ part)) (f := .int) (SqL.of ha) (TpL.of_ints _) hD2 (by rw [List.length_map]; omega) (fun o ho => ?_) (fun ys H4 e4 hy ty => ?_)
      · intro x H4 M0 M1 e4 hx m0 m1
        obtain rfl : x = .int o := hx
        refine ⟨rfl, _, rfl, _, rfl, rin_ints (Tp.sqi (Tp.mono (sts ((e2.trans e3).trans e4)) _ _ hp)) ⟨_, rfl, ?_⟩⟩
        rw [if_neg Bool.false_ne_true]
        refine ite2 (fun ct => ?_) (fun ct => ?_)
        · exact ⟨_, rfl, m1 ct _ _ (Same.refl _) rfl⟩
        · exact m0 (by simpa using ct) _ (Same.refl _)
      · rw [TpL.ints _ ty] at hy
        refine ⟨Nat.zero_le _, fun b hb => ?_⟩
        refine rne_nil (SqL.of ((upd_ne (ne_of_none hy hb)).trans hy)) (SqL.of upd_same) ⟨_, rfl, ?_⟩
        have e6 : Same H2 (upd H4 b (.lst [])) := (e3.trans e4).trans (same_new hb _)
        rw [filter_ne_nil]
        refine ite2 (fun ct => ?_) (fun ct => ?_)
        · exact ⟨_, rfl, n1 ct _ _ e6 rfl⟩
        · exact n0 (by simpa using ct) _ e6
    · rw [TpL.ints _ ty] at hy
      exact ⟨D, _, rfl, .inl ⟨SqL.of hy, fun q hq => k _ _ (e2.trans (same_new hq _)) (Tp.of_iT (SqT.of upd_same))⟩⟩
end
end DV
namespace DV
open PySem PySem.Spec L2 DW

theorem rounds_small {ts : List Tie} {lot : List Int} {x : Int} (hx : x ∈ lot) (k : Nat) : (rounds ts lot k [x]).length ≤ lot.length :=
  List.Nodup.length_le_of_subset (rounds_inv hx k).nd fun q hq => ((rounds_inv hx k).sub q hq).1
theorem fold_small {ts : List Tie} {lot : List Int} {x : Int} (hx : x ∈ lot) (k i : Nat) : ((ts.take i).foldl (lr lot) (rounds ts lot k [x])).length ≤ lot.length := by
  have I := fold_inv (ts := ts) (ts.take i) _ (fun t h => List.mem_of_mem_take h) (rounds_inv (ts := ts) hx k)
  exact List.Nodup.length_le_of_subset I.nd fun q hq => (I.sub q hq).1
theorem lr_snoc {ts : List Tie} {lot s : List Int} {i : Nat} {t : Tie} (h : ts[i]? = some t) : (ts.take (i + 1)).foldl (lr lot) s = lr lot ((ts.take i).foldl (lr lot) s) t := by
  obtain ⟨h1, h2⟩ := List.getElem?_eq_some_iff.mp h
  rw [List.take_succ_eq_append_getElem h1, List.foldl_append, h2]
  rfl
section
variable {P : Program} {w : World} {K : PySem.W.Frag} {mg : Str → Option Value} {base : Heap} {f : Addr} {fd : FuncData}
theorem ok_law_parts (F : Fun K "_law_parts" "_law_parts" sLawParts f fd) (B : Bi mg) : FnOk P w K mg base CX0 1 f fd ["_law_web_here", "_law_lot"] (spLawParts K) := by
  refine F.ok scLawParts (fun vs H Q E h => ?_) (fun cdv A outer s H vs Q E hr h => ?_)
  · obtain ⟨v, u, ns, ts, lot, rfl, _⟩ := h
    rfl
  · obtain ⟨v, u, ns, ts, lot, rfl, hw, hl, ht, hn, hR, k⟩ := h
    obtain ⟨a, wb, wc, xs, rfl, s1, s2, s3, s4⟩ := hw.web
    obtain ⟨d, rfl, sd⟩ := hl.iT
    refine ⟨_, pss_cons (ps_par (i := 2) (j := 3) (by rfl) scLawParts.nd rfl rfl (by decide) rfl rfl (pa_cons (pe_lst pa_nil) (pa_cons (pe_callTy call_list_of (by rfl) B.list bt_list (pa_cons (pv 1) pa_nil)) pa_nil)) (by rfl))
      (pss_cons (ps_while PassesOwn.never (pt_cmpR (op_neD hr.units) (pv 3) (pe_lst pa_nil) (nomark _))
        (pss_cons (ps_set (i := 4) scLawParts.nd rfl (Or.inr rfl) (pe_lst (pa_cons (pe_ix ix_list (pv 3) pe_int (fun _ _ => rfl)) pa_nil)))
        (pss_cons (ps_for PassesOwn.never rfl (pi_range1 (by rfl) B.range (pa_cons (pe_callB call_len_seq (by rfl) B.len bt_len (pa_cons (pv 3) pa_nil)) pa_nil)) (pg_name (i := 5) scLawParts.nd rfl (Or.inl rfl))
          (pss_one (ps_for PassesOwn.never rfl (pi_tup (pe_ix ix_tup (pv 0) pe_int (fun _ _ => rfl))) (pg_tup rfl (pgs_cons (pg_name (i := 6) scLawParts.nd rfl (Or.inl rfl)) (pgs_cons (pg_name (i := 7) scLawParts.nd rfl (Or.inl rfl)) pgs_nil)))
            (pss_one (ps_if (PW.pt (pw_and (pt_cmpR op_in_seq (pv 6) (pv 1) (by rfl)) (pw_and (pt_cmpR op_in_seq (pv 7) (pv 1) (by rfl))
                (pw_and1 (pt_cmpR op_ne (pe_cmpR op_in_seq (pv 6) (pv 4) (by rfl)) (pe_cmpR op_in_seq (pv 7) (pv 4) (by rfl)) (nomark _))))))
              (pss_one (ps_set (i := 4) scLawParts.nd rfl (Or.inr rfl) (pe_op op_cat (pv 4) (pe_lst (pa_cons (pe_ifExp (pt_cmpR op_in_seq (pv 6) (pv 4) (by rfl)) (pv 7) (pv 6)) pa_nil))))) pss_nil)))))
        (pss_cons (ps_expr (pe_bm PySem.F.plainAttrs_list PySem.F.slot_list_append PySem.F.type_list_append mt_append (pv 2)
          (pa_cons (pe_callTy call_tuple_of (by rfl) B.tuple bt_tuple (pa_cons (pe_callB cr_sortedI (by rfl) B.sorted bt_sorted (pa_cons (pv 4) pa_nil)) pa_nil)) pa_nil)))
        (pss_one (ps_setLc (i := 3) (own := [("_law_person", 8)]) (g := gName 8) rfl scLawParts.nd rfl rfl (sw_true rfl rfl rfl (by decide +kernel)) (pi_list (pv 3))
          (blkOk_by (N := nLawParts) (sc := defScope sLawParts) (by decide +kernel)) (fun _ _ _ _ _ => pg_name (i := 8) scLawParts.nd rfl (Or.inl rfl))
          (fun _ _ _ _ _ => pts_one (pt_cmpR (op_ninK K) (pv 8) (pv 4) (by rfl))) (fun _ _ _ _ _ => pv 8)))))))
      (pss_one (ps_ret (pv 2)))), ?_⟩
    refine ⟨Nat.zero_le _, fun fl hfl => ?_⟩
    have sA : Same H (upd H fl (.lst [])) := same_new hfl _
    refine ⟨_, rfl, d, _, rfl, .inr ((sts sA).sqt sd), fun la hla => ⟨_, _, rfl, ?_⟩⟩
    have nfl : fl ≠ la := ne_of_none upd_same hla
    have s0 : Same H (upd (upd H fl (.lst [])) la (.lst (lot.map V.int))) := sA.trans (same_new hla _)
    refine while_by (fun σ H' => ∃ (la : Addr) (l : List Int) (fs : List V) (done : List (List Int)) (y z z2 z3 z4 : Option V), σ = [some (.ref a), some (.ref d), some (.ref fl), some (.ref la), y, z, z2, z3, z4] ∧ Same H H' ∧ fl ≠ la ∧ H' la = some (.lst (l.map V.int)) ∧ H' fl = some (.lst fs) ∧ TpL K H' (done.map dI) fs ∧
        done ++ partsOf ts l = partsOf ts lot ∧ Rise l ∧ Closed ts lot l ∧ l.length ≤ 100 ∧ done.length + l.length ≤ lot.length) (fun σ H' => slotLen 3 σ H')
      ⟨la, lot, [], [], none, none, none, none, none, rfl, s0, nfl, upd_same, (upd_ne nfl).trans upd_same, rfl, rfl, hR, closed_refl _ _, hn, by simp⟩ ?_ ?_
    · rintro σ H1 ⟨la, l, fs, done, y, z, z2, z3, z4, rfl, q1, nfl, h1, h2, h3, h4, h5, hcl, h6, h7⟩
      refine ⟨_, rfl, Nat.zero_le _, fun b hb => ?_⟩
      have nb : ∀ {c : Addr} {o : HO}, H1 c = some o → c ≠ b := fun e => ne_of_none e hb
      have mone : slotLen 3 [some (.ref a), some (.ref d), some (.ref fl), some (.ref la), y, z, z2, z3, z4] H1 = l.length := by
        show (match H1 la with | some (.lst xs) => xs.length | _ => 0) = _
        rw [h1]; simp
      refine rne_nil (SqL.of ((upd_ne (nb h1)).trans h1)) (SqL.of upd_same) ⟨_, rfl, ?_⟩
      have q2 : Same H (upd H1 b (.lst [])) := q1.trans (same_new hb _)
      have h1' : upd H1 b (.lst []) la = some (.lst (l.map V.int)) := (upd_ne (nb h1)).trans h1
      have h2' : upd H1 b (.lst []) fl = some (.lst fs) := (upd_ne (nb h2)).trans h2
      have h3' : TpL K (upd H1 b (.lst [])) (done.map dI) fs := TpL.mono (ts_new hb _) _ _ h3
      generalize upd H1 b (.lst []) = H2 at q2 h1' h2' h3'
      refine ite2 (fun ce => ?_) (fun ce => ?_)
      · cases l with
        | nil => simp at ce
        | cons x r =>
          have hxl : x ∈ lot := hcl.1 List.mem_cons_self
          refine ⟨_, rfl, la, _, 0, _, rfl, rfl, SqL.of h1', atI_nat (j := 0) rfl, (by show 1 ≤ sizeLine; decide), fun sa0 hsa0 => ?_⟩
          have nla : la ≠ sa0 := ne_of_none h1' hsa0
          have hSB : Same H2 (upd H2 sa0 (.lst [.int x])) := same_new hsa0 _
          refine ⟨_, rfl, la, _, rfl, .inl (SqL.of ((upd_ne nla).trans h1')), (((x :: r).length : Nat) : Int), by rw [List.length_map], by omega, by omega, ?_⟩
          rw [Int.toNat_natCast]
          refine for_range (fun kk σ H' => ∃ (sa : Addr) (z z2 z3 : Option V), σ = [some (.ref a), some (.ref d), some (.ref fl), some (.ref la), some (.ref sa), z, z2, z3, z4] ∧ Same H2 H' ∧ H' sa = some (.lst ((rounds ts lot kk [x]).map V.int)))
            ⟨sa0, z, z2, z3, rfl, hSB, upd_same⟩ ?_ ?_
          · rintro kk σ H3 hkk ⟨sa, z, z2, z3, rfl, q3, g1⟩
            refine ⟨_, rfl, a, _, 1, _, rfl, rfl, (sts (q2.trans q3)).sqt s1, atI_nat (j := 1) rfl, wc, rfl, ⟨_, (sts (q2.trans q3)).sqt s3⟩, ?_⟩
            refine for_tup (K := K) (a := wc) (xs := xs) (fun i σ H' => ∃ (sa : Addr) (z2 z3 : Option V), σ = [some (.ref a), some (.ref d), some (.ref fl), some (.ref la), some (.ref sa), some (.int (0 + (kk : Int))), z2, z3, z4] ∧ Same H2 H' ∧ H' sa = some (.lst (((ts.take i).foldl (lr lot) (rounds ts lot kk [x])).map V.int)))
              ⟨sa, z2, z3, rfl, q3, g1⟩ (fun i σ H' _ ⟨_, _, _, _, q, _⟩ => (sts (q2.trans q)).sqt s3) ?_ ?_
            · rintro i x1 σ H4 hi ⟨sa, z2, z3, rfl, q4, g2⟩
              obtain ⟨t, htc, htx⟩ := get_dec s4 hi
              obtain ⟨q, rfl, sq⟩ := (Tp.mono (sts (q2.trans q4)) _ _ htx).tie
              have hsm := fold_small (ts := ts) hxl kk i
              have hsn : (ts.take (i + 1)).foldl (lr lot) (rounds ts lot kk [x]) = lr lot ((ts.take i).foldl (lr lot) (rounds ts lot kk [x])) t := lr_snoc htc
              show gTup _ _ _ _ _ _ _
              generalize (ts.take i).foldl (lr lot) (rounds ts lot kk [x]) = S at g2 hsm hsn
              have hlS : SqI K H4 (.ref d) lot := (Tp.sqi (Tp.mono (sts (q2.trans q4)) _ _ hl))
              have hS : SqI K H4 (.ref sa) S := ⟨sa, rfl, .inl (SqL.of g2)⟩
              refine ⟨q, _, rfl, sq, rfl, _, _, rfl, _, _, rfl, rfl, ?_⟩
              refine ⟨_, rfl, _, rfl, rin_ints hlS ⟨_, rfl, ?_⟩⟩
              rw [if_neg Bool.false_ne_true]
              refine ite2 (fun c1 => ?_) (fun c1 => ?_)
              · refine ⟨_, rfl, _, rfl, rin_ints hlS ⟨_, rfl, ?_⟩⟩
                rw [if_neg Bool.false_ne_true]
                refine ite2 (fun c2 => ?_) (fun c2 => ?_)
                · refine ⟨_, rfl, _, rfl, rin_ints hS ?_⟩
                  refine ⟨_, rfl, _, rfl, rin_ints hS ?_⟩
                  rw [if_neg Bool.false_ne_true, if_neg Bool.false_ne_true]
                  refine ⟨rfl, _, rfl, ?_⟩
                  have e3 : (!decide (V.bl (decide (t.1 ∈ S)) = V.bl (decide (t.2 ∈ S)))) = (decide (t.1 ∈ S) != decide (t.2 ∈ S)) := by
                    by_cases m1 : t.1 ∈ S <;> by_cases m2 : t.2 ∈ S <;> simp [m1, m2]
                  rw [e3]
                  refine ite2 (fun c3 => ?_) (fun c3 => ?_)
                  · have elr : lr lot S t = S ++ [if t.1 ∈ S then t.2 else t.1] := by
                      unfold lr
                      rw [if_pos ⟨by simpa using c1, by simpa using c2, c3⟩]
                    refine ⟨_, rfl, _, rfl, _, rfl, rin_ints hS ⟨_, rfl, ?_⟩⟩
                    rw [if_neg Bool.false_ne_true]
                    have fin : ∀ (y : Int), y = (if t.1 ∈ S then t.2 else t.1) → (1 : Nat) ≤ sizeLine ∧ ∀ p, H4 p = none → ∃ (l b : Addr) (xs zs : List V), V.ref sa = .ref l ∧ V.ref p = .ref b ∧ upd H4 p (.lst [.int y]) l = some (.lst xs) ∧ upd H4 p (.lst [.int y]) b = some (.lst zs) ∧ xs.length + zs.length ≤ sizeLine ∧
                        ∀ p2, upd H4 p (.lst [.int y]) p2 = none → ∃ (sa : Addr) (z2 z3 : Option V), [some (V.ref a), some (.ref d), some (.ref fl), some (.ref la), some (.ref p2), some (.int (0 + (kk : Int))), some (.int t.1), some (.int t.2), z4] = [some (.ref a), some (.ref d), some (.ref fl), some (.ref la), some (.ref sa), some (.int (0 + (kk : Int))), z2, z3, z4] ∧
                          Same H2 (upd (upd H4 p (.lst [.int y])) p2 (.lst (xs ++ zs))) ∧ upd (upd H4 p (.lst [.int y])) p2 (.lst (xs ++ zs)) sa = some (.lst (((ts.take (i + 1)).foldl (lr lot) (rounds ts lot kk [x])).map V.int)) := by
                      intro y hy
                      refine ⟨by decide, fun p hp => ⟨sa, p, _, _, rfl, rfl, (upd_ne (ne_of_none g2 hp)).trans g2, upd_same, ?_, fun p2 hp2 => ⟨p2, _, _, rfl, (q4.trans (same_new hp _)).trans (same_new hp2 _), ?_⟩⟩⟩
                      · rw [List.length_map, List.length_singleton]
                        exact Nat.le_of_lt (small1000 (by omega))
                      · rw [upd_same, hsn, elr, List.map_append, hy]
                        rfl
                    refine ite2 (fun c4 => ?_) (fun c4 => ?_)
                    · have c4' : t.1 ∈ S := by simpa using c4
                      exact ⟨_, rfl, fin t.2 (by rw [if_pos c4'])⟩
                    · have c4' : ¬ t.1 ∈ S := by simpa using c4
                      exact ⟨_, rfl, fin t.1 (by rw [if_neg c4'])⟩
                  · refine ⟨sa, _, _, rfl, q4, ?_⟩
                    rw [hsn]
                    unfold lr
                    rw [if_neg fun z => c3 z.2.2]
                    exact g2
                · refine ⟨sa, _, _, rfl, q4, ?_⟩
                  rw [hsn]
                  unfold lr
                  rw [if_neg fun z => c2 (by simpa using z.2.1)]
                  exact g2
              · refine ⟨sa, _, _, rfl, q4, ?_⟩
                rw [hsn]
                unfold lr
                rw [if_neg fun z => c1 (by simpa using z.1)]
                exact g2
            · rintro σ H4 ⟨sa, z2, z3, rfl, q4, g2⟩
              rw [map_len s4, List.take_length] at g2
              exact ⟨sa, _, _, _, rfl, q4, g2⟩
          · rintro σ H3 ⟨sa, z, z2, z3, rfl, q3, g1⟩
            have ecomp : comp ts lot x = comp ts (x :: r) x := closed_comp hcl hR h5 List.mem_cons_self
            have esort : isort (rounds ts lot (x :: r).length [x]) = comp ts (x :: r) x := by
              rw [← ecomp]
              refine rounds_end hxl hR ?_
              rw [ecomp]
              exact List.length_filter_le _ _
            have hsm := rounds_small (ts := ts) hxl (x :: r).length
            have hmem : ∀ y, y ∈ rounds ts lot (x :: r).length [x] ↔ y ∈ comp ts (x :: r) x := fun y => by rw [← esort, mem_isort]
            generalize rounds ts lot (x :: r).length [x] = S at g1 esort hsm hmem
            have g2 : H3 fl = some (.lst fs) := q3 _ _ h2'
            have g3 : H3 la = some (.lst ((x :: r).map V.int)) := q3 _ _ h1'
            have g4 := TpL.mono (sts q3) _ _ h3'
            have flen : fs.length ≤ 100 := by
              have := map_len g4
              simp only [List.length_cons] at h7
              omega
            refine ⟨_, rfl, .inl ⟨rfl, _, SqL.of g2⟩, _, rfl, sa, _, rfl, SqL.of g1, fun ns' p m1 m2 hp => ?_⟩
            have nfp : fl ≠ p := ne_of_none g2 hp
            refine ⟨p, _, rfl, .inl ⟨SqL.of upd_same, fun p2 hp2 => ?_⟩⟩
            have q4 : Same H3 (upd (upd H3 p (.lst (ns'.map V.int))) p2 (.tup (ns'.map V.int))) := (same_new hp _).trans (same_new hp2 _)
            have tp : Tp K (upd (upd H3 p (.lst (ns'.map V.int))) p2 (.tup (ns'.map V.int))) (dI (comp ts (x :: r) x)) (.ref p2) := by
              refine Tp.of_iT ?_
              rw [← esort, ← isort_uniq m1 m2]
              exact SqT.of upd_same
            have g2' := q4 _ _ g2
            have g3' := q4 _ _ g3
            have g4' := TpL.mono (sts q4) _ _ g4
            have g1' := q4 _ _ g1
            generalize upd (upd H3 p (.lst (ns'.map V.int))) p2 (.tup (ns'.map V.int)) = H5 at q4 tp g2' g3' g4' g1'
            have nfs : fl ≠ sa := by
              intro e
              rw [e] at g2'
              have ee : fs = S.map V.int := by
                have := Option.some.inj (g2'.symm.trans g1')
                injection this
              have hxS : x ∈ S := (hmem x).mpr (self_comp List.mem_cons_self)
              rw [ee] at g4'
              cases done with
              | nil =>
                have z : S.map V.int = [] := g4'
                have z' : S = [] := by simpa using z
                rw [z'] at hxS
                cases hxS
              | cons c done =>
                obtain ⟨x0, r0, z1, z2, _⟩ := g4'
                obtain ⟨a0, z3, _⟩ := Tp.iT z2
                cases S with
                | nil => cases hxS
                | cons y S =>
                  rw [z3] at z1
                  cases z1
            refine ⟨fl, _, _, rfl, rfl, g2', small1000 (by omega), ?_⟩
            have t6 : TS H5 (upd H5 fl (.lst (fs ++ [V.ref p2]))) := ts_lst g2' _
            have s6 : Same H (upd H5 fl (.lst (fs ++ [V.ref p2]))) := fun c o hc => by
              rw [upd_ne (ne_of_none hc hfl)]
              exact q4 _ _ (q3 _ _ (q2 _ _ hc))
            have k1 : upd H5 fl (.lst (fs ++ [V.ref p2])) la = some (.lst ((x :: r).map V.int)) := (upd_ne nfl.symm).trans g3'
            have k2 : upd H5 fl (.lst (fs ++ [V.ref p2])) fl = some (.lst (fs ++ [V.ref p2])) := upd_same
            have k3 : TpL K (upd H5 fl (.lst (fs ++ [V.ref p2]))) ((done ++ [comp ts (x :: r) x]).map dI) (fs ++ [V.ref p2]) := by
              rw [List.map_append]
              exact TpL.snoc (TpL.mono t6 _ _ g4') (Tp.mono t6 _ _ tp)
            have k4 : upd H5 fl (.lst (fs ++ [V.ref p2])) sa = some (.lst (S.map V.int)) := (upd_ne nfs.symm).trans g1'
            generalize upd H5 fl (.lst (fs ++ [V.ref p2])) = H6 at s6 k1 k2 k3 k4
            refine ⟨_, rfl, la, rfl, ⟨_, SqL.of k1⟩, fun D hD => ?_⟩
            refine lc_tpL (K := K) (as := x :: r) (dec := .int) (p := fun y => decide (y ∉ S)) (f := .int) (SqL.of k1) (TpL.of_ints _) hD (by rw [List.length_map]; omega) (fun c _ => ?_) (fun ys H7 e7 hy ty => ?_)
            · intro x2 H7 N0 N1 e7 hx n0 n1
              obtain rfl : x2 = .int c := hx
              refine ⟨rfl, _, rfl, _, rfl, ?_⟩
              refine rin_ints ⟨sa, rfl, .inl (SqL.of (e7 _ _ k4))⟩ ⟨_, rfl, ?_⟩
              rw [if_pos rfl]
              refine ite2 (fun ct => ?_) (fun ct => ?_)
              · exact ⟨_, rfl, n1 (by simpa using ct) _ _ (Same.refl _) rfl⟩
              · exact n0 (by simpa using ct) _ (Same.refl _)
            · rw [TpL.ints _ ty] at hy
              have ew : (x :: r).filter (fun y => decide (y ∉ S)) = DW.without (x :: r) (comp ts (x :: r) x) := by
                unfold DW.without
                refine List.filter_congr fun y _ => ?_
                rw [decide_eq_decide, hmem]
              rw [ew] at hy
              have lt := without_lt (l := x :: r) (m := comp ts (x :: r) x) (x := x) List.mem_cons_self (self_comp List.mem_cons_self)
              have hfD : fl ≠ D := ne_of_none k2 hD
              refine ⟨⟨D, DW.without (x :: r) (comp ts (x :: r) x), _, done ++ [comp ts (x :: r) x], _, _, _, _, _, rfl, s6.trans e7, hfD, hy, e7 _ _ k2, TpL.mono (sts e7) _ _ k3, ?_, h5.filter _, closed_without hcl, by omega, by simp only [List.length_append, List.length_singleton]; omega⟩, ?_⟩
              · rw [← h4, partsOf_cons, List.append_assoc]
                rfl
              · show slotLen 3 _ H7 < _
                rw [mone]
                show (match H7 D with | some (.lst xs) => xs.length | _ => 0) < _
                rw [hy]
                simpa using lt
      · have ee : l = [] := by simpa using ce
        subst ee
        rw [partsOf_nil, List.append_nil] at h4
        refine ⟨_, rfl, k fl fs _ q2 hfl h2' ?_⟩
        rw [← h4]
        exact h3'
    · rintro σ H1 Q1 Q2 hQ ⟨x, e1, m1, m2⟩
      exact ⟨x, e1, m1, fun b hb => by
        obtain ⟨d, e, d1, d2, d3, d4, kk, e5, q⟩ := m2 b hb
        exact ⟨d, e, d1, d2, d3, d4, kk, e5, hQ _ _ q⟩⟩
theorem ok_law_deep {f1 f2 f3 : Addr} {fd1 fd2 fd3 : FuncData} (F : Fun K "_law_deep" "_law_deep" sLawDeep f fd) (B : Bi mg) (C1 : Cal P w K mg base "_law_parts" 1 f1 fd1 ["_law_web_here", "_law_lot"] (spLawParts K)) (C2 : Cal P w K mg base "_law_rest" 1 f2 fd2 ["_law_web_here", "_law_lot"] (spLawRest K))
    (C3 : Cal P w K mg base "_law_border" 2 f3 fd3 ["_law_web_here", "_law_part", "_law_lot"] (spBorder K)) : FnOk P w K mg base CX0 3 f fd ["_law_web_here", "_law_lot"] (spLawDeep K) := by
  refine F.ok scLawDeep (fun vs H Q E h => ?_) (fun cdv A outer s H vs Q E hr h => ?_)
  · obtain ⟨v, u, ns, ts, lot, rfl, _⟩ := h
    rfl
  · obtain ⟨v, u, ns, ts, lot, rfl, hw, hl, W, h1, h2, h3, k⟩ := h
    obtain ⟨a, wb, wc, xs, rfl, s1, s2, s3, s4⟩ := hw.web
    refine ⟨_, pss_cons (ps_set (i := 2) scLawDeep.nd rfl (Or.inl rfl) (pe_lst pa_nil))
      (pss_cons (ps_for PassesOwn.never rfl (pi_list (pe_cal C1 hr (by decide) (pa_cons (pv 0) (pa_cons (pe_cal C2 hr (by decide) (pa_cons (pv 0) (pa_cons (pv 1) pa_nil))) pa_nil)))) (pg_name (i := 3) scLawDeep.nd rfl (Or.inl rfl))
        (pss_cons (ps_set (i := 4) scLawDeep.nd rfl (Or.inl rfl) (pe_callB (cr_min rfl) (by rfl) B.min bt_min (pa_cons (pe_lc (own := [("_law_one", 5)]) (g := gName 5) rfl scLawDeep.nd (pi_tup (pv 3))
            (blkOk_by (N := nLawDeep) (sc := defScope sLawDeep) (by decide +kernel)) (fun _ _ _ _ _ => pg_name (i := 5) scLawDeep.nd rfl (Or.inl rfl))
            (fun _ _ _ _ _ => pts_nil) (fun _ _ _ _ _ => pe_ix (ix_tupK K) (pe_ix (ix_tupK K) (pv 0) pe_int (fun _ _ => rfl)) (pv 5) (fun _ _ => rfl))) pa_nil)))
        (pss_one (ps_if (pt_cmpR op_lt (pv 4) (pe_callB (cr_min rfl) (by rfl) B.min bt_min (pa_cons (pe_lc (own := [("_law_one", 5)]) (g := gName 5) rfl scLawDeep.nd (pi_tup (pe_cal C3 hr (by decide) (pa_cons (pv 0) (pa_cons (pv 3) (pa_cons (pv 1) pa_nil)))))
            (blkOk_by (N := nLawDeep) (sc := defScope sLawDeep) (by decide +kernel)) (fun _ _ _ _ _ => pg_name (i := 5) scLawDeep.nd rfl (Or.inl rfl))
            (fun _ _ _ _ _ => pts_nil) (fun _ _ _ _ _ => pe_ix (ix_tupK K) (pe_ix (ix_tupK K) (pv 0) pe_int (fun _ _ => rfl)) (pv 5) (fun _ _ => rfl))) pa_nil)) (nomark _))
          (pss_one (ps_expr (pe_bm PySem.F.plainAttrs_list PySem.F.slot_list_append PySem.F.type_list_append mt_append (pv 2) (pa_cons (pv 3) pa_nil)))) pss_nil))))
      (pss_one (ps_ret (pv 2)))), ?_⟩
    refine ⟨Nat.zero_le _, fun fl hfl => ?_⟩
    have q0 : Same H (upd H fl (.lst [])) := same_new hfl _
    refine ⟨_, rfl, _, rfl, _, rfl, .ref a, u, ns, ts, lot, rfl, Tp.mono (sts q0) _ _ hw, Tp.mono (sts q0) _ _ hl, W.n6, fun ov H1 e1 to => ?_⟩
    have q1 := q0.trans e1
    have olen : (others ns.length lot).length ≤ 100 := by
      have a := List.length_filter_le (fun y => decide (y ∉ lot)) (persons ns.length)
      have b := length_persons ns.length
      have c := W.n6
      unfold others DW.without
      omega
    refine ⟨.ref a, ov, ns, ts, others ns.length lot, rfl, Tp.mono (sts q1) _ _ hw, to, W.tlen, olen, others_rise _ _, fun pa ps H2 e2 hpa0 hpa tps => ?_⟩
    have q2 := q1.trans e2
    have plen := parts_len (ts := ts) (others ns.length lot)
    have psl := map_len tps
    refine ⟨pa, rfl, ⟨_, SqL.of hpa⟩, for_list (K := K) (a := pa) (xs := ps) (fun i σ H' => ∃ (y z y2 : Option V) (fs : List V), σ = [some (.ref a), some u, some (.ref fl), y, z, y2] ∧ Same H H' ∧ fl ≠ pa ∧ H' pa = some (.lst ps) ∧ TpL K H' ((partsOf ts (others ns.length lot)).map dI) ps ∧
        H' fl = some (.lst fs) ∧ TpL K H' (((partsOf ts (others ns.length lot)).take i).filter (deepB ns ts lot) |>.map dI) fs)
      ⟨none, none, none, [], rfl, q2, ?_, hpa, tps, e2 _ _ (e1 _ _ upd_same), rfl⟩ (fun i σ H' _ ⟨_, _, _, _, _, _, _, q, _⟩ => SqL.of q) ?_ ?_⟩
    · exact ne_of_none (e1 _ _ upd_same) hpa0
    · rintro i x σ H' hi ⟨y, z, y2, fs, rfl, q3, nfp, g1, g2, g3, g4⟩
      obtain ⟨c, hc, tc⟩ := get_dec g2 hi
      have hcm := List.mem_of_getElem? hc
      obtain ⟨ca, rfl, sc⟩ := tc.iT
      have hm := mem_parts _ hcm
      have clen : c.length ≤ 100 := Nat.le_trans (piece_len _ hcm) olen
      have csub : c ⊆ persons ns.length := fun y hy => (mem_without.mp (hm.2 hy)).1
      have tk : (partsOf ts (others ns.length lot)).take (i + 1) = (partsOf ts (others ns.length lot)).take i ++ [c] := by
        obtain ⟨z1, z2⟩ := List.getElem?_eq_some_iff.mp hc
        rw [List.take_succ_eq_append_getElem z1, z2]
      have all1 : ∀ l : List Int, (l.filter fun _ => true).map (fun x => PyData.int (num ns x)) = (l.map (num ns)).map PyData.int := fun l => by
        rw [List.filter_eq_self.mpr fun _ _ => rfl, List.map_map]
        rfl
      refine ⟨_, rfl, ca, rfl, ⟨_, sc⟩, fun D hD => ?_⟩
      refine lc_tpT (K := K) (as := c) (dec := .int) (p := fun _ => true) (f := fun x => .int (num ns x)) sc (TpL.of_ints _) hD (by rw [List.length_map]; omega) (fun p hp => ?_) (fun ys H3 e3 hy ty => ?_)
      · intro x H3 N0 N1 e3 hx n0 n1
        obtain rfl : x = .int p := hx
        refine ⟨rfl, yes ?_⟩
        refine ⟨_, rfl, a, _, 0, _, rfl, rfl, (sts (q3.trans e3)).sqt s1, atI_nat (j := 0) rfl, _, rfl, wb, _, p, _, rfl, rfl, (sts (q3.trans e3)).sqt s2, num_at (csub hp), ?_⟩
        exact n1 rfl _ _ (Same.refl _) rfl
      · rw [all1] at ty
        rw [TpL.ints _ ty] at hy
        refine ⟨D, _, rfl, SqL.of hy, by rw [List.length_map]; exact List.length_pos_iff.mpr hm.1, fun m hmm hle => ?_⟩
        have em := minL_uniq hmm hle
        have q4 := q3.trans e3
        refine ⟨_, rfl, _, rfl, _, rfl, _, rfl, .ref a, .ref ca, u, ns, ts, c, lot, rfl, Tp.mono (sts q4) _ _ hw, Tp.mono (sts e3) _ _ tc, Tp.mono (sts q4) _ _ hl, W.tlen, h3, fun bv H4 e4 tb => ?_⟩
        have q5 := q4.trans e4
        obtain ⟨ba, rfl, sb⟩ := tb.iT
        have hbn := border_ne W h1 h2 hcm
        have bsub : border ts c lot ⊆ persons ns.length := fun x hx => h2 (mem_border.mp hx).1
        have blen : (border ts c lot).length ≤ 100 := Nat.le_trans (List.length_filter_le _ _) h3
        refine ⟨ba, rfl, ⟨_, sb⟩, fun D2 hD2 => ?_⟩
        refine lc_tpT (K := K) (as := border ts c lot) (dec := .int) (p := fun _ => true) (f := fun x => .int (num ns x)) sb (TpL.of_ints _) hD2 (by rw [List.length_map]; omega) (fun p hp => ?_) (fun ys H5 e5 hy ty => ?_)
        · intro x H5 N0 N1 e5 hx n0 n1
          obtain rfl : x = .int p := hx
          refine ⟨rfl, yes ?_⟩
          refine ⟨_, rfl, a, _, 0, _, rfl, rfl, (sts (q5.trans e5)).sqt s1, atI_nat (j := 0) rfl, _, rfl, wb, _, p, _, rfl, rfl, (sts (q5.trans e5)).sqt s2, num_at (bsub hp), ?_⟩
          exact n1 rfl _ _ (Same.refl _) rfl
        · rw [all1] at ty
          rw [TpL.ints _ ty] at hy
          refine ⟨D2, _, rfl, SqL.of hy, by rw [List.length_map]; exact List.length_pos_iff.mpr hbn, fun m2 hmm2 hle2 => ?_⟩
          have em2 := minL_uniq hmm2 hle2
          refine ⟨_, _, rfl, rfl, _, rfl, ?_⟩
          have ed : decide (m < m2) = deepB ns ts lot c := by rw [em, em2]; rfl
          show if decide (m < m2) = true then _ else _
          rw [ed]
          have e6 := (e3.trans e4).trans e5
          have q6 := q3.trans e6
          refine ite2 (fun ct => ?_) (fun ct => ?_)
          · have g3' := e6 _ _ g3
            have fsl := map_len g4
            have fl2 : fs.length ≤ 100 := by
              have z1 := List.length_filter_le (deepB ns ts lot) ((partsOf ts (others ns.length lot)).take i)
              have z2 := List.length_take_le' i (partsOf ts (others ns.length lot))
              omega
            refine ⟨_, rfl, .inl ⟨rfl, _, SqL.of g3'⟩, _, rfl, fl, _, _, rfl, rfl, g3', small1000 (by omega), ?_⟩
            have t7 : TS H5 (upd H5 fl (.lst (fs ++ [V.ref ca]))) := ts_lst g3' _
            refine ⟨_, _, _, _, rfl, fun c o hc => ?_, nfp, ?_, ?_, upd_same, ?_⟩
            · rw [upd_ne (ne_of_none hc hfl)]
              exact q6 _ _ hc
            · rw [upd_ne nfp.symm]
              exact e6 _ _ g1
            · exact TpL.mono ((sts e6).trans t7) _ _ g2
            · rw [tk, List.filter_append, List.filter_cons_of_pos ct, List.filter_nil, List.map_append]
              exact TpL.snoc (TpL.mono ((sts e6).trans t7) _ _ g4) (Tp.mono ((sts e6).trans t7) _ _ tc)
          · refine ⟨_, _, _, _, rfl, q6, nfp, e6 _ _ g1, TpL.mono (sts e6) _ _ g2, e6 _ _ g3, ?_⟩
            rw [tk, List.filter_append, List.filter_cons_of_neg ct, List.filter_nil, List.append_nil]
            exact TpL.mono (sts e6) _ _ g4
    · rintro σ H' ⟨y, z, y2, fs, rfl, q3, nfp, g1, g2, g3, g4⟩
      rw [psl, List.take_length] at g4
      exact ⟨_, rfl, k fl fs _ q3 hfl g3 g4⟩
end
end DV
/-! enumerate(t), t a tuple -/
namespace DV
open PySem PySem.Spec L2 DW
set_option maxHeartbeats 1000000 in
theorem meets_enum1 {v : Value} {ob : Obj} {Hv : Heap → Prop} (Bg : Begins v ob Hv) :
    Meets (Builtin.«enumerate.__new__» ⟨[.type "enumerate", v], []⟩) (fun _ R z => Hv z.heap ∧
      R (.ok (.ret (.ref (z.heap.push ob).objs.size))) { z with heap := (z.heap.push ob).push { cls := .type "enumerate", data := .fields #[.none, .bool false, .ref z.heap.objs.size, rawInt 0, .none, .none] } }) :=
  .of_wp fun prog w A R z hh => by
    obtain ⟨hp, gg, dd, tt, oo⟩ := z; obtain ⟨k1, hh⟩ := hh
    have sub1 := sub_enumerate
    have q1 : ∀ {A' : Around} {E : Value → Shared → Prop} {Q : Value → Shared → Prop}, Q (.ref hp.objs.size) ⟨hp.push ob, gg, dd, tt, oo⟩ → wpAny (model prog w) A' (pyIter v) Q E ⟨hp, gg, dd, tt, oo⟩ :=
      fun q => Bg.iter prog w _ _ ⟨hp, gg, dd, tt, oo⟩ _ k1 q
    wp_walk using q1
    refine wpAny_stack_any fun stk => wpAny_pure ?_
    split
    · rename_i cc _ _ _ _ _
      cases (cc == Value.type "enumerate")
      · wp_walk using q1; exact ⟨_, rfl, hh⟩
      · wp_walk using q1; exact ⟨_, rfl, hh⟩
    · wp_walk using q1; exact ⟨_, rfl, hh⟩
section
variable {prog : Program} {w : World} {A : Around} {E : Value → Shared → Prop} {s : Shared}
theorem enum_begins1 {v : Value} {ob : Obj} {Hv : Heap → Prop} {Q : Value → Shared → Prop} (Bg : Begins v ob Hv) (k1 : Hv s.heap)
    (h : ∀ h', IsEnum h' (s.heap.objs.size + 1) s.heap.objs.size 0 .none → h'.get? s.heap.objs.size = some ob → (∀ b o, s.heap.get? b = some o → h'.get? b = some o) → Q (.ref (s.heap.objs.size + 1)) { s with heap := h' }) :
    wpAny (model prog w) A (call (.type "enumerate") [v]) Q E s := by
  refine callType_new F.called_enumerate (by decide) (F.typeCall_enumerate_1 _) (F.newCall_enumerate_1 _) (fun obj => F.args_object_init_2 obj _) F.entry_enumerate_new (meets_enum1 Bg) ⟨k1, ?_⟩
  have sz : (s.heap.push ob).objs.size = s.heap.objs.size + 1 := Heap.size_push ..
  show _ ∧ _
  rw [sz]
  have isE : IsEnum ((s.heap.push ob).push { cls := .type "enumerate", data := .fields #[.none, .bool false, .ref s.heap.objs.size, rawInt 0, .none, .none] }) (s.heap.objs.size + 1) s.heap.objs.size 0 .none := by
    have q := Heap.get?_push_size (s.heap.push ob) (o := { cls := .type "enumerate", data := .fields #[.none, .bool false, .ref s.heap.objs.size, rawInt 0, .none, .none] }) rfl
    rw [sz] at q
    exact q
  exact ⟨⟨_, isE, rfl⟩, h _ isE (Heap.get?_push_of_some _ (Heap.get?_push_size _ Bg.free)) fun b o x => Heap.get?_push_of_some _ (Heap.get?_push_of_some _ x)⟩
end
section
variable {prog : Program} {w : World} {A : Around} {E : Value → Shared → Prop} {s : Shared}
theorem enum_endT {e it l : Addr} {i : Nat} {us : Array Value} {old : Value} {Q : Option Value → Shared → Prop} (hh : A.handled = none) (isE : IsEnum s.heap e it i old) (isI : s.heap.IsTupleIter it l i) (isT : s.heap.IsTuple l us) (no : us[i]? = none)
    (hQ : ∀ h', Heap.ExtBut it s.heap h' → Q none { s with heap := h' }) : wpAny (model prog w) A (pyNext (.ref e)) Q E s := by
  have tyE : s.TypeIs (.ref e) "enumerate" := ⟨_, isE, rfl⟩
  unfold pyNext
  refine wpAny_bind (wpAny_attempt (wpAny_callSpecial?_slot (name := Str.ofString "__next__") tyE F.slot_enumerate_next
    (wpAny_call_entry F.slot_enumerate_next tyE F.entry_enumerate_next ?_ (F.args_enumerate_next_1 _))))
  show wpAny _ _ (field (.ref e) 2 >>= _) _ _ _
  refine wpAny_bind (wpAny_field isE rfl (x := .ref it) rfl (wpAny_bind (wpAny_nextOf_tuple_end hh isI isT no fun h' y ext isy => ?_)))
  obtain ⟨o1, g1, c1⟩ := isy
  exact wpAny_bind (wpAny_isInstance (T := "StopIteration") (b := true) ⟨o1, g1, c1⟩ isSubtype_stop (wpAny_pure (hQ _ ext)))
end
/-- the tuple at a, each item in a new pair with its number -/
def IteT (K : PySem.W.Frag) (a : Addr) : It :=
  ⟨fun i H => ∃ (xs : List V) (x : V), SqT K H a xs ∧ xs[i]? = some x,
   fun i H v H' => ∃ T x, v = .ref T ∧ H T = none ∧ H' = upd H T (.tup [.int (i : Nat), x]) ∧ ∀ xs, SqT K H a xs → xs[i]? = some x,
   fun i H => ∃ xs : List V, SqT K H a xs ∧ xs.length ≤ i⟩
theorem turn_enumT {P : Program} {w : World} {K : PySem.W.Frag} {elts : List Expr} {kk : Nat} {tpos : Pos} (a e it : Addr) :
    Turn P w K (.Tuple elts kk tpos) (IteT K a) [e, it] e (fun i h => (∃ old, IsEnum h e it ((i : Nat) : Int) old) ∧ h.IsTupleIter it a i ∧ e ≠ it) where
  mem := by simp
  obj := fun i h st b hb => by
    obtain ⟨⟨old, q⟩, ⟨o, ho, _, hd⟩, _⟩ := st
    rcases (by simpa using hb : b = e ∨ b = it) with z | z
    · rw [z]
      exact ⟨_, q, fun v q => nomatch q⟩
    · rw [z]
      exact ⟨o, ho, fun v q => by rw [hd] at q; cases q⟩
  keep := fun i h h' st k => ⟨let ⟨old, q⟩ := st.1; ⟨old, k e (by simp) _ q⟩, st.2.1.at fun o q => k it (by simp) o q, st.2.2⟩
  item := by
    intro X eP ew eK hc i pins s σ H E I hf st hg
    subst eP ew eK
    obtain ⟨⟨old, isE⟩, isI, hne⟩ := st
    obtain ⟨xs, x, sx, gx⟩ := hg
    obtain ⟨us, rx, tup, lx⟩ := I.tuple sx
    obtain ⟨u, gu, ru⟩ := rx.get gx
    have lt_e : e < s.heap.objs.size := Heap.lt_size isE
    have lt_i : it < s.heap.objs.size := by obtain ⟨_, q, _⟩ := isI; exact Heap.lt_size q
    have hai : a ≠ it := fun z => by
      rw [z] at tup
      obtain ⟨o1, g1, c1, _⟩ := tup
      obtain ⟨o2, g2, c2, _⟩ := isI
      rw [g1] at g2
      cases g2
      rw [c1] at c2
      exact absurd (Value.type.inj c2) (by decide)
    have hi : i < us.toArray.size := by
      have := (List.getElem?_eq_some_iff.mp gu).1
      simpa using this
    refine wpAny_pyNext_enum_itemC (Draws.tuple (A := X.A.in1) (I.ok.hd hc) it a hai us.toArray) isE ⟨isI, tup⟩ hi hne (by
      intro z
      rcases List.mem_cons.mp z with z | z
      · exact hne z
      · have z : e = a := by simpa using z
        rw [z] at isE
        obtain ⟨o1, g1, c1, _⟩ := tup
        rw [isE] at g1
        cases g1
        exact absurd (Value.type.inj c1) (by decide)) fun y h' tk gy outE st' gT hsz hk => ?_
    have ey : y = u := by
      have q : us.toArray[i]? = some u := by simpa using gu
      rw [q] at gy
      exact (Option.some.inj gy).symm
    subst ey
    refine ⟨_, rfl, wpAny_letOwnedTupleGo_enum (s := { s with heap := h', toks := tk + 1 }) outE fun h2 isE2 sb => ?_⟩
    have gT2 : h2.get? s.heap.objs.size = some { cls := .type "tuple", data := .seq #[.int i tk, y] } := (sb.2 _ (Nat.ne_of_gt lt_e)).trans gT
    have ok2 : ObjOk X.prog X.w (upd H s.heap.objs.size (.tup [.int (i : Nat), x])) h2 s.heap.objs.size (.tup [.int (i : Nat), x]) :=
      ⟨(by show 2 ≤ sizeLine; decide), [.int i tk, y], .cons ⟨_, rfl⟩ (.cons ru .nil), ⟨_, gT2, rfl, _, rfl⟩⟩
    have I2 : Inv X pins σ (upd H s.heap.objs.size (.tup [.int (i : Nat), x])) { s with heap := h2, toks := tk + 1 } :=
      I.turnedNew (ch := [e, it]) (fun b o hb q => (sb.2 b (fun z => hb (by simp [z]))).trans (hk b o (fun z => hb (by simp [z])) (fun z => hb (by simp [z])) q)) hf (Nat.le_refl _) ok2
    refine ⟨.ref s.heap.objs.size, _, I2, rfl, ⟨_, x, rfl, I.hok.fresh (Nat.le_refl _), rfl, fun ys hy => by rw [I.tuple_inj hy sx]; exact gx⟩, ⟨⟨y, ?_⟩, st'.1.at fun o q => (sb.2 it (Ne.symm hne)).trans q, hne⟩, fun b hb => ?_⟩
    · have e1 : ((i + 1 : Nat) : Int) = (i : Int) + 1 := by omega
      rw [e1]
      exact isE2
    · have lt_b : b < s.heap.objs.size := by
        rcases (by simpa using hb : b = e ∨ b = it) with z | z
        · rw [z]; exact lt_e
        · rw [z]; exact lt_i
      rw [upd_ne (Nat.ne_of_lt lt_b)]
      exact (hf b hb).1
  done := by
    intro X eP ew eK hc i pins s σ H E I hf st hg
    subst eP ew eK
    obtain ⟨⟨old, isE⟩, isI, hne⟩ := st
    obtain ⟨xs, sx, gx⟩ := hg
    obtain ⟨us, rx, tup, lx⟩ := I.tuple sx
    obtain ⟨f0, f1, f2, f3, f4, f5⟩ := hf it (by simp)
    have hl := rx.length
    exact enum_endT (I.ok.hd hc) isE isI tup (by simp; omega) fun h' eb => ⟨rfl, I.turned (t' := s.toks) (fun b o hb q => eb b o hb q) f0 f1 f3 f4 f5⟩
  self := fun A i s Q E st h => let ⟨⟨_, q⟩, _⟩ := st; wpAny_pyIter_enum q h
def iEnumT (K : PySem.W.Frag) (ta : TA) : TI := fun σ H R => ta σ H fun vs H1 => ∃ a xs, vs = [.ref a] ∧ SqT K H1 a xs ∧ R (IteT K a) H1
theorem pi_enumT {X : Cx} {e : Expr} {ta : TA} {p pos tpos : Pos} {elts : List Expr} {kk : Nat} (hg : Gl X "enumerate") (hm : X.mg "enumerate" = none) (ha : PA X [e] ta) (hs : starEach [e] X.env = [(false, eval e X.env)] := by rfl) :
    PI X (.Tuple elts kk tpos) (.Call (.Name "enumerate" p) [e] [] pos) (iEnumT X.K ta) := by
  refine ⟨fun pins s σ H R I h => ?_⟩
  refine PyProof.Rows.Call_ (ld_blt I hg hm PyProof.Rows.boot_enumerate (PyProof.Rows.callWith_type1 (thn (ha.run pos pins s σ H _ I h) fun us z ⟨vs, H1, I1, r1, q1⟩ => ?_) hs rfl))
  obtain ⟨a, xs, ev, sx, q⟩ := q1
  subst ev
  obtain ⟨u, eu, ru⟩ := vals1 r1
  subst eu
  cases (show u = Value.ref a from ru)
  obtain ⟨its, rx, tup, lx⟩ := I1.tuple sx
  refine enum_begins1 (begins_tuple a its.toArray) tup fun h' isE gI hk => wpAny_pyIter_enum isE ?_
  have I2 : Inv X pins σ H1 { z with heap := h' } := I1.kept (t' := z.toks) hk
  refine ⟨z.heap.objs.size + 1, [z.heap.objs.size + 1, z.heap.objs.size], _, _, H1, rfl, I2, turn_enumT a (z.heap.objs.size + 1) z.heap.objs.size, ⟨⟨.none, isE⟩, ⟨_, gI, rfl, rfl⟩, Nat.succ_ne_self _⟩, fun b hb => ?_, q⟩
  have le_b : z.heap.objs.size ≤ b := by
    rcases (by simpa using hb : b = z.heap.objs.size + 1 ∨ b = z.heap.objs.size) with g | g
    · rw [g]; exact Nat.le_add_right _ _
    · rw [g]; exact Nat.le_refl _
  exact I1.fpOk le_b (I1.hok.fresh le_b)
/-- for i, x in enumerate(t): Pv by the turn; the pair is new at T -/
theorem for_enumT {K : PySem.W.Frag} {a : Addr} {xs : List V} {g : TG} {tb : L2.TS} {D : Ends} {σ : L2.St} {H : Hp} (Pv : Nat → L2.St → Hp → Prop) (h0 : Pv 0 σ H) (hl : ∀ i σ H, i ≤ xs.length → Pv i σ H → SqT K H a xs)
    (hs : ∀ (i : Nat) (x : V) (T : Addr) (σ : L2.St) (H : Hp), xs[i]? = some x → Pv i σ H → H T = none → g (.ref T) σ (upd H T (.tup [.int (i : Nat), x])) fun σ2 H2 => tb { D with nx := Pv (i + 1), ct := Pv (i + 1), bk := D.nx } σ2 H2) (hd : ∀ σ H, Pv xs.length σ H → D.nx σ H) :
    ∃ W : Nat → Nat → L2.St → Hp → Prop, (∃ m, W 0 m σ H) ∧ ∀ i m σ H, W i m σ H →
      ((IteT K a).stop i H ∧ D.nx σ H) ∨ ((IteT K a).go i H ∧ ∃ N : L2.St → Hp → Prop, (∀ σ' H', N σ' H' → ∃ m', m' < m ∧ W (i + 1) m' σ' H') ∧ ∀ x H', (IteT K a).yld i H x H' → g x σ H' fun σ2 H2 => tb { D with nx := N, ct := N, bk := D.nx } σ2 H2) := by
  refine ⟨fun i m σ H => m = xs.length - i ∧ i ≤ xs.length ∧ Pv i σ H, ⟨_, rfl, Nat.zero_le _, h0⟩, ?_⟩
  rintro i m σ H ⟨rfl, le_i, pv0⟩
  have sx := hl i σ H le_i pv0
  rcases Nat.lt_or_ge i xs.length with lt_i | ge_i
  · refine .inr ⟨⟨xs, xs[i], sx, List.getElem?_eq_getElem lt_i⟩, Pv (i + 1), fun σ' H' pv1 => ⟨_, by omega, rfl, lt_i, pv1⟩, fun x H' yl => ?_⟩
    obtain ⟨T, y, ex, hT, eH, gy⟩ := yl
    subst ex eH
    exact hs i y T σ H (gy xs sx) pv0 hT
  · have ei : i = xs.length := by omega
    subst ei
    exact .inl ⟨⟨xs, sx, ge_i⟩, hd σ H pv0⟩
end DV
namespace DV
open PySem PySem.Spec L2 DW

def spNeedWeb (K : PySem.W.Frag) : Sp := fun vs H Q _ => ∃ (v : V) (ns : List Int) (ts : List Tie), vs = [v] ∧ Tp K H (webD ns ts) v ∧ WebOk ns ts ∧ ∀ H', Same H H' → Q .non H'
section
variable {P : Program} {w : World} {K : PySem.W.Frag} {mg : Str → Option Value} {base : Heap} {f : Addr} {fd : FuncData}
theorem ok_need_web {f1 f2 f3 f4 : Addr} {fd1 fd2 fd3 fd4 : FuncData} {t1 t2 : Tok} (F : Fun K "need_web" "need_web" sNeedWeb f fd) (B : Bi mg) (cP : mg "MOST_PERSONS" = some (.int 8 t1)) (cV : mg "MOST_VALUE" = some (.int 1000 t2))
    (C1 : Cal P w K mg base "is_from" 2 f1 fd1 ["value", "least", "most"] spIsFrom) (C2 : Cal P w K mg base "is_tie" 3 f2 fd2 ["value", "many"] (spIsTie K)) (C3 : Cal P w K mg base "hanging" 2 f3 fd3 ["web", "person", "lot"] (spHanging K))
    (C4 : Cal P w K mg base "everybody" 1 f4 fd4 ["web"] (spEverybody K)) : FnOk P w K mg base CX0 4 f fd ["value"] (spNeedWeb K) := by
  refine F.ok scNeedWeb (fun vs H Q E h => ?_) (fun cdv A outer s H vs Q E hr h => ?_)
  · obtain ⟨v, ns, ts, rfl, _⟩ := h
    rfl
  · obtain ⟨v, ns, ts, rfl, hw, W, k⟩ := h
    obtain ⟨a, wb, wc, xs, rfl, s1, s2, s3, s4⟩ := hw.web
    have hxs := map_len s4
    refine ⟨_, pss_cons (ps_if (PW.pt (pw_or (pt_not (pt_val (pe_callB call_isi (by rfl) B.isinstance bt_isinstance (pa_cons (pv 0) (pa_cons (pe_bltn (v := .ty "tuple") (by rfl) B.tuple bt_tuple rfl) pa_nil)))))
        (pw_or1 (pt_cmpR op_ne (pe_callB call_len_seq (by rfl) B.len bt_len (pa_cons (pv 0) pa_nil)) pe_int (nomark _))))) (pss_one ps_never) pss_nil)
      (pss_cons (ps_asg (pv 0) (pg_tup rfl (pgs_cons (pg_name (i := 1) scNeedWeb.nd rfl (Or.inl rfl)) (pgs_cons (pg_name (i := 2) scNeedWeb.nd rfl (Or.inl rfl)) pgs_nil))))
      (pss_cons (ps_if (PW.pt (pw_or (pt_not (pt_val (pe_callB call_isi (by rfl) B.isinstance bt_isinstance (pa_cons (pv 1) (pa_cons (pe_bltn (v := .ty "tuple") (by rfl) B.tuple bt_tuple rfl) pa_nil)))))
        (pw_or (pt_not (pt_chain op_le op_le pe_int (pe_callB call_len_seq (by rfl) B.len bt_len (pa_cons (pv 1) pa_nil)) (pe_glob (v := .int 8) (by rfl) cP ⟨_, rfl⟩)))
        (pw_or1 (pt_not (pt_val (pe_callB call_isi (by rfl) B.isinstance bt_isinstance (pa_cons (pv 2) (pa_cons (pe_bltn (v := .ty "tuple") (by rfl) B.tuple bt_tuple rfl) pa_nil))))))))) (pss_one ps_never) pss_nil)
      (pss_cons (ps_if (pt_not (pt_val (pe_callB (cr_all rfl) (by rfl) B.all bt_all (pa_cons (pe_lc (own := [("number", 5)]) (g := gName 5) rfl scNeedWeb.nd (pi_tup (pv 1))
          (blkOk_by (N := nNeedWeb) (sc := defScope sNeedWeb) (by decide +kernel)) (fun _ _ _ _ _ => pg_name (i := 5) scNeedWeb.nd rfl (Or.inl rfl)) (fun _ _ _ _ _ => pts_nil)
          (fun _ _ _ _ _ => pe_cal C1 hr (by decide) (pa_cons (pv 5) (pa_cons (pe_un un_neg (pe_glob (v := .int 1000) (by rfl) cV ⟨_, rfl⟩)) (pa_cons (pe_glob (v := .int 1000) (by rfl) cV ⟨_, rfl⟩) pa_nil))))) pa_nil)))) (pss_one ps_never) pss_nil)
      (pss_cons (ps_for PassesOwn.never rfl (pi_enumT (by rfl) B.enumerate (pa_cons (pv 2) pa_nil)) (pg_tup rfl (pgs_cons (pg_name (i := 3) scNeedWeb.nd rfl (Or.inl rfl)) (pgs_cons (pg_name (i := 4) scNeedWeb.nd rfl (Or.inl rfl)) pgs_nil)))
        (pss_one (ps_if (PW.pt (pw_or (pt_not (pt_val (pe_cal C2 hr (by decide) (pa_cons (pv 4) (pa_cons (pe_callB call_len_seq (by rfl) B.len bt_len (pa_cons (pv 1) pa_nil)) pa_nil)))))
          (pw_or1 (PW.pt (pw_and (pt_cmpR op_gt (pv 3) pe_int (nomark _)) (pw_and1 (pt_cmpR (op_leT hr.units0) (pv 4) (pe_ix ix_tup (pv 2) (pe_op op_sub (pv 3) pe_int) (fun _ _ => rfl)) (nomark _)))))))) (pss_one ps_never) pss_nil)))
      (pss_one (ps_if (pt_cmpR op_lt (pe_callB call_len_seq (by rfl) B.len bt_len (pa_cons (pe_cal C3 hr (by decide) (pa_cons (pv 0) (pa_cons pe_int (pa_cons (pe_cal C4 hr (by decide) (pa_cons (pv 0) pa_nil)) pa_nil)))) pa_nil))
        (pe_callB call_len_seq (by rfl) B.len bt_len (pa_cons (pv 1) pa_nil)) (nomark _)) (pss_one ps_never) pss_nil)))))), ?_⟩
    have n1 := W.n1
    have n6 := W.n6
    refine ⟨_, rfl, _, _, _, _, true, rfl, .ty _, sqt_ty s1, kit_ty (by decide +kernel), true, rfl, iteF ?_⟩
    refine ⟨_, rfl, a, _, rfl, .inr s1, rfl, _, rfl, iteF ?_⟩
    refine ⟨_, rfl, a, _, rfl, s1, rfl, _, _, rfl, _, _, rfl, rfl, ?_⟩
    refine ⟨_, rfl, _, _, _, _, true, rfl, .ty _, sqt_ty s2, kit_ty (by decide +kernel), true, rfl, iteF ?_⟩
    refine ⟨_, rfl, wb, _, rfl, .inr s2, _, _, rfl, rfl, _, rfl, ?_⟩
    rw [List.length_map]
    have d1 : decide ((1 : Int) ≤ ((ns.length : Nat) : Int)) = true := decide_eq_true (by omega)
    rw [d1]
    refine iteT ⟨_, _, rfl, rfl, _, rfl, ?_⟩
    have d2 : decide (((ns.length : Nat) : Int) ≤ 8) = true := decide_eq_true (by omega)
    rw [d2]
    refine iteF ⟨_, rfl, _, _, _, _, true, rfl, .ty _, sqt_ty s3, kit_ty (by decide +kernel), true, rfl, iteF ?_⟩
    refine ⟨_, rfl, wb, rfl, ⟨_, s2⟩, fun D hD => ?_⟩
    refine lc_tpT (K := K) (as := ns) (dec := .int) (p := fun _ => true) (f := fun _ => .bool true) s2 (TpL.of_ints _) hD (by rw [List.length_map]; omega) (fun c hc => ?_) (fun ys H2 e2 hy ty => ?_)
    · intro x H2 N0 N1 e2 hx m0 m1
      obtain rfl : x = .int c := hx
      refine ⟨rfl, yes ?_⟩
      refine ⟨_, rfl, _, rfl, _, _, _, rfl, ?_⟩
      have dc : decide (-(1000 : Int) ≤ c ∧ c ≤ 1000) = true := decide_eq_true ⟨(W.rng c hc).1, (W.rng c hc).2⟩
      show N1 (.bl (decide (-(1000 : Int) ≤ c ∧ c ≤ 1000))) H2
      rw [dc]
      exact m1 rfl _ _ (Same.refl _) rfl
    · have eall : (ns.filter fun _ => true).map (fun _ => PyData.bool true) = (ns.map fun _ => true).map PyData.bool := by
        rw [List.filter_eq_self.mpr fun _ _ => rfl, List.map_map]
        rfl
      rw [eall] at ty
      rw [TpL.bools _ ty] at hy
      refine ⟨D, _, rfl, SqL.of hy, _, rfl, ?_⟩
      have ea : (ns.map fun _ => true).all id = true := by rw [List.all_map]; exact List.all_eq_true.mpr fun _ _ => rfl
      rw [ea]
      refine iteF ?_
      refine ⟨_, rfl, wc, _, rfl, (sts e2).sqt s3, for_enumT (K := K) (a := wc) (xs := xs) (fun i σ H' => ∃ (y z y2 : Option V), σ = [some (.ref a), some (.ref wb), some (.ref wc), y, z, y2] ∧ Same H H') ⟨_, _, _, rfl, e2⟩ (fun i σ H' _ ⟨_, _, _, _, q⟩ => (sts q).sqt s3) ?_ ?_⟩
      · rintro i x T σ H' hi ⟨y, z, y2, rfl, q3⟩ hT
        obtain ⟨t, htc, htx⟩ := get_dec s4 hi
        have hlt := (List.getElem?_eq_some_iff.mp htc).1
        have htm := W.tr t (List.mem_of_getElem? htc)
        have q4 : Same H (upd H' T (.tup [.int (i : Nat), x])) := q3.trans (same_new hT _)
        refine ⟨T, _, rfl, SqT.of upd_same, rfl, _, _, rfl, _, _, rfl, rfl, ?_⟩
        generalize upd H' T (.tup [.int (i : Nat), x]) = H4 at q4
        refine ⟨_, rfl, _, rfl, wb, _, rfl, .inr ((sts q4).sqt s2), _, t, _, rfl, Tp.mono (sts q4) _ _ htx, htm.1, htm.2.1, (by rw [List.length_map]; exact htm.2.2), _, rfl, iteF ?_⟩
        refine ⟨_, rfl, _, _, rfl, rfl, _, rfl, ?_⟩
        refine ite2 (fun ci => ?_) (fun ci => ?_)
        · have ci' : (i : Int) > 0 := of_decide_eq_true ci
          have hj : i - 1 < ts.length := by omega
          obtain ⟨xj, gj, tj⟩ := TpL.get (i := i - 1) (d := tieD ts[i - 1]) s4 (by rw [List.getElem?_map, List.getElem?_eq_getElem hj]; rfl)
          obtain ⟨ta, rfl, sa⟩ := (Tp.mono (sts q4) _ _ htx).tie
          obtain ⟨tb, rfl, sb⟩ := (Tp.mono (sts q4) _ _ tj).tie
          have hij : ((i : Nat) : Int) - 1 = ((i - 1 : Nat) : Int) := by omega
          refine ⟨_, rfl, _, rfl, _, rfl, _, _, rfl, rfl, wc, _, _, _, rfl, rfl, (sts q4).sqt s3, at_of hij gj, ?_⟩
          have lt : ts[i - 1].1 < t.1 ∨ (ts[i - 1].1 = t.1 ∧ ts[i - 1].2 < t.2) := by
            have et : ts[i] = t := (List.getElem?_eq_some_iff.mp htc).2
            have := List.pairwise_iff_getElem.mp W.asc (i - 1) i hj hlt (by omega)
            rw [et] at this
            exact this
          generalize ts[i - 1] = u at lt sb
          refine ⟨ta, tb, [t.1, t.2], [u.1, u.2], rfl, rfl, sa, sb, ?_⟩
          have el : Ob.lexAt (fun j => decide ([t.1, t.2].getD j 0 = [u.1, u.2].getD j 0)) (fun j => decide ([t.1, t.2].getD j 0 ≤ [u.1, u.2].getD j 0)) (decide ([t.1, t.2].length ≤ [u.1, u.2].length)) 0 (min [t.1, t.2].length [u.1, u.2].length) = false := by
            rcases lt with lt | ⟨l1, l2⟩
            · have a1 : ¬ t.1 = u.1 := by omega
              have a2 : ¬ t.1 ≤ u.1 := by omega
              simp [Ob.lexAt, a1, a2]
            · have a1 : t.1 = u.1 := by omega
              have a2 : ¬ t.2 = u.2 := by omega
              have a3 : ¬ t.2 ≤ u.2 := by omega
              simp [Ob.lexAt, a1, a2, a3]
          rw [el]
          exact ⟨_, rfl, iteF ⟨_, _, _, rfl, q4⟩⟩
        · exact iteF ⟨_, _, _, rfl, q4⟩
      · rintro σ H' ⟨y, z, y2, rfl, q3⟩
        refine ⟨_, rfl, _, rfl, .ref a, ns, ts, rfl, Tp.mono (sts q3) _ _ hw, n6, fun ev H5 e5 te => ?_⟩
        have h0 : (0 : Int) ∈ persons ns.length := mem_persons.mpr ⟨by omega, by omega⟩
        refine ⟨.ref a, ev, ns, ts, 0, persons ns.length, rfl, Tp.mono (sts (q3.trans e5)) _ _ hw, te.sqi, W.tlen, by rw [length_persons]; omega, persons_rise _, h0, fun hv H6 e6 th => ?_⟩
        obtain ⟨ha, rfl, sh⟩ := th.iT
        rw [W.all] at sh
        refine ⟨ha, _, rfl, .inr sh, _, rfl, wb, _, rfl, .inr ((sts ((q3.trans e5).trans e6)).sqt s2), _, _, rfl, rfl, _, rfl, ?_⟩
        rw [List.length_map, List.length_map, length_persons]
        have dd : decide (((ns.length : Nat) : Int) < ((ns.length : Nat) : Int)) = false := decide_eq_false (by omega)
        rw [dd]
        exact iteF (k _ ((q3.trans e5).trans e6))
end
end DV
/-! sorted(xs, key=lambda x: (len(x), x)) of tuples of ints; sorted of pairs (int, tuple of ints) -/
namespace DV
open PySem PySem.Spec L2 DW
theorem reads_ints {h : Heap} : ∀ {l : List Int} {us : List Value}, Vals (l.map V.int) us → ReadsAll h us (l.map .int) []
  | [], _, r => by
    cases r
    exact .nil
  | i :: l, _, r => by
    cases r with
    | cons r1 r2 =>
      obtain ⟨t, e⟩ := (show ∃ t, _ = Value.int i t from r1)
      rw [e]
      exact ReadsAll.cons (as := []) (bs := []) (.int i t) (reads_ints r2)
/-- the key of a lot -/
def keyD (l : List Int) : PyData := .tuple [.int (l.length : Int), dI l]
section
variable {prog : Program} {w : World} {A : Around} {s : Shared}
theorem lam_key {mg mb : Str → Option Value} {f c' t : Addr} {pm ctv : Value} {q x : Str} {params : Arguments} {scope : Scope} {p1 p2 p3 p4 p5 : Pos} {k : Nat} {us : List Value} {l : List Int} (room : A.depth < recursionLimit)
    (hf : s.heap.get? f = some (PySem.W.kla_obj "<lambda>" q params (.Tuple [.Call (.Name "len" p1) [.Name x p2] [] p3, .Name x p4] k p5) scope [] pm c' ctv))
    (cr : s.heap.CodeRec (.ref c') q) (lim : s.heap.NoLimit) (gN : s.heap.Ns mainGlobals mg) (gl : mg "len" = none) (bN : s.heap.Ns builtinsNs mb) (bl : mb "len" = some (.builtin "len"))
    (sk : scope.kind = .function) (sco : scope.isCoroutine = false) (sg : scope.isGenerator = false) (sx : scope.names.lookup x = some .local) (sl : scope.names.lookup ("len" : Str) = some NameKind.globalImplicit) (nc : ∀ y ∈ scope.names, y.2 ≠ .cell) (dbg : (x == ("__debug__" : Str)) = false)
    (hb : ∀ v, bindArgs (PySem.W.kla_fn "<lambda>" q params (.Tuple [.Call (.Name "len" p1) [.Name x p2] [] p3, .Name x p4] k p5) scope [] pm (.ref c') ctv) ⟨[v], []⟩ = pure [(x, v)])
    (rd : Vals (l.map V.int) us) (tup : Heap.IsTuple s.heap t us.toArray) (hl : l.length ≤ 1000) :
    wpAny (model prog w) A (call (.ref f) [.ref t]) (PySem.W.KeyPure (keyD l) s) (fun _ _ => False) s := by
  have ul : us.length = l.length := by rw [← rd.length, List.length_map]
  refine wpAny_call (PySem.W.kla_callFunE room hf rfl sco sg rfl cr ?_)
  rw [hb]
  refine wpAny_pure (wpAny_newFunctionEnv nc (fun y hy => by
    have e : y = (x, Value.ref t) := by simpa using hy
    rw [e]
    exact sx) (fun h1 hns hsb => ⟨lim.fresh _ hsb, ?_⟩) sk)
  show codeAny _ _ (.expr _ (PySem.W.envX q scope s.heap.objs.size f (.ref c') [])) _ _
  have kp : ∀ b o, s.heap.get? b = some o → h1.get? b = some o := fun b o e => hsb.extBut b o (Nat.ne_of_lt (Heap.lt_size e)) (Heap.get?_push_of_some _ e)
  refine PySem.W.kla_codeExpr ?_
  have tup1 : Heap.IsTuple h1 t us.toArray := by
    obtain ⟨o, g1, g2⟩ := tup
    exact ⟨o, kp _ _ g1, g2⟩
  have hmx : (([(x, Value.ref t)] : List (Str × Value)).reverse.lookup x) = some (Value.ref t) := by simp
  have nm : ∀ (p : Pos) (z : Shared) (E : Value → Shared → Prop) (Q : Value → Shared → Prop), z.heap = h1 → Q (.ref t) z → wpAny (model prog w) (A.deeper (PySem.W.envX q scope s.heap.objs.size f (.ref c') [])) (eval (.Name x p) (PySem.W.envX q scope s.heap.objs.size f (.ref c') [])) Q E z := fun p z E Q hz hQ =>
    wpAny_Name (wpAny_loadName_local sk sx (by rw [hz]; exact hns) hmx hQ) dbg
  refine wpAny_Tuple_spliced ?_
  show wpAny _ _ (spliced ((false, eval (.Call (.Name "len" p1) [.Name x p2] [] p3) _) :: (false, eval (.Name x p4) _) :: [])) _ _ _
  refine Calls.spliced_cons (wpAny_Call_Name_kw (Calls.Name_function_global sk sl (Calls.loadGlobal_builtin (gN.keeps kp) gl (bN.keeps kp) bl ?_)))
  refine PyProof.Rows.callWith_builtin1 ?_ rfl rfl
  show wpAny _ _ (spliced ((false, eval (.Name x p2) _) :: [])) _ _ _
  refine Calls.spliced_cons (nm p2 _ _ _ rfl (Calls.spliced_nil ?_))
  refine PyProof.Rows.len_tuple (show PyProof.Rows.IsTup h1 t us.toArray from tup1) (by simp only [List.size_toArray]; omega) ?_
  refine Calls.spliced_cons (nm p4 _ _ _ rfl (Calls.spliced_nil ?_))
  refine ⟨by show 2 ≤ sizeLine; decide, ?_⟩
  refine ⟨_, _, rfl, fun b o e => Heap.get?_push_of_some _ (kp b o e), ?_⟩
  refine Reads.tuple (Heap.get?_push_size _ rfl) rfl rfl ?_
  obtain ⟨o, g1, g2, n, g3⟩ := tup1
  refine ReadsAll.cons (as := []) (bs := []) ?_ (ReadsAll.cons (as := []) (bs := []) ?_ .nil)
  · rw [← ul]
    exact .int _ _
  · exact Reads.tuple (Heap.get?_push_of_some _ g1) g2 g3 (reads_ints rd)
end
/-- a value that is a tuple of the ints l -/
def RTup (K : PySem.W.Frag) (H : Hp) (v : Value) (l : List Int) : Prop := ∃ a, v = Value.ref a ∧ SqT K H a (l.map V.int)
theorem each_tup {K : PySem.W.Frag} {H : Hp} : ∀ {ls : List (List Int)} {xs : List V} {us : List Value}, TpL K H (ls.map dI) xs → Vals xs us → PySem.W.EachIs (RTup K H) us ls
  | [], xs, us, h, r => by
    have h : xs = [] := h
    subst h
    cases r
    exact .nil
  | l :: ls, xs, us, h, r => by
    obtain ⟨x, ys, e, t1, t2⟩ := h
    subst e
    cases r with
    | cons r1 r2 =>
      obtain ⟨a, ex, sa⟩ := Tp.iT t1
      subst ex
      exact .cons ⟨a, r1, sa⟩ (each_tup t2 r2)
theorem each_back {K : PySem.W.Frag} {H : Hp} : ∀ {ls : List (List Int)} {us : List Value}, PySem.W.EachIs (RTup K H) us ls → ∃ ys, Vals ys us ∧ TpL K H (ls.map dI) ys
  | _, _, .nil => ⟨[], .nil, rfl⟩
  | _, _, .cons ⟨a, e, sa⟩ t => by
    obtain ⟨ys, h1, h2⟩ := each_back t
    exact ⟨.ref a :: ys, .cons e h1, _, _, rfl, Tp.of_iT sa, h2⟩
theorem keyD_alike (l m : List Int) : PySem.W.alike (keyD l) (keyD m) = true := by
  simp [keyD, dI, PySem.W.alike, PySem.W.alikeAll, PySem.W.alike_ints]
theorem keyD_depth (l : List Int) : (keyD l).depth = 2 := by
  simp [keyD, dI, PyData.depth, PyData.depthAll, PySem.W.depth_ints]
def oneV (K1 : V → Hp → Prop) : List V → Hp → Prop
  | [x], H => K1 x H
  | _, _ => False
theorem oneV_of {K1 : V → Hp → Prop} {vs : List V} {H : Hp} (h : oneV K1 vs H) : ∃ x, vs = [x] ∧ K1 x H := by
  match vs, h with
  | [x], h => exact ⟨x, rfl, h⟩
  | [], h => exact False.elim h
  | _ :: _ :: _, h => exact False.elim h
def tSortL (K : PySem.W.Frag) (T : List (Addr × Str)) (te : TE) : TE := fun σ H Q => te σ H fun x H1 => ∃ (a : Addr) (xs : List V) (ls : List (List Int)), x = .ref a ∧ SqL K H1 a xs ∧ TpL K H1 (ls.map dI) xs ∧ ls.length ≤ 1000 ∧ (∀ l ∈ ls, l.length ≤ 1000) ∧ LamX.Tabs T H1 ∧
  ∀ H2, LamX.ExtN H1 H2 → LamX.Tabs T H2 → ∀ (ys : List V) (p : Addr), H2 p = none → TpL K H2 ((ls.mergeSort (PySem.W.dataLe false keyD)).map dI) ys → Q (.ref p) (upd H2 p (.lst ys))
theorem pe_sortedLam {X : Cx} {e : Expr} {te : TE} {T : List (Addr × Str)} {c P : Addr} {x : Str} {params : Arguments} {scope : Scope} {p pos kpos lpos p1 p2 p3 p4 p5 : Pos} {kk : Nat} (hg : Gl X "sorted") (hm : X.mg "sorted" = none) (he : PE X e te) (hlen : X.mg "len" = none) (hr : Room 2 X.A)
    (TB : LamX.TabB X.base X.mg c P) (hcode : X.env.code = .ref c) (hT : (P, X.env.qual ++ "<lambda>") ∈ T) (hu : ∀ p ∈ T, p.1 = P → p.2 = X.env.qual ++ "<lambda>") (hdef : defaultsOf params X.env = ([], []))
    (sk : scope.kind = .function) (sco : scope.isCoroutine = false) (sg : scope.isGenerator = false) (sx : scope.names.lookup x = some .local) (sl : scope.names.lookup ("len" : Str) = some NameKind.globalImplicit) (nc : ∀ y ∈ scope.names, y.2 ≠ .cell ∧ y.2 ≠ .free) (dbg : (x == ("__debug__" : Str)) = false)
    (hb : ∀ (q : Str) (pm cv ctv v : Value), bindArgs (PySem.W.kla_fn "<lambda>" q params (.Tuple [.Call (.Name "len" p1) [.Name x p2] [] p3, .Name x p4] kk p5) scope [] pm cv ctv) ⟨[v], []⟩ = pure [(x, v)])
    (clo : cloFrom X.env.cells scope.names [] = [])
    (h1 : backTo pos (starEach [e] X.env) = (false, eval e X.env) :: backTo pos (starEach [] X.env) := by rfl) (h2 : (backTo pos (starEach [e] X.env)).any (·.1) = false := by rfl) (hs : starEach [e] X.env = (false, eval e X.env) :: starEach [] X.env := by rfl) :
    PE X (.Call (.Name "sorted" p) [e] [⟨some "key", .Lambda params (.Tuple [.Call (.Name "len" p1) [.Name x p2] [] p3, .Name x p4] kk p5) scope lpos, kpos⟩] pos) (tSortL X.K T te) := by
  refine ⟨fun pins s σ H Q I h => ?_⟩
  refine wpAny_Call_Name_kw (ld_blt I hg hm (show bootBuiltins "sorted" = some (.builtin "sorted") by decide +kernel) ?_)
  refine PyProof.Rows.callWith_kw (thn ((pa_cons he pa_nil hs).run pos pins s σ H (oneV fun x H1 => ∃ (a : Addr) (xs : List V) (ls : List (List Int)), x = .ref a ∧ SqL X.K H1 a xs ∧ TpL X.K H1 (ls.map dI) xs ∧ ls.length ≤ 1000 ∧ (∀ l ∈ ls, l.length ≤ 1000) ∧ LamX.Tabs T H1 ∧
      ∀ H2, LamX.ExtN H1 H2 → LamX.Tabs T H2 → ∀ (ys : List V) (p : Addr), H2 p = none → TpL X.K H2 ((ls.mergeSort (PySem.W.dataLe false keyD)).map dI) ys → Q (.ref p) (upd H2 p (.lst ys))) I h) fun us s1 ⟨vs, H1, I1, r1, q1⟩ => ?_) h1 h2 rfl rfl
  obtain ⟨y, ev, a, xs, ls, ey, sa, ta, n1, n2, tabs, k⟩ := oneV_of q1
  subst ev ey
  obtain ⟨u, eu, ru⟩ := vals1 r1
  subst eu
  cases (show u = Value.ref a from ru)
  show wpAny _ _ (evalAll ((do let v ← eval (.Lambda params (.Tuple [.Call (.Name "len" p1) [.Name x p2] [] p3, .Name x p4] kk p5) scope lpos) X.env; standAt pos; pure v) :: [])) _ _ s1
  refine wpAny_evalAll_cons (wpAny_bind (LamX.lam_make2 I1 TB hcode hT hu tabs hdef (fun y hy z => absurd z (nc y hy).2) fun f c' pm ctv H2 s2 I2 eN tabs2 hf hfn _ hco => ?_))
  refine wpAny_bind (wpAny_standAt (wpAny_pure (wpAny_evalAll_nil ?_)))
  rw [clo] at hf
  have sa2 : SqL X.K H2 a xs := by
    rcases sa with (g | ⟨o, g⟩) | g
    · exact .inl (.inl (eN _ _ g (fun ps z => by cases z)))
    · exact .inl (.inr ⟨o, eN _ _ g (fun ps z => by cases z)⟩)
    · exact .inr g
  have ta2 := TpL.mono (ets eN) _ _ ta
  obtain ⟨its, rv, pl, lz⟩ := I2.list sa2
  have un := hr.units
  obtain ⟨mb, bN, bl⟩ := I2.mod.blt
  have crec := NdefX.codeO_at I2.hok hco
  refine PySem.W.sorted_key_data (vs := its) (bs := ls) (R := RTup X.K H2) (b := false) keyD pl.isList (each_tup ta2 rv) (PySem.W.AllAlike.of fun l m => keyD_alike l m) (PySem.W.Sortable.tuples fun _ => ⟨_, _, rfl⟩) (by have := small1000 n1; omega)
    (fun l _ => by rw [keyD_depth]; omega) (PyProof.Rows.ksk_s1 _ _) (fun _ => PyProof.Rows.ksk_l1 _ _) (fun _ => PyProof.Rows.ksk_t1 _ _) (fun v l hR hl hp tk kp => ?_) (fun out ep h' tk kp _ gD ol eo => ?_)
  · obtain ⟨ta, ev, st⟩ := hR
    subst ev
    obtain ⟨us2, rv2, tup, _⟩ := I2.tuple st
    have tup2 : Heap.IsTuple hp ta us2.toArray := by
      obtain ⟨o, g1, g2⟩ := tup
      exact ⟨o, kp _ _ g1, g2⟩
    have crec2 : hp.CodeRec (.ref c') (X.env.qual ++ "<lambda>") := by
      obtain ⟨c2, o2, vs2, t2, e1, e2, e3, e4⟩ := crec
      exact ⟨c2, o2, vs2, t2, e1, kp _ _ e2, e3, e4⟩
    exact lam_key (s := { s2 with heap := hp, toks := tk }) hr.in1.in1.depth (kp _ _ hf) crec2 (I2.nolimit.keeps kp) ((I2.mod.glob.keeps I2.bk).keeps kp) hlen ((bN.keeps I2.bk).keeps kp) ((bl _ (by decide)).trans (by decide +kernel)) sk sco sg sx sl (fun y hy => (nc y hy).1) dbg (hb _ _ _ _) rv2 tup2 (n2 l hl)
  · obtain ⟨ys, vy, ty⟩ := each_back eo
    have hn : H2 (s2.heap.objs.size + 1) = none := I2.hok.fresh (Nat.le_succ _)
    refine ⟨.ref _, upd H2 (s2.heap.objs.size + 1) (.lst ys), I2.laid (t' := tk) kp (Nat.le_succ _) ⟨?_, out, ep, vy, gD⟩, rfl, k H2 eN tabs2 ys _ hn ty⟩
    have := small1000 n1
    rw [vy.length, ol]
    omega
end DV
/-! sorted of pairs (int, tuple of ints); min of a tuple; xs[i][j] += 1 -/
namespace DV
open PySem PySem.Spec L2 DW
theorem lexLt_irr : ∀ l : List Int, DW.lexLt l l = false
  | [] => rfl
  | x :: l => by
    unfold DW.lexLt
    rw [if_pos rfl]
    exact lexLt_irr l
theorem keyLe : PySem.W.dataLe false keyD = lotLe := by
  funext a b
  rw [PySem.W.dataLe_eq]
  show (!PySem.W.dataLt (keyD b) (keyD a)) = lotLe a b
  unfold lotLe lotLt
  congr 1
  unfold keyD
  rw [PySem.W.dataLt_pair (by simp [PySem.W.alike]) (by simp [dI, PySem.W.alike, PySem.W.alike_ints])]
  have e1 : PyData.eqv (.int (b.length : Int)) (.int (a.length : Int)) = decide (b.length = a.length) := by
    show ((b.length : Int) == (a.length : Int)) = _
    by_cases h : b.length = a.length
    · simp [h]
    · have h' : ¬ (b.length : Int) = (a.length : Int) := by omega
      simp [h, h']
  have e2 : PySem.W.dataLt (dI b) (dI a) = DW.lexLt b a := by
    unfold dI
    rw [PySem.W.dataLt_tuple, ← lexLt_eq]
    exact PySem.W.dataLt_ints b a
  rw [e1, e2, PySem.W.dataLt_int]
  by_cases h : b.length = a.length
  · rw [if_pos (decide_eq_true h), if_pos h]
    by_cases h2 : PyData.eqv (dI b) (dI a) = true
    · rw [if_pos h2, ← e2]
      cases q : PySem.W.dataLt (dI b) (dI a) with
      | false => rfl
      | true =>
        have t := (PySem.W.toks_eqv (dI b) (dI a) (by simp [dI, PySem.W.alike, PySem.W.alike_ints])).1 h2
        unfold PySem.W.dataLt at q
        rw [t] at q
        have := PySem.W.dataLt_self (dI a)
        unfold PySem.W.dataLt at this
        rw [this] at q
        cases q
    · rw [if_neg h2]
  · rw [if_neg (by simpa using h), if_neg h]
    by_cases h3 : b.length < a.length
    · have : (b.length : Int) < (a.length : Int) := by omega
      simp [h3, this]
    · have : ¬ (b.length : Int) < (a.length : Int) := by omega
      simp [h3, this]
/-! ### sorted of pairs -/
def RKey (K : PySem.W.Frag) (H : Hp) (v : Value) (l : List Int) : Prop := ∃ a, v = Value.ref a ∧ Tp K H (keyD l) (.ref a)
theorem each_key {K : PySem.W.Frag} {H : Hp} : ∀ {ls : List (List Int)} {xs : List V} {us : List Value}, TpL K H (ls.map keyD) xs → Vals xs us → PySem.W.EachIs (RKey K H) us ls
  | [], xs, us, h, r => by
    have h : xs = [] := h
    subst h
    cases r
    exact .nil
  | l :: ls, xs, us, h, r => by
    obtain ⟨x, ys, e, t1, t2⟩ := h
    subst e
    cases r with
    | cons r1 r2 =>
      obtain ⟨a, zs, ex, g⟩ := id t1
      subst ex
      exact .cons ⟨a, r1, t1⟩ (each_key t2 r2)
theorem each_keyback {K : PySem.W.Frag} {H : Hp} : ∀ {ls : List (List Int)} {us : List Value}, PySem.W.EachIs (RKey K H) us ls → ∃ ys, Vals ys us ∧ TpL K H (ls.map keyD) ys
  | _, _, .nil => ⟨[], .nil, rfl⟩
  | _, _, .cons ⟨a, e, ta⟩ t => by
    obtain ⟨ys, h1, h2⟩ := each_keyback t
    exact ⟨.ref a :: ys, .cons e h1, _, _, rfl, ta, h2⟩
def rSortK (K : PySem.W.Frag) : List V → Hp → VK → Prop := fun vs H Q => ∃ (a : Addr) (xs : List V) (ls : List (List Int)), vs = [V.ref a] ∧ SqL K H a xs ∧ TpL K H (ls.map keyD) xs ∧ ls.length ≤ 1000 ∧
  ∀ (ys : List V) (p : Addr), H p = none → TpL K H ((ls.mergeSort lotLe).map keyD) ys → Q (.ref p) (upd H p (.lst ys))
theorem cr_sortedK {X : Cx} (hu : X.A.units + 64 < cLine) : CallR X (.builtin "sorted") (rSortK X.K) := by
  intro pins s σ H vs us Q I r h
  obtain ⟨a, xs, ls, ev, sa, ta, n1, k⟩ := h
  subst ev
  obtain ⟨u, eu, ru⟩ := vals1 r
  subst eu
  cases (show u = Value.ref a from ru)
  obtain ⟨its, rv, pl, lz⟩ := I.list sa
  have e0 := each_key ta rv
  refine PySem.W.sorted_data (vs := its) (bs := ls) (R := RKey X.K H) (enc := keyD) pl.isList e0 (e0.mono fun v l ⟨a, ev, t⟩ => Dp.reads I _ _ _ (Tp.dp _ _ t) (by rw [ev]; exact (rfl : RelV (.ref a) (Value.ref a))))
    (PySem.W.AllAlike.of fun l m => keyD_alike l m) (PySem.W.Sortable.tuples fun _ => ⟨_, _, rfl⟩) (by have := small1000 n1; omega) (fun l _ => by rw [keyD_depth]; omega) fun out ol eo => ?_
  obtain ⟨ys, vy, ty⟩ := each_keyback eo
  rw [keyLe] at ty
  obtain ⟨ep, gD⟩ := PyProof.Rows.sortedAll_at s.heap its out.toArray
  have hn : H (s.heap.objs.size + 1) = none := I.hok.fresh (Nat.le_succ _)
  refine ⟨.ref _, upd H (s.heap.objs.size + 1) (.lst ys), I.laid (t' := s.toks) (fun _ _ => PyProof.Rows.sortedAll_old) (Nat.le_succ _) ⟨?_, out, ep, vy, gD⟩, rfl, k ys _ hn ty⟩
  have := small1000 n1
  rw [vy.length, ol]
  omega
/-! ### min of a tuple of ints -/
def rMinT (K : PySem.W.Frag) : List V → Hp → VK → Prop := fun vs H Q => ∃ (a : Addr) (ns : List Int), vs = [V.ref a] ∧ SqT K H a (ns.map V.int) ∧ ns ≠ [] ∧ Q (.int (minL ns)) H
theorem minOf_eq : ∀ (r : List Int) (x : Int), PySem.W.minOf x r = r.foldl min x
  | [], x => rfl
  | y :: r, x => by
    show PySem.W.minOf (if PySem.W.DatumOrd.lt y x = true then y else x) r = r.foldl min (min x y)
    have e : (if PySem.W.DatumOrd.lt y x = true then y else x) = min x y := by
      show (if decide (y < x) = true then y else x) = min x y
      by_cases h : y < x
      · rw [if_pos (decide_eq_true h)]; omega
      · rw [if_neg (by simpa using h)]; omega
    rw [e]
    exact minOf_eq r (min x y)
theorem cr_minT {X : Cx} (hc : X.calm = true) (hu : X.A.units + 64 < cLine) : CallR X (.builtin "min") (rMinT X.K) := by
  intro pins s σ H vs us Q I r h
  obtain ⟨a, ns, ev, sa, hne, k⟩ := h
  subst ev
  obtain ⟨u, eu, ru⟩ := vals1 r
  subst eu
  cases (show u = Value.ref a from ru)
  obtain ⟨its, rv, tup, lz⟩ := I.tuple sa
  cases ns with
  | nil => exact absurd rfl hne
  | cons x ns =>
    have ha : PySem.W.HoldAll s.heap its.toArray.toList (x :: ns) := by
      have q := PySem.W.HoldAll.of_ints (h := s.heap) rv.ints
      simpa using q
    have hdep : PySem.W.Datum.depth Int = 0 := rfl
    refine PySem.W.min_tuple_datum (I.ok.hd hc) tup ha (by rw [hdep]; omega) fun i v h' tk gv hv hk => ?_
    obtain ⟨t, ev⟩ := PySem.W.int_of_holds hv
    refine ⟨.int (minL (x :: ns)), H, I.kept hk, ⟨t, ?_⟩, k⟩
    rw [ev, minOf_eq]
    rfl
/-! ### xs[i] read, to be stored again -/
def rGetL (K : PySem.W.Frag) : V → V → Hp → VK → Prop := fun o i H Q => ∃ (p : Addr) (xs : List V) (k : Int) (j : Nat) (z : V), o = .ref p ∧ i = .int k ∧ SqL K H p xs ∧ k = (j : Int) ∧ xs[j]? = some z ∧ Q z H
theorem get_listP {X : Cx} : PGet X (rGetL X.K) := by
  intro pins s σ H o i ov iv Q I ro ri h
  obtain ⟨p, xs, k, j, z, eo, ei, sp, ek, gz, q⟩ := h
  subst eo ei ek
  cases (show ov = Value.ref p from ro)
  obtain ⟨t, et⟩ := (show ∃ t, iv = Value.int (j : Int) t from ri)
  subst et
  obtain ⟨its, rv, pl, lz⟩ := I.list sp
  obtain ⟨u, gu, ru⟩ := rv.get gz
  have hl := rv.length
  have h63 := line63
  have hj := (List.getElem?_eq_some_iff.mp gz).1
  exact PyProof.Rows.getItem_listL pl.isList (by omega) (by omega) (by simpa using gu) ⟨z, H, I, ru, q⟩
end DV
namespace DV
open PySem PySem.Spec L2 DW

/-! ### rules with K said -/
section
variable {X : Cx} (K : PySem.W.Frag)
theorem pa_starK {e : Expr} {es : List Expr} {te : TE} {t : TA} {p : Pos} (he : PE X e te) (hr : PA X es t) (h : X.K = K := by rfl) (hs : starEach (.Starred e p :: es) X.env = (true, eval e X.env) :: starEach es X.env := by rfl) : PA X (.Starred e p :: es) (StX.tStar K te t) := h ▸ StX.pa_star he hr hs
theorem op_catAK (h : X.K = K := by rfl) : OpR X (binaryOp .Add) (rCatA K) := h ▸ op_catA
end
/-! ### a def whose code object is known -/
structure FunC (K : PySem.W.Frag) (x qual : Str) (st : Stmt) (f : Addr) (fd : FuncData) (c : Addr) : Prop where
  ex : ∃ (oc : Value) (od : Option Addr) (kV doc pm : Value) (an : Option Addr) (ct : Value) (osl : Array (Option Value)),
    fd = PySem.W.fnOf x qual (defArgs st) (defBody st) (defScope st) .none kV doc pm an (.ref c) ct ∧ K.lookup f = some ⟨oc, od, .func fd, osl⟩ ∧ PySem.W.codeIn K (.ref c) qual = true
  kp : PySem.W.keepIn K (.ref f) = true
theorem FunC.ok {P : Program} {w : World} {K : PySem.W.Frag} {mg : Str → Option Value} {base : Heap} {x qual : Str} {st : Stmt} {f c : Addr} {fd : FuncData} {N ps : List Str} {k : Nat} {sp : Sp} (F : FunC K x qual st f fd c) (S : FnScope N ps (defScope st)) (len : ∀ vs H Q E, sp vs H Q E → vs.length = ps.length)
    (hb : ∀ (A : Around) (outer : List Env) (s : Shared) (H : Hp) (vs : List V) (Q : VK) (E : XK), Room k (A.deeper (PyProof.Rows.envOfC qual (defScope st) s.heap.objs.size f (.ref c))) → sp vs H Q E →
      ∃ t, PSs (cxOf CX0 P w K mg base N qual (defScope st) f (.ref c) A outer s H E).nox (defBody st) t ∧ t { nx := fun _ H' => Q .non H', rt := Q } (L2.start N vs) H) : FnOk P w K mg base CX0 (k + 1) f fd ps sp := by
  obtain ⟨oc, od, kV, doc, pm, an, ct, osl, e, lk, hcd⟩ := F.ex
  subst e
  exact fn_of lk hcd S len fun A outer s H vs Q E hr hsp => let ⟨t, h, q⟩ := hb A outer s H vs Q E hr hsp; ⟨t, h.nox, q⟩
theorem FunC.fn {K : PySem.W.Frag} {x qual : Str} {st : Stmt} {f c : Addr} {fd : FuncData} (F : FunC K x qual st f fd c) : Fun K x qual st f fd := by
  obtain ⟨oc, od, kV, doc, pm, an, ct, osl, e, lk, hcd⟩ := F.ex
  exact ⟨⟨oc, od, kV, doc, pm, an, _, ct, osl, e, lk, hcd⟩, F.kp⟩

theorem Tp.key {K : PySem.W.Frag} {H : Hp} {l : List Int} {v : V} (h : Tp K H (keyD l) v) : ∃ a t, v = .ref a ∧ SqT K H a [.int (l.length : Int), t] ∧ Tp K H (dI l) t := by
  obtain ⟨a, xs, h1, h2, x, r, h3, h4, y, q, h5, h6, h7⟩ := h
  have h4 : x = _ := h4
  have h7 : q = [] := h7
  subst h7 h4
  subst h5
  subst h3
  exact ⟨a, y, h1, h2, h6⟩
theorem eqv_empty (l : List Int) : PyData.eqv (dI l) (.tuple []) = decide (l = []) := by
  unfold dI
  cases l <;> simp [PyData.eqv, PyData.eqvAll]
theorem shaped_unit : SeqAt.shaped (.tuple []) = true := shaped_tints []
theorem subs_small {n i : Nat} (hn : n ≤ 6) (hi : i ≤ n) : (subs i).length ≤ 64 := by
  rw [subs_len]
  have h2 : 2 ^ i ≤ 2 ^ 6 := Nat.pow_le_pow_right (by decide) (by omega)
  omega
theorem sub_short {n : Nat} (hn : n ≤ 6) {l : List Int} (h : l ∈ subs n) : l.length ≤ 6 := by
  obtain ⟨h1, h2⟩ := mem_subs h
  have := List.Nodup.length_le_of_subset h1.nodup h2
  rw [length_persons] at this
  omega
theorem subs_succ_map (i : Nat) : (subs (i + 1)).map dI = (subs i).map dI ++ (((subs i).filter fun _ => true).map fun l => dI (l ++ [(i : Int)])) := by
  rw [List.filter_eq_self.mpr fun _ _ => rfl]
  conv => lhs; unfold subs
  rw [List.map_append, List.map_map]
  rfl
/-- the one name that the table of lots_of tells -/
def qLam : Str := ("lots_of" : Str) ++ ".<locals>." ++ "<lambda>"
abbrev tabT (P : Addr) : List (Addr × Str) := [(P, qLam)]
def Far (H : Hp) (a : Addr) : Prop := ∀ b o, H b = some o → (∀ ps, o ≠ .tbl ps) → b ≠ a
def spLots (K : PySem.W.Frag) (Pt : Addr) : Sp := fun vs H Q _ => ∃ n : Nat, vs = [.int (n : Int)] ∧ n ≤ 6 ∧ LamX.Tabs (tabT Pt) H ∧
  ∀ (a : Addr) (xs : List V) (H' : Hp), LamX.ExtN H H' → LamX.Tabs (tabT Pt) H' → Far H a → H' a = some (.lst xs) → TpL K H' ((lots n).map dI) xs → Q (.ref a) H'
def spLawLots (K : PySem.W.Frag) : Sp := fun vs H Q _ => ∃ n : Nat, vs = [.int (n : Int)] ∧ n ≤ 6 ∧ RetL K H ((lots n).map dI) Q
section
variable {P : Program} {w : World} {K : PySem.W.Frag} {mg : Str → Option Value} {base : Heap} {f : Addr} {fd : FuncData}
theorem ok_lots_of {c Pt : Addr} (F : FunC K "lots_of" "lots_of" sLotsOf f fd c) (B : Bi mg) (TB : LamX.TabB base mg c Pt) : FnOk P w K mg base CX0 3 f fd ["many"] (spLots K Pt) := by
  refine F.ok scLotsOf (fun vs H Q E h => ?_) (fun A outer s H vs Q E hr h => ?_)
  · obtain ⟨n, rfl, _⟩ := h
    rfl
  · obtain ⟨n, rfl, hn, tabs, k⟩ := h
    refine ⟨_, pss_cons (ps_set (i := 1) scLotsOf.nd rfl (Or.inl rfl) (pe_lst (pa_cons (pe_tup pa_nil) pa_nil)))
      (pss_cons (ps_for PassesOwn.never rfl (pi_range1 (by rfl) B.range (pa_cons (pv 0) pa_nil)) (pg_name (i := 2) scLotsOf.nd rfl (Or.inr rfl))
        (pss_one (ps_set (i := 1) scLotsOf.nd rfl (Or.inl rfl) (pe_op op_cat (pv 1) (pe_lc (own := [("lot", 3)]) (g := gName 3) rfl scLotsOf.nd (pi_list (pv 1))
          (blkOk_by (N := nLotsOf) (sc := defScope sLotsOf) (by decide +kernel)) (fun _ _ _ _ _ => pg_name (i := 3) scLotsOf.nd rfl (Or.inl rfl)) (fun _ _ _ _ _ => pts_nil)
          (fun _ _ _ _ _ => pe_tup (pa_starK K (pv 3) (pa_cons (pv 2) pa_nil))))))))
      (pss_one (ps_ret (pe_sortedLam (T := tabT Pt) (x := "lot") (by rfl) B.sorted (pe_lc (own := [("lot", 3)]) (g := gName 3) rfl scLotsOf.nd (pi_list (pv 1))
          (blkOk_by (N := nLotsOf) (sc := defScope sLotsOf) (by decide +kernel)) (fun _ _ _ _ _ => pg_name (i := 3) scLotsOf.nd rfl (Or.inl rfl))
          (fun _ _ _ _ _ => pts_one (pt_cmpR (op_neDK K hr.units) (pv 3) (pe_tup pa_nil) (nomark _))) (fun _ _ _ _ _ => pv 3))
        B.len hr TB rfl List.mem_cons_self (fun p hp _ => by rw [List.mem_singleton.mp hp]; rfl) rfl rfl rfl rfl rfl rfl (by decide +kernel) (by decide) (fun _ _ _ _ _ => rfl) rfl)))), ?_⟩
    refine ⟨Nat.zero_le _, fun e0 he0 => ⟨by show 1 ≤ sizeLine; decide, fun l0 hl0 => ?_⟩⟩
    have s0 : Same H (upd (upd H e0 (.tup [])) l0 (.lst [V.ref e0])) := (same_new he0 _).trans (same_new hl0 _)
    refine ⟨_, rfl, (n : Int), rfl, by omega, by omega, ?_⟩
    rw [Int.toNat_natCast]
    refine for_range (fun i σ H' => ∃ (la : Addr) (xs : List V) (y z : Option V), σ = [some (.int (n : Int)), some (.ref la), y, z] ∧ Same H H' ∧ H' la = some (.lst xs) ∧ TpL K H' ((subs i).map dI) xs)
      ⟨l0, _, none, none, rfl, s0, upd_same, ⟨_, _, rfl, ⟨e0, [], rfl, SqT.of ((upd_ne (ne_of_none upd_same hl0)).trans upd_same), rfl⟩, rfl⟩⟩ ?_ ?_
    · rintro i σ H1 hi ⟨la, xs, y, z, rfl, s1, g1, t1⟩
      have xl := map_len t1
      have sm := subs_small hn (Nat.le_of_lt hi)
      refine ⟨_, rfl, ?_⟩
      refine ⟨_, rfl, la, rfl, ⟨_, SqL.of g1⟩, fun D hD => ?_⟩
      refine lc_tpL (K := K) (as := subs i) (dec := dI) (p := fun _ => true) (f := fun l => dI (l ++ [(i : Int)])) (SqL.of g1) t1 hD (by omega) (fun l hl => ?_) (fun ys H2 e2 hy ty => ?_)
      · intro x H2 N0 N1 e2 hx n0 n1
        obtain ⟨a, rfl, sa⟩ := hx.iT
        have hll := sub_short (n := i) (by omega) hl
        refine ⟨rfl, yes ?_⟩
        refine ⟨_, rfl, a, _, rfl, .inl sa, _, rfl, ?_, fun p hp => ?_⟩
        · rw [List.length_append, List.length_map, List.length_singleton]
          exact Nat.le_of_lt (small1000 (by omega))
        · have e : l.map V.int ++ [V.int (0 + (i : Int))] = (l ++ [(i : Int)]).map V.int := by
            rw [Int.zero_add, List.map_append]
            rfl
          refine n1 rfl _ _ (same_new hp _) (Tp.of_iT ?_)
          rw [← e]
          exact SqT.of upd_same
      · have yl := map_len (ds := (subs i).filter fun _ => true) (dec := fun l => dI (l ++ [(i : Int)])) ty
        have fl := List.length_filter_le (fun _ => true) (subs i)
        refine ⟨la, D, xs, ys, rfl, rfl, e2 _ _ g1, hy, Nat.le_of_lt (small1000 (by omega)), fun p hp => ?_⟩
        refine ⟨p, _, _, _, rfl, (s1.trans e2).trans (same_new hp _), upd_same, ?_⟩
        rw [subs_succ_map]
        exact TpL.mono (ts_new hp _) _ _ (TpL.app (TpL.mono (sts e2) _ _ t1) ty)
    · rintro σ H1 ⟨la, xs, y, z, rfl, s1, g1, t1⟩
      have xl := map_len t1
      have sm := subs_small hn (Nat.le_refl n)
      refine ⟨_, rfl, la, rfl, ⟨_, SqL.of g1⟩, fun D hD => ?_⟩
      refine lc_tpL (K := K) (as := subs n) (dec := dI) (p := fun l => decide (l ≠ [])) (f := dI) (SqL.of g1) t1 hD (by omega) (fun l hl => ?_) (fun ys H2 e2 hy ty => ?_)
      · intro x H2 N0 N1 e2 hx n0 n1
        refine ⟨rfl, _, rfl, Nat.zero_le _, fun p hp => ?_⟩
        have s2 := same_new hp (.tup [])
        refine ⟨dI l, .tuple [], Tp.dp _ _ (Tp.mono (sts s2) _ _ hx), Tp.dp _ _ ⟨p, [], rfl, SqT.of upd_same, rfl⟩, shaped_tints l, shaped_unit, ?_⟩
        rw [eqv_empty]
        refine ⟨_, rfl, ?_⟩
        refine ite2 (fun ct => ?_) (fun ct => ?_)
        · exact ⟨_, rfl, n1 (by simpa using ct) _ _ s2 (Tp.mono (sts s2) _ _ hx)⟩
        · exact n0 (by simpa using ct) _ s2
      · have fl := List.length_filter_le (fun l => decide (l ≠ [])) (subs n)
        have s12 := s1.trans e2
        refine ⟨D, ys, _, rfl, SqL.of hy, ty, by omega, fun l hl => ?_, tabs.ext s12, fun H3 e3 tabs3 zs p hp tz => ?_⟩
        · have := sub_short hn (List.mem_filter.mp hl).1
          omega
        · rw [keyLe] at tz
          have far : Far H p := fun b o hb ht => ne_of_none (e3 b o (s12 b o hb) ht) hp
          refine k p zs _ (LamX.ExtN.trans (sext s12) (LamX.ExtN.trans e3 (sext (same_new hp _)))) (tabs3.ext (same_new hp _)) far upd_same (TpL.mono (ts_new hp _) _ _ tz)
theorem ok_law_lots (F : Fun K "_law_lots" "_law_lots" sLawLots f fd) (B : Bi mg) : FnOk P w K mg base CX0 1 f fd ["_law_many"] (spLawLots K) := by
  refine F.ok scLawLots (fun vs H Q E h => ?_) (fun cdv A outer s H vs Q E hr h => ?_)
  · obtain ⟨n, rfl, _⟩ := h
    rfl
  · obtain ⟨n, rfl, hn, k⟩ := h
    refine ⟨_, pss_cons (ps_set (i := 1) scLawLots.nd rfl (Or.inl rfl) (pe_lst (pa_cons (pe_tup pa_nil) pa_nil)))
      (pss_cons (ps_for PassesOwn.never rfl (pi_range1 (by rfl) B.range (pa_cons (pv 0) pa_nil)) (pg_name (i := 2) scLawLots.nd rfl (Or.inr rfl))
        (pss_one (ps_set (i := 1) scLawLots.nd rfl (Or.inl rfl) (pe_op op_cat (pv 1) (pe_lc (own := [("_law_lot", 3)]) (g := gName 3) rfl scLawLots.nd (pi_list (pv 1))
          (blkOk_by (N := nLawLots) (sc := defScope sLawLots) (by decide +kernel)) (fun _ _ _ _ _ => pg_name (i := 3) scLawLots.nd rfl (Or.inl rfl)) (fun _ _ _ _ _ => pts_nil)
          (fun _ _ _ _ _ => pe_op (op_catAK K) (pv 3) (pe_tup (pa_cons (pv 2) pa_nil))))))))
      (pss_one (ps_ret (pe_lc (own := [("_law_size", 4), ("_law_lot", 3)]) (g := gTup K 2 (gCons (gName 4) (gCons (gName 3) gNil))) rfl scLawLots.nd
        (pi_list (pe_callB (cr_sortedK hr.units) (by rfl) B.sorted bt_sorted (pa_cons (pe_lc (own := [("_law_lot", 3)]) (g := gName 3) rfl scLawLots.nd (pi_list (pv 1))
          (blkOk_by (N := nLawLots) (sc := defScope sLawLots) (by decide +kernel)) (fun _ _ _ _ _ => pg_name (i := 3) scLawLots.nd rfl (Or.inl rfl)) (fun _ _ _ _ _ => pts_nil)
          (fun _ _ _ _ _ => pe_tup (pa_cons (pe_callB (call_lenK K) (by rfl) B.len bt_len (pa_cons (pv 3) pa_nil)) (pa_cons (pv 3) pa_nil)))) pa_nil)))
        (blkOk_by (N := nLawLots) (sc := defScope sLawLots) (by decide +kernel))
        (fun _ _ _ _ _ => pg_tupK K rfl (pgs_cons (pg_name (i := 4) scLawLots.nd rfl (Or.inl rfl)) (pgs_cons (pg_name (i := 3) scLawLots.nd rfl (Or.inl rfl)) pgs_nil)))
        (fun _ _ _ _ _ => pts_one (pt_cmpR op_gt (pv 4) pe_int (nomark _))) (fun _ _ _ _ _ => pv 3))))), ?_⟩
    refine ⟨Nat.zero_le _, fun e0 he0 => ⟨by show 1 ≤ sizeLine; decide, fun l0 hl0 => ?_⟩⟩
    have s0 : Same H (upd (upd H e0 (.tup [])) l0 (.lst [V.ref e0])) := (same_new he0 _).trans (same_new hl0 _)
    refine ⟨_, rfl, (n : Int), rfl, by omega, by omega, ?_⟩
    rw [Int.toNat_natCast]
    refine for_range (fun i σ H' => ∃ (la : Addr) (xs : List V) (y z z2 : Option V), σ = [some (.int (n : Int)), some (.ref la), y, z, z2] ∧ Same H H' ∧ H' la = some (.lst xs) ∧ TpL K H' ((subs i).map dI) xs)
      ⟨l0, _, none, none, none, rfl, s0, upd_same, ⟨_, _, rfl, ⟨e0, [], rfl, SqT.of ((upd_ne (ne_of_none upd_same hl0)).trans upd_same), rfl⟩, rfl⟩⟩ ?_ ?_
    · rintro i σ H1 hi ⟨la, xs, y, z, z2, rfl, s1, g1, t1⟩
      have xl := map_len t1
      have sm := subs_small hn (Nat.le_of_lt hi)
      refine ⟨_, rfl, ?_⟩
      refine ⟨_, rfl, la, rfl, ⟨_, SqL.of g1⟩, fun D hD => ?_⟩
      refine lc_tpL (K := K) (as := subs i) (dec := dI) (p := fun _ => true) (f := fun l => dI (l ++ [(i : Int)])) (SqL.of g1) t1 hD (by omega) (fun l hl => ?_) (fun ys H2 e2 hy ty => ?_)
      · intro x H2 N0 N1 e2 hx n0 n1
        obtain ⟨a, rfl, sa⟩ := hx.iT
        have hll := sub_short (n := i) (by omega) hl
        refine ⟨rfl, yes ?_⟩
        refine ⟨_, rfl, _, rfl, (by show 1 ≤ sizeLine; decide), fun b hb => ?_⟩
        have sB := same_new hb (.tup [V.int (0 + (i : Int))])
        have e1 : [V.int (0 + (i : Int))] = [(i : Int)].map V.int := by rw [Int.zero_add]; rfl
        have e : l.map V.int ++ [V.int (0 + (i : Int))] = (l ++ [(i : Int)]).map V.int := by rw [Int.zero_add, List.map_append]; rfl
        refine ⟨a, b, _, _, rfl, rfl, (sts sB).sqt sa, SqT.of upd_same, ?_, fun hxs => ?_, fun _ (z : [V.int (0 + (i : Int))] = []) => absurd z (by simp), fun _ _ p hp => ?_⟩
        · rw [List.length_map, List.length_singleton]
          exact Nat.le_of_lt (small1000 (by omega))
        · have el : l = [] := by simpa using hxs
          refine n1 rfl _ _ sB (Tp.of_iT ?_)
          rw [el, List.nil_append, ← e1]
          exact SqT.of upd_same
        · refine n1 rfl _ _ (sB.trans (same_new hp _)) (Tp.of_iT ?_)
          rw [← e]
          exact SqT.of upd_same
      · have yl := map_len (ds := (subs i).filter fun _ => true) (dec := fun l => dI (l ++ [(i : Int)])) ty
        have fl := List.length_filter_le (fun _ => true) (subs i)
        refine ⟨la, D, xs, ys, rfl, rfl, e2 _ _ g1, hy, Nat.le_of_lt (small1000 (by omega)), fun p hp => ?_⟩
        refine ⟨p, _, _, _, _, rfl, (s1.trans e2).trans (same_new hp _), upd_same, ?_⟩
        rw [subs_succ_map]
        exact TpL.mono (ts_new hp _) _ _ (TpL.app (TpL.mono (sts e2) _ _ t1) ty)
    · rintro σ H1 ⟨la, xs, y, z, z2, rfl, s1, g1, t1⟩
      have xl := map_len t1
      have sm := subs_small hn (Nat.le_refl n)
      refine ⟨_, rfl, la, rfl, ⟨_, SqL.of g1⟩, fun D hD => ?_⟩
      refine lc_tpL (K := K) (as := subs n) (dec := dI) (p := fun _ => true) (f := keyD) (SqL.of g1) t1 hD (by omega) (fun l hl => ?_) (fun ys H2 e2 hy ty => ?_)
      · intro x H2 N0 N1 e2 hx n0 n1
        obtain ⟨a, rfl, sa⟩ := hx.iT
        refine ⟨rfl, yes ?_⟩
        refine ⟨_, rfl, a, _, rfl, .inr sa, _, rfl, (by show 2 ≤ sizeLine; decide), fun p hp => ?_⟩
        have s2 := same_new hp (.tup [V.int ((l.map V.int).length : Int), V.ref a])
        refine n1 rfl _ _ s2 ⟨p, _, rfl, SqT.of upd_same, _, _, rfl, ?_, _, _, rfl, Tp.mono (sts s2) _ _ hx, rfl⟩
        show V.int _ = V.int _
        rw [List.length_map]
      · have ea : ((subs n).filter fun _ => true) = subs n := List.filter_eq_self.mpr fun _ _ => rfl
        rw [ea] at ty
        refine ⟨D, ys, subs n, rfl, SqL.of hy, ty, by omega, fun zs p hp tz => ?_⟩
        have e3 : Same H (upd H2 p (.lst zs)) := (s1.trans e2).trans (same_new hp _)
        have tz' := TpL.mono (ts_new hp (.lst zs)) _ _ tz
        have zl := map_len tz'
        have zl2 : ((subs n).mergeSort lotLe).length = (subs n).length := (List.mergeSort_perm _ _).length_eq
        have gp : upd H2 p (.lst zs) p = some (.lst zs) := upd_same
        generalize upd H2 p (.lst zs) = H3 at e3 tz' gp
        refine ⟨p, rfl, ⟨_, SqL.of gp⟩, fun D2 hD2 => ?_⟩
        refine lc_tpL (K := K) (as := (subs n).mergeSort lotLe) (dec := keyD) (p := fun l => decide (0 < l.length)) (f := dI) (SqL.of gp) tz' hD2 (by omega) (fun l hl => ?_) (fun ys H4 e4 hy ty => ?_)
        · intro x H4 N0 N1 e4 hx n0 n1
          obtain ⟨a, t, rfl, sa, ta⟩ := hx.key
          refine ⟨a, _, rfl, sa, rfl, _, _, rfl, _, _, rfl, rfl, rfl, ?_⟩
          refine ⟨_, rfl, _, _, rfl, rfl, _, rfl, ?_⟩
          refine ite2 (fun ct => ?_) (fun ct => ?_)
          · have : (l.length : Int) > 0 := of_decide_eq_true ct
            exact ⟨_, rfl, n1 (decide_eq_true (by omega)) _ _ (Same.refl _) ta⟩
          · have : ¬ (l.length : Int) > 0 := fun z => ct (decide_eq_true z)
            exact n0 (decide_eq_false (by omega)) _ (Same.refl _)
        · rw [lots_alt] at ty
          exact k D2 ys _ (e3.trans e4) (e3.free hD2) hy ty
end
end DV
namespace DV
open PySem PySem.Spec L2 DW

/-- a promise that may fill the table -/
def RetE (K : PySem.W.Frag) (Pt : Addr) (H : Hp) (ds : List PyData) (Q : VK) : Prop := ∀ (a : Addr) (xs : List V) (H' : Hp), LamX.ExtN H H' → LamX.Tabs (tabT Pt) H' → Far H a → H' a = some (.lst xs) → TpL K H' ds xs → Q (.ref a) H'
def spFree (K : PySem.W.Frag) (Pt : Addr) : Sp := fun vs H Q _ => ∃ (v : V) (ns : List Int) (ts : List Tie), vs = [v] ∧ Tp K H (webD ns ts) v ∧ WebOk ns ts ∧ LamX.Tabs (tabT Pt) H ∧ RetE K Pt H ((freeL ns ts).map dI) Q
def spGreat (K : PySem.W.Frag) (Pt : Addr) : Sp := fun vs H Q _ => ∃ (v : V) (ns : List Int) (ts : List Tie) (k : Int), vs = [v, .int k] ∧ Tp K H (webD ns ts) v ∧ WebOk ns ts ∧ LamX.Tabs (tabT Pt) H ∧ 1 ≤ k ∧ k ≤ (ns.length : Int) ∧
  ∀ H', LamX.ExtN H H' → LamX.Tabs (tabT Pt) H' → Q (.int (maxL (costsAt ns ts k))) H'
def spLeastC (K : PySem.W.Frag) (Pt : Addr) : Sp := fun vs H Q _ => ∃ (v : V) (ns : List Int) (ts : List Tie) (k : Int), vs = [v, .int k] ∧ Tp K H (webD ns ts) v ∧ WebOk ns ts ∧ LamX.Tabs (tabT Pt) H ∧ 1 ≤ k ∧ k ≤ (ns.length : Int) ∧
  ∀ H', LamX.ExtN H H' → LamX.Tabs (tabT Pt) H' → Q (.int (minL (costsAt ns ts k))) H'
theorem LotOk.short {ns : List Int} {ts : List Tie} (W : WebOk ns ts) {l : List Int} (h : l ∈ lots ns.length) : l.length ≤ 100 := by
  have := (lots_ok h).len
  have := W.n6
  omega
theorem lots64 {ns : List Int} {ts : List Tie} (W : WebOk ns ts) : (lots ns.length).length ≤ 64 := lots_len6 W.n6
theorem dec_int (a b : Int) : decide (V.int a = V.int b) = decide (a = b) := by
  by_cases h : a = b
  · subst h; simp
  · have : ¬ V.int a = V.int b := fun z => h (V.int.inj z)
    simp [h, this]
section
variable {P : Program} {w : World} {K : PySem.W.Frag} {mg : Str → Option Value} {base : Heap} {f : Addr} {fd : FuncData} {Pt : Addr}
theorem ok_free_lots {f1 f2 f3 : Addr} {fd1 fd2 fd3 : FuncData} (F : Fun K "free_lots" "free_lots" sFreeLots f fd) (B : Bi mg) (C1 : Cal P w K mg base "need_web" 4 f1 fd1 ["value"] (spNeedWeb K)) (C2 : Cal P w K mg base "lots_of" 3 f2 fd2 ["many"] (spLots K Pt))
    (C3 : Cal P w K mg base "cost_of" 5 f3 fd3 ["web", "lot"] (spCostOf K)) : FnOk P w K mg base CX0 6 f fd ["web"] (spFree K Pt) := by
  refine F.ok scFreeLots (fun vs H Q E h => ?_) (fun cdv A outer s H vs Q E hr h => ?_)
  · obtain ⟨v, ns, ts, rfl, _⟩ := h
    rfl
  · obtain ⟨v, ns, ts, rfl, hw, W, tabs, k⟩ := h
    obtain ⟨a, wb, wc, xs, rfl, s1, s2, s3, s4⟩ := hw.web
    refine ⟨_, pss_cons (ps_expr (pe_cal C1 hr (by decide) (pa_cons (pv 0) pa_nil)))
      (pss_one (ps_ret (pe_lc (own := [("lot", 1)]) (g := gName 1) rfl scFreeLots.nd (pi_list (pe_cal C2 hr (by decide) (pa_cons (pe_callB call_len_seq (by rfl) B.len bt_len (pa_cons (pe_ix ix_tup (pv 0) pe_int (fun _ _ => rfl)) pa_nil)) pa_nil)))
        (blkOk_by (N := nFreeLots) (sc := defScope sFreeLots) (by decide +kernel)) (fun _ _ _ _ _ => pg_name (i := 1) scFreeLots.nd rfl (Or.inl rfl))
        (fun _ _ _ _ _ => pts_one (pt_cmpR op_eq (pe_cal C3 hr (by decide) (pa_cons (pv 0) (pa_cons (pv 1) pa_nil))) pe_int (nomark _))) (fun _ _ _ _ _ => pv 1)))), ?_⟩
    refine ⟨_, rfl, .ref a, ns, ts, rfl, hw, W, fun H1 e1 => ?_⟩
    refine ⟨_, rfl, a, _, 0, _, rfl, rfl, (sts e1).sqt s1, atI_nat (j := 0) rfl, wb, _, rfl, .inr ((sts e1).sqt s2), ns.length, by rw [List.length_map]; rfl, W.n6, tabs.ext e1, fun la lx H2 e2 tabs2 far g2 t2 => ?_⟩
    have e12 : LamX.ExtN H H2 := LamX.ExtN.trans (sext e1) e2
    have lxl := map_len t2
    have l64 := lots64 W
    refine ⟨la, rfl, ⟨_, SqL.of g2⟩, fun D hD => ?_⟩
    refine lc_tpL (K := K) (as := lots ns.length) (dec := dI) (p := fun l => decide ((cost ns ts l : Int) = 0)) (f := dI) (SqL.of g2) t2 hD (by omega) (fun l hl => ?_) (fun ys H3 e3 hy ty => ?_)
    · intro x H3 N0 N1 e3 hx n0 n1
      have ok := lots_ok hl
      have t3 : TS H H3 := (ets e12).trans (sts e3)
      refine ⟨rfl, _, rfl, _, rfl, .ref a, x, ns, ts, l, rfl, Tp.mono t3 _ _ hw, hx, W, ok.ne, ok.sub, LotOk.short W hl, fun H4 e4 => ?_⟩
      refine ⟨rfl, _, rfl, ?_⟩
      rw [dec_int]
      refine ite2 (fun ct => ?_) (fun ct => ?_)
      · exact ⟨_, rfl, n1 ct _ _ e4 (Tp.mono (sts e4) _ _ hx)⟩
      · exact n0 (by simpa using ct) _ e4
    · refine k D ys H3 (LamX.ExtN.trans e12 (sext e3)) (tabs2.ext e3) (fun b o hb ht => ne_of_none (e12 b o hb ht) hD) hy ty
theorem ok_greatest {f1 f2 f3 f4 : Addr} {fd1 fd2 fd3 fd4 : FuncData} (F : Fun K "greatest_cost" "greatest_cost" sGreatestCost f fd) (B : Bi mg) (C1 : Cal P w K mg base "need_web" 4 f1 fd1 ["value"] (spNeedWeb K)) (C2 : Cal P w K mg base "lots_of" 3 f2 fd2 ["many"] (spLots K Pt))
    (C3 : Cal P w K mg base "cost_of" 5 f3 fd3 ["web", "lot"] (spCostOf K)) (C4 : Cal P w K mg base "need_from" 3 f4 fd4 ["value", "least", "most"] spNeedFrom) : FnOk P w K mg base CX0 6 f fd ["web", "size"] (spGreat K Pt) := by
  refine F.ok scGreatestCost (fun vs H Q E h => ?_) (fun cdv A outer s H vs Q E hr h => ?_)
  · obtain ⟨v, ns, ts, k, rfl, _⟩ := h
    rfl
  · obtain ⟨v, ns, ts, kk, rfl, hw, W, tabs, hk1, hk2, k⟩ := h
    obtain ⟨a, wb, wc, xs, rfl, s1, s2, s3, s4⟩ := hw.web
    refine ⟨_, pss_cons (ps_expr (pe_cal C1 hr (by decide) (pa_cons (pv 0) pa_nil)))
      (pss_cons (ps_expr (pe_cal C4 hr (by decide) (pa_cons (pv 1) (pa_cons pe_int (pa_cons (pe_callB call_len_seq (by rfl) B.len bt_len (pa_cons (pe_ix ix_tup (pv 0) pe_int (fun _ _ => rfl)) pa_nil)) pa_nil)))))
      (pss_one (ps_ret (pe_callB (cr_max rfl) (by rfl) B.max bt_max (pa_cons (pe_lc (own := [("lot", 2)]) (g := gName 2) rfl scGreatestCost.nd (pi_list (pe_cal C2 hr (by decide) (pa_cons (pe_callB call_len_seq (by rfl) B.len bt_len (pa_cons (pe_ix ix_tup (pv 0) pe_int (fun _ _ => rfl)) pa_nil)) pa_nil)))
        (blkOk_by (N := nGreatestCost) (sc := defScope sGreatestCost) (by decide +kernel)) (fun _ _ _ _ _ => pg_name (i := 2) scGreatestCost.nd rfl (Or.inl rfl))
        (fun _ _ _ _ _ => pts_one (pt_cmpR op_eq (pe_callB (call_lenK K) (by rfl) B.len bt_len (pa_cons (pv 2) pa_nil)) (pv 1) (nomark _))) (fun _ _ _ _ _ => pe_cal C3 hr (by decide) (pa_cons (pv 0) (pa_cons (pv 2) pa_nil)))) pa_nil))))), ?_⟩
    refine ⟨_, rfl, .ref a, ns, ts, rfl, hw, W, fun H1 e1 => ?_⟩
    refine ⟨_, rfl, _, rfl, a, _, 0, _, rfl, rfl, (sts e1).sqt s1, atI_nat (j := 0) rfl, wb, _, rfl, .inr ((sts e1).sqt s2), kk, 1, _, rfl, hk1, (by rw [List.length_map]; exact hk2), ?_⟩
    refine ⟨_, rfl, a, _, 0, _, rfl, rfl, (sts e1).sqt s1, atI_nat (j := 0) rfl, wb, _, rfl, .inr ((sts e1).sqt s2), ns.length, by rw [List.length_map]; rfl, W.n6, tabs.ext e1, fun la lx H2 e2 tabs2 far g2 t2 => ?_⟩
    have e12 : LamX.ExtN H H2 := LamX.ExtN.trans (sext e1) e2
    have lxl := map_len t2
    have l64 := lots64 W
    refine ⟨la, rfl, ⟨_, SqL.of g2⟩, fun D hD => ?_⟩
    refine lc_tpL (K := K) (as := lots ns.length) (dec := dI) (p := fun l => decide ((l.length : Int) = kk)) (f := fun l => .int (cost ns ts l : Int)) (SqL.of g2) t2 hD (by omega) (fun l hl => ?_) (fun ys H3 e3 hy ty => ?_)
    · intro x H3 N0 N1 e3 hx n0 n1
      have ok := lots_ok hl
      have t3 : TS H H3 := (ets e12).trans (sts e3)
      obtain ⟨xa, rfl, sx⟩ := hx.iT
      refine ⟨rfl, _, rfl, xa, _, rfl, .inr sx, _, rfl, rfl, _, rfl, ?_⟩
      rw [dec_int, List.length_map]
      refine ite2 (fun ct => ?_) (fun ct => ?_)
      · exact ⟨_, rfl, _, rfl, .ref a, .ref xa, ns, ts, l, rfl, Tp.mono t3 _ _ hw, hx, W, ok.ne, ok.sub, LotOk.short W hl, fun H4 e4 => n1 ct _ _ e4 rfl⟩
      · exact n0 (by simpa using ct) _ (Same.refl _)
    · have ec : ((lots ns.length).filter fun l => decide ((l.length : Int) = kk)).map (fun l => PyData.int (cost ns ts l : Int)) = (costsAt ns ts kk).map PyData.int := by
        unfold costsAt
        rw [List.map_map]
        rfl
      rw [ec] at ty
      rw [TpL.ints _ ty] at hy
      refine ⟨D, _, rfl, SqL.of hy, List.length_pos_iff.mpr (costsAt_ne W hk1 hk2), fun m hm hle => ?_⟩
      rw [maxL_uniq hm hle]
      exact k H3 (LamX.ExtN.trans e12 (sext e3)) (tabs2.ext e3)
theorem ok_least_cost {f1 f2 f3 f4 : Addr} {fd1 fd2 fd3 fd4 : FuncData} (F : Fun K "least_cost" "least_cost" sLeastCost f fd) (B : Bi mg) (C1 : Cal P w K mg base "need_web" 4 f1 fd1 ["value"] (spNeedWeb K)) (C2 : Cal P w K mg base "lots_of" 3 f2 fd2 ["many"] (spLots K Pt))
    (C3 : Cal P w K mg base "cost_of" 5 f3 fd3 ["web", "lot"] (spCostOf K)) (C4 : Cal P w K mg base "need_from" 3 f4 fd4 ["value", "least", "most"] spNeedFrom) : FnOk P w K mg base CX0 6 f fd ["web", "size"] (spLeastC K Pt) := by
  refine F.ok scLeastCost (fun vs H Q E h => ?_) (fun cdv A outer s H vs Q E hr h => ?_)
  · obtain ⟨v, ns, ts, k, rfl, _⟩ := h
    rfl
  · obtain ⟨v, ns, ts, kk, rfl, hw, W, tabs, hk1, hk2, k⟩ := h
    obtain ⟨a, wb, wc, xs, rfl, s1, s2, s3, s4⟩ := hw.web
    refine ⟨_, pss_cons (ps_expr (pe_cal C1 hr (by decide) (pa_cons (pv 0) pa_nil)))
      (pss_cons (ps_expr (pe_cal C4 hr (by decide) (pa_cons (pv 1) (pa_cons pe_int (pa_cons (pe_callB call_len_seq (by rfl) B.len bt_len (pa_cons (pe_ix ix_tup (pv 0) pe_int (fun _ _ => rfl)) pa_nil)) pa_nil)))))
      (pss_one (ps_ret (pe_callB (cr_min rfl) (by rfl) B.min bt_min (pa_cons (pe_lc (own := [("lot", 2)]) (g := gName 2) rfl scLeastCost.nd (pi_list (pe_cal C2 hr (by decide) (pa_cons (pe_callB call_len_seq (by rfl) B.len bt_len (pa_cons (pe_ix ix_tup (pv 0) pe_int (fun _ _ => rfl)) pa_nil)) pa_nil)))
        (blkOk_by (N := nLeastCost) (sc := defScope sLeastCost) (by decide +kernel)) (fun _ _ _ _ _ => pg_name (i := 2) scLeastCost.nd rfl (Or.inl rfl))
        (fun _ _ _ _ _ => pts_one (pt_cmpR op_eq (pe_callB (call_lenK K) (by rfl) B.len bt_len (pa_cons (pv 2) pa_nil)) (pv 1) (nomark _))) (fun _ _ _ _ _ => pe_cal C3 hr (by decide) (pa_cons (pv 0) (pa_cons (pv 2) pa_nil)))) pa_nil))))), ?_⟩
    refine ⟨_, rfl, .ref a, ns, ts, rfl, hw, W, fun H1 e1 => ?_⟩
    refine ⟨_, rfl, _, rfl, a, _, 0, _, rfl, rfl, (sts e1).sqt s1, atI_nat (j := 0) rfl, wb, _, rfl, .inr ((sts e1).sqt s2), kk, 1, _, rfl, hk1, (by rw [List.length_map]; exact hk2), ?_⟩
    refine ⟨_, rfl, a, _, 0, _, rfl, rfl, (sts e1).sqt s1, atI_nat (j := 0) rfl, wb, _, rfl, .inr ((sts e1).sqt s2), ns.length, by rw [List.length_map]; rfl, W.n6, tabs.ext e1, fun la lx H2 e2 tabs2 far g2 t2 => ?_⟩
    have e12 : LamX.ExtN H H2 := LamX.ExtN.trans (sext e1) e2
    have lxl := map_len t2
    have l64 := lots64 W
    refine ⟨la, rfl, ⟨_, SqL.of g2⟩, fun D hD => ?_⟩
    refine lc_tpL (K := K) (as := lots ns.length) (dec := dI) (p := fun l => decide ((l.length : Int) = kk)) (f := fun l => .int (cost ns ts l : Int)) (SqL.of g2) t2 hD (by omega) (fun l hl => ?_) (fun ys H3 e3 hy ty => ?_)
    · intro x H3 N0 N1 e3 hx n0 n1
      have ok := lots_ok hl
      have t3 : TS H H3 := (ets e12).trans (sts e3)
      obtain ⟨xa, rfl, sx⟩ := hx.iT
      refine ⟨rfl, _, rfl, xa, _, rfl, .inr sx, _, rfl, rfl, _, rfl, ?_⟩
      rw [dec_int, List.length_map]
      refine ite2 (fun ct => ?_) (fun ct => ?_)
      · exact ⟨_, rfl, _, rfl, .ref a, .ref xa, ns, ts, l, rfl, Tp.mono t3 _ _ hw, hx, W, ok.ne, ok.sub, LotOk.short W hl, fun H4 e4 => n1 ct _ _ e4 rfl⟩
      · exact n0 (by simpa using ct) _ (Same.refl _)
    · have ec : ((lots ns.length).filter fun l => decide ((l.length : Int) = kk)).map (fun l => PyData.int (cost ns ts l : Int)) = (costsAt ns ts kk).map PyData.int := by
        unfold costsAt
        rw [List.map_map]
        rfl
      rw [ec] at ty
      rw [TpL.ints _ ty] at hy
      refine ⟨D, _, rfl, SqL.of hy, List.length_pos_iff.mpr (costsAt_ne W hk1 hk2), fun m hm hle => ?_⟩
      rw [minL_uniq hm hle]
      exact k H3 (LamX.ExtN.trans e12 (sext e3)) (tabs2.ext e3)
end
end DV
namespace DV
open PySem PySem.Spec L2 DW

theorem lc_turnG {K : PySem.W.Frag} {α : Type} {as : List α} {p : α → Bool} {f : α → PyData} {g : TG} {tt : TT} {te : TE} {vs : List Nat} {σ : L2.St} {H1 : Hp} {D : Addr} {i : Nat} {x : V} {H : Hp} {c : α} (hD : H1 D = none) (hi : i < sizeLine) (hc : as[i]? = some c)
    (turn : ∀ (H : Hp) (N0 : Hp → Prop) (N1 : V → Hp → Prop), Same H1 H → (p c = false → ∀ H', Same H H' → N0 H') → (p c = true → ∀ y H', Same H H' → Tp K H' (f c) y → N1 y H') →
      g x (wipe σ vs) H fun σ2 H2 => wipe σ2 vs = wipe σ vs ∧ tt σ2 H2 fun b H3 => if b = true then te σ2 H3 N1 else N0 H3) (I : LcInv K H1 as p f D i H) :
    g x (wipe σ vs) H fun σ2 H2 => wipe σ2 vs = wipe σ vs ∧ tt σ2 H2 fun b H3 =>
      if b = true then te σ2 H3 fun y H4 => ∃ acc, H4 D = some (.lst acc) ∧ acc.length < sizeLine ∧ LcInv K H1 as p f D (i + 1) (upd H4 D (.lst (acc ++ [y]))) else LcInv K H1 as p f D (i + 1) H3 := by
  obtain ⟨s, acc, hacc, hle, ht⟩ := I
  obtain ⟨hlt, e⟩ := List.getElem?_eq_some_iff.mp hc
  have tk : as.take (i + 1) = as.take i ++ [c] := by rw [List.take_succ_eq_append_getElem hlt, e]
  refine turn H _ _ s (fun hp H' s' => ?_) (fun hp y H' s' hy => ?_)
  · refine ⟨s.trans s', acc, s' _ _ hacc, by omega, ?_⟩
    rw [tk, List.filter_append, List.filter_cons_of_neg (by simp [hp]), List.filter_nil, List.append_nil]
    exact TpL.mono (sts s') _ _ ht
  · have hacc' : H' D = some (.lst acc) := s' _ _ hacc
    refine ⟨acc, hacc', by omega, ?_, acc ++ [y], upd_same, by simp; omega, ?_⟩
    · intro b o hb
      have hne : b ≠ D := ne_of_none hb hD
      rw [upd_ne hne]
      exact s' _ _ (s _ _ hb)
    · rw [tk, List.filter_append, List.filter_cons_of_pos hp, List.filter_nil, List.map_append]
      exact TpL.snoc (TpL.mono ((sts s').trans (ts_lst hacc' _)) _ _ ht) (Tp.mono (ts_lst hacc' _) _ _ hy)
theorem set_row {n c : Nat} {f g : Nat → V} {v : V} (h : ∀ x, x < n → g x = if x = c then v else f x) : ((List.range n).map f).set c v = (List.range n).map g := by
  refine List.ext_getElem (by simp) fun j h1 h2 => ?_
  have hj : j < n := by simpa using h2
  rw [List.getElem_set, List.getElem_map, List.getElem_map, List.getElem_range, h j hj]
  by_cases e : c = j
  · rw [if_pos e, if_pos e.symm]
  · rw [if_neg e, if_neg fun z => e z.symm]
theorem rep_zero (n : Nat) : (List.replicate n [V.int 0]).flatten = (List.range n).map fun _ => V.int 0 := by
  induction n with
  | zero => rfl
  | succ n ih =>
    rw [List.replicate_succ, List.flatten_cons, ih, List.range_succ_eq_map, List.map_cons, List.map_map]
    rfl
theorem ixN_nat {n j : Nat} (h : j < n) : ixN n (j : Int) = some j := by
  unfold ixN
  rw [if_pos (by omega), if_pos (by omega)]
  simp
def spTable (K : PySem.W.Frag) (Pt : Addr) : Sp := fun vs H Q _ => ∃ (v : V) (ns : List Int) (ts : List Tie), vs = [v] ∧ Tp K H (webD ns ts) v ∧ WebOk ns ts ∧ LamX.Tabs (tabT Pt) H ∧
  ∀ (v : V) (H' : Hp), LamX.ExtN H H' → LamX.Tabs (tabT Pt) H' → Tp K H' (lotsT (tableT ns ts)) v → Q v H'
section
variable {P : Program} {w : World} {K : PySem.W.Frag} {mg : Str → Option Value} {base : Heap} {f : Addr} {fd : FuncData} {Pt : Addr}
theorem ok_cost_table {f1 f2 f3 f4 : Addr} {fd1 fd2 fd3 fd4 : FuncData} (F : Fun K "cost_table" "cost_table" sCostTable f fd) (B : Bi mg) (C1 : Cal P w K mg base "need_web" 4 f1 fd1 ["value"] (spNeedWeb K)) (C2 : Cal P w K mg base "lots_of" 3 f2 fd2 ["many"] (spLots K Pt))
    (C3 : Cal P w K mg base "cost_of" 5 f3 fd3 ["web", "lot"] (spCostOf K)) (C4 : Cal P w K mg base "everybody" 1 f4 fd4 ["web"] (spEverybody K)) : FnOk P w K mg base CX0 6 f fd ["web"] (spTable K Pt) := by
  refine F.ok scCostTable (fun vs H Q E h => ?_) (fun cdv A outer s H vs Q E hr h => ?_)
  · obtain ⟨v, ns, ts, rfl, _⟩ := h
    rfl
  · obtain ⟨v, ns, ts, rfl, hw, W, tabs, k⟩ := h
    obtain ⟨a, wb, wc, xs, rfl, s1, s2, s3, s4⟩ := hw.web
    refine ⟨_, pss_cons (ps_expr (pe_cal C1 hr (by decide) (pa_cons (pv 0) pa_nil)))
      (pss_cons (ps_set (i := 1) scCostTable.nd rfl (Or.inr rfl) (pe_callB call_len_seq (by rfl) B.len bt_len (pa_cons (pe_ix ix_tup (pv 0) pe_int (fun _ _ => rfl)) pa_nil)))
      (pss_cons (ps_setLc (i := 2) (own := [("size", 4)]) (g := gName 4) rfl scCostTable.nd rfl rfl (sw_true rfl rfl rfl (by decide +kernel)) (pi_tup (pe_cal C4 hr (by decide) (pa_cons (pv 0) pa_nil)))
        (blkOk_by (N := nCostTable) (sc := defScope sCostTable) (by decide +kernel)) (fun _ _ _ _ _ => pg_name (i := 4) scCostTable.nd rfl (Or.inl rfl)) (fun _ _ _ _ _ => pts_nil)
        (fun _ _ _ _ _ => pe_op op_rep (pe_lst (pa_cons pe_int pa_nil)) (pv 1)))
      (pss_cons (ps_for PassesOwn.never rfl (pi_list (pe_cal C2 hr (by decide) (pa_cons (pv 1) pa_nil))) (pg_name (i := 3) scCostTable.nd rfl (Or.inl rfl))
        (pss_one (ps_augS (pe_ix ix_list (pv 2) (pe_op op_sub (pe_callB call_len_seq (by rfl) B.len bt_len (pa_cons (pv 3) pa_nil)) pe_int) (fun _ _ => rfl)) (pe_cal C3 hr (by decide) (pa_cons (pv 0) (pa_cons (pv 3) pa_nil))) get_listP pe_int ip_add set_list)))
      (pss_one (ps_ret (pe_callTy call_tuple_of (by rfl) B.tuple bt_tuple (pa_cons (pe_lc (own := [("row", 5)]) (g := gName 5) rfl scCostTable.nd (pi_list (pv 2))
        (blkOk_by (N := nCostTable) (sc := defScope sCostTable) (by decide +kernel)) (fun _ _ _ _ _ => pg_name (i := 5) scCostTable.nd rfl (Or.inl rfl)) (fun _ _ _ _ _ => pts_nil)
        (fun _ _ _ _ _ => pe_callTy (call_tupleK K) (by rfl) B.tuple bt_tuple (pa_cons (pv 5) pa_nil))) pa_nil))))))), ?_⟩
    have n6 := W.n6
    refine ⟨_, rfl, .ref a, ns, ts, rfl, hw, W, fun H1 e1 => ?_⟩
    refine ⟨_, rfl, a, _, 0, _, rfl, rfl, (sts e1).sqt s1, atI_nat (j := 0) rfl, wb, _, rfl, .inr ((sts e1).sqt s2), ?_⟩
    rw [List.length_map]
    refine ⟨_, rfl, .ref a, ns, ts, rfl, Tp.mono (sts e1) _ _ hw, n6, fun ev H2 e2 te => ?_⟩
    obtain ⟨ea, rfl, se⟩ := te.iT
    refine ⟨ea, rfl, ⟨_, se⟩, fun D hD => ?_⟩
    refine lc_tup (K := K) (a := ea) (xs := (persons ns.length).map V.int) (fun i H' => Same H2 H' ∧ ∃ rows : List Addr, rows.length = i ∧ H' D = some (.lst (rows.map V.ref)) ∧ rows.Nodup ∧
        ∀ r ∈ rows, r ≠ D ∧ H2 r = none ∧ H' r = some (.lst ((List.range ns.length).map fun _ => V.int 0)))
      ⟨same_new hD _, [], rfl, upd_same, List.nodup_nil, fun r hr => absurd hr List.not_mem_nil⟩ (fun i H' _ I => (sts I.1).sqt se) ?_ ?_
    · rintro i x H' hi ⟨e3, rows, rl, g1, nd, gr⟩
      have hi' := (List.getElem?_eq_some_iff.mp hi).1
      rw [List.length_map, length_persons] at hi'
      refine ⟨rfl, yes ?_⟩
      refine ⟨by show 1 ≤ sizeLine; decide, fun p hp => ⟨_, rfl, p, _, _, rfl, rfl, upd_same, by omega, by omega, ?_, fun q hq => ?_⟩⟩
      · rw [Int.toNat_natCast, List.length_singleton]
        exact Nat.le_of_lt (small1000 (by omega))
      · rw [Int.toNat_natCast, rep_zero]
        have e4 : Same H' (upd (upd H' p (.lst [V.int 0])) q (.lst ((List.range ns.length).map fun _ => V.int 0))) := (same_new hp _).trans (same_new hq _)
        have gq : upd (upd H' p (.lst [V.int 0])) q (.lst ((List.range ns.length).map fun _ => V.int 0)) q = some (.lst ((List.range ns.length).map fun _ => V.int 0)) := upd_same
        have hq0 : H' q = none := Same.free (same_new hp (.lst [V.int 0])) hq
        generalize upd (upd H' p (.lst [V.int 0])) q (.lst ((List.range ns.length).map fun _ => V.int 0)) = H4 at e4 gq
        have hqD : q ≠ D := (ne_of_none g1 hq0).symm
        refine ⟨_, e4 _ _ g1, ?_, fun b o hb => ?_, rows ++ [q], ?_, ?_, ?_, fun r hr => ?_⟩
        · rw [List.length_map, rl]
          exact small1000 (by omega)
        · rw [upd_ne (ne_of_none hb hD)]
          exact e4 _ _ (e3 _ _ hb)
        · rw [List.length_append, rl, List.length_singleton]
        · rw [upd_same, List.map_append]
          rfl
        · rw [List.nodup_append]
          refine ⟨nd, by simp, fun r hr b hb => ?_⟩
          have eb : b = q := by simpa using hb
          rw [eb]
          exact ne_of_none (gr r hr).2.2 hq0
        · rcases List.mem_append.mp hr with hr | hr
          · obtain ⟨z1, z2, z3⟩ := gr r hr
            exact ⟨z1, z2, by rw [upd_ne z1]; exact e4 _ _ z3⟩
          · have er : r = q := by simpa using hr
            rw [er]
            exact ⟨hqD, e3.free hq0, by rw [upd_ne hqD]; exact gq⟩
    · rintro H3 ⟨e3, rows, rl, g1, nd, gr⟩
      rw [List.length_map, length_persons] at rl
      have e13 : Same H H3 := (e1.trans e2).trans e3
      refine ⟨_, rfl, ns.length, rfl, n6, tabs.ext e13, fun la lx H4 e4 tabs4 far g4 t4 => ?_⟩
      have lxl := map_len t4
      have l64 := lots64 W
      have e14 : LamX.ExtN H H4 := LamX.ExtN.trans (sext e13) e4
      have lst_no : ∀ (l : List V) ps, HO.lst l ≠ HO.tbl ps := fun l ps z => by cases z
      have gD4 : H4 D = some (.lst (rows.map V.ref)) := e4 _ _ g1 (lst_no _)
      have naD : D ≠ la := far _ _ g1 (lst_no _)
      have gr4 : ∀ r ∈ rows, r ≠ D ∧ r ≠ la ∧ H r = none ∧ H4 r = some (.lst ((List.range ns.length).map fun _ => V.int 0)) := fun r hr => by
        obtain ⟨z1, z2, z3⟩ := gr r hr
        exact ⟨z1, far _ _ z3 (lst_no _), (e1.trans e2).free z2, e4 _ _ z3 (lst_no _)⟩
      refine ⟨la, rfl, ⟨_, SqL.of g4⟩, for_list (K := K) (a := la) (xs := lx) (fun i σ H' => ∃ (y z z2 : Option V), σ = [some (.ref a), some (.int (ns.length : Int)), some (.ref D), y, z, z2] ∧ LamX.ExtN H H' ∧ LamX.Tabs (tabT Pt) H' ∧ H' D = some (.lst (rows.map V.ref)) ∧ H' la = some (.lst lx) ∧ TpL K H' ((lots ns.length).map dI) lx ∧
          ∀ (s : Nat) (r : Addr), rows[s]? = some r → H' r = some (.lst ((List.range ns.length).map fun c => V.int (hits ns ts ((lots ns.length).take i) s c : Int))))
        ⟨_, _, _, rfl, e14, tabs4, gD4, g4, t4, fun s r hr => ?_⟩ (fun i σ H' _ ⟨_, _, _, _, _, _, _, q, _⟩ => SqL.of q) ?_ ?_⟩
      · rw [(gr4 r (List.mem_of_getElem? hr)).2.2.2]
        rfl
      · rintro i x σ H5 hi ⟨y, z, z2, rfl, e5, tabs5, g5, g6, t5, gg⟩
        obtain ⟨l, hl, tl⟩ := get_dec t5 hi
        have hlm := List.mem_of_getElem? hl
        have ok := lots_ok hlm
        have llen := ok.len
        obtain ⟨xa, rfl, sx⟩ := tl.iT
        have tk : (lots ns.length).take (i + 1) = (lots ns.length).take i ++ [l] := by
          obtain ⟨z1, z2⟩ := List.getElem?_eq_some_iff.mp hl
          rw [List.take_succ_eq_append_getElem z1, z2]
        have hsl : l.length - 1 < rows.length := by omega
        have hrow : rows[l.length - 1]? = some rows[l.length - 1] := List.getElem?_eq_getElem hsl
        generalize rows[l.length - 1] = r at hrow
        obtain ⟨rD, rla, rH, _⟩ := gr4 r (List.mem_of_getElem? hrow)
        have hj : (((l.map V.int).length : Nat) : Int) - 1 = ((l.length - 1 : Nat) : Int) := by
          rw [List.length_map]
          omega
        have clt := cost_lt (ns := ns) (ts := ts) ok.ne ok.sub
        refine ⟨_, rfl, _, rfl, xa, _, rfl, .inr sx, _, _, rfl, rfl, D, _, _, _, rfl, rfl, SqL.of g5, at_of hj (by rw [List.getElem?_map, hrow]; rfl), ?_⟩
        refine ⟨_, rfl, _, rfl, .ref a, .ref xa, ns, ts, l, rfl, Tp.mono (ets e5) _ _ hw, tl, W, ok.ne, ok.sub, LotOk.short W hlm, fun H6 e6 => ?_⟩
        have gR : H6 r = some (.lst ((List.range ns.length).map fun c => V.int (hits ns ts ((lots ns.length).take i) (l.length - 1) c : Int))) := e6 _ _ (gg _ _ hrow)
        refine ⟨r, _, _, cost ns ts l, _, rfl, rfl, SqL.of gR, rfl, by rw [List.getElem?_map, List.getElem?_range clt]; rfl, ?_⟩
        refine ⟨_, _, rfl, rfl, r, _, _, cost ns ts l, rfl, rfl, gR, ixN_nat (by simpa using clt), ?_⟩
        have eset : ((List.range ns.length).map fun c => V.int (hits ns ts ((lots ns.length).take i) (l.length - 1) c : Int)).set (cost ns ts l) (V.int ((hits ns ts ((lots ns.length).take i) (l.length - 1) (cost ns ts l) : Int) + 1)) =
            (List.range ns.length).map fun c => V.int (hits ns ts ((lots ns.length).take (i + 1)) (l.length - 1) c : Int) := by
          refine set_row fun c hc => ?_
          rw [tk, hits_snoc]
          by_cases ec : c = cost ns ts l
          · rw [if_pos ec, if_pos ⟨by omega, ec.symm⟩, ec]
            congr 1
          · rw [if_neg ec, if_neg fun z => ec z.2.symm]
            rfl
        rw [eset]
        have nr : ∀ {b : Addr} {o : HO}, H b = some o → b ≠ r := fun hb => ne_of_none hb rH
        refine ⟨_, _, _, rfl, fun b o hb ht => ?_, ?_, ?_, ?_, ?_, fun s r2 hr2 => ?_⟩
        · rw [upd_ne (nr hb)]
          exact e6 _ _ (e5 _ _ hb ht)
        · have T6 := tabs5.ext e6
          intro p hp
          obtain ⟨ps, h1, h2, h3⟩ := T6 p hp
          have npr : p.1 ≠ r := ne_of h1 gR (by intro z; cases z)
          refine ⟨ps, by rw [upd_ne npr]; exact h1, h2, fun pos cv hc => ?_⟩
          obtain ⟨c0, z1, z2⟩ := h3 pos cv hc
          exact ⟨c0, z1, by rw [upd_ne (ne_of z2 gR (by intro z; cases z))]; exact z2⟩
        · rw [upd_ne rD.symm]
          exact e6 _ _ g5
        · rw [upd_ne rla.symm]
          exact e6 _ _ g6
        · exact TpL.mono ((sts e6).trans (ts_lst gR _)) _ _ t5
        · by_cases es : s = l.length - 1
          · rw [es] at hr2 ⊢
            rw [hrow] at hr2
            cases hr2
            exact upd_same
          · have hne : r2 ≠ r := fun z => by
              rw [z] at hr2
              exact es (nd_ix nd hr2 hrow)
            rw [upd_ne hne, e6 _ _ (gg s r2 hr2)]
            congr 2
            refine List.map_congr_left fun c _ => ?_
            rw [tk, hits_snoc, if_neg fun z => es (by omega)]
            rfl
      · rintro σ H5 ⟨y, z, z2, rfl, e5, tabs5, g5, g6, t5, gg⟩
        rw [lxl, List.take_length] at gg
        refine ⟨_, rfl, D, rfl, ⟨_, SqL.of g5⟩, fun D2 hD2 => ?_⟩
        refine lc_list (K := K) (a := D) (xs := rows.map V.ref) (LcInv K H5 (List.range ns.length) (fun _ => true) (fun s => dI (rowT ns ts s)) D2) (lc_start hD2) (fun i H' _ I => SqL.of (I.1 _ _ g5)) (fun i x H' hx I => ?_) (fun H' I => ?_)
        · have hi := (List.getElem?_eq_some_iff.mp hx).1
          rw [List.length_map, rl] at hi
          have hri : rows[i]? = some rows[i] := List.getElem?_eq_getElem (by omega)
          rw [List.getElem?_map, hri] at hx
          cases hx
          have gri := gg i _ hri
          refine lc_turnG hD2 (by have := small1000 (n := 1000) (Nat.le_refl _); omega) (List.getElem?_range hi) (fun H6 N0 N1 e6 n0 n1 => ?_) I
          refine ⟨rfl, yes ?_⟩
          refine ⟨_, rfl, _, _, rfl, .inl ⟨SqL.of (e6 _ _ gri), fun q hq => ?_⟩⟩
          refine n1 rfl _ _ (same_new hq _) (Tp.of_iT ?_)
          have er : (rowT ns ts i).map V.int = (List.range ns.length).map fun c => V.int (hits ns ts (lots ns.length) i c : Int) := by
            unfold rowT
            rw [List.map_map]
            refine List.map_congr_left fun c _ => ?_
            rw [DW.hits_all]
            rfl
          rw [er]
          exact SqT.of upd_same
        · rw [List.length_map, rl] at I
          refine lc_fin (by simp) I fun ys H6 e6 hy ty => ?_
          refine ⟨D2, _, rfl, .inl ⟨SqL.of hy, fun q hq => ?_⟩⟩
          refine k _ _ (LamX.ExtN.trans e5 (sext (e6.trans (same_new hq _)))) (tabs5.ext (e6.trans (same_new hq _))) ⟨q, ys, rfl, SqT.of upd_same, ?_⟩
          have et : (((List.range ns.length).filter fun _ => true).map fun s => dI (rowT ns ts s)) = (tableT ns ts).map dI := by
            rw [List.filter_eq_self.mpr fun _ _ => rfl]
            unfold tableT
            rw [List.map_map]
            rfl
          rw [← et]
          exact TpL.mono (ts_new hq _) _ _ ty
end
end DV
namespace DV
open PySem PySem.Spec L2 DW

/-- the list at a does not hang on what stands at R -/
def Apart (K : PySem.W.Frag) (a R : Addr) (xs : List V) : Prop := a ≠ R ∨ ∀ H : Hp, SqL K H a xs
theorem sql_ne {K : PySem.W.Frag} {H : Hp} {a R : Addr} {xs : List V} {o : HO} (n : Apart K a R xs) (h : SqL K H a xs) : SqL K (upd H R o) a xs := by
  rcases n with n | n
  · rcases h with (h | ⟨o, h⟩) | h
    · exact .inl (.inl (by rw [upd_ne n]; exact h))
    · exact .inl (.inr ⟨o, by rw [upd_ne n]; exact h⟩)
    · exact .inr h
  · exact n _
theorem apart_of {K : PySem.W.Frag} {H : Hp} {a R : Addr} {xs : List V} (h : SqL K H a xs) (hR : H R = none) : Apart K a R xs := by
  rcases h with (h | ⟨o, h⟩) | h
  · exact .inl (ne_of_none h hR)
  · exact .inl (ne_of_none h hR)
  · exact .inr fun _ => .inr h
def rowV (a : Addr) (i g c : Int) : HO := .lst [.ref a, .int i, .int g, .int c]
def spTakenD (K : PySem.W.Frag) : Sp := fun vs H Q _ => ∃ (R a : Addr) (m i g c : Int) (ns : List Int), vs = [.ref R, .int m] ∧ 0 < m ∧ m < 1073741824 ∧ H R = some (rowV a i g c) ∧ 0 ≤ i ∧ Apart K a R (ns.map V.int) ∧ SqL K H a (ns.map V.int) ∧
  ∀ v i' g' c', 0 ≤ v → v < m → 0 ≤ i' → Q (.int v) (upd H R (rowV a i' g' c'))
/-- .. closed to the unifier -/
@[irreducible] def spTaken (K : PySem.W.Frag) : Sp := spTakenD K
theorem spTaken_eq (K : PySem.W.Frag) : spTaken K = spTakenD K := by delta spTaken; rfl
section
variable {P : Program} {w : World} {K : PySem.W.Frag} {mg : Str → Option Value} {base : Heap} {f : Addr} {fd : FuncData}
theorem ok_law_takenD (F : Fun K "_law_taken" "_law_taken" sLawTaken f fd) (B : Bi mg) : FnOk P w K mg base CX0 1 f fd ["_law_row", "_law_many"] (spTakenD K) := by
  refine F.ok scLawTaken (fun vs H Q E h => ?_) (fun cdv A outer s H vs Q E hr h => ?_)
  · obtain ⟨R, a, m, i, g, c, ns, rfl, _⟩ := h
    rfl
  · obtain ⟨R, a, m, i, g, c, ns, rfl, m0, m1, hR, i0, naR, hs, k⟩ := h
    refine ⟨_, pss_cons (ps_if (pt_cmpR op_gt (pe_ix ix_list (pv 0) pe_int (fun _ _ => rfl)) pe_int (nomark _))
        (pss_cons (ps_set (i := 2) scLawTaken.nd rfl (Or.inl rfl) (pe_op op_mod (pe_callTy call_int1 (by rfl) B.int bt_int (pa_cons (pe_ix ix_list (pv 0) pe_int (fun _ _ => rfl)) pa_nil)) (pv 1)))
        (pss_cons (ps_asg (pe_op op_fdiv (pe_ix ix_list (pv 0) pe_int (fun _ _ => rfl)) (pv 1)) (pg_sub (pv 0) pe_int set_list))
        (pss_one (ps_ret (pv 2))))) pss_nil)
      (pss_cons (ps_asg (pe_op op_add (pe_ix ix_list (pv 0) pe_int (fun _ _ => rfl)) pe_int) (pg_sub (pv 0) pe_int set_list))
      (pss_cons (ps_if (pt_cmpR op_gt (pe_ix ix_list (pv 0) pe_int (fun _ _ => rfl)) (pe_callB call_len_seq (by rfl) B.len bt_len (pa_cons (pe_ix ix_list (pv 0) pe_int (fun _ _ => rfl)) pa_nil)) (nomark _))
        (pss_cons (ps_asg (pe_op op_mod (pe_callTy call_int1 (by rfl) B.int bt_int (pa_cons (pe_op op_add (pe_op op_mul (pe_ix ix_list (pv 0) pe_int (fun _ _ => rfl)) pe_int) pe_int) pa_nil)) pe_int) (pg_sub (pv 0) pe_int set_list))
        (pss_one (ps_ret (pe_op op_mod (pe_callTy call_int1 (by rfl) B.int bt_int (pa_cons (pe_op op_fdiv (pe_ix ix_list (pv 0) pe_int (fun _ _ => rfl)) pe_int) pa_nil)) (pv 1))))) pss_nil)
      (pss_cons (ps_set (i := 3) scLawTaken.nd rfl (Or.inl rfl) (pe_ix ix_list (pe_ix ix_list (pv 0) pe_int (fun _ _ => rfl)) (pe_op op_sub (pe_ix ix_list (pv 0) pe_int (fun _ _ => rfl)) pe_int) (fun _ _ => rfl)))
      (pss_cons (ps_asg (pe_op op_mod (pe_callTy call_int1 (by rfl) B.int bt_int (pa_cons (pe_op op_add (pe_op op_add (pe_op op_mul (pe_ix ix_list (pv 0) pe_int (fun _ _ => rfl)) pe_int) (pv 3)) pe_int) pa_nil)) pe_int) (pg_sub (pv 0) pe_int set_list))
      (pss_cons (ps_if (pt_cmpR op_ge (pv 3) (pe_op op_pow pe_int pe_int) (nomark _))
        (pss_one (ps_asg (pe_op op_fdiv (pv 3) (pv 1)) (pg_sub (pv 0) pe_int set_list))) pss_nil)
      (pss_one (ps_ret (pe_op op_mod (pe_callTy call_int1 (by rfl) B.int bt_int (pa_cons (pv 3) pa_nil)) (pv 1)))))))))
      , ?_⟩
    have ix3 : ∀ (a : Addr) (i g c : Int), atI [V.ref a, .int i, .int g, .int c] 3 = some (.int c) := fun a i g c => atI_nat (j := 3) rfl
    have ix2 : ∀ (a : Addr) (i g c : Int), atI [V.ref a, .int i, .int g, .int c] 2 = some (.int g) := fun a i g c => atI_nat (j := 2) rfl
    have ix1 : ∀ (a : Addr) (i g c : Int), atI [V.ref a, .int i, .int g, .int c] 1 = some (.int i) := fun a i g c => atI_nat (j := 1) rfl
    have ix0 : ∀ (a : Addr) (i g c : Int), atI [V.ref a, .int i, .int g, .int c] 0 = some (.ref a) := fun a i g c => atI_nat (j := 0) rfl
    refine ⟨_, rfl, R, _, 3, _, rfl, rfl, SqL.of hR, ix3 a i g c, _, _, rfl, rfl, _, rfl, ?_⟩
    refine ite2 (fun cc => ?_) (fun cc => ?_)
    · refine ⟨_, rfl, R, _, 3, _, rfl, rfl, SqL.of hR, ix3 a i g c, .inl ⟨_, rfl, _, rfl, _, _, rfl, rfl, m0, ?_⟩⟩
      refine ⟨_, rfl, R, _, 3, _, rfl, rfl, SqL.of hR, ix3 a i g c, _, rfl, _, _, rfl, rfl, ⟨m0, m1⟩, ?_⟩
      refine ⟨_, rfl, R, _, 3, 3, rfl, rfl, hR, rfl, ?_⟩
      exact ⟨_, rfl, k _ i g _ (Int.emod_nonneg _ (by omega)) (Int.emod_lt_of_pos _ m0) i0⟩
    · refine ⟨_, rfl, R, _, 1, _, rfl, rfl, SqL.of hR, ix1 a i g c, _, _, rfl, rfl, ?_⟩
      refine ⟨_, rfl, R, _, 1, 1, rfl, rfl, hR, rfl, ?_⟩
      have gR : upd H R (.lst ([V.ref a, .int i, .int g, .int c].set 1 (.int (i + 1)))) R = some (rowV a (i + 1) g c) := upd_same
      have hs1 := sql_ne (o := .lst ([V.ref a, .int i, .int g, .int c].set 1 (.int (i + 1)))) naR hs
      have up : ∀ o, upd (upd H R (.lst ([V.ref a, .int i, .int g, .int c].set 1 (.int (i + 1))))) R o = upd H R o := fun o => upd_upd
      generalize upd H R (.lst ([V.ref a, .int i, .int g, .int c].set 1 (.int (i + 1)))) = H1 at gR hs1 up
      refine ⟨_, rfl, R, _, 1, _, rfl, rfl, SqL.of gR, ix1 _ _ _ _, ?_⟩
      refine ⟨_, rfl, R, _, 0, _, rfl, rfl, SqL.of gR, ix0 _ _ _ _, a, _, rfl, .inl hs1, _, _, rfl, rfl, _, rfl, ?_⟩
      refine ite2 (fun c2 => ?_) (fun c2 => ?_)
      · refine ⟨_, rfl, R, _, 2, _, rfl, rfl, SqL.of gR, ix2 _ _ _ _, _, _, rfl, rfl, .inr ⟨by decide, by decide⟩, _, _, rfl, rfl, .inl ⟨_, rfl, _, _, rfl, rfl, (by show (0 : Int) < 2147483647; decide), ?_⟩⟩
        refine ⟨_, rfl, R, _, 2, 2, rfl, rfl, gR, rfl, ?_⟩
        rw [up]
        refine ⟨_, rfl, R, _, 2, _, rfl, rfl, SqL.of upd_same, ix2 _ _ _ _, _, _, rfl, rfl, ⟨by decide, by decide⟩, .inl ⟨_, rfl, _, rfl, _, _, rfl, rfl, m0, ?_⟩⟩
        exact k _ _ _ _ (Int.emod_nonneg _ (by omega)) (Int.emod_lt_of_pos _ m0) (by omega)
      · have c2' : i + 1 ≤ (ns.length : Int) := by
          by_cases z : (ns.length : Int) < i + 1
          · exact absurd (decide_eq_true (by rw [List.length_map]; exact z)) c2
          · omega
        have hix : ns[i.toNat]? = some ns[i.toNat] := List.getElem?_eq_getElem (by omega)
        generalize ns[i.toNat] = cell at hix
        refine ⟨_, rfl, R, _, 0, _, rfl, rfl, SqL.of gR, ix0 _ _ _ _, _, rfl, R, _, 1, _, rfl, rfl, SqL.of gR, ix1 _ _ _ _, _, _, rfl, rfl, a, _, _, _, rfl, rfl, hs1, at_of (j := i.toNat) (by omega) (by rw [List.getElem?_map, hix]; rfl), ?_⟩
        refine ⟨_, rfl, R, _, 2, _, rfl, rfl, SqL.of gR, ix2 _ _ _ _, _, _, rfl, rfl, .inr ⟨by decide, by decide⟩, _, rfl, _, _, rfl, rfl, _, _, rfl, rfl, .inl ⟨_, rfl, _, _, rfl, rfl, (by show (0 : Int) < 2147483647; decide), ?_⟩⟩
        refine ⟨_, rfl, R, _, 2, 2, rfl, rfl, gR, rfl, ?_⟩
        rw [up]
        refine ⟨_, rfl, _, _, rfl, rfl, ⟨by decide, by decide, by decide⟩, _, _, rfl, rfl, _, rfl, ?_⟩
        refine ite2 (fun c3 => ?_) (fun c3 => ?_)
        · refine ⟨_, rfl, _, rfl, _, _, rfl, rfl, ⟨m0, m1⟩, ?_⟩
          refine ⟨_, rfl, R, _, 3, 3, rfl, rfl, upd_same, rfl, ?_⟩
          rw [upd_upd]
          refine ⟨_, rfl, .inl ⟨_, rfl, _, rfl, _, _, rfl, rfl, m0, ?_⟩⟩
          exact k _ _ _ _ (Int.emod_nonneg _ (by omega)) (Int.emod_lt_of_pos _ m0) (by omega)
        · refine ⟨_, rfl, .inl ⟨_, rfl, _, rfl, _, _, rfl, rfl, m0, ?_⟩⟩
          exact k _ _ _ _ (Int.emod_nonneg _ (by omega)) (Int.emod_lt_of_pos _ m0) (by omega)
theorem ok_law_taken (F : Fun K "_law_taken" "_law_taken" sLawTaken f fd) (B : Bi mg) : FnOk P w K mg base CX0 1 f fd ["_law_row", "_law_many"] (spTaken K) := by
  rw [spTaken_eq]
  exact ok_law_takenD F B
end
end DV
namespace DV
open PySem PySem.Spec L2 DW

/-- a list (b) or a tuple -/
def SqB (K : PySem.W.Frag) (H : Hp) (b : Bool) (a : Addr) (xs : List V) : Prop := if b = true then SqL K H a xs else SqT K H a xs
def nmB (b : Bool) : String := if b = true then "list" else "tuple"
theorem SqB.mono {K : PySem.W.Frag} {H H' : Hp} {b : Bool} {a : Addr} {xs : List V} (e : Same H H') (h : SqB K H b a xs) : SqB K H' b a xs := by
  cases b with
  | true => exact e.seq (show SqL K H a xs from h)
  | false => exact (sts e).sqt (show SqT K H a xs from h)
theorem SqB.ty {K : PySem.W.Frag} {H : Hp} {b : Bool} {a : Addr} {xs : List V} (h : SqB K H b a xs) : TyX K H (.ref a) (.type (nmB b)) := by
  cases b with
  | true => exact sql_ty (show SqL K H a xs from h)
  | false => exact sqt_ty (show SqT K H a xs from h)
theorem SqB.or {K : PySem.W.Frag} {H : Hp} {b : Bool} {a : Addr} {xs : List V} (h : SqB K H b a xs) : SqL K H a xs ∨ SqT K H a xs := by
  cases b with
  | true => exact .inl h
  | false => exact .inr h
theorem kit_tl {K : PySem.W.Frag} (b : Bool) : PySem.W.kitAny K (.type (nmB b)) [.type "tuple", .type "list"] = some true := by
  cases b with
  | true => exact kitAny_cons (b := false) (kit_ty (by decide +kernel)) (fun _ => kitAny_cons (b := true) (kit_ty (by decide +kernel)) (fun z => by cases z) (fun _ => rfl)) (fun z => by cases z)
  | false => exact kitAny_cons (b := true) (kit_ty (by decide +kernel)) (fun z => by cases z) (fun _ => rfl)
theorem kit_l {K : PySem.W.Frag} (b : Bool) : PySem.W.kitOne K (.type (nmB b)) (.type "list") = some b := by
  cases b with
  | true => exact kit_ty (by decide +kernel)
  | false => exact kit_ty (by decide +kernel)
theorem kit_itl {K : PySem.W.Frag} : PySem.W.kitAny K (.type "int") [.type "tuple", .type "list"] = some false :=
  kitAny_cons (b := false) (kit_ty (by decide +kernel)) (fun _ => kitAny_cons (b := false) (kit_ty (by decide +kernel)) (fun _ => kitAny_nil) (fun z => by cases z)) (fun z => by cases z)
theorem cls_tl : Paired ClsV [.ty "tuple", .ty "list"] [.type "tuple", .type "list"] := .cons (.ty _) (.cons (.ty _) .nil)
/-- two values of one and the same data, of a depth below n -/
def AlD (K : PySem.W.Frag) (H : Hp) : Nat → V → V → Prop
  | 0, _, _ => False
  | n + 1, v, u => (∃ i : Int, v = .int i ∧ u = .int i) ∨ ∃ (b : Bool) (p q : Addr) (xs ys : List V), v = .ref p ∧ u = .ref q ∧ SqB K H b p xs ∧ SqB K H b q ys ∧ xs.length = ys.length ∧ ys.length ≤ 1000 ∧
      ∀ (i : Nat) (x y : V), xs[i]? = some x → ys[i]? = some y → AlD K H n x y
theorem AlD.mono {K : PySem.W.Frag} {H H' : Hp} (e : Same H H') : ∀ {n : Nat} {v u : V}, AlD K H n v u → AlD K H' n v u
  | 0, _, _, h => h.elim
  | n + 1, v, u, h => by
    rcases h with h | ⟨b, p, q, xs, ys, h1, h2, h3, h4, h5, h6, h7⟩
    · exact .inl h
    · exact .inr ⟨b, p, q, xs, ys, h1, h2, h3.mono e, h4.mono e, h5, h6, fun i x y hx hy => AlD.mono e (h7 i x y hx hy)⟩
theorem req_nil {K : PySem.W.Frag} {H : Hp} {Q : VK} {a b : Addr} (h : SqL K H a []) (h' : SqL K H b []) (k : Q (.bl true) H) : rEqD K (.ref a) (.ref b) H Q := by
  refine ⟨.list [], .list [], .lst h .nil, .lst h' .nil, shaped_ints [], shaped_ints [], ?_⟩
  have e : PyData.eqv (.list []) (.list []) = true := by decide +kernel
  rw [e]
  exact k
def spAlike (K : PySem.W.Frag) (n : Nat) : Sp := fun vs H Q _ => ∃ v u : V, vs = [v, u] ∧ AlD K H n v u ∧ ∀ H', Same H H' → Q (.bl true) H'
section
variable {P : Program} {w : World} {K : PySem.W.Frag} {mg : Str → Option Value} {base : Heap} {f : Addr} {fd : FuncData}
theorem ok_law_alike (F : Fun K "_law_alike" "_law_alike" sLawAlike f fd) (B : Bi mg) (hb : Binds K fd ["_law_found", "_law_due"] []) (hm : mg "_law_alike" = some (.ref f)) :
    ∀ n : Nat, FnOk P w K mg base CX0 (n + 1) f fd ["_law_found", "_law_due"] (spAlike K n)
  | 0 => by
    refine F.ok scLawAlike (fun vs H Q E h => ?_) (fun cdv A outer s H vs Q E hr h => ?_)
    · obtain ⟨v, u, rfl, _⟩ := h
      rfl
    · obtain ⟨v, u, rfl, h, _⟩ := h
      exact h.elim
  | n + 1 => by
    have C1 : Cal P w K mg base "_law_alike" (n + 1) f fd ["_law_found", "_law_due"] (spAlike K n) := ⟨ok_law_alike F B hb hm n, hb, F.kp, hm⟩
    refine F.ok scLawAlike (fun vs H Q E h => ?_) (fun cdv A outer s H vs Q E hr h => ?_)
    · obtain ⟨v, u, rfl, _⟩ := h
      rfl
    · obtain ⟨v, u, rfl, hd, k⟩ := h
      refine ⟨_, pss_cons (ps_if (pt_val (pe_callB call_isiT (by rfl) B.isinstance bt_isinstance (pa_cons (pv 1) (pa_cons (pe_tup (pa_cons (pe_bltn (v := .ty "tuple") (by rfl) B.tuple bt_tuple rfl) (pa_cons (pe_bltn (v := .ty "list") (by rfl) B.list bt_list rfl) pa_nil))) pa_nil))))
          (pss_cons (ps_if (PW.pt (pw_or (pt_not (pt_val (pe_callB call_isiT (by rfl) B.isinstance bt_isinstance (pa_cons (pv 0) (pa_cons (pe_tup (pa_cons (pe_bltn (v := .ty "tuple") (by rfl) B.tuple bt_tuple rfl) (pa_cons (pe_bltn (v := .ty "list") (by rfl) B.list bt_list rfl) pa_nil))) pa_nil)))))
              (pw_or1 (pt_cmpR op_ne (pe_callB call_isi (by rfl) B.isinstance bt_isinstance (pa_cons (pv 0) (pa_cons (pe_bltn (v := .ty "list") (by rfl) B.list bt_list rfl) pa_nil))) (pe_callB call_isi (by rfl) B.isinstance bt_isinstance (pa_cons (pv 1) (pa_cons (pe_bltn (v := .ty "list") (by rfl) B.list bt_list rfl) pa_nil))) (nomark _)))))
              (pss_one ps_never) pss_nil)
          (pss_cons (ps_if (pt_cmpR op_ne (pe_callB call_len_seq (by rfl) B.len bt_len (pa_cons (pv 0) pa_nil)) (pe_callB call_len_seq (by rfl) B.len bt_len (pa_cons (pv 1) pa_nil)) (nomark _)) (pss_one ps_never) pss_nil)
          (pss_one (ps_ret (pe_cmpR (op_eqDK K hr.units) (pe_lc (own := [("_law_k", 2)]) (g := gName 2) rfl scLawAlike.nd (pi_range1 (by rfl) B.range (pa_cons (pe_callB call_len_seq (by rfl) B.len bt_len (pa_cons (pv 1) pa_nil)) pa_nil))
            (blkOk_by (N := nLawAlike) (sc := defScope sLawAlike) (by decide +kernel)) (fun _ _ _ _ _ => pg_name (i := 2) scLawAlike.nd rfl (Or.inl rfl))
            (fun _ _ _ _ _ => pts_one (pt_not (pt_val (pe_cal C1 hr (Nat.le_refl _) (pa_cons (pe_ix ((ix_listK K).or (ix_tupK K)) (pv 0) (pv 2) (fun _ _ => rfl)) (pa_cons (pe_ix ((ix_listK K).or (ix_tupK K)) (pv 1) (pv 2) (fun _ _ => rfl)) pa_nil))))))
            (fun _ _ _ _ _ => pv 2)) (pe_lst pa_nil) (nomark _)))))) pss_nil)
        (pss_cons (ps_if (PW.pt (pw_or (pt_cmpR op_isN (pv 1) pe_non (nomark _)) (pw_or1 (pt_val (pe_callB call_isi (by rfl) B.isinstance bt_isinstance (pa_cons (pv 1) (pa_cons (pe_bltn (v := .ty "str") (by rfl) B.str bt_str rfl) pa_nil))))))) (pss_one ps_never) pss_nil)
        (pss_one (ps_ret (pe_and (pe_callB call_isi (by rfl) B.isinstance bt_isinstance (pa_cons (pv 0) (pa_cons (pe_bltn (v := .ty "int") (by rfl) B.int bt_int rfl) pa_nil)))
          (pe_and (pe_cmpR op_eq (pe_callB call_isi (by rfl) B.isinstance bt_isinstance (pa_cons (pv 0) (pa_cons (pe_bltn (v := .ty "bool") (by rfl) B.bool bt_bool rfl) pa_nil))) (pe_callB call_isi (by rfl) B.isinstance bt_isinstance (pa_cons (pv 1) (pa_cons (pe_bltn (v := .ty "bool") (by rfl) B.bool bt_bool rfl) pa_nil))) (nomark _))
          (pe_one (pe_cmpR op_eq (pv 0) (pv 1) (nomark _)))))))), ?_⟩
      have two : 2 ≤ sizeLine := by decide
      rcases hd with ⟨i, rfl, rfl⟩ | ⟨b, p, q, xs, ys, rfl, rfl, sp, sq, hl, hz, hi⟩
      · refine ⟨_, rfl, two, fun d hd => ⟨_, d, _, _, _, false, rfl, upd_same, cls_tl, .base (.int _), kit_itl, _, rfl, iteF ?_⟩⟩
        refine ⟨_, rfl, rfl, _, rfl, iteF ?_⟩
        refine ⟨_, rfl, _, _, _, _, false, rfl, .ty _, .base (.int _), kit_ty (by decide +kernel), _, rfl, iteF ?_⟩
        refine ⟨_, rfl, _, _, _, _, true, rfl, .ty _, .base (.int _), kit_ty (by decide +kernel), _, rfl, iteT ?_⟩
        refine ⟨_, rfl, _, _, _, _, false, rfl, .ty _, .base (.int _), kit_ty (by decide +kernel), _, rfl, _, _, _, _, false, rfl, .ty _, .base (.int _), kit_ty (by decide +kernel), rfl, _, rfl, iteT ?_⟩
        refine ⟨_, rfl, _, rfl, rfl, ?_⟩
        have e : decide (V.int i = V.int i) = true := by simp
        rw [e]
        exact k _ (same_new hd _)
      · refine ⟨_, rfl, two, fun d hd => ?_⟩
        have e1 := same_new hd (.tup [.ty "tuple", .ty "list"])
        refine ⟨_, d, _, _, _, true, rfl, upd_same, cls_tl, SqB.ty (sq.mono e1), kit_tl b, _, rfl, iteT ?_⟩
        generalize upd H d (.tup [.ty "tuple", .ty "list"]) = H1 at e1 ⊢
        refine ⟨_, rfl, two, fun d2 hd2 => ?_⟩
        have e2 := e1.trans (same_new hd2 (.tup [.ty "tuple", .ty "list"]))
        refine ⟨_, d2, _, _, _, true, rfl, upd_same, cls_tl, SqB.ty (sp.mono e2), kit_tl b, _, rfl, iteF ?_⟩
        generalize upd H1 d2 (.tup [.ty "tuple", .ty "list"]) = H2 at e2 ⊢
        have sp2 := sp.mono e2
        have sq2 := sq.mono e2
        refine ⟨_, rfl, _, _, _, _, b, rfl, .ty _, sp2.ty, kit_l b, _, rfl, _, _, _, _, b, rfl, .ty _, sq2.ty, kit_l b, rfl, _, rfl, ?_⟩
        have eb : (!decide (V.bl b = V.bl b)) = false := by simp
        rw [eb]
        refine iteF ?_
        refine ⟨_, rfl, p, xs, rfl, sp2.or, _, rfl, q, ys, rfl, sq2.or, rfl, _, rfl, ?_⟩
        have el : (!decide (V.int (xs.length : Int) = V.int (ys.length : Int))) = false := by simp [hl]
        rw [el]
        refine iteF ?_
        refine ⟨_, rfl, q, ys, rfl, sq2.or, ((ys.length : Nat) : Int), rfl, by omega, by omega, fun D hD => ?_⟩
        rw [Int.toNat_natCast]
        refine lc_tpR (K := K) (p := fun _ => false) (f := fun i : Nat => .int (i : Int)) hD (by omega) (fun c hc => ?_) (fun zs H3 e3 hy ty => ?_)
        · intro x H3 N0 N1 e3 hx n0 n1
          have hx : x = .int (0 + (c : Int)) := hx
          rw [Int.zero_add] at hx
          subst hx
          have hx : xs[c]? = some xs[c] := List.getElem?_eq_getElem (by omega)
          have hy : ys[c]? = some ys[c] := List.getElem?_eq_getElem hc
          have ha := AlD.mono (e2.trans e3) (hi c _ _ hx hy)
          have ixp : ∀ {b : Bool} {p : Addr} {xs : List V} {x : V} {Q : VK}, SqB K H3 b p xs → xs[c]? = some x → Q x H3 → rIxL K (.ref p) (.int (c : Int)) H3 Q ∨ rIxT K (.ref p) (.int (c : Int)) H3 Q := by
            intro b p xs x Q sp hx q
            cases b with
            | true => exact .inl ⟨p, xs, _, x, rfl, rfl, sp, atI_nat hx, q⟩
            | false => exact .inr ⟨p, xs, _, x, rfl, rfl, sp, atI_nat hx, q⟩
          refine ⟨rfl, _, rfl, _, rfl, ixp (sp2.mono e3) hx ⟨_, rfl, _, rfl, ixp (sq2.mono e3) hy ⟨_, _, rfl, ha, fun H4 e4 => ⟨_, rfl, iteF (n0 rfl _ e4)⟩⟩⟩⟩
        · rw [List.filter_eq_nil_iff.mpr (by simp)] at ty
          have hz : zs = [] := ty
          subst hz
          refine ⟨Nat.zero_le _, fun c hc => ?_⟩
          exact req_nil (SqL.of ((upd_ne (ne_of_none hy hc)).trans hy)) (SqL.of upd_same) (k _ (e2.trans (e3.trans (same_new hc _))))
end
end DV
namespace DW

/-- one tie more, if it is new -/
def addT (ts : List Tie) (t : Tie) : List Tie := if t ∈ ts then ts else ts ++ [t]
theorem mem_addT {ts : List Tie} {t u : Tie} : u ∈ addT ts t ↔ u ∈ ts ∨ u = t := by
  unfold addT
  by_cases h : t ∈ ts
  · rw [if_pos h]
    exact ⟨.inl, fun z => z.elim id fun e => by rw [e]; exact h⟩
  · rw [if_neg h, List.mem_append, List.mem_singleton]
theorem len_addT (ts : List Tie) (t : Tie) : (addT ts t).length ≤ ts.length + 1 := by
  unfold addT
  by_cases h : t ∈ ts
  · rw [if_pos h]; omega
  · rw [if_neg h]; simp
theorem nodup_addT {ts : List Tie} {t : Tie} (h : ts.Nodup) : (addT ts t).Nodup := by
  unfold addT
  by_cases e : t ∈ ts
  · rw [if_pos e]; exact h
  · rw [if_neg e, List.nodup_append]
    exact ⟨h, by simp, fun a ha b hb z => e (by rw [List.mem_singleton.mp hb] at z; rw [← z]; exact ha)⟩
structure Pre (n k : Nat) (m : Nat) (ts : List Tie) : Prop where
  tr : ∀ t ∈ ts, 0 ≤ t.1 ∧ t.1 < t.2 ∧ t.2 < (n : Int)
  nd : ts.Nodup
  conn : ∀ p : Int, 1 ≤ p → p < (k : Int) → ∃ q, q < p ∧ (q, p) ∈ ts
  len : ts.length ≤ m
theorem Pre.nil (n : Nat) : Pre n 1 0 [] := ⟨(fun t h => by cases h), List.nodup_nil, fun p h1 h2 => by omega, Nat.le_refl _⟩
theorem Pre.step {n k m : Nat} {ts : List Tie} {q : Int} (h : Pre n k m ts) (hk : k < n) (q0 : 0 ≤ q) (q1 : q < (k : Int)) : Pre n (k + 1) (m + 1) (addT ts (q, (k : Int))) := by
  refine ⟨fun t ht => ?_, nodup_addT h.nd, fun p h1 h2 => ?_, ?_⟩
  · rcases mem_addT.mp ht with ht | rfl
    · exact h.tr t ht
    · exact ⟨q0, q1, by show (k : Int) < n; omega⟩
  · by_cases e : p = (k : Int)
    · rw [e]
      exact ⟨q, q1, mem_addT.mpr (.inr rfl)⟩
    · obtain ⟨r, h3, h4⟩ := h.conn p h1 (by omega)
      exact ⟨r, h3, mem_addT.mpr (.inl h4)⟩
  · have := len_addT ts (q, (k : Int))
    have := h.len
    omega
theorem Pre.more {n k m : Nat} {ts : List Tie} {t : Tie} (h : Pre n k m ts) (h0 : 0 ≤ t.1) (h1 : t.1 < t.2) (h2 : t.2 < (n : Int)) : Pre n k (m + 1) (addT ts t) := by
  refine ⟨fun u hu => ?_, nodup_addT h.nd, fun p h1 h2 => ?_, ?_⟩
  · rcases mem_addT.mp hu with hu | rfl
    · exact h.tr u hu
    · exact ⟨h0, h1, h2⟩
  · obtain ⟨r, h3, h4⟩ := h.conn p h1 h2
    exact ⟨r, h3, mem_addT.mpr (.inl h4)⟩
  · have := len_addT ts t
    have := h.len
    omega
theorem Pre.web {n m : Nat} {ns : List Int} {ts us : List Tie} (h : Pre n n m ts) (hn : ns.length = n) (n1 : 1 ≤ n) (n6 : n ≤ 6) (m9 : m ≤ 100) (rng : ∀ x ∈ ns, -1000 ≤ x ∧ x ≤ 1000) (pm : us.Perm ts)
    (so : us.Pairwise fun t u => ¬ (u.1 < t.1 ∨ (u.1 = t.1 ∧ u.2 < t.2))) : WebOk ns us := by
  refine ⟨by omega, by omega, rng, fun t ht => ?_, ?_, fun p h1 h2 => ?_, ?_⟩
  · rw [hn]
    exact h.tr t (pm.mem_iff.mp ht)
  · have nd : us.Pairwise (fun t u => t ≠ u) := pm.nodup_iff.mpr h.nd
    refine (List.Pairwise.and nd so).imp fun {t u} z => ?_
    obtain ⟨z1, z2⟩ := z
    have z3 : ¬ (t.1 = u.1 ∧ t.2 = u.2) := fun e => z1 (Prod.ext e.1 e.2)
    omega
  · rw [hn] at h2
    obtain ⟨q, h3, h4⟩ := h.conn p h1 h2
    exact ⟨q, h3, pm.mem_iff.mpr h4⟩
  · rw [pm.length_eq]
    have := h.len
    omega
end DW
namespace DV
open PySem PySem.Spec L2 DW

/-! ### the row that is drawn from -/
def SX (R : Addr) (H H' : Hp) : Prop := ∀ b o, b ≠ R → H b = some o → H' b = some o
theorem SX.refl (R : Addr) (H : Hp) : SX R H H := fun _ _ _ h => h
theorem SX.trans {R : Addr} {H H1 H2 : Hp} (a : SX R H H1) (b : SX R H1 H2) : SX R H H2 := fun c o n h => b c o n (a c o n h)
theorem SX.of {R : Addr} {H H' : Hp} (s : Same H H') : SX R H H' := fun b o _ h => s b o h
theorem SX.up (R : Addr) (H : Hp) (o : HO) : SX R H (upd H R o) := fun b u n h => by rw [upd_ne n]; exact h
structure Row (K : PySem.W.Frag) (H : Hp) (R a : Addr) (sc : List Int) : Prop where
  at' : ∃ i g c, H R = some (rowV a i g c) ∧ 0 ≤ i
  ne : Apart K a R (sc.map V.int)
  sq : SqL K H a (sc.map V.int)
section
variable {K : PySem.W.Frag} {H H' : Hp} {R a : Addr} {sc : List Int}
theorem SX.sql {b : Addr} {xs : List V} (e : SX R H H') (n : Apart K b R xs) (h : SqL K H b xs) : SqL K H' b xs := by
  rcases n with n | n
  · rcases h with (h | ⟨o, h⟩) | h
    · exact .inl (.inl (e b _ n h))
    · exact .inl (.inr ⟨o, e b _ n h⟩)
    · exact .inr h
  · exact n _
theorem Row.ts (w : Row K H R a sc) (e : SX R H H') : TS H H' := by
  obtain ⟨i, g, c, h, _⟩ := w.at'
  exact ⟨fun b xs q => e b _ (ne_of q h (by intro z; cases z)) q, fun b o u q => e b _ (ne_of q h (by intro z; cases z)) q⟩
theorem Row.same (w : Row K H R a sc) (s : Same H H') : Row K H' R a sc := by
  obtain ⟨i, g, c, h, h0⟩ := w.at'
  exact ⟨⟨i, g, c, s _ _ h, h0⟩, w.ne, s.seq w.sq⟩
theorem Row.other {b : Addr} {o : HO} (w : Row K H R a sc) (n : b ≠ R) (n2 : SqL K H a (sc.map V.int) → SqL K (upd H b o) a (sc.map V.int)) : Row K (upd H b o) R a sc := by
  obtain ⟨i, g, c, h, h0⟩ := w.at'
  exact ⟨⟨i, g, c, by rw [upd_ne n.symm]; exact h, h0⟩, w.ne, n2 w.sq⟩
theorem Row.nn {b : Addr} (w : Row K H R a sc) (h : H b = none) : R ≠ b := by
  obtain ⟨i, g, c, q, _⟩ := w.at'
  exact ne_of_none q h
theorem taken {m : Int} {Q : VK} {E : XK} (w : Row K H R a sc) (m0 : 0 < m) (m1 : m < 1073741824) (k : ∀ (v : Int) (H' : Hp), 0 ≤ v → v < m → SX R H H' → Row K H' R a sc → Q (.int v) H') : spTaken K [.ref R, .int m] H Q E := by
  obtain ⟨i, g, c, h, h0⟩ := w.at'
  rw [spTaken_eq]
  refine ⟨R, a, m, i, g, c, sc, rfl, m0, m1, h, h0, w.ne, w.sq, fun v i' g' c' h1 h2 h3 => ?_⟩
  exact k v _ h1 h2 (SX.up _ _ _) ⟨⟨i', g', c', upd_same, h3⟩, w.ne, sql_ne w.ne w.sq⟩
end
/-! ### the dict of ties -/
def entT2 (t : Tie) : List Key × V := ([.inl t.1, .inl t.2], .bl true)
theorem put_tie (ts : List Tie) (t : Tie) : putK (ts.map entT2) [.inl t.1, .inl t.2] (.bl true) = (addT ts t).map entT2 := by
  have key : ∀ u : Tie, (entT2 u).1 = [Sum.inl t.1, Sum.inl t.2] ↔ u = t := fun u => by
    refine ⟨fun e => ?_, fun e => by rw [e]; rfl⟩
    have e : [Sum.inl u.1, Sum.inl u.2] = ([Sum.inl t.1, Sum.inl t.2] : List Key) := e
    simp only [List.cons.injEq, Sum.inl.injEq, and_true] at e
    exact Prod.ext e.1 e.2
  have ha : ((ts.map entT2).any fun kv => decide (kv.1 = [Sum.inl t.1, Sum.inl t.2])) = true ↔ t ∈ ts := by
    rw [List.any_eq_true]
    constructor
    · rintro ⟨x, hx, e⟩
      obtain ⟨u, hu, rfl⟩ := List.mem_map.mp hx
      rw [← (key u).mp (of_decide_eq_true e)]
      exact hu
    · intro h
      exact ⟨_, List.mem_map.mpr ⟨t, h, rfl⟩, decide_eq_true rfl⟩
  unfold putK addT
  by_cases h : t ∈ ts
  · rw [if_pos (ha.mpr h), if_pos h, List.map_map]
    refine List.map_congr_left fun u _ => ?_
    show (if (entT2 u).1 = _ then ((entT2 u).1, V.bl true) else entT2 u) = entT2 u
    by_cases e : (entT2 u).1 = [Sum.inl t.1, Sum.inl t.2]
    · rw [if_pos e]; rfl
    · rw [if_neg e]
  · rw [if_neg fun z => h (ha.mp z), if_neg h, List.map_append]
    rfl
/-- the pair that stands at a place -/
def pairAt (H : Hp) : V → Int × Int
  | .ref t => match H t with
    | some (.tup [.int i, .int j]) => (i, j)
    | _ => (0, 0)
  | _ => (0, 0)
theorem keys_pairs {H : Hp} : ∀ {ts : List Tie} {bs : List Addr}, IsKeys H (ts.map entT2) bs → (bs.map V.ref).map (pairAt H) = ts ∧ ∀ x ∈ bs.map V.ref, ∃ t, x = V.ref t ∧ H t = some (.tup [.int (pairAt H x).1, .int (pairAt H x).2])
  | [], bs, h => by
    cases h
    exact ⟨rfl, fun x hx => by cases hx⟩
  | t :: ts, bs, h => by
    cases h with
    | @cons _ b _ bs h1 h2 =>
      obtain ⟨ih1, ih2⟩ := keys_pairs h2
      have h1 : H b = some (.tup [.int t.1, .int t.2]) := h1
      have e : pairAt H (.ref b) = t := by
        unfold pairAt
        simp only [h1]
      refine ⟨by rw [List.map_cons, List.map_cons, e, ih1], fun x hx => ?_⟩
      rcases List.mem_cons.mp hx with rfl | hx
      · exact ⟨b, rfl, by rw [e]; exact h1⟩
      · exact ih2 x hx
theorem ties_tp {K : PySem.W.Frag} {H : Hp} {k : V → Int × Int} : ∀ {ys : List V}, (∀ x ∈ ys, ∃ t, x = V.ref t ∧ H t = some (.tup [.int (k x).1, .int (k x).2])) → TpL K H ((ys.map k).map tieD) ys
  | [], _ => rfl
  | y :: ys, h => by
    obtain ⟨t, rfl, e⟩ := h y List.mem_cons_self
    exact ⟨.ref t, ys, rfl, Tp.of_tie (SqT.of e), ties_tp fun x hx => h x (List.mem_cons_of_mem _ hx)⟩
theorem Row.fresh {K : PySem.W.Frag} {H1 H4 : Hp} {R a D : Addr} {sc : List Int} (w1 : Row K H1 R a sc) (hD : H1 D = none) (x : SX R H1 H4) (w4 : Row K H4 R a sc) (o : HO) : SX R H1 (upd H4 D o) ∧ Row K (upd H4 D o) R a sc := by
  have x2 : SX R H1 (upd H4 D o) := fun b u n h => by rw [upd_ne (ne_of_none h hD)]; exact x b u n h
  obtain ⟨i, g, c, h, h0⟩ := w4.at'
  exact ⟨x2, ⟨i, g, c, by rw [upd_ne (w1.nn hD)]; exact h, h0⟩, w1.ne, x2.sql w1.ne w1.sq⟩
theorem dict_step {K : PySem.W.Frag} {H2 H' : Hp} {R a D p : Addr} {sc : List Int} {ts : List Tie} {N : Hp → Prop} (t : Tie) (w2 : Row K H2 R a sc) (hD : H2 D = none) (x : SX R H2 H') (w' : Row K H' R a sc) (g : H' D = some (.dT (ts.map entT2))) (len : ts.length ≤ 50)
    (hp : H' p = none) (k : ∀ H4, SX R H2 H4 → Row K H4 R a sc → H4 D = some (.dT ((addT ts t).map entT2)) → N H4) : ∃ b H4, V.ref D = V.ref b ∧ DPut (upd H' p (.tup [.int t.1, .int t.2])) b (.ref p) (.bl true) H4 ∧ N H4 := by
  have s := same_new hp (.tup [.int t.1, .int t.2])
  refine ⟨D, _, rfl, DPut.t (k := [.inl t.1, .inl t.2]) (s _ _ g) upd_same (by rw [List.length_map]; exact Nat.lt_of_le_of_lt len (by decide)), ?_⟩
  rw [put_tie]
  obtain ⟨x3, w3⟩ := w2.fresh hD (x.trans (SX.of s)) (w'.same s) (.dT ((addT ts t).map entT2))
  exact k _ x3 w3 upd_same
def spLawWeb (K : PySem.W.Frag) : Sp := fun vs H Q _ => ∃ (R a : Addr) (sc : List Int), vs = [.ref R, .int 6, .int 7] ∧ Row K H R a sc ∧
  ∀ (v : V) (ns : List Int) (ts : List Tie) (H' : Hp), SX R H H' → Row K H' R a sc → WebOk ns ts → Tp K H' (webD ns ts) v → Q v H'
section
variable {P : Program} {w : World} {K : PySem.W.Frag} {mg : Str → Option Value} {base : Heap} {f : Addr} {fd : FuncData}
theorem ok_law_web {f1 : Addr} {fd1 : FuncData} (F : Fun K "_law_web" "_law_web" sLawWeb f fd) (B : Bi mg) (C1 : Cal P w K mg base "_law_taken" 1 f1 fd1 ["_law_row", "_law_many"] (spTaken K)) :
    FnOk P w K mg base CX0 2 f fd ["_law_row", "_law_most", "_law_high"] (spLawWeb K) := by
  refine F.ok scLawWeb (fun vs H Q E h => ?_) (fun cdv A outer s H vs Q E hr h => ?_)
  · obtain ⟨R, a, sc, rfl, _⟩ := h
    rfl
  · obtain ⟨R, a, sc, rfl, w0, k⟩ := h
    refine ⟨_, pss_cons (ps_set (i := 3) scLawWeb.nd rfl (Or.inl rfl) (pe_op op_add pe_int (pe_cal C1 hr (by decide) (pa_cons (pv 0) (pa_cons (pv 1) pa_nil)))))
      (pss_cons (ps_set (i := 5) scLawWeb.nd rfl (Or.inl rfl) (pe_callTy call_tuple_of (by rfl) B.tuple bt_tuple (pa_cons (pe_lc (own := [("_law_person", 4)]) (g := gName 4) rfl scLawWeb.nd
        (pi_range1 (by rfl) B.range (pa_cons (pv 3) pa_nil)) (blkOk_by (N := nLawWeb) (sc := defScope sLawWeb) (by decide +kernel)) (fun _ _ _ _ _ => pg_name (i := 4) scLawWeb.nd rfl (Or.inl rfl)) (fun _ _ _ _ _ => pts_nil)
        (fun _ _ _ _ _ => pe_op op_sub (pe_cal C1 hr (by decide) (pa_cons (pv 0) (pa_cons (pv 2) pa_nil))) (pe_op op_fdiv (pv 2) pe_int))) pa_nil)))
      (pss_cons (ps_set (i := 6) scLawWeb.nd rfl (Or.inl rfl) pe_dnewT)
      (pss_cons (ps_for PassesOwn.never rfl (pi_range2 (by rfl) B.range (pa_cons pe_int (pa_cons (pv 3) pa_nil))) (pg_name (i := 4) scLawWeb.nd rfl (Or.inl rfl))
        (pss_one (ps_dput (hu_of hr) (pv 6) (pe_tup (pa_cons (pe_cal C1 hr (by decide) (pa_cons (pv 0) (pa_cons (pv 4) pa_nil))) (pa_cons (pv 4) pa_nil))) pe_bl (by rfl))))
      (pss_cons (ps_for PassesOwn.never rfl (pi_range1 (by rfl) B.range (pa_cons (pe_ifExp (pt_cmpR op_gt (pv 3) pe_int (nomark _)) (pe_cal C1 hr (by decide) (pa_cons (pv 0) (pa_cons pe_int pa_nil))) pe_int) pa_nil)) (pg_name (i := 7) scLawWeb.nd rfl (Or.inl rfl))
        (pss_cons (ps_set (i := 8) scLawWeb.nd rfl (Or.inl rfl) (pe_cal C1 hr (by decide) (pa_cons (pv 0) (pa_cons (pe_op op_sub (pv 3) pe_int) pa_nil))))
        (pss_one (ps_dput (hu_of hr) (pv 6) (pe_tup (pa_cons (pv 8) (pa_cons (pe_op op_add (pe_op op_add (pv 8) pe_int) (pe_cal C1 hr (by decide) (pa_cons (pv 0) (pa_cons (pe_op op_sub (pe_op op_sub (pv 3) pe_int) (pv 8)) pa_nil)))) pa_nil))) pe_bl (by rfl)))))
      (pss_one (ps_ret (pe_tup (pa_cons (pv 5) (pa_cons (pe_callTy call_tuple_of (by rfl) B.tuple bt_tuple (pa_cons (pe_callB cr_sortedPO (by rfl) B.sorted bt_sorted (pa_cons (pe_callTy (call_list_dT rfl) (by rfl) B.list bt_list (pa_cons (pv 6) pa_nil)) pa_nil)) pa_nil)) pa_nil)))))))))
      , ?_⟩
    refine ⟨_, rfl, _, rfl, taken w0 (by decide) (by decide) fun v0 H1 h0 h6 x1 w1 => ?_⟩
    obtain ⟨m, rfl⟩ : ∃ m : Nat, v0 = (m : Int) := ⟨v0.toNat, by omega⟩
    have m5 : m ≤ 5 := by omega
    refine ⟨_, _, rfl, rfl, ?_⟩
    have two : 2 ≤ sizeLine := by decide
    refine ⟨_, rfl, 1 + (m : Int), rfl, by omega, by omega, fun D hD => ?_⟩
    rw [show (1 + (m : Int)).toNat = m + 1 by omega]
    refine lc_range (fun i H => SX R H1 H ∧ Row K H R a sc ∧ ∃ ns : List Int, ns.length = i ∧ (∀ x ∈ ns, -1000 ≤ x ∧ x ≤ 1000) ∧ H D = some (.lst (ns.map V.int)))
      ⟨SX.of (same_new hD _), w1.same (same_new hD _), [], rfl, (fun x hx => by cases hx), upd_same⟩ ?_ ?_
    · rintro i H2 hi ⟨x2, w2, ns, hl, hr2, g2⟩
      refine ⟨rfl, yes ?_⟩
      refine ⟨_, rfl, _, rfl, taken w2 (by decide) (by decide) fun v H3 v0 v7 x3 w3 => ?_⟩
      refine ⟨_, rfl, _, _, rfl, rfl, ⟨by decide, by decide⟩, _, _, rfl, rfl, ?_⟩
      obtain ⟨x4, w4⟩ := w1.fresh hD (x2.trans x3) w3 (.lst (ns.map V.int ++ [.int (v - 7 / 3)]))
      refine ⟨_, x3 _ _ (w1.nn hD).symm g2, (by rw [List.length_map, hl]; exact Nat.lt_of_lt_of_le (by omega : i < 6) (by decide)), x4, w4, ns ++ [v - 7 / 3], by simp [hl], fun x hx => ?_, ?_⟩
      · rcases List.mem_append.mp hx with hx | hx
        · exact hr2 x hx
        · rw [List.mem_singleton.mp hx]
          omega
      · rw [upd_same, List.map_append]
        rfl
    · rintro H2 ⟨x2, w2, ns, hl, hr2, g2⟩
      refine ⟨D, _, rfl, .inl ⟨SqL.of g2, fun T hT => ?_⟩⟩
      have x3 := x2.trans (SX.of (same_new hT (.tup (ns.map V.int))))
      have w3 := w2.same (same_new hT (.tup (ns.map V.int)))
      have tn : Tp K (upd H2 T (.tup (ns.map V.int))) (dI ns) (.ref T) := Tp.of_iT (SqT.of upd_same)
      generalize upd H2 T (.tup (ns.map V.int)) = H3 at x3 w3 tn ⊢
      intro D2 hD2
      have x4 := SX.of (R := R) (same_new hD2 (.dT []))
      have w4 := w3.same (same_new hD2 (.dT []))
      have g4 : upd H3 D2 (.dT []) D2 = some (.dT (([] : List Tie).map entT2)) := upd_same
      generalize upd H3 D2 (.dT []) = H4 at x4 w4 g4 ⊢
      refine ⟨_, rfl, 1, 1 + (m : Int), rfl, ⟨by omega, by omega, by omega, by omega⟩, ?_⟩
      rw [show (1 + (m : Int) - 1).toNat = m by omega]
      refine for_range (fun i σ H => ∃ (y : Option V) (ts : List Tie), σ = [some (.ref R), some (.int 6), some (.int 7), some (.int (1 + (m : Int))), y, some (.ref T), some (.ref D2), none, none] ∧ SX R H3 H ∧ Row K H R a sc ∧ H D2 = some (.dT (ts.map entT2)) ∧ Pre (m + 1) (i + 1) i ts)
        ⟨_, [], rfl, x4, w4, g4, .nil _⟩ ?_ ?_
      · rintro i σ H5 hi ⟨y, ts, rfl, x5, w5, g5, p5⟩
        refine ⟨_, rfl, _, rfl, _, rfl, taken w5 (by omega) (by omega) fun v H6 v0 v1 x6 w6 => ⟨_, rfl, two, fun p hp => ?_⟩⟩
        refine dict_step (v, 1 + (i : Int)) w3 hD2 (x5.trans x6) w6 (x6 _ _ (w3.nn hD2).symm g5) (by have := p5.len; omega) hp fun H7 x7 w7 g7 => ?_
        refine ⟨_, _, rfl, x7, w7, g7, ?_⟩
        have := p5.step (q := v) (by omega) v0 (by omega)
        rw [show ((i + 1 : Nat) : Int) = 1 + (i : Int) by omega] at this
        exact this
      · rintro σ H5 ⟨y, ts, rfl, x5, w5, g5, p5⟩
        refine ⟨_, rfl, _, _, rfl, rfl, _, rfl, ?_⟩
        refine ite2 (fun c => ?g1) (fun c => ?g2)
        case' g1 =>
          have c' : (1 : Int) < 1 + (m : Int) := of_decide_eq_true c
          refine ⟨_, rfl, taken w5 (by decide) (by decide) fun v H6 v0 v5 x6 w6 => ?_⟩
          obtain ⟨j, rfl⟩ : ∃ j : Nat, v = (j : Int) := ⟨v.toNat, by omega⟩
          have hj : j ≤ 5 := by omega
          have hjm : j = 0 ∨ 1 ≤ m := by omega
          refine ⟨(j : Int), rfl, by omega, by omega, ?_⟩
        case' g2 =>
          obtain ⟨j, hj, hjm, ej⟩ : ∃ j : Nat, j ≤ 5 ∧ (j = 0 ∨ 1 ≤ m) ∧ (0 : Int) = (j : Int) := ⟨0, by omega, by omega, rfl⟩
          obtain ⟨H6, x6, w6, e6⟩ : ∃ H6, SX R H5 H6 ∧ Row K H6 R a sc ∧ H5 = H6 := ⟨H5, SX.refl _ _, w5, rfl⟩
          refine ⟨(j : Int), by rw [← ej], by omega, by omega, ?_⟩
          rw [e6]
        all_goals
          rw [Int.toNat_natCast]
          refine for_range (fun i σ H => ∃ (y z z2 : Option V) (ts : List Tie), σ = [some (.ref R), some (.int 6), some (.int 7), some (.int (1 + (m : Int))), y, some (.ref T), some (.ref D2), z, z2] ∧ SX R H3 H ∧ Row K H R a sc ∧ H D2 = some (.dT (ts.map entT2)) ∧ Pre (m + 1) (m + 1) (m + i) ts)
            ⟨_, _, _, ts, rfl, x5.trans x6, w6, x6 _ _ (w3.nn hD2).symm g5, p5⟩ ?_ ?_
          · rintro i σ H7 hi ⟨y, z, z2, ts, rfl, x7, w7, g7, p7⟩
            refine ⟨_, rfl, _, rfl, _, _, rfl, rfl, taken w7 (by omega) (by omega) fun v H8 v0 v1 x8 w8 => ?_⟩
            refine ⟨_, rfl, _, rfl, _, rfl, _, _, rfl, rfl, _, rfl, _, rfl, _, _, rfl, rfl, _, rfl, _, _, rfl, rfl, taken w8 (by omega) (by omega) fun u H9 u0 u1 x9 w9 => ⟨_, _, rfl, rfl, two, fun p hp => ?_⟩⟩
            refine dict_step (v, v + 1 + u) w3 hD2 ((x7.trans x8).trans x9) w9 (x9 _ _ (w3.nn hD2).symm (x8 _ _ (w3.nn hD2).symm g7)) (by have := p7.len; omega) hp fun H10 x10 w10 g10 => ?_
            exact ⟨_, _, _, _, rfl, x10, w10, g10, p7.more v0 (show v < v + 1 + u by omega) (show v + 1 + u < ((m + 1 : Nat) : Int) by omega)⟩
          · rintro σ H7 ⟨y, z, z2, ts, rfl, x7, w7, g7, p7⟩
            refine ⟨_, rfl, _, rfl, D2, _, rfl, .inl g7, fun p bs hp hk => ?_⟩
            obtain ⟨kp1, kp2⟩ := keys_pairs hk
            have s1 := same_new hp (.lst (bs.map V.ref))
            refine ⟨p, _, pairAt H7, rfl, SqL.of upd_same, fun x hx => ?_, fun ys q so st hq => ?_⟩
            · obtain ⟨t, h1, h2⟩ := kp2 x hx
              exact ⟨t, h1, s1 _ _ h2⟩
            · have s2 := s1.trans (same_new hq (.lst ys))
              refine ⟨q, ys, rfl, .inl ⟨SqL.of upd_same, fun T2 hT2 => ⟨two, fun Z hZ => ?_⟩⟩⟩
              have s3 := s2.trans (same_new hT2 (.tup ys))
              have gT : upd (upd (upd H7 p (.lst (bs.map V.ref))) q (.lst ys)) T2 (.tup ys) T2 = some (.tup ys) := upd_same
              generalize upd (upd (upd H7 p (.lst (bs.map V.ref))) q (.lst ys)) T2 (.tup ys) = H8 at s3 gT hZ ⊢
              have s4 := same_new hZ (.tup [.ref T, .ref T2])
              have s5 := s3.trans s4
              have x8 := x7.trans (SX.of s5)
              have pm : (ys.map (pairAt H7)).Perm ts := by
                rw [← kp1]
                exact st.perm.map _
              have W : WebOk ns (ys.map (pairAt H7)) := p7.web hl (by omega) (by omega) (by omega) hr2 pm (List.pairwise_map.mpr (so.imp fun h => SrtO.lexB_no.mp h))
              refine k _ _ _ _ (x1.trans (x3.trans x8)) (w7.same s5) W ?_
              refine ⟨Z, _, rfl, SqT.of upd_same, .ref T, _, rfl, Tp.mono (w3.ts x8) _ _ tn, .ref T2, _, rfl, ⟨T2, ys, rfl, SqT.of (s4 _ _ gT), ?_⟩, rfl⟩
              refine ties_tp fun x hx => ?_
              obtain ⟨t, h1, h2⟩ := kp2 x (st.perm.mem_iff.mp hx)
              exact ⟨t, h1, s5 _ _ h2⟩
end
end DV
namespace DV
open PySem PySem.Spec L2 DW

/-- the left side of an «if not .. == ..» -/
def ifCmp : Stmt → Expr
  | .If (.UnaryOp _ (.Compare a _ _ _) _) _ _ _ => a
  | _ => .Constant .none 0 ⟨0, 0, 0, 0⟩
noncomputable def costD (ns : List Int) (ts : List Tie) (l : List Int) : PyData := .tuple [dI l, .int (cost ns ts l : Int)]
theorem Tp.costD {K : PySem.W.Frag} {H : Hp} {ns : List Int} {ts : List Tie} {l : List Int} {v : V} (h : Tp K H (costD ns ts l) v) : ∃ a u, v = .ref a ∧ SqT K H a [u, .int (cost ns ts l : Int)] ∧ Tp K H (dI l) u := by
  obtain ⟨a, xs, h1, h2, x, r, h3, h4, y, q, h5, h6, h7⟩ := h
  have h6 : y = _ := h6
  have h7 : q = [] := h7
  subst h7 h6
  subst h5
  subst h3
  exact ⟨a, x, h1, h2, h4⟩
theorem al_int {K : PySem.W.Frag} {H : Hp} {n : Nat} (i : Int) : AlD K H (n + 1) (.int i) (.int i) := .inl ⟨i, rfl, rfl⟩
theorem al_ints {K : PySem.W.Frag} {H : Hp} {n : Nat} {b : Bool} {p q : Addr} {l : List Int} (h1 : SqB K H b p (l.map V.int)) (h2 : SqB K H b q (l.map V.int)) (hl : l.length ≤ 1000) : AlD K H (n + 2) (.ref p) (.ref q) := by
  refine .inr ⟨b, p, q, _, _, rfl, rfl, h1, h2, rfl, by rw [List.length_map]; exact hl, fun i x y hx hy => ?_⟩
  rw [hx] at hy
  cases hy
  rw [List.getElem?_map] at hx
  cases e : l[i]? with
  | none => rw [e] at hx; cases hx
  | some z =>
    rw [e] at hx
    cases hx
    exact al_int z
theorem al_lots {K : PySem.W.Frag} {H : Hp} {n : Nat} {b : Bool} {p q : Addr} {xs ys : List V} {ls : List (List Int)} (h1 : SqB K H b p xs) (h2 : SqB K H b q ys) (t1 : TpL K H (ls.map dI) xs) (t2 : TpL K H (ls.map dI) ys) (hl : ls.length ≤ 1000) (hs : ∀ l ∈ ls, l.length ≤ 1000) :
    AlD K H (n + 3) (.ref p) (.ref q) := by
  have l1 := map_len t1
  have l2 := map_len t2
  refine .inr ⟨b, p, q, _, _, rfl, rfl, h1, h2, by omega, by omega, fun i x y hx hy => ?_⟩
  obtain ⟨c, hc, tx⟩ := get_dec t1 hx
  obtain ⟨c2, hc2, ty⟩ := get_dec t2 hy
  rw [hc] at hc2
  cases hc2
  obtain ⟨a1, rfl, s1⟩ := tx.iT
  obtain ⟨a2, rfl, s2⟩ := ty.iT
  exact al_ints (b := false) s1 s2 (hs c (List.mem_of_getElem? hc))
/-! ### what stands from one row of the law to the next -/
structure En (K : PySem.W.Frag) (Pt : Addr) (H : Hp) (R a : Addr) (sc : List Int) (web : V) (C : Addr) (cx : List V) (ns : List Int) (ts : List Tie) : Prop where
  row : Row K H R a sc
  tabs : LamX.Tabs (tabT Pt) H
  hw : Tp K H (webD ns ts) web
  gc : H C = some (.lst cx)
  tc : TpL K H ((lots ns.length).map (costD ns ts)) cx
  nc : C ≠ R
section
variable {K : PySem.W.Frag} {Pt : Addr} {H H' : Hp} {R a : Addr} {sc : List Int} {web : V} {C : Addr} {cx : List V} {ns : List Int} {ts : List Tie}
theorem sql_ext {b : Addr} {xs : List V} (e : LamX.ExtN H H') (h : SqL K H b xs) : SqL K H' b xs := by
  rcases h with (h | ⟨o, h⟩) | h
  · exact .inl (.inl (e _ _ h (by intro ps z; cases z)))
  · exact .inl (.inr ⟨o, e _ _ h (by intro ps z; cases z)⟩)
  · exact .inr h
theorem Row.ext (w : Row K H R a sc) (e : LamX.ExtN H H') : Row K H' R a sc := by
  obtain ⟨i, g, c, h, h0⟩ := w.at'
  exact ⟨⟨i, g, c, e _ _ h (by intro ps z; cases z), h0⟩, w.ne, sql_ext e w.sq⟩
theorem tabs_sx (w : Row K H R a sc) (x : SX R H H') (t : LamX.Tabs (tabT Pt) H) : LamX.Tabs (tabT Pt) H' := by
  obtain ⟨i, g, c, h, h0⟩ := w.at'
  intro p hp
  obtain ⟨ps, h1, h2, h3⟩ := t p hp
  refine ⟨ps, x _ _ (ne_of h1 h (by intro z; cases z)) h1, h2, fun pos cv hc => ?_⟩
  obtain ⟨c0, z1, z2⟩ := h3 pos cv hc
  exact ⟨c0, z1, x _ _ (ne_of z2 h (by intro z; cases z)) z2⟩
theorem En.ext (E : En K Pt H R a sc web C cx ns ts) (e : LamX.ExtN H H') (t : LamX.Tabs (tabT Pt) H') : En K Pt H' R a sc web C cx ns ts :=
  ⟨E.row.ext e, t, Tp.mono (ets e) _ _ E.hw, e _ _ E.gc (by intro ps z; cases z), TpL.mono (ets e) _ _ E.tc, E.nc⟩
theorem En.same (E : En K Pt H R a sc web C cx ns ts) (s : Same H H') : En K Pt H' R a sc web C cx ns ts := E.ext (sext s) (E.tabs.ext s)
theorem En.sx (E : En K Pt H R a sc web C cx ns ts) (x : SX R H H') (w : Row K H' R a sc) : En K Pt H' R a sc web C cx ns ts :=
  ⟨w, tabs_sx E.row x E.tabs, Tp.mono (E.row.ts x) _ _ E.hw, x _ _ E.nc E.gc, TpL.mono (E.row.ts x) _ _ E.tc, E.nc⟩
end
theorem pe_bmK {X : Cx} (K : PySem.W.Frag) {T name id : String} {o e : Expr} {es : List Expr} {cpos apos : Pos} {to : TE} {t : TA} {r : V → List V → Hp → VK → Prop} (pa : PlainAttrs T) (slot : Slot T name id) (hty : typeOf (.builtin id) = pure (.type "method_descriptor")) (hm : MtR X id r) (ho : PE X o to) (ha : PA X (e :: es) t)
    (hbase : attributeBase o name X.env (eval o X.env) = eval o X.env := by rfl)
    (hfew : ((backTo cpos (starEach (e :: es) X.env)).all (fun x => !x.1) && (backToKw cpos (keywordEach [] X.env)).all (fun x => x.1.isSome)
      && decide ((e :: es).length + ([] : List Keyword).length + (if ([] : List Keyword).isEmpty then 0 else 1) < 30)) = true := by rfl)
    (hline : (apos.endLine == cpos.line) = true := by rfl) (hs : starEach (e :: es) X.env = (false, eval e X.env) :: starEach es X.env := by rfl) (hplain : (backTo cpos (starEach es X.env)).any (·.1) = false := by rfl) (hK : X.K = K := by rfl) :
    PE X (.Call (.Attribute o name apos) (e :: es) [] cpos) (tBM K T r to t) := hK ▸ pe_bm pa slot hty hm ho ha hbase hfew hline hs hplain
def spLaw (K : PySem.W.Frag) (Pt : Addr) : Sp := fun vs H Q _ => ∃ (a : Addr) (sc : List Int), vs = [.ref a] ∧ SqL K H a (sc.map V.int) ∧ H Pt = some (.tbl #[]) ∧ ∀ H', Q (.bl true) H'
section
variable {P : Program} {w : World} {K : PySem.W.Frag} {mg : Str → Option Value} {base : Heap} {f : Addr} {fd : FuncData} {Pt : Addr}
theorem ok_law {f1 f2 f3 f4 f5 f6 f7 f8 f9 : Addr} {fd1 fd2 fd3 fd4 fd5 fd6 fd7 fd8 fd9 : FuncData} (F : Fun K "law" "law" sLaw f fd) (B : Bi mg)
    (Ck : Cal P w K mg base "_law_taken" 1 f1 fd1 ["_law_row", "_law_many"] (spTaken K)) (Cw : Cal P w K mg base "_law_web" 2 f2 fd2 ["_law_row", "_law_most", "_law_high"] (spLawWeb K))
    (Clo : Cal P w K mg base "_law_lots" 1 f3 fd3 ["_law_many"] (spLawLots K)) (Cd : Cal P w K mg base "_law_deep" 3 f4 fd4 ["_law_web_here", "_law_lot"] (spLawDeep K)) (Ca : Cal P w K mg base "_law_alike" 4 f5 fd5 ["_law_found", "_law_due"] (spAlike K 3))
    (Cf : Cal P w K mg base "free_lots" 6 f6 fd6 ["web"] (spFree K Pt)) (Ct : Cal P w K mg base "cost_table" 6 f7 fd7 ["web"] (spTable K Pt)) (Cl : Cal P w K mg base "least_cost" 6 f8 fd8 ["web", "size"] (spLeastC K Pt))
    (Cg : Cal P w K mg base "greatest_cost" 6 f9 fd9 ["web", "size"] (spGreat K Pt)) : FnOk P w K mg base CX0 7 f fd ["_law_script"] (spLaw K Pt) := by
  refine F.ok scLaw (fun vs H Q E h => ?_) (fun cdv A outer s H vs Q E hr h => ?_)
  · obtain ⟨a, sc, rfl, _⟩ := h
    rfl
  · obtain ⟨a, sc, rfl, hs, hP, k⟩ := h
    refine ⟨_, pss_cons (ps_set (i := 1) scLaw.nd rfl (by first | exact Or.inl rfl | exact Or.inr rfl) (pe_lst (pa_cons (pv 0) (pa_cons pe_int (pa_cons pe_int (pa_cons pe_int pa_nil))))))
      (pss_cons (ps_set (i := 2) scLaw.nd rfl (by first | exact Or.inl rfl | exact Or.inr rfl) (pe_cal Cw hr (by decide) (pa_cons (pv 1) (pa_cons (pe_int) (pa_cons (pe_int) pa_nil)))))
      (pss_cons (ps_set (i := 3) scLaw.nd rfl (by first | exact Or.inl rfl | exact Or.inr rfl) (pe_callB (call_lenK K) (by rfl) B.len bt_len (pa_cons (pe_ix (ix_tupK K) (pv 2) (pe_int) (fun _ _ => rfl)) pa_nil)))
      (pss_cons (ps_setLc (i := 4) (own := [("_law_lot", 9)]) (g := gName 9) rfl scLaw.nd rfl rfl (sw_true rfl rfl rfl (by decide +kernel)) (pi_listK K (pe_cal Clo hr (by decide) (pa_cons (pv 3) pa_nil))) (blkOk_by (N := nLaw) (sc := defScope sLaw) (by decide +kernel)) (fun _ _ _ _ _ => pg_name (i := 9) scLaw.nd rfl (by first | exact Or.inl rfl | exact Or.inr rfl)) (fun _ _ _ _ _ => pts_nil)
          (fun _ _ _ _ _ => pe_tup (pa_cons (pv 9) (pa_cons (pe_callB (call_lenK K) (by rfl) B.len bt_len (pa_cons (pe_cal Cd hr (by decide) (pa_cons (pv 2) (pa_cons (pv 9) pa_nil))) pa_nil)) pa_nil))))
      (pss_cons (ps_if (pt_not (pt_val (pe_cal Ca hr (by decide) (pa_cons (pe_cal Cf hr (by decide) (pa_cons (pv 2) pa_nil)) (pa_cons (pe_lc (own := [("_law_lot", 9), ("_law_price", 10)]) (g := gTup K 2 (gCons (gName 9) (gCons (gName 10) gNil))) rfl scLaw.nd (pi_listK K (pv 4)) (blkOk_by (N := nLaw) (sc := defScope sLaw) (by decide +kernel))
          (fun _ _ _ _ _ => pg_tupK K rfl (pgs_cons (pg_name (i := 9) scLaw.nd rfl (by first | exact Or.inl rfl | exact Or.inr rfl)) (pgs_cons (pg_name (i := 10) scLaw.nd rfl (by first | exact Or.inl rfl | exact Or.inr rfl)) pgs_nil)))
          (fun _ _ _ _ _ => pts_one (pt_cmpR op_eq (pv 10) pe_int (nomark _))) (fun _ _ _ _ _ => pv 9)) pa_nil))))) (pss_one ps_never) pss_nil)
      (pss_cons (ps_set (i := 5) scLaw.nd rfl (by first | exact Or.inl rfl | exact Or.inr rfl) (pe_lst pa_nil))
      (pss_cons (ps_for PassesOwn.never rfl (pi_range2 (by rfl) B.range (pa_cons pe_int (pa_cons (pe_op op_add (pv 3) pe_int) pa_nil))) (pg_name (i := 6) scLaw.nd rfl (by first | exact Or.inl rfl | exact Or.inr rfl))
        (pss_cons (ps_set (i := 7) scLaw.nd rfl (by first | exact Or.inl rfl | exact Or.inr rfl) (pe_lc (own := [("_law_lot", 9), ("_law_price", 10)]) (g := gTup K 2 (gCons (gName 9) (gCons (gName 10) gNil))) rfl scLaw.nd (pi_listK K (pv 4)) (blkOk_by (N := nLaw) (sc := defScope sLaw) (by decide +kernel))
          (fun _ _ _ _ _ => pg_tupK K rfl (pgs_cons (pg_name (i := 9) scLaw.nd rfl (by first | exact Or.inl rfl | exact Or.inr rfl)) (pgs_cons (pg_name (i := 10) scLaw.nd rfl (by first | exact Or.inl rfl | exact Or.inr rfl)) pgs_nil)))
          (fun _ _ _ _ _ => pts_one (pt_cmpR op_eq (pe_callB (call_lenK K) (by rfl) B.len bt_len (pa_cons (pv 9) pa_nil)) (pv 6) (nomark _))) (fun _ _ _ _ _ => pv 10)))
        (pss_one (ps_expr (pe_bm PySem.F.plainAttrs_list PySem.F.slot_list_append PySem.F.type_list_append mt_append (pv 5) (pa_cons (pe_callTy (call_tupleK K) (by rfl) B.tuple bt_tuple (pa_cons (pe_lc (own := [("_law_price", 10)]) (g := gName 10) rfl scLaw.nd (pi_range1 (by rfl) B.range (pa_cons (pv 3) pa_nil)) (blkOk_by (N := nLaw) (sc := defScope sLaw) (by decide +kernel)) (fun _ _ _ _ _ => pg_name (i := 10) scLaw.nd rfl (by first | exact Or.inl rfl | exact Or.inr rfl)) (fun _ _ _ _ _ => pts_nil)
          (fun _ _ _ _ _ => pe_bmK K PySem.F.plainAttrs_list PySem.F.slot_list_count PySem.F.type_list_count (mt_lcountK K) (pv 7) (pa_cons (pv 10) pa_nil))) pa_nil)) pa_nil))))))
      (pss_cons (ps_if (pt_not (pt_val (pe_cal Ca hr (by decide) (pa_cons (pe_cal Ct hr (by decide) (pa_cons (pv 2) pa_nil)) (pa_cons (pe_callTy (call_tupleK K) (by rfl) B.tuple bt_tuple (pa_cons (pv 5) pa_nil)) pa_nil))))) (pss_one ps_never) pss_nil)
      (pss_cons (ps_set (i := 6) scLaw.nd rfl (by first | exact Or.inl rfl | exact Or.inr rfl) (pe_op op_add pe_int (pe_cal Ck hr (by decide) (pa_cons (pv 1) (pa_cons (pv 3) pa_nil)))))
      (pss_cons (ps_set (i := 7) scLaw.nd rfl (by first | exact Or.inl rfl | exact Or.inr rfl) (pe_lc (own := [("_law_lot", 9), ("_law_price", 10)]) (g := gTup K 2 (gCons (gName 9) (gCons (gName 10) gNil))) rfl scLaw.nd (pi_listK K (pv 4)) (blkOk_by (N := nLaw) (sc := defScope sLaw) (by decide +kernel))
          (fun _ _ _ _ _ => pg_tupK K rfl (pgs_cons (pg_name (i := 9) scLaw.nd rfl (by first | exact Or.inl rfl | exact Or.inr rfl)) (pgs_cons (pg_name (i := 10) scLaw.nd rfl (by first | exact Or.inl rfl | exact Or.inr rfl)) pgs_nil)))
          (fun _ _ _ _ _ => pts_one (pt_cmpR op_eq (pe_callB (call_lenK K) (by rfl) B.len bt_len (pa_cons (pv 9) pa_nil)) (pv 6) (nomark _))) (fun _ _ _ _ _ => pv 10)))
      (pss_cons (ps_if (pt_not (pt_val (pe_cal Ca hr (by decide) (pa_cons (pe_lst (pa_cons (pe_cal Cl hr (by decide) (pa_cons (pv 2) (pa_cons (pv 6) pa_nil))) (pa_cons (pe_cal Cg hr (by decide) (pa_cons (pv 2) (pa_cons (pv 6) pa_nil))) pa_nil))) (pa_cons (pe_lst (pa_cons (pe_callB (cr_min rfl) (by rfl) B.min bt_min (pa_cons (pv 7) pa_nil)) (pa_cons (pe_callB (cr_max rfl) (by rfl) B.max bt_max (pa_cons (pv 7) pa_nil)) pa_nil))) pa_nil))))) (pss_one ps_never) pss_nil)
      (pss_cons (ps_set (i := 8) scLaw.nd rfl (by first | exact Or.inl rfl | exact Or.inr rfl) (pe_callB (cr_minT rfl hr.units) (by rfl) B.min bt_min (pa_cons (pe_ix (ix_tupK K) (pv 2) (pe_int) (fun _ _ => rfl)) pa_nil)))
      (pss_cons (ps_if (pt_not (pt_cmpR (op_eqDK K hr.units) (pe_lc (own := [("_law_lot", 9), ("_law_price", 10)]) (g := gTup K 2 (gCons (gName 9) (gCons (gName 10) gNil))) rfl scLaw.nd (pi_listK K (pv 4)) (blkOk_by (N := nLaw) (sc := defScope sLaw) (by decide +kernel))
          (fun _ _ _ _ _ => pg_tupK K rfl (pgs_cons (pg_name (i := 9) scLaw.nd rfl (by first | exact Or.inl rfl | exact Or.inr rfl)) (pgs_cons (pg_name (i := 10) scLaw.nd rfl (by first | exact Or.inl rfl | exact Or.inr rfl)) pgs_nil)))
          (fun _ _ _ _ _ => pts_one (PW.pt (pw_and (pt_cmpR op_eq (pv 10) pe_int (nomark _)) (pw_and1 (pt_cmpR (op_ninK K) (pv 8) (pe_lc (own := [("_law_one", 11)]) (g := gName 11) rfl scLaw.nd (pi_tupK K (pv 9)) (blkOk_by (N := nLaw) (sc := relS (lcScope (ifCmp ((defBody sLaw).getD 12 (.Pass ⟨0, 0, 0, 0⟩)))) (defScope sLaw)) (by decide +kernel)) (fun _ _ _ _ _ => pg_name (i := 11) scLaw.nd rfl (by first | exact Or.inl rfl | exact Or.inr rfl)) (fun _ _ _ _ _ => pts_nil)
            (fun _ _ _ _ _ => pe_ix (ix_tupK K) (pe_ix (ix_tupK K) (pv 2) (pe_int) (fun _ _ => rfl)) (pv 11) (fun _ _ => rfl))) (by rfl)))))) (fun _ _ _ _ _ => pv 9)) (pe_lst pa_nil) (nomark _))) (pss_one ps_never) pss_nil)
      (pss_one (ps_ret (pe_cmpR op_eq (pe_cal Cl hr (by decide) (pa_cons (pv 2) (pa_cons (pv 6) pa_nil))) pe_int (nomark _)))))))))))))))), ?_⟩
    have two : 2 ≤ sizeLine := by decide
    refine ⟨_, rfl, (by show 4 ≤ sizeLine; decide), fun R hR => ?_⟩
    have s0 := same_new hR (.lst [.ref a, .int 0, .int 4806, .int 0])
    have w0 : Row K (upd H R (.lst [.ref a, .int 0, .int 4806, .int 0])) R a sc := ⟨⟨0, 4806, 0, upd_same, by omega⟩, apart_of hs hR, s0.seq hs⟩
    have tabs0 : LamX.Tabs (tabT Pt) H := fun p hp => by
      rw [List.mem_singleton.mp hp]
      exact LamX.TabS.nil hP
    have tabs1 : LamX.Tabs (tabT Pt) (upd H R (.lst [.ref a, .int 0, .int 4806, .int 0])) := tabs0.ext s0
    generalize upd H R (.lst [.ref a, .int 0, .int 4806, .int 0]) = H1 at w0 tabs1 ⊢
    refine ⟨_, rfl, R, a, sc, rfl, w0, fun v ns ts H2 x1 w2 W hw => ?_⟩
    have tabs2 := tabs_sx w0 x1 tabs1
    obtain ⟨wa, wb, wc, xs, rfl, s1, s2, s3, s4⟩ := hw.web
    refine ⟨_, rfl, wa, _, 0, _, rfl, rfl, s1, atI_nat (j := 0) rfl, wb, _, rfl, .inr s2, ?_⟩
    rw [List.length_map]
    have n6 := W.n6
    have n1 := W.n1
    have l64 := lots64 W
    refine ⟨_, rfl, ns.length, rfl, n6, fun la lx H3 e3 _ g3 t3 => ?_⟩
    have lxl := map_len t3
    refine ⟨la, rfl, ⟨_, SqL.of g3⟩, fun D hD => ?_⟩
    refine lc_tpL (K := K) (as := lots ns.length) (dec := dI) (p := fun _ => true) (f := costD ns ts) (SqL.of g3) t3 hD (by omega) (fun l hl => ?_) (fun cx H4 e4 gc tc => ?_)
    · intro x H4 N0 N1 e4 hx m0 m1
      have ok := lots_ok hl
      refine ⟨rfl, yes ?_⟩
      refine ⟨_, rfl, _, rfl, _, rfl, .ref wa, x, ns, ts, l, rfl, Tp.mono (sts (e3.trans e4)) _ _ hw, hx, W, ok.ne, ok.sub, LotOk.short W hl, fun da dx H5 e5 _ g5 t5 => ?_⟩
      refine ⟨da, dx, rfl, .inl (SqL.of g5), two, fun p hp => m1 rfl _ _ (e5.trans (same_new hp _)) ?_⟩
      have el : dx.length = cost ns ts l := map_len t5
      refine ⟨p, _, rfl, SqT.of upd_same, x, _, rfl, Tp.mono (sts (e5.trans (same_new hp _))) _ _ hx, _, _, rfl, ?_, rfl⟩
      show V.int (dx.length : Int) = V.int (cost ns ts l : Int)
      rw [el]
    have ef : ((lots ns.length).filter fun _ => true) = lots ns.length := List.filter_eq_self.mpr fun _ _ => rfl
    rw [ef] at tc
    have e34 := e3.trans e4
    have E4 : En K Pt H4 R a sc (.ref wa) D cx ns ts := ⟨w2.same e34, tabs2.ext e34, Tp.mono (sts e34) _ _ hw, gc, tc, ((w2.same e3).nn hD).symm⟩
    have cxl := map_len tc
    have lsz : ∀ l ∈ lots ns.length, l.length ≤ 1000 := fun l hl => by
      have := LotOk.short W hl
      omega
    clear ef e4 gc tc g3 t3 lxl tabs2 s1 s2 s3 s4 hw x1 tabs1 w0
    -- the free lots
    refine ⟨_, rfl, .ref wa, ns, ts, rfl, E4.hw, W, E4.tabs, fun fa fx H5 e5 tabs5 _ g5 t5 => ?_⟩
    have E5 := E4.ext e5 tabs5
    refine ⟨_, rfl, D, rfl, ⟨_, SqL.of E5.gc⟩, fun D2 hD2 => ?_⟩
    refine lc_tpL (K := K) (as := lots ns.length) (dec := costD ns ts) (p := fun l => decide ((cost ns ts l : Int) = 0)) (f := dI) (SqL.of E5.gc) E5.tc hD2 (by omega) (fun l hl => ?_) (fun ys H6 e6 hy ty => ?_)
    · intro x H6 N0 N1 e6 hx m0 m1
      obtain ⟨ca, u, rfl, sc', hu⟩ := hx.costD
      refine ⟨ca, _, rfl, sc', rfl, _, _, rfl, _, _, rfl, rfl, rfl, ?_⟩
      refine ⟨_, rfl, rfl, _, rfl, ?_⟩
      rw [dec_int]
      refine ite2 (fun ct => ?_) (fun ct => ?_)
      · exact ⟨_, rfl, m1 ct _ _ (Same.refl _) hu⟩
      · exact m0 (by simpa using ct) _ (Same.refl _)
    have E6 := E5.same e6
    refine ⟨_, _, rfl, al_lots (n := 0) (b := true) (ls := freeL ns ts) (SqL.of (e6 _ _ g5)) (SqL.of hy) (TpL.mono (sts e6) _ _ t5) ty ?_ (fun l hl => lsz l (List.mem_filter.mp (show l ∈ (lots ns.length).filter _ from hl)).1), fun H7 e7 => ⟨_, rfl, iteF ?_⟩⟩
    · have := List.length_filter_le (fun l => decide ((cost ns ts l : Int) = 0)) (lots ns.length)
      show ((lots ns.length).filter _).length ≤ 1000
      omega
    have E7 := E6.same e7
    clear E4 E5 E6 e5 tabs5 g5 t5 hy ty
    -- the table
    refine ⟨Nat.zero_le _, fun T hT => ?_⟩
    have E8 := E7.same (same_new hT (.lst []))
    refine ⟨_, rfl, _, _, rfl, rfl, 1, _, rfl, ⟨by omega, by omega, by omega, by omega⟩, ?_⟩
    rw [show ((ns.length : Int) + 1 - 1).toNat = ns.length by omega]
    refine for_range (fun i σ H => ∃ (y z : Option V) (tx : List V), σ = [some (.ref a), some (.ref R), some (.ref wa), some (.int (ns.length : Int)), some (.ref D), some (.ref T), y, z, none, none, none, none] ∧ Same H7 H ∧ H T = some (.lst tx) ∧ TpL K H (((List.range ns.length).take i).map fun s => dI (rowT ns ts s)) tx)
      ⟨_, _, [], rfl, same_new hT _, upd_same, rfl⟩ ?_ ?_
    · rintro i σ H9 hi ⟨y, z, tx, rfl, e9, g9, t9⟩
      have E9 := E7.same e9
      refine ⟨_, rfl, D, rfl, ⟨_, SqL.of E9.gc⟩, fun D3 hD3 => ?_⟩
      refine lc_tpL (K := K) (as := lots ns.length) (dec := costD ns ts) (p := fun l => decide ((l.length : Int) = 1 + (i : Int))) (f := fun l => .int (cost ns ts l : Int)) (SqL.of E9.gc) E9.tc hD3 (by omega) (fun l hl => ?_) (fun ys H10 e10 hy ty => ?_)
      · intro x H10 N0 N1 e10 hx m0 m1
        obtain ⟨ca, u, rfl, sc', hu⟩ := hx.costD
        obtain ⟨ua, rfl, su⟩ := hu.iT
        refine ⟨ca, _, rfl, sc', rfl, _, _, rfl, _, _, rfl, rfl, rfl, ?_⟩
        refine ⟨_, rfl, ua, _, rfl, .inr su, _, rfl, rfl, _, rfl, ?_⟩
        rw [dec_int, List.length_map]
        refine ite2 (fun ct => ?_) (fun ct => ?_)
        · exact ⟨_, rfl, m1 ct _ _ (Same.refl _) rfl⟩
        · exact m0 (by simpa using ct) _ (Same.refl _)
      have ec : ((lots ns.length).filter fun l => decide ((l.length : Int) = 1 + (i : Int))).map (fun l => PyData.int (cost ns ts l : Int)) = (costsAt ns ts (1 + (i : Int))).map PyData.int := by
        unfold costsAt
        rw [List.map_map]
        rfl
      rw [ec] at ty
      rw [TpL.ints _ ty] at hy
      have E10 := E9.same e10
      have g10 := e10 _ _ g9
      refine ⟨_, rfl, .inl ⟨rfl, _, SqL.of g10⟩, _, rfl, (ns.length : Int), rfl, by omega, by omega, fun D4 hD4 => ?_⟩
      rw [Int.toNat_natCast]
      refine lc_tpR (K := K) (p := fun _ => true) (f := fun c : Nat => .int (((costsAt ns ts (1 + (i : Int))).count (c : Int) : Nat) : Int)) hD4 (by omega) (fun c hc => ?_) (fun zs H11 e11 hz tz => ?_)
      · intro x H11 N0 N1 e11 hx m0 m1
        have hx : x = .int (0 + (c : Int)) := hx
        rw [Int.zero_add] at hx
        subst hx
        refine ⟨rfl, yes ?_⟩
        exact ⟨_, rfl, .inl ⟨rfl, _, SqL.of (e11 _ _ hy)⟩, _, rfl, D3, _, _, rfl, rfl, SqL.of (e11 _ _ hy), m1 rfl _ _ (Same.refl _) rfl⟩
      · refine ⟨D4, _, rfl, .inl ⟨SqL.of hz, fun q hq => ?_⟩⟩
        have e12 := (e10.trans e11).trans (same_new hq (.tup zs))
        have g12 := e12 _ _ g9
        have tk : (List.range ns.length).take (i + 1) = (List.range ns.length).take i ++ [i] := by
          rw [List.take_succ_eq_append_getElem (by simpa using hi), List.getElem_range]
        have txl : tx.length ≤ 6 := by
          have z1 := t9.len
          rw [List.length_map] at z1
          have z2 := List.length_take_le' i (List.range ns.length)
          rw [List.length_range] at z2
          omega
        have ez : (((List.range ns.length).filter fun _ => true).map fun c : Nat => PyData.int (((costsAt ns ts (1 + (i : Int))).count (c : Int) : Nat) : Int)) = (rowT ns ts i).map PyData.int := by
          rw [List.filter_eq_self.mpr fun _ _ => rfl, Int.add_comm]
          unfold rowT
          rw [List.map_map]
          rfl
        rw [ez] at tz
        have tq : Tp K (upd H11 q (.tup zs)) (dI (rowT ns ts i)) (.ref q) := ⟨q, zs, rfl, SqT.of upd_same, TpL.mono (ts_new hq _) _ _ tz⟩
        generalize upd H11 q (.tup zs) = H12 at e12 g12 tq ⊢
        refine ⟨T, tx, _, rfl, rfl, g12, Nat.lt_of_le_of_lt txl (by decide), ?_⟩
        have t12 : TS H12 (upd H12 T (.lst (tx ++ [.ref q]))) := ts_lst g12 _
        refine ⟨_, _, _, rfl, fun b o hb => ?_, upd_same, ?_⟩
        · rw [upd_ne (ne_of_none hb hT)]
          exact e12 _ _ (e9 _ _ hb)
        · rw [tk, List.map_append]
          exact TpL.snoc (TpL.mono ((sts e12).trans t12) _ _ t9) (Tp.mono t12 _ _ tq)
    · rintro σ H9 ⟨y, z, tx, rfl, e9, g9, t9⟩
      have E9 := E7.same e9
      have et : (((List.range ns.length).take ns.length).map fun s => dI (rowT ns ts s)) = (tableT ns ts).map dI := by
        rw [List.take_of_length_le (by simp)]
        unfold tableT
        rw [List.map_map]
        rfl
      rw [et] at t9
      have tbl : (tableT ns ts).length = ns.length := by
        unfold tableT
        simp
      have rwl : ∀ l ∈ tableT ns ts, l.length ≤ 1000 := fun l hl => by
        unfold tableT at hl
        obtain ⟨s, _, rfl⟩ := List.mem_map.mp hl
        unfold rowT
        rw [List.length_map, List.length_range]
        omega
      refine ⟨_, rfl, .ref wa, ns, ts, rfl, E9.hw, W, E9.tabs, fun v H10 e10 tabs10 tv => ?_⟩
      obtain ⟨va, vx, rfl, sv, tvx⟩ := tv.tup
      have E10 := E9.ext e10 tabs10
      refine ⟨_, rfl, T, _, rfl, .inl ⟨SqL.of (e10 _ _ g9 (by intro ps z; cases z)), fun q hq => ?_⟩⟩
      have s11 := same_new hq (.tup tx)
      refine ⟨_, _, rfl, al_lots (n := 0) (b := false) (ls := tableT ns ts) ((sts s11).sqt sv) (SqT.of upd_same) (TpL.mono (sts s11) _ _ tvx) (TpL.mono ((ets e10).trans (sts s11)) _ _ t9) (by omega) rwl, fun H12 e12 => ⟨_, rfl, iteF ?_⟩⟩
      have E12 := E10.same (s11.trans e12)
      clear E9 E10 e10 tabs10 sv tvx s11 g9 t9 e9
      -- the size
      refine ⟨_, rfl, _, rfl, taken E12.row (by omega) (by omega) fun vz H13 v0 v1 x13 w13 => ?_⟩
      have E9 := E12.sx x13 w13
      refine ⟨_, _, rfl, rfl, ?_⟩
      obtain ⟨k0, rfl⟩ : ∃ k0 : Int, vz = k0 := ⟨vz, rfl⟩
      have k1 : 1 ≤ 1 + vz := by omega
      have k2 : 1 + vz ≤ (ns.length : Int) := by omega
      refine ⟨_, rfl, D, rfl, ⟨_, SqL.of E9.gc⟩, fun D3 hD3 => ?_⟩
      refine lc_tpL (K := K) (as := lots ns.length) (dec := costD ns ts) (p := fun l => decide ((l.length : Int) = 1 + vz)) (f := fun l => .int (cost ns ts l : Int)) (SqL.of E9.gc) E9.tc hD3 (by omega) (fun l hl => ?_) (fun ys H10 e10 hy ty => ?_)
      · intro x H10 N0 N1 e10 hx m0 m1
        obtain ⟨ca, u, rfl, sc', hu⟩ := hx.costD
        obtain ⟨ua, rfl, su⟩ := hu.iT
        refine ⟨ca, _, rfl, sc', rfl, _, _, rfl, _, _, rfl, rfl, rfl, ?_⟩
        refine ⟨_, rfl, ua, _, rfl, .inr su, _, rfl, rfl, _, rfl, ?_⟩
        rw [dec_int, List.length_map]
        refine ite2 (fun ct => ?_) (fun ct => ?_)
        · exact ⟨_, rfl, m1 ct _ _ (Same.refl _) rfl⟩
        · exact m0 (by simpa using ct) _ (Same.refl _)
      have ec : ((lots ns.length).filter fun l => decide ((l.length : Int) = 1 + vz)).map (fun l => PyData.int (cost ns ts l : Int)) = (costsAt ns ts (1 + vz)).map PyData.int := by
        unfold costsAt
        rw [List.map_map]
        rfl
      rw [ec] at ty
      rw [TpL.ints _ ty] at hy
      have E10 := E9.same e10
      have cne := costsAt_ne W k1 k2
      refine ⟨_, rfl, _, rfl, .ref wa, ns, ts, 1 + vz, rfl, E10.hw, W, E10.tabs, k1, k2, fun H11 e11 tabs11 => ?_⟩
      have E11 := E10.ext e11 tabs11
      refine ⟨_, rfl, _, rfl, .ref wa, ns, ts, 1 + vz, rfl, E11.hw, W, E11.tabs, k1, k2, fun H12 e12 tabs12 => ⟨two, fun L hL => ?_⟩⟩
      have E12 := E11.ext e12 tabs12
      have hy2 := e12 _ _ (e11 _ _ hy (by intro ps z; cases z)) (by intro ps z; cases z)
      have s13 := same_new hL (.lst [.int (minL (costsAt ns ts (1 + vz))), .int (maxL (costsAt ns ts (1 + vz)))])
      have gL : upd H12 L (.lst [.int (minL (costsAt ns ts (1 + vz))), .int (maxL (costsAt ns ts (1 + vz)))]) L = some (.lst [.int (minL (costsAt ns ts (1 + vz))), .int (maxL (costsAt ns ts (1 + vz)))]) := upd_same
      have E13 := E12.same s13
      have hy3 := s13 _ _ hy2
      generalize upd H12 L (.lst [.int (minL (costsAt ns ts (1 + vz))), .int (maxL (costsAt ns ts (1 + vz)))]) = H13b at s13 gL E13 hy3 ⊢
      refine ⟨_, rfl, D3, _, rfl, SqL.of hy3, List.length_pos_iff.mpr cne, fun m hm hle => ?_⟩
      rw [minL_uniq hm hle]
      refine ⟨_, rfl, D3, _, rfl, SqL.of hy3, List.length_pos_iff.mpr cne, fun m2 hm2 hle2 => ?_⟩
      rw [maxL_uniq hm2 hle2]
      refine ⟨two, fun L2 hL2 => ?_⟩
      have s14 := same_new hL2 (.lst [.int (minL (costsAt ns ts (1 + vz))), .int (maxL (costsAt ns ts (1 + vz)))])
      refine ⟨_, _, rfl, al_ints (n := 1) (b := true) (l := [minL (costsAt ns ts (1 + vz)), maxL (costsAt ns ts (1 + vz))]) (SqL.of (s14 _ _ gL)) (SqL.of upd_same) (by show 2 ≤ 1000; decide), fun H15 e15 => ⟨_, rfl, iteF ?_⟩⟩
      have E15 := E13.same (s14.trans e15)
      clear E9 E10 E11 E12 E13 e11 tabs11 e12 tabs12
      obtain ⟨wa2, wb, wc, xs, ew, s1, s2, s3, s4⟩ := E15.hw.web
      cases ew
      have nne : ns ≠ [] := fun z => by rw [z] at n1; simp at n1
      refine ⟨_, rfl, wa, _, 0, _, rfl, rfl, s1, atI_nat (j := 0) rfl, wb, ns, rfl, s2, nne, ?_⟩
      refine ⟨_, rfl, D, rfl, ⟨_, SqL.of E15.gc⟩, fun D5 hD5 => ?_⟩
      refine lc_tpL (K := K) (as := lots ns.length) (dec := costD ns ts) (p := fun l => decide ((cost ns ts l : Int) = 0) && decide (minL ns ∉ l.map (num ns))) (f := dI) (SqL.of E15.gc) E15.tc hD5 (by omega) (fun l hl => ?_) (fun zs H16 e16 hz tz => ?_)
      · intro x H16 N0 N1 e16 hx m0 m1
        have ok := lots_ok hl
        obtain ⟨ca, u, rfl, sc', hu⟩ := hx.costD
        obtain ⟨ua, rfl, su⟩ := hu.iT
        refine ⟨ca, _, rfl, sc', rfl, _, _, rfl, _, _, rfl, rfl, rfl, ?_⟩
        refine ⟨_, rfl, rfl, _, rfl, ?_⟩
        rw [dec_int]
        refine ite2 (fun ct => ?_) (fun ct => ?_)
        · refine ⟨_, rfl, _, rfl, ua, rfl, ⟨_, su⟩, fun D6 hD6 => ?_⟩
          have ll := lsz l hl
          refine lc_tpT (K := K) (as := l) (dec := .int) (p := fun _ => true) (f := fun p => .int (num ns p)) su (TpL.of_ints _) hD6 (by rw [List.length_map]; exact ll) (fun p hp => ?_) (fun us H17 e17 hu17 tu => ?_)
          · intro x H17 M0 M1 e17 hx2 r0 r1
            obtain rfl : x = .int p := hx2
            have t17 := sts (e16.trans e17)
            exact ⟨rfl, yes ⟨_, rfl, wa, _, 0, _, rfl, rfl, t17.sqt s1, atI_nat (j := 0) rfl, _, rfl, wb, _, p, _, rfl, rfl, t17.sqt s2, num_at (ok.sub hp), r1 rfl _ _ (Same.refl _) rfl⟩⟩
          · have eu : ((l.filter fun _ => true).map fun p => PyData.int (num ns p)) = (l.map (num ns)).map PyData.int := by
              rw [List.filter_eq_self.mpr fun _ _ => rfl, List.map_map]
              rfl
            rw [eu] at tu
            rw [TpL.ints _ tu] at hu17
            refine rin_ints (l := l.map (num ns)) ⟨D6, rfl, .inl (SqL.of hu17)⟩ ⟨_, rfl, ?_⟩
            refine ite2 (fun c2 => ?_) (fun c2 => ?_)
            · refine ⟨_, rfl, m1 ?_ _ _ e17 (Tp.mono (sts e17) _ _ hu)⟩
              rw [Bool.and_eq_true]
              exact ⟨ct, by simpa using c2⟩
            · refine m0 ?_ _ e17
              rw [Bool.and_eq_false_iff]
              exact .inr (by simpa using c2)
        · refine iteF (m0 ?_ _ (Same.refl _))
          rw [Bool.and_eq_false_iff]
          exact .inl (by simpa using ct)
      · have nh : ((lots ns.length).filter fun l => decide ((cost ns ts l : Int) = 0) && decide (minL ns ∉ l.map (num ns))) = [] := no_high W
        rw [nh] at tz
        have ez : zs = [] := tz
        subst ez
        refine ⟨Nat.zero_le _, fun c hc => ?_⟩
        refine req_nil (SqL.of ((upd_ne (ne_of_none hz hc)).trans hz)) (SqL.of upd_same) ⟨_, rfl, iteF ?_⟩
        have E17 := E15.same (e16.trans (same_new hc (.lst [])))
        refine ⟨_, rfl, _, rfl, .ref wa, ns, ts, 1 + vz, rfl, E17.hw, W, E17.tabs, k1, k2, fun H18 e18 tabs18 => ⟨rfl, ?_⟩⟩
        rw [least_zero W k1 k2]
        have ed : decide (V.int 0 = V.int 0) = true := by simp
        rw [ed]
        exact k _
end
end DV
namespace DV
open PySem PySem.Spec L2 DW

/-- a def of the module that stands under its name -/
structure Dn (K : PySem.W.Frag) (mg : Str → Option Value) (x : Str) (st : Stmt) : Prop where
  ex : ∃ (f : Addr) (fd : FuncData), Fun K x x st f fd ∧ mg x = some (.ref f)
structure DnC (K : PySem.W.Frag) (mg : Str → Option Value) (x : Str) (st : Stmt) (c : Addr) : Prop where
  ex : ∃ (f : Addr) (fd : FuncData), FunC K x x st f fd c ∧ mg x = some (.ref f)
theorem dn_mk {K : PySem.W.Frag} {h : Heap} {mg : Str → Option Value} {x : Str} {st : Stmt} {f : Addr} {oc : Value} {od an : Option Addr} {osl : Array (Option Value)} {kV doc pm cdv ct : Value} (X : K.In h) (G : h.Ns mainGlobals mg)
    (a : PySem.W.nsIn K mainGlobals x = some (some (.ref f))) (l : K.lookup f = some ⟨oc, od, .func (PySem.W.fnOf x x (defArgs st) (defBody st) (defScope st) .none kV doc pm an cdv ct), osl⟩) (c : PySem.W.codeIn K cdv x = true) (k : PySem.W.keepIn K (.ref f) = true) : Dn K mg x st :=
  ⟨⟨f, _, fun_mk l c k, PySem.W.mg_of X G a⟩⟩
theorem dnC_mk {K : PySem.W.Frag} {h : Heap} {mg : Str → Option Value} {x : Str} {st : Stmt} {f c : Addr} {oc : Value} {od an : Option Addr} {osl : Array (Option Value)} {kV doc pm ct : Value} (X : K.In h) (G : h.Ns mainGlobals mg)
    (a : PySem.W.nsIn K mainGlobals x = some (some (.ref f))) (l : K.lookup f = some ⟨oc, od, .func (PySem.W.fnOf x x (defArgs st) (defBody st) (defScope st) .none kV doc pm an (.ref c) ct), osl⟩) (e : PySem.W.codeIn K (.ref c) x = true) (k : PySem.W.keepIn K (.ref f) = true) : DnC K mg x st c :=
  ⟨⟨f, _, ⟨⟨oc, od, kV, doc, pm, an, ct, osl, rfl, l, e⟩, k⟩, PySem.W.mg_of X G a⟩⟩
theorem all_mk {l : PySem.W.OpenLaw} {w : World} {K : PySem.W.Frag} {h : Heap} {mg : Str → Option Value} {fa c Pt : Addr} {t1 t2 : Tok} (X : K.In h) (G : h.Ns mainGlobals mg) (hfa : mg "law" = some (.ref fa))
    (hT : h.get? Pt = some { cls := .none, data := .fields #[] }) (nT : K.lookup Pt = none) (hC : PySem.W.codeHdIn K c Pt = true)
    (d1 : Dn K mg "is_int" sIsInt) (d2 : Dn K mg "is_from" sIsFrom) (d3 : Dn K mg "need_from" sNeedFrom)
    (d4 : Dn K mg "is_tie" sIsTie) (d5 : Dn K mg "everybody" sEverybody) (d6 : Dn K mg "tied_to" sTiedTo)
    (d7 : Dn K mg "hanging" sHanging) (d8 : Dn K mg "need_web" sNeedWeb) (d9 : Dn K mg "parts_of" sPartsOf)
    (d10 : Dn K mg "others" sOthers) (d11 : Dn K mg "border_of" sBorderOf) (d12 : Dn K mg "least_of" sLeastOf)
    (d13 : DnC K mg "lots_of" sLotsOf c) (d14 : Dn K mg "is_deep" sIsDeep) (d15 : Dn K mg "deep_of" sDeepOf)
    (d16 : Dn K mg "cost_of" sCostOf) (d17 : Dn K mg "free_lots" sFreeLots) (d18 : Dn K mg "cost_table" sCostTable)
    (d19 : Dn K mg "greatest_cost" sGreatestCost) (d20 : Dn K mg "least_cost" sLeastCost) (d21 : Dn K mg "_law_taken" sLawTaken)
    (d22 : Dn K mg "_law_alike" sLawAlike) (d23 : Dn K mg "_law_web" sLawWeb) (d24 : Dn K mg "_law_ties" sLawTies)
    (d25 : Dn K mg "_law_parts" sLawParts) (d26 : Dn K mg "_law_rest" sLawRest) (d27 : Dn K mg "_law_border" sLawBorder)
    (d28 : Dn K mg "_law_deep" sLawDeep) (d29 : Dn K mg "_law_lots" sLawLots) (d30 : Dn K mg "law" sLaw)
    (z1 : PySem.W.nsIn K mainGlobals "isinstance" = some none) (z2 : PySem.W.nsIn K mainGlobals "int" = some none) (z3 : PySem.W.nsIn K mainGlobals "bool" = some none) (z4 : PySem.W.nsIn K mainGlobals "str" = some none) (z5 : PySem.W.nsIn K mainGlobals "tuple" = some none) (z6 : PySem.W.nsIn K mainGlobals "list" = some none) (z7 : PySem.W.nsIn K mainGlobals "len" = some none) (z8 : PySem.W.nsIn K mainGlobals "range" = some none) (z9 : PySem.W.nsIn K mainGlobals "sorted" = some none) (z10 : PySem.W.nsIn K mainGlobals "min" = some none) (z11 : PySem.W.nsIn K mainGlobals "max" = some none) (z12 : PySem.W.nsIn K mainGlobals "any" = some none) (z13 : PySem.W.nsIn K mainGlobals "all" = some none) (z14 : PySem.W.nsIn K mainGlobals "enumerate" = some none)
    (cp : PySem.W.nsIn K mainGlobals "MOST_PERSONS" = some (some (.int 8 t1))) (cv : PySem.W.nsIn K mainGlobals "MOST_VALUE" = some (some (.int 1000 t2))) :
    LamX.LawAtS l w K CX0 7 63 "_law_script" mg fa h := by
  have B : Bi mg := ⟨PySem.W.mg_none_of X G z1, PySem.W.mg_none_of X G z2, PySem.W.mg_none_of X G z3, PySem.W.mg_none_of X G z4, PySem.W.mg_none_of X G z5, PySem.W.mg_none_of X G z6, PySem.W.mg_none_of X G z7, PySem.W.mg_none_of X G z8, PySem.W.mg_none_of X G z9, PySem.W.mg_none_of X G z10, PySem.W.mg_none_of X G z11, PySem.W.mg_none_of X G z12, PySem.W.mg_none_of X G z13, PySem.W.mg_none_of X G z14⟩
  have cP := PySem.W.mg_of X G cp
  have cV := PySem.W.mg_of X G cv
  obtain ⟨f1, fd1, F1, m1⟩ := d1.ex
  have b1 := F1.binds (ps := ["value"]) fun _ _ _ _ _ _ us hl => match us, hl with | [_], _ => rfl
  obtain ⟨f2, fd2, F2, m2⟩ := d2.ex
  have b2 := F2.binds (ps := ["value", "least", "most"]) fun _ _ _ _ _ _ us hl => match us, hl with | [_, _, _], _ => rfl
  obtain ⟨f3, fd3, F3, m3⟩ := d3.ex
  have b3 := F3.binds (ps := ["value", "least", "most"]) fun _ _ _ _ _ _ us hl => match us, hl with | [_, _, _], _ => rfl
  obtain ⟨f4, fd4, F4, m4⟩ := d4.ex
  have b4 := F4.binds (ps := ["value", "many"]) fun _ _ _ _ _ _ us hl => match us, hl with | [_, _], _ => rfl
  obtain ⟨f5, fd5, F5, m5⟩ := d5.ex
  have b5 := F5.binds (ps := ["web"]) fun _ _ _ _ _ _ us hl => match us, hl with | [_], _ => rfl
  obtain ⟨f6, fd6, F6, m6⟩ := d6.ex
  have b6 := F6.binds (ps := ["web", "person"]) fun _ _ _ _ _ _ us hl => match us, hl with | [_, _], _ => rfl
  obtain ⟨f7, fd7, F7, m7⟩ := d7.ex
  have b7 := F7.binds (ps := ["web", "person", "lot"]) fun _ _ _ _ _ _ us hl => match us, hl with | [_, _, _], _ => rfl
  obtain ⟨f8, fd8, F8, m8⟩ := d8.ex
  have b8 := F8.binds (ps := ["value"]) fun _ _ _ _ _ _ us hl => match us, hl with | [_], _ => rfl
  obtain ⟨f9, fd9, F9, m9⟩ := d9.ex
  have b9 := F9.binds (ps := ["web", "lot"]) fun _ _ _ _ _ _ us hl => match us, hl with | [_, _], _ => rfl
  obtain ⟨f10, fd10, F10, m10⟩ := d10.ex
  have b10 := F10.binds (ps := ["web", "lot"]) fun _ _ _ _ _ _ us hl => match us, hl with | [_, _], _ => rfl
  obtain ⟨f11, fd11, F11, m11⟩ := d11.ex
  have b11 := F11.binds (ps := ["web", "part", "lot"]) fun _ _ _ _ _ _ us hl => match us, hl with | [_, _, _], _ => rfl
  obtain ⟨f12, fd12, F12, m12⟩ := d12.ex
  have b12 := F12.binds (ps := ["web", "lot"]) fun _ _ _ _ _ _ us hl => match us, hl with | [_, _], _ => rfl
  obtain ⟨f13, fd13, F13, m13⟩ := d13.ex
  have b13 := F13.fn.binds (ps := ["many"]) fun _ _ _ _ _ _ us hl => match us, hl with | [_], _ => rfl
  obtain ⟨f14, fd14, F14, m14⟩ := d14.ex
  have b14 := F14.binds (ps := ["web", "piece", "lot"]) fun _ _ _ _ _ _ us hl => match us, hl with | [_, _, _], _ => rfl
  obtain ⟨f15, fd15, F15, m15⟩ := d15.ex
  have b15 := F15.binds (ps := ["web", "lot"]) fun _ _ _ _ _ _ us hl => match us, hl with | [_, _], _ => rfl
  obtain ⟨f16, fd16, F16, m16⟩ := d16.ex
  have b16 := F16.binds (ps := ["web", "lot"]) fun _ _ _ _ _ _ us hl => match us, hl with | [_, _], _ => rfl
  obtain ⟨f17, fd17, F17, m17⟩ := d17.ex
  have b17 := F17.binds (ps := ["web"]) fun _ _ _ _ _ _ us hl => match us, hl with | [_], _ => rfl
  obtain ⟨f18, fd18, F18, m18⟩ := d18.ex
  have b18 := F18.binds (ps := ["web"]) fun _ _ _ _ _ _ us hl => match us, hl with | [_], _ => rfl
  obtain ⟨f19, fd19, F19, m19⟩ := d19.ex
  have b19 := F19.binds (ps := ["web", "size"]) fun _ _ _ _ _ _ us hl => match us, hl with | [_, _], _ => rfl
  obtain ⟨f20, fd20, F20, m20⟩ := d20.ex
  have b20 := F20.binds (ps := ["web", "size"]) fun _ _ _ _ _ _ us hl => match us, hl with | [_, _], _ => rfl
  obtain ⟨f21, fd21, F21, m21⟩ := d21.ex
  have b21 := F21.binds (ps := ["_law_row", "_law_many"]) fun _ _ _ _ _ _ us hl => match us, hl with | [_, _], _ => rfl
  obtain ⟨f22, fd22, F22, m22⟩ := d22.ex
  have b22 := F22.binds (ps := ["_law_found", "_law_due"]) fun _ _ _ _ _ _ us hl => match us, hl with | [_, _], _ => rfl
  obtain ⟨f23, fd23, F23, m23⟩ := d23.ex
  have b23 := F23.binds (ps := ["_law_row", "_law_most", "_law_high"]) fun _ _ _ _ _ _ us hl => match us, hl with | [_, _, _], _ => rfl
  obtain ⟨f24, fd24, F24, m24⟩ := d24.ex
  have b24 := F24.binds (ps := ["_law_web_here", "_law_person"]) fun _ _ _ _ _ _ us hl => match us, hl with | [_, _], _ => rfl
  obtain ⟨f25, fd25, F25, m25⟩ := d25.ex
  have b25 := F25.binds (ps := ["_law_web_here", "_law_lot"]) fun _ _ _ _ _ _ us hl => match us, hl with | [_, _], _ => rfl
  obtain ⟨f26, fd26, F26, m26⟩ := d26.ex
  have b26 := F26.binds (ps := ["_law_web_here", "_law_lot"]) fun _ _ _ _ _ _ us hl => match us, hl with | [_, _], _ => rfl
  obtain ⟨f27, fd27, F27, m27⟩ := d27.ex
  have b27 := F27.binds (ps := ["_law_web_here", "_law_part", "_law_lot"]) fun _ _ _ _ _ _ us hl => match us, hl with | [_, _, _], _ => rfl
  obtain ⟨f28, fd28, F28, m28⟩ := d28.ex
  have b28 := F28.binds (ps := ["_law_web_here", "_law_lot"]) fun _ _ _ _ _ _ us hl => match us, hl with | [_, _], _ => rfl
  obtain ⟨f29, fd29, F29, m29⟩ := d29.ex
  have b29 := F29.binds (ps := ["_law_many"]) fun _ _ _ _ _ _ us hl => match us, hl with | [_], _ => rfl
  obtain ⟨f30, fd30, F30, m30⟩ := d30.ex
  have e := hfa.symm.trans m30
  cases e
  have bt : ∀ (s : Shared) (u : Value), BindsTo s fd30 ⟨[u], []⟩ [("_law_script", u)] := by
    obtain ⟨oc, od, kV, doc, pm, an, cdv, ct, osl, rfl, lk, hcd⟩ := F30.ex
    exact fun s u => .of_eq rfl
  refine ⟨fd30, [(c, Pt)], spLaw K Pt, ?_, ?_, ?_, bt, ?_, ?_⟩
  · intro p hp
    rw [List.mem_singleton.mp hp]
    exact hT
  · intro p hp
    rw [List.mem_singleton.mp hp]
    exact nT
  · intro p hp
    rw [List.mem_singleton.mp hp]
    exact PySem.W.codeHd_of_K X hC
  · exact fun H a ns _ _ hH hS => ⟨a, ns, rfl, hS, hH (c, Pt) (List.mem_singleton.mpr rfl), fun _ => rfl⟩
  · intro base _ _ hTB
    have TB := hTB (c, Pt) (List.mem_singleton.mpr rfl)
    have C1 : Cal l.prog w K mg base "is_int" 1 f1 fd1 ["value"] spIsInt := ⟨ok_is_int F1 B, b1, F1.kp, m1⟩
    have C2 : Cal l.prog w K mg base "is_from" 2 f2 fd2 ["value", "least", "most"] spIsFrom := ⟨ok_is_from F2 C1, b2, F2.kp, m2⟩
    have C3 : Cal l.prog w K mg base "need_from" 3 f3 fd3 ["value", "least", "most"] spNeedFrom := ⟨ok_need_from F3 C2, b3, F3.kp, m3⟩
    have C4 : Cal l.prog w K mg base "is_tie" 3 f4 fd4 ["value", "many"] (spIsTie K) := ⟨ok_is_tie F4 B C2, b4, F4.kp, m4⟩
    have C5 : Cal l.prog w K mg base "everybody" 1 f5 fd5 ["web"] (spEverybody K) := ⟨ok_everybody F5 B, b5, F5.kp, m5⟩
    have C6 : Cal l.prog w K mg base "tied_to" 1 f6 fd6 ["web", "person"] (spTiedTo K) := ⟨ok_tied_to F6 B, b6, F6.kp, m6⟩
    have C7 : Cal l.prog w K mg base "hanging" 2 f7 fd7 ["web", "person", "lot"] (spHanging K) := ⟨ok_hanging F7 B C6, b7, F7.kp, m7⟩
    have C8 : Cal l.prog w K mg base "need_web" 4 f8 fd8 ["value"] (spNeedWeb K) := ⟨ok_need_web F8 B cP cV C2 C4 C7 C5, b8, F8.kp, m8⟩
    have C9 : Cal l.prog w K mg base "parts_of" 3 f9 fd9 ["web", "lot"] (spPartsOf K) := ⟨ok_parts_of F9 B C7, b9, F9.kp, m9⟩
    have C10 : Cal l.prog w K mg base "others" 2 f10 fd10 ["web", "lot"] (spOthers K) := ⟨ok_others F10 B C5, b10, F10.kp, m10⟩
    have C11 : Cal l.prog w K mg base "border_of" 2 f11 fd11 ["web", "part", "lot"] (spBorder K) := ⟨ok_border F11 B C6, b11, F11.kp, m11⟩
    have C12 : Cal l.prog w K mg base "least_of" 1 f12 fd12 ["web", "lot"] (spLeast K) := ⟨ok_least_of F12 B, b12, F12.kp, m12⟩
    have C13 : Cal l.prog w K mg base "lots_of" 3 f13 fd13 ["many"] (spLots K Pt) := ⟨ok_lots_of F13 B TB, b13, F13.kp, m13⟩
    have C14 : Cal l.prog w K mg base "is_deep" 3 f14 fd14 ["web", "piece", "lot"] (spIsDeep K) := ⟨ok_is_deep F14 C12 C11, b14, F14.kp, m14⟩
    have C15 : Cal l.prog w K mg base "deep_of" 4 f15 fd15 ["web", "lot"] (spDeepOf K) := ⟨ok_deep_of F15 B C9 C10 C14, b15, F15.kp, m15⟩
    have C16 : Cal l.prog w K mg base "cost_of" 5 f16 fd16 ["web", "lot"] (spCostOf K) := ⟨ok_cost_of F16 B C15, b16, F16.kp, m16⟩
    have C17 : Cal l.prog w K mg base "free_lots" 6 f17 fd17 ["web"] (spFree K Pt) := ⟨ok_free_lots F17 B C8 C13 C16, b17, F17.kp, m17⟩
    have C18 : Cal l.prog w K mg base "cost_table" 6 f18 fd18 ["web"] (spTable K Pt) := ⟨ok_cost_table F18 B C8 C13 C16 C5, b18, F18.kp, m18⟩
    have C19 : Cal l.prog w K mg base "greatest_cost" 6 f19 fd19 ["web", "size"] (spGreat K Pt) := ⟨ok_greatest F19 B C8 C13 C16 C3, b19, F19.kp, m19⟩
    have C20 : Cal l.prog w K mg base "least_cost" 6 f20 fd20 ["web", "size"] (spLeastC K Pt) := ⟨ok_least_cost F20 B C8 C13 C16 C3, b20, F20.kp, m20⟩
    have C21 : Cal l.prog w K mg base "_law_taken" 1 f21 fd21 ["_law_row", "_law_many"] (spTaken K) := ⟨ok_law_taken F21 B, b21, F21.kp, m21⟩
    have C22 : Cal l.prog w K mg base "_law_alike" 4 f22 fd22 ["_law_found", "_law_due"] (spAlike K 3) := ⟨ok_law_alike F22 B b22 m22 3, b22, F22.kp, m22⟩
    have C23 : Cal l.prog w K mg base "_law_web" 2 f23 fd23 ["_law_row", "_law_most", "_law_high"] (spLawWeb K) := ⟨ok_law_web F23 B C21, b23, F23.kp, m23⟩
    have C24 : Cal l.prog w K mg base "_law_ties" 1 f24 fd24 ["_law_web_here", "_law_person"] (spTiedTo K) := ⟨ok_law_ties F24 B, b24, F24.kp, m24⟩
    have C25 : Cal l.prog w K mg base "_law_parts" 1 f25 fd25 ["_law_web_here", "_law_lot"] (spLawParts K) := ⟨ok_law_parts F25 B, b25, F25.kp, m25⟩
    have C26 : Cal l.prog w K mg base "_law_rest" 1 f26 fd26 ["_law_web_here", "_law_lot"] (spLawRest K) := ⟨ok_law_rest F26 B, b26, F26.kp, m26⟩
    have C27 : Cal l.prog w K mg base "_law_border" 2 f27 fd27 ["_law_web_here", "_law_part", "_law_lot"] (spBorder K) := ⟨ok_law_border F27 B C24, b27, F27.kp, m27⟩
    have C28 : Cal l.prog w K mg base "_law_deep" 3 f28 fd28 ["_law_web_here", "_law_lot"] (spLawDeep K) := ⟨ok_law_deep F28 B C25 C26 C27, b28, F28.kp, m28⟩
    have C29 : Cal l.prog w K mg base "_law_lots" 1 f29 fd29 ["_law_many"] (spLawLots K) := ⟨ok_law_lots F29 B, b29, F29.kp, m29⟩
    exact ok_law F30 B C21 C23 C29 C28 C22 C17 C18 C20 C19
end DV

open PySem PySem.W PyProof.Rows in
set_option maxRecDepth 100000 in
set_option maxHeartbeats 0 in
theorem PySem.Challenge.cw_duelwebs_k06_whole_free_lots_holds : PySem.Challenge.rw_duelwebs_k06_whole_free_lots.Holds := by
  w_on; o_law; k_head; (case hw => w_witness2)
  k_fill
  refine LamX.walk_ofTs (n := 63) (k := 7) (x := "_law_script") (CX := fun _ => L2.CX0) rfl (by decide) rfl ⟨rfl, by decide, by decide⟩ (fun w h Y => PySem.W.km_in_of Y) ?F (fun _ _ _ _ _ z => z)
  case F =>
    intro w mg fa h Y KX G hmg
    have hT := PySem.W.km_tabs_of Y 148 (List.mem_singleton.mpr rfl)
    refine' DV.all_mk KX G hmg hT ?nT ?hC ?d1 ?d2 ?d3 ?d4 ?d5 ?d6 ?d7 ?d8 ?d9 ?d10 ?d11 ?d12 ?d13 ?d14 ?d15 ?d16 ?d17 ?d18 ?d19 ?d20 ?d21 ?d22 ?d23 ?d24 ?d25 ?d26 ?d27 ?d28 ?d29 ?d30 ?z1 ?z2 ?z3 ?z4 ?z5 ?z6 ?z7 ?z8 ?z9 ?z10 ?z11 ?z12 ?z13 ?z14 ?cp ?cv
    (case d1 => (refine' DV.dn_mk KX G ?a1 ?l1 ?c1 ?k1; (case a1 => k_is); (case l1 => k_is); (case c1 => k_is); (case k1 => k_is)))
    (case d2 => (refine' DV.dn_mk KX G ?a2 ?l2 ?c2 ?k2; (case a2 => k_is); (case l2 => k_is); (case c2 => k_is); (case k2 => k_is)))
    (case d3 => (refine' DV.dn_mk KX G ?a3 ?l3 ?c3 ?k3; (case a3 => k_is); (case l3 => k_is); (case c3 => k_is); (case k3 => k_is)))
    (case d4 => (refine' DV.dn_mk KX G ?a4 ?l4 ?c4 ?k4; (case a4 => k_is); (case l4 => k_is); (case c4 => k_is); (case k4 => k_is)))
    (case d5 => (refine' DV.dn_mk KX G ?a5 ?l5 ?c5 ?k5; (case a5 => k_is); (case l5 => k_is); (case c5 => k_is); (case k5 => k_is)))
    (case d6 => (refine' DV.dn_mk KX G ?a6 ?l6 ?c6 ?k6; (case a6 => k_is); (case l6 => k_is); (case c6 => k_is); (case k6 => k_is)))
    (case d7 => (refine' DV.dn_mk KX G ?a7 ?l7 ?c7 ?k7; (case a7 => k_is); (case l7 => k_is); (case c7 => k_is); (case k7 => k_is)))
    (case d8 => (refine' DV.dn_mk KX G ?a8 ?l8 ?c8 ?k8; (case a8 => k_is); (case l8 => k_is); (case c8 => k_is); (case k8 => k_is)))
    (case d9 => (refine' DV.dn_mk KX G ?a9 ?l9 ?c9 ?k9; (case a9 => k_is); (case l9 => k_is); (case c9 => k_is); (case k9 => k_is)))
    (case d10 => (refine' DV.dn_mk KX G ?a10 ?l10 ?c10 ?k10; (case a10 => k_is); (case l10 => k_is); (case c10 => k_is); (case k10 => k_is)))
    (case d11 => (refine' DV.dn_mk KX G ?a11 ?l11 ?c11 ?k11; (case a11 => k_is); (case l11 => k_is); (case c11 => k_is); (case k11 => k_is)))
    (case d12 => (refine' DV.dn_mk KX G ?a12 ?l12 ?c12 ?k12; (case a12 => k_is); (case l12 => k_is); (case c12 => k_is); (case k12 => k_is)))
    (case d13 => (refine' DV.dnC_mk KX G ?a13 ?l13 ?c13 ?k13; (case a13 => k_is); (case l13 => k_is); (case c13 => k_is); (case k13 => k_is)))
    (case d14 => (refine' DV.dn_mk KX G ?a14 ?l14 ?c14 ?k14; (case a14 => k_is); (case l14 => k_is); (case c14 => k_is); (case k14 => k_is)))
    (case d15 => (refine' DV.dn_mk KX G ?a15 ?l15 ?c15 ?k15; (case a15 => k_is); (case l15 => k_is); (case c15 => k_is); (case k15 => k_is)))
    (case d16 => (refine' DV.dn_mk KX G ?a16 ?l16 ?c16 ?k16; (case a16 => k_is); (case l16 => k_is); (case c16 => k_is); (case k16 => k_is)))
    (case d17 => (refine' DV.dn_mk KX G ?a17 ?l17 ?c17 ?k17; (case a17 => k_is); (case l17 => k_is); (case c17 => k_is); (case k17 => k_is)))
    (case d18 => (refine' DV.dn_mk KX G ?a18 ?l18 ?c18 ?k18; (case a18 => k_is); (case l18 => k_is); (case c18 => k_is); (case k18 => k_is)))
    (case d19 => (refine' DV.dn_mk KX G ?a19 ?l19 ?c19 ?k19; (case a19 => k_is); (case l19 => k_is); (case c19 => k_is); (case k19 => k_is)))
    (case d20 => (refine' DV.dn_mk KX G ?a20 ?l20 ?c20 ?k20; (case a20 => k_is); (case l20 => k_is); (case c20 => k_is); (case k20 => k_is)))
    (case d21 => (refine' DV.dn_mk KX G ?a21 ?l21 ?c21 ?k21; (case a21 => k_is); (case l21 => k_is); (case c21 => k_is); (case k21 => k_is)))
    (case d22 => (refine' DV.dn_mk KX G ?a22 ?l22 ?c22 ?k22; (case a22 => k_is); (case l22 => k_is); (case c22 => k_is); (case k22 => k_is)))
    (case d23 => (refine' DV.dn_mk KX G ?a23 ?l23 ?c23 ?k23; (case a23 => k_is); (case l23 => k_is); (case c23 => k_is); (case k23 => k_is)))
    (case d24 => (refine' DV.dn_mk KX G ?a24 ?l24 ?c24 ?k24; (case a24 => k_is); (case l24 => k_is); (case c24 => k_is); (case k24 => k_is)))
    (case d25 => (refine' DV.dn_mk KX G ?a25 ?l25 ?c25 ?k25; (case a25 => k_is); (case l25 => k_is); (case c25 => k_is); (case k25 => k_is)))
    (case d26 => (refine' DV.dn_mk KX G ?a26 ?l26 ?c26 ?k26; (case a26 => k_is); (case l26 => k_is); (case c26 => k_is); (case k26 => k_is)))
    (case d27 => (refine' DV.dn_mk KX G ?a27 ?l27 ?c27 ?k27; (case a27 => k_is); (case l27 => k_is); (case c27 => k_is); (case k27 => k_is)))
    (case d28 => (refine' DV.dn_mk KX G ?a28 ?l28 ?c28 ?k28; (case a28 => k_is); (case l28 => k_is); (case c28 => k_is); (case k28 => k_is)))
    (case d29 => (refine' DV.dn_mk KX G ?a29 ?l29 ?c29 ?k29; (case a29 => k_is); (case l29 => k_is); (case c29 => k_is); (case k29 => k_is)))
    (case d30 => (refine' DV.dn_mk KX G ?a30 ?l30 ?c30 ?k30; (case a30 => k_is); (case l30 => k_is); (case c30 => k_is); (case k30 => k_is)))
    (case z1 => k_is)
    (case z2 => k_is)
    (case z3 => k_is)
    (case z4 => k_is)
    (case z5 => k_is)
    (case z6 => k_is)
    (case z7 => k_is)
    (case z8 => k_is)
    (case z9 => k_is)
    (case z10 => k_is)
    (case z11 => k_is)
    (case z12 => k_is)
    (case z13 => k_is)
    (case z14 => k_is)
    (case cp => k_is)
    (case cv => k_is)
    (case nT => (first | k_is | decide +kernel | rfl))
    (case hC => (first | k_is | decide +kernel | rfl))
