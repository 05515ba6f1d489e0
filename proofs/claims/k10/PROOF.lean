import PyProof.Rows.All
import Wide.All
import OpenK.AllK
import Wide.FinOn
import KE.KTupSum
import KE.GoesEnum
import KE.GoesMore
import KE.KIsAll
import KE.KTryMore
import HandS.ForMost
import HandS.Zip
import HandS.TupAny
import HandS.Exc
import HandS.WordsExc
import HandS.ExcIs
import HandS.RaiseMore
import HandS.ExcInit
import HandS.ExcField
import HandS.Style
import HandS.IsInst
import HandS.Wide
import HandS.Evl
import HandS.Conv
import HandS.Walk
import HandS.Dict
import HandS.More
import HandS.Iter
import HandS.WordsDict
import HandS.CallRecv
import HandS.ExcOwn
import HandS.TupLe
import HandS.TryOnly
import PyProof.ReprLen
import PySem.Challenge.RW_stagesfull_k10_whole_papers_of_cuts
set_option Elab.async false
set_option linter.all false
set_option autoImplicit false
/-! K10Math: the plain law of cuts of layers into stages: no program in sight. -/
namespace K10
/-! ### sums of neighbors -/
def seg (l : List Int) (i j : Nat) : Int := ((l.drop i).take (j - i)).sum
theorem sum_app : ∀ (a b : List Int), (a ++ b).sum = a.sum + b.sum
  | [], b => by simp
  | x :: a, b => by
    have ih := sum_app a b
    show (x :: (a ++ b)).sum = (x :: a).sum + b.sum
    rw [List.sum_cons, List.sum_cons, ih]
    omega
theorem seg_zero (l : List Int) (k : Nat) : seg l 0 k = (l.take k).sum := by
  unfold seg
  rw [List.drop_zero, Nat.sub_zero]
theorem seg_add (l : List Int) {i j k : Nat} (h1 : i ≤ j) (h2 : j ≤ k) : seg l i k = seg l i j + seg l j k := by
  unfold seg
  have e : k - i = (j - i) + (k - j) := by omega
  rw [e, List.take_add, sum_app, List.drop_drop]
  have e2 : i + (j - i) = j := by omega
  rw [e2]
theorem seg_self (l : List Int) (i : Nat) : seg l i i = 0 := by
  unfold seg
  rw [Nat.sub_self, List.take_zero]
  rfl
theorem seg_one {l : List Int} {i : Nat} {x : Int} (h : l[i]? = some x) : seg l i (i + 1) = x := by
  unfold seg
  have e : i + 1 - i = 1 := by omega
  rw [e]
  obtain ⟨hi, hx⟩ := List.getElem?_eq_some_iff.mp h
  rw [List.drop_eq_getElem_cons hi, List.take_succ_cons, List.take_zero, hx]
  simp
theorem seg_drop (l : List Int) (k i j : Nat) : seg (l.drop k) i j = seg l (k + i) (k + j) := by
  unfold seg
  rw [List.drop_drop]
  have e : k + j - (k + i) = j - i := by omega
  rw [e]
theorem seg_end (l : List Int) {i j : Nat} (h : l.length ≤ j) : seg l i j = (l.drop i).sum := by
  unfold seg
  rw [List.take_of_length_le]
  rw [List.length_drop]
  omega
def NonNeg (l : List Int) : Prop := ∀ x ∈ l, 0 ≤ x
theorem NonNeg.drop {l : List Int} (h : NonNeg l) (k : Nat) : NonNeg (l.drop k) := fun x hx => h x (List.mem_of_mem_drop hx)
theorem NonNeg.take {l : List Int} (h : NonNeg l) (k : Nat) : NonNeg (l.take k) := fun x hx => h x (List.mem_of_mem_take hx)
theorem NonNeg.sum : ∀ {l : List Int}, NonNeg l → 0 ≤ l.sum
  | [], _ => by simp
  | x :: l, h => by
    have h1 := h x List.mem_cons_self
    have h2 := NonNeg.sum (l := l) fun y hy => h y (List.mem_cons_of_mem _ hy)
    rw [List.sum_cons]
    omega
theorem NonNeg.seg {l : List Int} (h : NonNeg l) (i j : Nat) : 0 ≤ seg l i j := ((h.drop i).take (j - i)).sum
theorem seg_le {l : List Int} (h : NonNeg l) {i a b j : Nat} (h1 : i ≤ a) (h2 : a ≤ b) (h3 : b ≤ j) : seg l a b ≤ seg l i j := by
  have e1 := seg_add l h1 (Nat.le_trans h2 h3)
  have e2 := seg_add l h2 h3
  have n1 := h.seg i a
  have n2 := h.seg b j
  omega
/-! ### cuts -/
def pSums : List Int → List Nat → List Int
  | _, [] => []
  | l, k :: ks => (l.take k).sum :: pSums (l.drop k) ks
def IsCut (n : Nat) (ks : List Nat) : Prop := (∀ k ∈ ks, 1 ≤ k) ∧ ks.sum = n
def Feas (l : List Int) (s : Nat) (B : Int) : Prop := ∃ ks, ks.length = s ∧ IsCut l.length ks ∧ ∀ y ∈ pSums l ks, y ≤ B
def IsMin (l : List Int) (s : Nat) (r : Int) : Prop := ∀ B, Feas l s B ↔ r ≤ B
theorem IsMin.uniq {l : List Int} {s : Nat} {r r' : Int} (a : IsMin l s r) (b : IsMin l s r') : r = r' := by
  have h1 := (b r).mp ((a r).mpr (Int.le_refl _))
  have h2 := (a r').mp ((b r').mpr (Int.le_refl _))
  omega
theorem sum_ge : ∀ (ks : List Nat), (∀ k ∈ ks, 1 ≤ k) → ks.length ≤ ks.sum
  | [], _ => by simp
  | k :: ks, h => by
    have h1 := h k List.mem_cons_self
    have h2 := sum_ge ks fun y hy => h y (List.mem_cons_of_mem _ hy)
    rw [List.length_cons, List.sum_cons]
    omega
theorem feas_len {l : List Int} {s : Nat} {B : Int} (h : Feas l s B) : s ≤ l.length := by
  obtain ⟨ks, e, ⟨h1, h2⟩, _⟩ := h
  have := sum_ge ks h1
  omega
theorem feas_one {l : List Int} {B : Int} : Feas l 1 B ↔ 1 ≤ l.length ∧ l.sum ≤ B := by
  constructor
  · intro h
    have hl := feas_len h
    obtain ⟨ks, e, ⟨h1, h2⟩, h3⟩ := h
    match ks, e with
    | [k], _ =>
      have ek : k = l.length := by simpa using h2
      have q := h3 (l.take k).sum (by show _ ∈ (l.take k).sum :: _; exact List.mem_cons_self)
      rw [ek, List.take_length] at q
      exact ⟨hl, q⟩
  · rintro ⟨h1, h2⟩
    refine ⟨[l.length], rfl, ⟨fun k hk => ?_, by simp⟩, fun y hy => ?_⟩
    · rw [List.mem_singleton.mp hk]
      exact h1
    · have e : y = (l.take l.length).sum := by
        have hy' : y ∈ [(l.take l.length).sum] := hy
        exact List.mem_singleton.mp hy'
      rw [e, List.take_length]
      exact h2
theorem feas_succ {l : List Int} {s : Nat} {B : Int} : Feas l (s + 1) B ↔ ∃ m, 1 ≤ m ∧ m ≤ l.length ∧ (l.take m).sum ≤ B ∧ Feas (l.drop m) s B := by
  constructor
  · rintro ⟨ks, e, ⟨h1, h2⟩, h3⟩
    match ks, e with
    | k :: ks, e =>
      rw [List.sum_cons] at h2
      refine ⟨k, h1 k List.mem_cons_self, by omega, h3 _ List.mem_cons_self, ks, by simpa using e, ⟨fun y hy => h1 y (List.mem_cons_of_mem _ hy), ?_⟩, fun y hy => h3 y (List.mem_cons_of_mem _ hy)⟩
      rw [List.length_drop]
      omega
  · rintro ⟨m, h1, h2, h3, ks, e, ⟨h4, h5⟩, h6⟩
    rw [List.length_drop] at h5
    refine ⟨m :: ks, by rw [List.length_cons, e], ⟨fun y hy => ?_, by rw [List.sum_cons]; omega⟩, fun y hy => ?_⟩
    · rcases List.mem_cons.mp hy with q | q
      · rw [q]; exact h1
      · exact h4 y q
    · have hy' : y ∈ (l.take m).sum :: pSums (l.drop m) ks := hy
      rcases List.mem_cons.mp hy' with q | q
      · rw [q]; exact h3
      · exact h6 y q
theorem feas_mono {l : List Int} {s : Nat} {B C : Int} (h : Feas l s B) (hc : B ≤ C) : Feas l s C := by
  obtain ⟨ks, e, c, h3⟩ := h
  exact ⟨ks, e, c, fun y hy => Int.le_trans (h3 y hy) hc⟩
theorem feas_more : ∀ (s : Nat) {l : List Int} {B : Int}, NonNeg l → Feas l (s + 1) B → s + 2 ≤ l.length → Feas l (s + 2) B
  | 0, l, B, hn, h, hl => by
    obtain ⟨_, h2⟩ := feas_one.mp h
    have e := seg_add l (i := 0) (j := 1) (k := l.length) (by omega) (by omega)
    rw [seg_zero, seg_zero, List.take_length, seg_end l (Nat.le_refl _)] at e
    have n1 := (hn.take 1).sum
    have n2 := (hn.drop 1).sum
    refine feas_succ.mpr ⟨1, Nat.le_refl _, by omega, by omega, feas_one.mpr ⟨?_, by omega⟩⟩
    rw [List.length_drop]
    omega
  | s + 1, l, B, hn, h, hl => by
    obtain ⟨m, h1, h2, h3, h4⟩ := feas_succ.mp h
    have h5 := feas_len h4
    rw [List.length_drop] at h5
    by_cases hc : s + 2 ≤ l.length - m
    · exact feas_succ.mpr ⟨m, h1, h2, h3, feas_more s (hn.drop m) h4 (by rw [List.length_drop]; omega)⟩
    · have e := seg_add l (i := 0) (j := 1) (k := m) (by omega) (by omega)
      rw [seg_zero, seg_zero] at e
      have n1 := (hn.take 1).sum
      have n2 := hn.seg 1 m
      have e2 : ((l.drop 1).take (m - 1)).sum = seg l 1 m := rfl
      refine feas_succ.mpr ⟨1, Nat.le_refl _, by omega, by omega, feas_succ.mpr ⟨m - 1, by omega, by rw [List.length_drop]; omega, by rw [e2]; omega, ?_⟩⟩
      rw [List.drop_drop]
      have e3 : 1 + (m - 1) = m := by omega
      rw [e3]
      exact h4
theorem feas_up {l : List Int} {B : Int} (hn : NonNeg l) {s : Nat} (h : Feas l (s + 1) B) : ∀ t, s + 1 + t ≤ l.length → Feas l (s + 1 + t) B
  | 0, _ => h
  | t + 1, hl => by
    have ih := feas_up hn h t (by omega)
    have e : s + 1 + t = (s + t) + 1 := by omega
    rw [e] at ih
    have q := feas_more (s + t) hn ih (by omega)
    have e2 : s + 1 + (t + 1) = s + t + 2 := by omega
    rw [e2]
    exact q
/-! ### what a paper shows -/
theorem one_shows : ∀ (ks : List Nat) (l : List Int) (i : Nat) (x : Int), NonNeg l → ks.sum = l.length → l[i]? = some x → ∃ y ∈ pSums l ks, x ≤ y
  | [], l, i, x, _, e, h => by
    have hi := (List.getElem?_eq_some_iff.mp h).1
    simp at e
    omega
  | k :: ks, l, i, x, hn, e, h => by
    rw [List.sum_cons] at e
    by_cases hc : i < k
    · refine ⟨(l.take k).sum, List.mem_cons_self, ?_⟩
      have q := seg_le hn (i := 0) (a := i) (b := i + 1) (j := k) (by omega) (by omega) (by omega)
      rw [seg_one h, seg_zero] at q
      exact q
    · obtain ⟨y, hy, hx⟩ := one_shows ks (l.drop k) (i - k) x (hn.drop k) (by rw [List.length_drop]; omega) (by
        rw [List.getElem?_drop]
        have e2 : k + (i - k) = i := by omega
        rw [e2]
        exact h)
      exact ⟨y, List.mem_cons_of_mem _ hy, hx⟩
theorem many_show : ∀ (ks : List Nat) (l : List Int) (q : Nat → Nat) (num : Int), NonNeg l → ks.sum = l.length → (∀ i ≤ ks.length, q i < l.length) → (∀ i < ks.length, q i < q (i + 1) ∧ num ≤ seg l (q i) (q (i + 1) + 1)) → ∃ y ∈ pSums l ks, num ≤ y
  | [], l, q, num, _, e, h, _ => by
    have := h 0 (Nat.le_refl _)
    simp at e
    omega
  | k :: ks, l, q, num, hn, e, h, hq => by
    rw [List.sum_cons] at e
    rw [List.length_cons] at h hq
    obtain ⟨q0, q1⟩ : q 0 < q 1 ∧ num ≤ seg l (q 0) (q 1 + 1) := hq 0 (by omega)
    by_cases hc : q 1 < k
    · refine ⟨(l.take k).sum, List.mem_cons_self, ?_⟩
      have z := seg_le hn (i := 0) (a := q 0) (b := q 1 + 1) (j := k) (by omega) (by omega) (by omega)
      rw [seg_zero] at z
      omega
    · have mono : ∀ i, i ≤ ks.length → q 1 ≤ q (i + 1) := by
        intro i
        induction i with
        | zero => intro _; exact Nat.le_refl _
        | succ i ih =>
          intro hi
          have a := ih (by omega)
          have b := (hq (i + 1) (by omega)).1
          omega
      obtain ⟨y, hy, hx⟩ := many_show ks (l.drop k) (fun i => q (i + 1) - k) num (hn.drop k) (by rw [List.length_drop]; omega) (fun i hi => by
          have a := h (i + 1) (by omega)
          have b := mono i hi
          rw [List.length_drop]
          omega) (fun i hi => by
          obtain ⟨a, b⟩ := hq (i + 1) (by omega)
          have m1 := mono i (by omega)
          refine ⟨by omega, ?_⟩
          rw [seg_drop]
          have e1 : k + (q (i + 1) - k) = q (i + 1) := by omega
          have e2 : k + (q (i + 1 + 1) - k + 1) = q (i + 1 + 1) + 1 := by omega
          rw [e1, e2]
          exact b)
      exact ⟨y, List.mem_cons_of_mem _ hy, hx⟩
/-! ### the judge -/
def inR (n : Nat) (p : Int) : Bool := decide (0 ≤ p) && decide (p < (n : Int))
def pairOk (c : List Int) (num : Int) (paper : List Int) (i : Nat) : Bool :=
  decide (paper.getD i 0 < paper.getD (i + 1) 0) && decide (num ≤ seg c (paper.getD i 0).toNat ((paper.getD (i + 1) 0).toNat + 1))
def takes (c : List Int) (s : Nat) (num : Int) (paper : List Int) : Bool :=
  if paper.all (inR c.length) = true then
    if paper.length = 1 then decide (num ≤ c.getD (paper.getD 0 0).toNat 0)
    else if paper.length = s + 1 then (List.range s).all (pairOk c num paper) else false
  else false
theorem getD_mem' {α : Type} {l : List α} {i : Nat} {d : α} (h : i < l.length) : l.getD i d ∈ l := by
  rw [List.getD_eq_getElem?_getD, List.getElem?_eq_getElem h]
  exact List.getElem_mem h
theorem getD_lt {l : List Int} {i : Nat} (h : i < l.length) : l[i]? = some (l.getD i 0) := by
  rw [List.getElem?_eq_getElem h, List.getD_eq_getElem?_getD, List.getElem?_eq_getElem h]
  rfl
theorem takes_sound {c : List Int} {s : Nat} {num B : Int} {paper : List Int} (hn : NonNeg c) (ht : takes c s num paper = true) (hf : Feas c s B) : num ≤ B := by
  unfold takes at ht
  by_cases ha : paper.all (inR c.length) = true
  · rw [if_pos ha] at ht
    have hin : ∀ p ∈ paper, 0 ≤ p ∧ p < (c.length : Int) := fun p hp => by
      have q := List.all_eq_true.mp ha p hp
      unfold inR at q
      simpa using q
    obtain ⟨ks, e, ⟨h1, h2⟩, h3⟩ := hf
    by_cases h1' : paper.length = 1
    · rw [if_pos h1'] at ht
      obtain ⟨a, b⟩ := hin _ (getD_mem' (l := paper) (i := 0) (d := 0) (by omega))
      have hi : (paper.getD 0 0).toNat < c.length := by omega
      have hx := getD_lt hi
      obtain ⟨y, hy, hle⟩ := one_shows ks c _ _ hn h2 hx
      have := h3 y hy
      have := of_decide_eq_true ht
      omega
    · rw [if_neg h1'] at ht
      by_cases h2' : paper.length = s + 1
      · rw [if_pos h2'] at ht
        obtain ⟨y, hy, hle⟩ := many_show ks c (fun i => (paper.getD i 0).toNat) num hn h2 (fun i hi => by
            obtain ⟨a, b⟩ := hin _ (getD_mem' (l := paper) (i := i) (d := 0) (by omega))
            omega) (fun i hi => by
            have q := List.all_eq_true.mp ht i (List.mem_range.mpr (by omega))
            unfold pairOk at q
            obtain ⟨q1, q2⟩ := Bool.and_eq_true_iff.mp q
            have q1 := of_decide_eq_true q1
            have q2 := of_decide_eq_true q2
            obtain ⟨a, b⟩ := hin _ (getD_mem' (l := paper) (i := i) (d := 0) (by omega))
            exact ⟨by omega, q2⟩)
        have := h3 y hy
        omega
      · rw [if_neg h2'] at ht
        cases ht
  · rw [if_neg ha] at ht
    cases ht
/-! ### the greedy row of places -/
def nextP (c : List Int) (most : Int) (p : Nat) : Option Nat := (List.range c.length).find? fun x => decide (p < x) && decide (most ≤ seg c p (x + 1))
def gre (c : List Int) (most : Int) : Nat → Nat → List Nat
  | 0, _ => []
  | k + 1, p => match nextP c most p with
    | some x => x :: gre c most k x
    | none => []
theorem nextP_some {c : List Int} {most : Int} {p x : Nat} (h : nextP c most p = some x) : p < x ∧ x < c.length ∧ most ≤ seg c p (x + 1) ∧ ∀ y, p < y → y < x → seg c p (y + 1) < most := by
  unfold nextP at h
  have h1 := List.find?_some h
  have h2 := List.mem_range.mp (List.mem_of_find?_eq_some h)
  obtain ⟨a, b⟩ := Bool.and_eq_true_iff.mp h1
  refine ⟨of_decide_eq_true a, h2, of_decide_eq_true b, fun y hy1 hy2 => ?_⟩
  obtain ⟨_, as, bs, e, hf⟩ := List.find?_eq_some_iff_append.mp h
  have hy : y ∈ as := by
    have hm : y ∈ as ++ x :: bs := by
      rw [← e]
      exact List.mem_range.mpr (by omega)
    rcases List.mem_append.mp hm with q | q
    · exact q
    · have pw : (List.range c.length).Pairwise (· < ·) := List.pairwise_lt_range
      rw [e] at pw
      obtain ⟨_, pw2, _⟩ := List.pairwise_append.mp pw
      rcases List.mem_cons.mp q with z | z
      · omega
      · have := (List.pairwise_cons.mp pw2).1 y z
        omega
  have q := hf y hy
  simp only [Bool.not_eq_true', Bool.and_eq_false_iff, decide_eq_false_iff_not] at q
  rcases q with q | q
  · exact absurd hy1 q
  · omega
theorem nextP_none {c : List Int} {most : Int} {p : Nat} (h : nextP c most p = none) : ∀ y, p < y → y < c.length → seg c p (y + 1) < most := fun y h1 h2 => by
  unfold nextP at h
  have q := List.find?_eq_none.mp h y (List.mem_range.mpr h2)
  simp only [Bool.not_eq_true, Bool.and_eq_false_iff, decide_eq_false_iff_not] at q
  rcases q with q | q
  · exact absurd h1 q
  · omega
/-- what comes first is next -/
theorem nextP_is {c : List Int} {most : Int} {p x : Nat} (h1 : p < x) (h2 : x < c.length) (h3 : most ≤ seg c p (x + 1)) (h4 : ∀ y, p < y → y < x → seg c p (y + 1) < most) : nextP c most p = some x := by
  cases e : nextP c most p with
  | none =>
    have := nextP_none e x h1 h2
    omega
  | some z =>
    obtain ⟨a, b, d, f⟩ := nextP_some e
    have : z = x := by
      rcases Nat.lt_trichotomy z x with q | q | q
      · have := h4 z a q
        omega
      · exact q
      · have := f x h1 q
        omega
    rw [this]
theorem nextP_no {c : List Int} {most : Int} {p : Nat} (h4 : ∀ y, p < y → y < c.length → seg c p (y + 1) < most) : nextP c most p = none := by
  cases e : nextP c most p with
  | none => rfl
  | some z =>
    obtain ⟨a, b, d, f⟩ := nextP_some e
    have := h4 z a b
    omega
theorem gre_len (c : List Int) (most : Int) : ∀ k p, (gre c most k p).length ≤ k
  | 0, _ => Nat.le_refl _
  | k + 1, p => by
    unfold gre
    cases nextP c most p with
    | none => exact Nat.zero_le _
    | some x =>
      show (x :: gre c most k x).length ≤ k + 1
      rw [List.length_cons]
      have := gre_len c most k x
      omega
theorem gre_lt (c : List Int) (most : Int) : ∀ k p, ∀ x ∈ gre c most k p, x < c.length
  | 0, _, x, h => by cases h
  | k + 1, p, x, h => by
    unfold gre at h
    cases e : nextP c most p with
    | none =>
      rw [e] at h
      cases h
    | some z =>
      rw [e] at h
      have h' : x ∈ z :: gre c most k z := h
      rcases List.mem_cons.mp h' with q | q
      · rw [q]
        exact (nextP_some e).2.1
      · exact gre_lt c most k z x q
/-- two neighbors of the row -/
theorem gre_step (c : List Int) (most : Int) : ∀ k p i, i < (gre c most k p).length → ∃ a b, (p :: gre c most k p)[i]? = some a ∧ (p :: gre c most k p)[i + 1]? = some b ∧ a < b ∧ most ≤ seg c a (b + 1)
  | 0, _, i, h => by
    have : i < ([] : List Nat).length := h
    simp at this
  | k + 1, p, i, h => by
    unfold gre at h ⊢
    cases e : nextP c most p with
    | none =>
      rw [e] at h
      have : i < ([] : List Nat).length := h
      simp at this
    | some z =>
      rw [e] at h
      have h' : i < (z :: gre c most k z).length := h
      show ∃ a b, (p :: z :: gre c most k z)[i]? = some a ∧ (p :: z :: gre c most k z)[i + 1]? = some b ∧ a < b ∧ most ≤ seg c a (b + 1)
      cases i with
      | zero =>
        obtain ⟨a, _, d, _⟩ := nextP_some e
        exact ⟨p, z, rfl, rfl, a, d⟩
      | succ i =>
        rw [List.length_cons] at h'
        obtain ⟨a, b, h1, h2, h3⟩ := gre_step c most k z i (by omega)
        exact ⟨a, b, by simpa using h1, by simpa using h2, h3⟩
/-- a row that ends early shows a lower cut -/
theorem gre_short {c : List Int} {most : Int} (hs : ∀ x ∈ c, x < most) : ∀ k p, p < c.length → (gre c most k p).length < k → Feas (c.drop p) ((gre c most k p).length + 1) (most - 1)
  | 0, _, _, h => by
    have : (0 : Nat) < 0 := h
    omega
  | k + 1, p, hp, h => by
    have one : seg c p (p + 1) < most := by
      have e : c[p]? = some c[p] := List.getElem?_eq_getElem hp
      rw [seg_one e]
      exact hs _ (List.getElem_mem hp)
    unfold gre at h ⊢
    cases e : nextP c most p with
    | none =>
      show Feas (c.drop p) 1 (most - 1)
      refine feas_one.mpr ⟨by rw [List.length_drop]; omega, ?_⟩
      rw [← seg_end c (i := p) (Nat.le_refl _)]
      by_cases hc : p + 1 = c.length
      · rw [← hc]
        omega
      · have q := nextP_none e (c.length - 1) (by omega) (by omega)
        have e2 : c.length - 1 + 1 = c.length := by omega
        rw [e2] at q
        omega
    | some z =>
      rw [e] at h
      have h' : (z :: gre c most k z).length < k + 1 := h
      rw [List.length_cons] at h'
      obtain ⟨a, b, d, f⟩ := nextP_some e
      have ih := gre_short hs k z b (by omega)
      show Feas (c.drop p) ((z :: gre c most k z).length + 1) (most - 1)
      rw [List.length_cons]
      refine feas_succ.mpr ⟨z - p, by omega, by rw [List.length_drop]; omega, ?_, ?_⟩
      · have e2 : ((c.drop p).take (z - p)).sum = seg c p z := rfl
        rw [e2]
        by_cases hc : p + 1 = z
        · rw [← hc]
          omega
        · have q := f (z - 1) (by omega) (by omega)
          have e3 : z - 1 + 1 = z := by omega
          rw [e3] at q
          omega
      · rw [List.drop_drop]
        have e3 : p + (z - p) = z := by omega
        rw [e3]
        exact ih
/-- the paper that is due -/
def due (c : List Int) (s : Nat) (most : Int) : List Nat :=
  match c.findIdx? (fun x => decide (most ≤ x)) with
  | some i => [i]
  | none => 0 :: gre c most s 0
theorem due_one {c : List Int} {s : Nat} {most : Int} {i : Nat} (e : c.findIdx? (fun x => decide (most ≤ x)) = some i) : due c s most = [i] := by
  unfold due
  rw [e]
theorem due_many {c : List Int} {s : Nat} {most : Int} (e : c.findIdx? (fun x => decide (most ≤ x)) = none) : due c s most = 0 :: gre c most s 0 := by
  unfold due
  rw [e]
theorem takes_one {c : List Int} {s : Nat} {num : Int} {i : Nat} (hi : i < c.length) (hp : num ≤ c[i]) : takes c s num [(i : Int)] = true := by
  have h1 : ([(i : Int)] : List Int).all (inR c.length) = true := by
    unfold inR
    simp
    omega
  unfold takes
  rw [if_pos h1, if_pos (by rfl)]
  show decide (num ≤ c.getD (i : Int).toNat 0) = true
  rw [Int.toNat_natCast, List.getD_eq_getElem?_getD, List.getElem?_eq_getElem hi]
  exact decide_eq_true hp
theorem due_lt {c : List Int} {s : Nat} {most : Int} (h0 : 0 < c.length) : ∀ x ∈ due c s most, x < c.length := fun x hx => by
  unfold due at hx
  cases e : c.findIdx? (fun x => decide (most ≤ x)) with
  | some i =>
    rw [e] at hx
    have hx' : x ∈ [i] := hx
    rw [List.mem_singleton.mp hx']
    exact (List.findIdx?_eq_some_iff_getElem.mp e).1
  | none =>
    rw [e] at hx
    have hx' : x ∈ 0 :: gre c most s 0 := hx
    rcases List.mem_cons.mp hx' with q | q
    · rw [q]; exact h0
    · exact gre_lt c most s 0 x q
theorem due_len {c : List Int} {s : Nat} {most : Int} : (due c s most).length ≤ s + 1 ∧ 1 ≤ (due c s most).length := by
  unfold due
  cases c.findIdx? (fun x => decide (most ≤ x)) with
  | some i => exact ⟨by show 1 ≤ s + 1; omega, Nat.le_refl _⟩
  | none =>
    show (0 :: gre c most s 0).length ≤ s + 1 ∧ 1 ≤ (0 :: gre c most s 0).length
    rw [List.length_cons]
    have := gre_len c most s 0
    omega
theorem getD_map {l : List Nat} {i : Nat} {a : Nat} (h : l[i]? = some a) : (l.map (fun x : Nat => (x : Int))).getD i 0 = (a : Int) := by
  rw [List.getD_eq_getElem?_getD, List.getElem?_map, h]
  rfl
theorem due_takes {c : List Int} {s : Nat} {most : Int} (hn : NonNeg c) (hs1 : 1 ≤ s) (hs2 : s ≤ c.length) (hm : IsMin c s most) : takes c s most ((due c s most).map fun x : Nat => (x : Int)) = true := by
  have hlt := due_lt (c := c) (s := s) (most := most) (by omega)
  have hall : ((due c s most).map fun x : Nat => (x : Int)).all (inR c.length) = true := by
    rw [List.all_eq_true]
    intro p hp
    obtain ⟨x, hx, rfl⟩ := List.mem_map.mp hp
    have := hlt x hx
    unfold inR
    simp
    omega
  cases e : c.findIdx? (fun x => decide (most ≤ x)) with
  | some i =>
    obtain ⟨hi, hp, _⟩ := List.findIdx?_eq_some_iff_getElem.mp e
    rw [due_one e]
    exact takes_one hi (of_decide_eq_true hp)
  | none =>
    have hs : ∀ x ∈ c, x < most := fun x hx => by
      have q := List.findIdx?_eq_none_iff.mp e x hx
      have := of_decide_eq_false q
      omega
    have hlen : (gre c most s 0).length = s := by
      have h1 := gre_len c most s 0
      rcases Nat.lt_or_ge (gre c most s 0).length s with q | q
      · have f := gre_short hs s 0 (by omega) q
        rw [List.drop_zero] at f
        have f2 := feas_up hn f (s - ((gre c most s 0).length + 1)) (by omega)
        have e2 : (gre c most s 0).length + 1 + (s - ((gre c most s 0).length + 1)) = s := by omega
        rw [e2] at f2
        have := (hm _).mp f2
        omega
      · omega
    rw [due_many e] at hall ⊢
    unfold takes
    rw [if_pos hall, List.length_map, List.length_cons, hlen, if_neg (by omega), if_pos rfl, List.all_eq_true]
    intro i hi
    have hi := List.mem_range.mp hi
    obtain ⟨a, b, h1, h2, h3, h4⟩ := gre_step c most s 0 i (by omega)
    unfold pairOk
    rw [getD_map h1, getD_map h2]
    rw [decide_eq_true (show (a : Int) < (b : Int) by omega)]
    show decide (most ≤ seg c (a : Int).toNat ((b : Int).toNat + 1)) = true
    exact decide_eq_true h4
/-! ### the list of all cuts -/
def left (n s k : Nat) (cut : List Nat) : Nat := n - cut.sum - (s - 1 - k)
def ext (n s k : Nat) (cut : List Nat) : List (List Nat) :=
  (((List.range (left n s k cut)).map (· + 1)).filter fun m => decide (k + 1 < s) || decide (m = left n s k cut)).map fun m => cut ++ [m]
def cutsM (n s : Nat) : Nat → List (List Nat)
  | 0 => [[]]
  | k + 1 => (cutsM n s k).flatMap (ext n s k)
theorem sum_snoc (l : List Nat) (m : Nat) : (l ++ [m]).sum = l.sum + m := by simp
structure Part (n s k : Nat) (cut : List Nat) : Prop where
  len : cut.length = k
  pos : ∀ x ∈ cut, 1 ≤ x
  room : cut.sum + (s - k) ≤ n
  full : k = s → 0 < s → cut.sum = n
theorem mem_ext {n s k : Nat} {cut x : List Nat} : x ∈ ext n s k cut ↔ ∃ m, 1 ≤ m ∧ m ≤ left n s k cut ∧ (k + 1 < s ∨ m = left n s k cut) ∧ x = cut ++ [m] := by
  unfold ext
  rw [List.mem_map]
  constructor
  · rintro ⟨m, hm, rfl⟩
    obtain ⟨h1, h2⟩ := List.mem_filter.mp hm
    obtain ⟨j, hj, rfl⟩ := List.mem_map.mp h1
    have hj := List.mem_range.mp hj
    refine ⟨j + 1, by omega, by omega, ?_, rfl⟩
    simpa using h2
  · rintro ⟨m, h1, h2, h3, rfl⟩
    refine ⟨m, List.mem_filter.mpr ⟨List.mem_map.mpr ⟨m - 1, List.mem_range.mpr (by omega), by omega⟩, ?_⟩, rfl⟩
    simpa using h3
theorem cuts_part {n s : Nat} (hs : s ≤ n) : ∀ k, k ≤ s → ∀ cut ∈ cutsM n s k, Part n s k cut
  | 0, _, cut, h => by
    have h' : cut ∈ [([] : List Nat)] := h
    rw [List.mem_singleton.mp h']
    exact ⟨rfl, fun x hx => (by cases hx), (by simp; omega), fun e h => (by omega)⟩
  | k + 1, hk, cut, h => by
    have h' : cut ∈ (cutsM n s k).flatMap (ext n s k) := h
    obtain ⟨c0, hc, hx⟩ := List.mem_flatMap.mp h'
    have P := cuts_part hs k (by omega) c0 hc
    obtain ⟨m, h1, h2, h3, rfl⟩ := mem_ext.mp hx
    have hr := P.room
    unfold left at h2 h3
    refine ⟨by rw [List.length_append, P.len]; rfl, fun x hx => ?_, ?_, fun e _ => ?_⟩
    · rcases List.mem_append.mp hx with q | q
      · exact P.pos x q
      · rw [List.mem_singleton.mp q]; exact h1
    · rw [sum_snoc]
      omega
    · rw [sum_snoc]
      rcases h3 with q | q
      · omega
      · omega
theorem cuts_all {n s : Nat} {ks : List Nat} (h : IsCut n ks) (hl : ks.length = s) : ∀ k, k ≤ s → ks.take k ∈ cutsM n s k
  | 0, _ => List.mem_singleton.mpr rfl
  | k + 1, hk => by
    have ih := cuts_all h hl k (by omega)
    have hkl : k < ks.length := by omega
    show ks.take (k + 1) ∈ (cutsM n s k).flatMap (ext n s k)
    refine List.mem_flatMap.mpr ⟨_, ih, mem_ext.mpr ⟨ks[k], h.1 _ (List.getElem_mem hkl), ?_, ?_, ?_⟩⟩
    · have e := List.take_append_drop (k + 1) ks
      have e2 := congrArg List.sum e
      rw [List.sum_append, List.take_add_one, List.getElem?_eq_getElem hkl, h.2] at e2
      have e3 : (List.take k ks ++ (some ks[k]).toList).sum = (List.take k ks).sum + ks[k] := sum_snoc _ _
      rw [e3] at e2
      have g := sum_ge (ks.drop (k + 1)) fun x hx => h.1 x (List.mem_of_mem_drop hx)
      rw [List.length_drop] at g
      unfold left
      omega
    · by_cases hc : k + 1 < s
      · exact .inl hc
      · right
        have e := List.take_append_drop (k + 1) ks
        have e2 := congrArg List.sum e
        rw [List.sum_append, List.take_add_one, List.getElem?_eq_getElem hkl, h.2] at e2
        have e3 : (List.take k ks ++ (some ks[k]).toList).sum = (List.take k ks).sum + ks[k] := sum_snoc _ _
        have e4 : ks.drop (k + 1) = [] := List.drop_eq_nil_of_le (by omega)
        rw [e3, e4] at e2
        unfold left
        simp at e2
        omega
    · rw [List.take_add_one, List.getElem?_eq_getElem hkl]
      rfl
theorem cuts_mem {n s : Nat} (hs1 : 1 ≤ s) (hs : s ≤ n) {ks : List Nat} : ks ∈ cutsM n s s ↔ ks.length = s ∧ IsCut n ks := by
  constructor
  · intro h
    have P := cuts_part hs s (Nat.le_refl _) ks h
    exact ⟨P.len, P.pos, P.full rfl hs1⟩
  · rintro ⟨h1, h2⟩
    have q := cuts_all h2 h1 s (Nat.le_refl _)
    rwa [List.take_of_length_le (by omega)] at q
theorem cuts_some {n s : Nat} (hs1 : 1 ≤ s) (hs : s ≤ n) : 0 < (cutsM n s s).length := by
  have h : ((n + 1 - s) :: List.replicate (s - 1) 1) ∈ cutsM n s s := (cuts_mem hs1 hs).mpr ⟨by rw [List.length_cons, List.length_replicate]; omega, fun k hk => by
    rcases List.mem_cons.mp hk with q | q
    · omega
    · rw [List.eq_of_mem_replicate q]
      omega, by rw [List.sum_cons, List.sum_replicate_nat]; omega⟩
  exact List.length_pos_of_mem h
theorem cuts_few : ∀ n, n < 9 → ∀ s, s < 9 → ∀ k, k < 9 → (cutsM n s k).length ≤ 4096 := by decide +kernel
/-- the least of the greatest sums -/
theorem min_of {c : List Int} {s : Nat} {vals : List Int} {m : Int} (hs1 : 1 ≤ s) (hs : s ≤ c.length) (hv : vals.length = (cutsM c.length s s).length)
    (hg : ∀ (i : Nat) (v : Int) (ks : List Nat), vals[i]? = some v → (cutsM c.length s s)[i]? = some ks → ∀ B, v ≤ B ↔ ∀ y ∈ pSums c ks, y ≤ B) (hm : m ∈ vals) (hle : ∀ y ∈ vals, m ≤ y) : IsMin c s m := fun B => by
  constructor
  · rintro ⟨ks, e, hc, h⟩
    obtain ⟨i, hi⟩ := List.getElem?_of_mem ((cuts_mem hs1 hs).mpr ⟨e, hc⟩)
    have hil : i < vals.length := by
      rw [hv]
      exact (List.getElem?_eq_some_iff.mp hi).1
    have q := (hg i vals[i] ks (List.getElem?_eq_getElem hil) hi B).mpr h
    exact Int.le_trans (hle _ (List.getElem_mem hil)) q
  · intro h
    obtain ⟨i, hi⟩ := List.getElem?_of_mem hm
    have hil : i < (cutsM c.length s s).length := by
      rw [← hv]
      exact (List.getElem?_eq_some_iff.mp hi).1
    have e := List.getElem?_eq_getElem hil
    obtain ⟨e1, e2⟩ := (cuts_mem hs1 hs).mp (List.getElem_mem hil)
    exact ⟨_, e1, e2, (hg i m _ hi e B).mp h⟩
end K10

set_option Elab.async false
set_option linter.all false
set_option maxRecDepth 100000
set_option maxHeartbeats 4000000
/-! K10Rules: own rules beside the hand layer. -/
namespace K10
open PySem PySem.Spec PyProof.Rows L2
/-! ### sum of a tuple -/
section
variable {X : Cx}
def rSumT (K : PySem.W.Frag) : List V → Hp → VK → Prop := fun vs H Q => ∃ (a : Addr) (ns : List Int), vs = [V.ref a] ∧ SqT K H a (ns.map V.int) ∧ Q (.int ns.sum) H
theorem cr_sumT (hc : X.calm = true) : CallR X (.builtin "sum") (rSumT X.K) := by
  rintro pins s σ H vs us Q I r ⟨a, ns, rfl, ht, q⟩
  obtain ⟨its, rv, p, _⟩ := I.tuple ht
  rw [Vals.ref1 r]
  obtain ⟨xs, hx⟩ := rv.ints.allInts.items
  have hn : numsOf its.toArray.toList = ns := rv.ints.numsOf
  rw [hx, nums_intItems] at hn
  have p' : s.heap.IsTuple a (intItems xs) := hx ▸ p
  refine PySem.W.ktm_sumG (I.ok.hd hc) p' fun h' tk t' hk => ?_
  rw [preSum_eq, List.take_of_length_le (by simp), hn]
  exact ⟨.int _, H, I.kept hk, ⟨_, rfl⟩, q⟩
end
/-! ### either of two walks -/
section
variable {X : Cx} {tg iter : Expr} {w1 w2 : TI}
theorem pi_or (h1 : PI X tg iter w1) (h2 : PI X tg iter w2) : PI X tg iter (fun σ H R => w1 σ H R ∨ w2 σ H R) :=
  ⟨fun pins s σ H R I h => h.elim (h1.run pins s σ H R I) (h2.run pins s σ H R I)⟩
end
/-! ### enumerate of a tuple -/
def IteT (K : PySem.W.Frag) (a : Addr) : It :=
  ⟨fun i H => ∃ (xs : List V) (x : V), SqT K H a xs ∧ xs[i]? = some x, fun i H v H' => ∃ T x, v = .ref T ∧ H T = none ∧ H' = upd H T (.tup [.int (i : Nat), x]) ∧ ∀ xs, SqT K H a xs → xs[i]? = some x, fun i H => ∃ xs : List V, SqT K H a xs ∧ xs.length = i⟩
theorem turn_enumT {P : Program} {w : World} {K : PySem.W.Frag} {elts : List Expr} {kk : Nat} {tpos : Pos} (a e it : Addr) :
    Turn P w K (.Tuple elts kk tpos) (IteT K a) [e, it] e (fun i h => (∃ old, IsEnum h e it ((i : Nat) : Int) old) ∧ h.IsTupleIter it a i ∧ e ≠ it) where
  mem := by simp
  obj := fun i h st b hb => by
    obtain ⟨⟨old, he⟩, ⟨o, ho, _, hd⟩, _⟩ := st
    rcases (show b = e ∨ b = it by simpa using hb) with z | z
    · subst z
      exact ⟨_, he, fun v q => nomatch q⟩
    · subst z
      exact ⟨o, ho, fun v q => by rw [hd] at q; cases q⟩
  keep := fun i h h' st k => let ⟨⟨old, he⟩, hi, hne⟩ := st; ⟨⟨old, k e (by simp) _ he⟩, hi.at fun o q => k it (by simp) o q, hne⟩
  item := by
    intro X hP hw hK hc i pins s σ H E I hf st hg
    subst hP hw hK
    obtain ⟨⟨old, he⟩, hit, hne⟩ := st
    obtain ⟨xs, x, hq, hx⟩ := hg
    obtain ⟨its, rv, p, _⟩ := I.tuple hq
    obtain ⟨u, hu, ru⟩ := rv.get hx
    have hel : e < s.heap.objs.size := Heap.lt_size he
    have hil : it < s.heap.objs.size := by obtain ⟨_, q, _⟩ := hit; exact Heap.lt_size q
    have hta : a ≠ it := fun z => by
      obtain ⟨o1, e1, c1, _⟩ := hit
      obtain ⟨o2, e2, c2, _⟩ := p
      rw [z, e1] at e2
      cases e2
      rw [c1] at c2
      exact absurd c2 (by decide)
    have hea : e ≠ a := fun z => by
      obtain ⟨o2, e2, c2, _⟩ := p
      have he1 : s.heap.get? e = some _ := he
      rw [z, e2] at he1
      cases he1
      have c3 : Value.type "enumerate" = Value.type "tuple" := c2
      exact absurd c3 (by decide)
    have hi : i < its.toArray.size := by
      have := (List.getElem?_eq_some_iff.mp hu).1
      simpa using this
    have D := Draws.tuple (prog := X.prog) (w := X.w) (A := X.A.in1) (I.ok.hd hc) it a hta its.toArray
    refine wpAny_pyNext_enum_itemC D he ⟨hit, p⟩ hi hne (by simp [hne, hea]) fun y h' tk hy ho hst hT hsz hk => ?_
    have ey : y = u := by
      have z : its.toArray[i]? = some u := by simpa using hu
      rw [z] at hy
      exact (Option.some.inj hy).symm
    subst ey
    refine ⟨_, rfl, wpAny_letOwnedTupleGo_enum (s := { s with heap := h', toks := tk + 1 }) ho fun h'' he' sb => ?_⟩
    have hT2 : h''.get? s.heap.objs.size = some { cls := .type "tuple", data := .seq #[.int ((i : Nat) : Int) tk, y] } := (sb.2 _ (Nat.ne_of_gt hel)).trans hT
    have new : ObjOk X.prog X.w (upd H s.heap.objs.size (.tup [.int (i : Nat), x])) h'' s.heap.objs.size (.tup [.int (i : Nat), x]) :=
      ⟨by show 2 ≤ sizeLine; decide, [.int ((i : Nat) : Int) tk, y], .cons ⟨_, rfl⟩ (.cons ru .nil), ⟨_, hT2, rfl, _, rfl⟩⟩
    have I1 : Inv X pins σ (upd H s.heap.objs.size (.tup [.int (i : Nat), x])) { s with heap := h'', toks := tk + 1 } :=
      I.turnedNew (ch := [e, it]) (fun b ob hb q => (sb.2 b (fun z => hb (by simp [z]))).trans (hk b ob (fun z => hb (by simp [z])) (fun z => hb (by simp [z])) q)) hf (Nat.le_refl _) new
    have e1 : ((i : Nat) : Int) + 1 = ((i + 1 : Nat) : Int) := by omega
    rw [e1] at he'
    refine ⟨.ref s.heap.objs.size, _, I1, rfl, ⟨_, x, rfl, I.hok.fresh (Nat.le_refl _), rfl, fun ys hy => by rw [I.tuple_inj hy hq]; exact hx⟩, ⟨⟨y, he'⟩, hst.1.at fun o q => (sb.2 it (Ne.symm hne)).trans q, hne⟩, fun b hb => ?_⟩
    have hb' : b < s.heap.objs.size := by
      rcases (show b = e ∨ b = it by simpa using hb) with z | z
      · rw [z]; exact hel
      · rw [z]; exact hil
    rw [upd_ne (Nat.ne_of_lt hb')]
    exact (hf b hb).1
  done := by
    intro X hP hw hK hc i pins s σ H E I hf st hg
    subst hP hw hK
    obtain ⟨⟨old, he⟩, hit, hne⟩ := st
    obtain ⟨xs, hq, hx⟩ := hg
    obtain ⟨its, rv, p, _⟩ := I.tuple hq
    obtain ⟨f0, f1, f2, f3, f4, f5⟩ := hf it (by simp)
    have hta : a ≠ it := fun z => by
      obtain ⟨o1, e1, c1, _⟩ := hit
      obtain ⟨o2, e2, c2, _⟩ := p
      rw [z, e1] at e2
      cases e2
      rw [c1] at c2
      exact absurd c2 (by decide)
    have hl := rv.length
    have hn : its.toArray.size = i := by
      rw [List.size_toArray]
      omega
    have D := Draws.tuple (prog := X.prog) (w := X.w) (A := X.A.in1) (I.ok.hd hc) it a hta its.toArray
    rw [hn] at D
    exact wpAny_pyNext_enum_endD D he ⟨hit, p⟩ fun h' eb => ⟨rfl, I.turned (t' := s.toks) (fun b o hb q => eb b o hb q) f0 f1 f3 f4 f5⟩
  self := fun A i s Q E st h => by
    obtain ⟨⟨old, he⟩, _⟩ := st
    exact wpAny_pyIter_enum he h
theorem enum_newT (t : Addr) (items : Array Value) :
    Meets (Builtin.«enumerate.__new__» ⟨[.type "enumerate", .ref t], []⟩) (fun _ R s => s.heap.IsTuple t items ∧
      R (.ok (.ret (.ref (s.heap.push { cls := .type "tuple_iterator", data := .fields #[.ref t, .int 0 0] }).objs.size)))
        { s with heap := (s.heap.push { cls := .type "tuple_iterator", data := .fields #[.ref t, .int 0 0] }).push { cls := .type "enumerate", data := .fields #[.none, .bool false, .ref s.heap.objs.size, rawInt 0, .none, .none] } }) :=
  .of_wp fun prog w A R s h => by
    obtain ⟨hp, g, d, tk, os⟩ := s
    obtain ⟨h1, h⟩ := h
    have hsub := sub_enumerate
    have q1 : ∀ {A' : Around} {E : Value → Shared → Prop} {Q : Value → Shared → Prop}, Q (.ref hp.objs.size) ⟨hp.push { cls := .type "tuple_iterator", data := .fields #[.ref t, .int 0 0] }, g, d, tk, os⟩ → wpAny (model prog w) A' (pyIter (.ref t)) Q E ⟨hp, g, d, tk, os⟩ :=
      fun q => wpAny_pyIter_tuple (s := ⟨hp, g, d, tk, os⟩) h1 q
    wp_walk using q1
    refine wpAny_stack_any fun st => wpAny_pure ?_
    split
    · rename_i c _ _ _ _ _
      cases (c == Value.type "enumerate")
      · wp_walk using q1
        exact ⟨_, rfl, h⟩
      · wp_walk using q1
        exact ⟨_, rfl, h⟩
    · wp_walk using q1
      exact ⟨_, rfl, h⟩
theorem call_enumT {prog : Program} {w : World} {A : Around} {E : Value → Shared → Prop} {s : Shared} {t : Addr} {items : Array Value} {Q : Value → Shared → Prop} (hT : s.heap.IsTuple t items)
    (h : ∀ h', IsEnum h' (s.heap.objs.size + 1) s.heap.objs.size 0 .none → h'.IsTupleIter s.heap.objs.size t 0 → (∀ b o, s.heap.get? b = some o → h'.get? b = some o) → Q (.ref (s.heap.objs.size + 1)) { s with heap := h' }) :
    wpAny (model prog w) A (call (.type "enumerate") [.ref t]) Q E s := by
  refine callType_new F.called_enumerate (by decide) (F.typeCall_enumerate_1 _) (F.newCall_enumerate_1 _) (fun obj => F.args_object_init_2 obj _) F.entry_enumerate_new (enum_newT t items) ⟨hT, ?_⟩
  generalize ho : ({ cls := .type "tuple_iterator", data := .fields #[.ref t, .int 0 0] } : Obj) = o
  have fo : o.isFreed = false := by rw [← ho]; rfl
  have hz : (s.heap.push o).objs.size = s.heap.objs.size + 1 := Heap.size_push ..
  have he := Heap.get?_push_size (s.heap.push o) (o := { cls := .type "enumerate", data := .fields #[.none, .bool false, .ref s.heap.objs.size, rawInt 0, .none, .none] }) rfl
  rw [hz] at he
  have hi : ((s.heap.push o).push { cls := .type "enumerate", data := .fields #[.none, .bool false, .ref s.heap.objs.size, rawInt 0, .none, .none] }).get? s.heap.objs.size = some o := Heap.get?_push_of_some _ (Heap.get?_push_size _ fo)
  show _ ∧ _
  rw [hz]
  exact ⟨⟨_, he, rfl⟩, h _ he ⟨o, hi, by rw [← ho], by rw [← ho] <;> rfl⟩ fun b ob q => Heap.get?_push_of_some _ (Heap.get?_push_of_some _ q)⟩
/-- for i, x in enumerate(v), v a list or a tuple -/
def iEnumA (K : PySem.W.Frag) (ta : TA) : TI := fun σ H R => ta σ H fun vs H1 => ∃ a xs, vs = [.ref a] ∧ ((SqL K H1 a xs ∧ R (Ite K a) H1) ∨ (SqT K H1 a xs ∧ R (IteT K a) H1))
theorem pi_enumA {X : Cx} {e : Expr} {ta : TA} {p pos tpos : Pos} {elts : List Expr} {kk : Nat} (hg : Gl X "enumerate") (hm : X.mg "enumerate" = none) (ha : PA X [e] ta) (hs : starEach [e] X.env = [(false, eval e X.env)] := by rfl) :
    PI X (.Tuple elts kk tpos) (.Call (.Name "enumerate" p) [e] [] pos) (iEnumA X.K ta) := by
  refine ⟨fun pins s σ H R I h => ?_⟩
  refine Call_ (ld_blt I hg hm boot_enumerate (PyProof.Rows.callWith_type1 (thn (ha.run pos pins s σ H _ I h) fun us s1 ⟨vs, H1, I1, r1, q1⟩ => ?_) hs rfl))
  obtain ⟨a, xs, rfl, q⟩ := q1
  rw [Vals.ref1 r1]
  have two : ∀ b ∈ [s1.heap.objs.size + 1, s1.heap.objs.size], FpOk X pins H1 b := fun b hb => by
    have hle : s1.heap.objs.size ≤ b := by
      rcases (show b = s1.heap.objs.size + 1 ∨ b = s1.heap.objs.size by simpa using hb) with z | z
      · rw [z]; exact Nat.le_add_right _ _
      · rw [z]; exact Nat.le_refl _
    exact I1.fpOk hle (I1.hok.fresh hle)
  rcases q with ⟨hq, q⟩ | ⟨hq, q⟩
  · obtain ⟨its, rv, p', _⟩ := I1.list hq
    refine call_enumerate_list p'.isList fun h' he hit hsz hk => wpAny_pyIter_enum he ?_
    exact ⟨s1.heap.objs.size + 1, _, _, _, H1, rfl, I1.kept (t' := s1.toks) hk, turn_enum a (s1.heap.objs.size + 1) s1.heap.objs.size, ⟨⟨.none, he⟩, hit, Nat.succ_ne_self _⟩, two, q⟩
  · obtain ⟨its, rv, p', _⟩ := I1.tuple hq
    refine call_enumT (show s1.heap.IsTuple a its.toArray from p') fun h' he hit hk => wpAny_pyIter_enum he ?_
    exact ⟨s1.heap.objs.size + 1, _, _, _, H1, rfl, I1.kept (t' := s1.toks) hk, turn_enumT a (s1.heap.objs.size + 1) s1.heap.objs.size, ⟨⟨.none, he⟩, hit, Nat.succ_ne_self _⟩, two, q⟩
end K10

set_option Elab.async false
set_option linter.all false
set_option maxRecDepth 100000
set_option maxHeartbeats 4000000
namespace K10
open PySem PySem.Spec PyProof.Rows L2
/-! ### a call by keywords alone, in the parameters' order -/
def tCallW (m : Nat) (sp : Sp) (E : XK) (tk : TA) : TE := fun σ H Q => tk σ H fun zs H2 => zs.length = m ∧ sp zs H2 Q E
/-- how it binds -/
def KwAll (fd : FuncData) (ps : List Str) : Prop := ∀ ws : List Value, ws.length = ps.length → bindArgs fd ⟨[], ps.zip ws⟩ = pure (ps.zip ws)
section
variable {X : Cx} {CX : CXT} {k : Nat} {f : Addr} {fd : FuncData} {ps : List Str} {sp : Sp} {E : XK} {x : Str} {p pos : Pos} {kws : List Keyword} {tk : TA}
theorem pe_callW (F : FnOk X.prog X.w X.K X.mg X.base CX k f fd ps sp) (hr : Room k X.A) (hg : Gl X x) (hm : X.mg x = some (.ref f)) (hk : PySem.W.keepIn X.K (.ref f) = true) (hb : KwAll fd ps) (hx : Passes CX X E)
    (hkw : PK X kws tk) (hall : (backToKw pos (keywordEach kws X.env)).all (·.1.isSome) = true := by rfl) (hks : (backToKw pos (keywordEach kws X.env)).filterMap (·.1) = ps := by rfl)
    (hdb : (x == ("__debug__" : Str)) = false := by decide)
    (hpl : ((backTo pos (starEach [] X.env)).any (·.1) || (backToKw pos (keywordEach kws X.env)).any (·.1.isNone)) = false := by rfl) :
    PE X (.Call (.Name x p) [] kws pos) (tCallW ps.length sp E tk) := by
  constructor
  intro pins s σ H Q I h
  apply wpAny_Call_Name_kw
  apply ld_glob I hg hm _ hdb
  apply PySem.W.callWith_KW0 (h₀ := X.base) I.ok.mod.kin hk hall _ hpl
  apply thn (hkw.run pos pins s σ H _ I h)
  rintro ws s2 ⟨zs, H2, I2, rz, hl, q⟩
  have hw : ws.length = ps.length := rz.length.symm.trans hl
  refine ⟨I2.kIn, ?_⟩
  rw [hks]
  refine wpAny_call (codeAny_mono (F.run X.A X.stack s2 H2 ⟨[], ps.zip ws⟩ ws zs Q E hr I2.env0 (.of_eq (hb ws hw)) rz q) ?_)
  intro r s' hq
  match r, hq with
  | .error e, hq => exact hx pins σ H2 s2 e s' I2 hq
  | .ok (.ret u), hq => exact I2.after hq
  | .ok .next, hq => exact False.elim hq
  | .ok .brk, hq => exact False.elim hq
  | .ok .cont, hq => exact False.elim hq
end
/-! ### repr -/
/-- the text of a value -/
inductive Shown (K : PySem.W.Frag) (H : Hp) : V → Str → Prop
  | int {i : Int} (h : i.natAbs.log2 < 1920) : Shown K H (.int i) (toString i)
  | bl (b : Bool) : Shown K H (.bl b) (if b then "True" else "False")
  | non : Shown K H .non "None"
  | str {x : Str} (h : (reprText x).length ≤ sizeLine) : Shown K H (.str x) (reprText x)
  | tup {a : Addr} {ns : List Int} (ht : SqT K H a (ns.map V.int)) (h : ∀ n ∈ ns, n.natAbs.log2 < 1920) (hz : (tupleText (ns.map fun n : Int => (toString n : Str))).length ≤ sizeLine) : Shown K H (.ref a) (tupleText (ns.map fun n : Int => (toString n : Str)))
def rRepr (K : PySem.W.Frag) : List V → Hp → VK → Prop := fun xs H Q => ∃ v t, xs = [v] ∧ Shown K H v t ∧ Q (.str t) H
theorem ints_shown {prog : Program} {w : World} : ∀ {ns : List Int} {its : List Value}, Vals (ns.map V.int) its → (∀ n ∈ ns, n.natAbs.log2 < 1920) → ReprAll prog w its (ns.map fun n : Int => (toString n : Str))
  | [], _, r, _ => by
    cases r
    exact .nil
  | n :: ns, _, r, h => by
    cases r with
    | cons r1 r2 =>
      obtain ⟨t, rfl⟩ := r1
      exact .cons (ReprIs.int t (h n List.mem_cons_self)) (ints_shown r2 fun m hm => h m (List.mem_cons_of_mem _ hm))
theorem cr_repr {X : Cx} (hg : X.A.guards = some []) (hu : X.A.units + 2 < cLine) : CallR X (.builtin "repr") (rRepr X.K) := by
  rintro pins s σ H xs us Q I r ⟨v, t, rfl, hv, q⟩
  match us, r with
  | [u], .cons ru .nil =>
    cases hv with
    | int h =>
      obtain ⟨tk, rfl⟩ := ru
      exact PySem.P.repr_of_int h ⟨.str _, H, I.tok _, ⟨_, rfl⟩, q⟩
    | bl b =>
      obtain rfl : u = Value.bool b := ru
      exact PySem.P.repr_of_bool ⟨.str _, H, I.tok _, ⟨_, rfl⟩, q⟩
    | non =>
      obtain rfl : u = Value.none := ru
      exact PySem.P.repr_of_none ⟨.str _, H, I.tok _, ⟨_, rfl⟩, q⟩
    | str h =>
      obtain ⟨tk, rfl⟩ := ru
      exact PySem.P.repr_of_str ⟨.str _, H, I.tok _, ⟨_, rfl⟩, q⟩ h
    | @tup a ns ht h hz =>
      obtain rfl : u = Value.ref a := ru
      obtain ⟨its, rv, p, _⟩ := I.tuple ht
      obtain ⟨o, ho, hc, n, hd⟩ := p
      have hT : s.TypeIs (.ref a) "tuple" := ⟨o, ho, hc⟩
      refine call_repr_slot (by omega) hT PySem.F.slot_tuple_repr ?_
      exact call_tuple_repr (A := X.A.in1) hT hg (fun _ hm => absurd hm List.not_mem_nil) ho hd (ints_shown rv h) (fun u tk => ⟨_, _, rfl, .str _, H, I.tok _, ⟨_, rfl⟩, q⟩) hz
/-! ### isinstance(e, S), e the error that the suite holds, S a class above its own -/
theorem call_isUp {X : Cx} {a D S : Addr} {oe : Obj} {cls : Value} {d : Option Addr} {pn : List (Addr × Obj)} (hz : Zc cls d oe) (hf : ∃ vs, oe.data = .fields vs) (hi : PySem.W.isIn X.K (.ref D) S = true) :
    CallR (X.suite a ((a, oe) :: pn)) (.builtin "isinstance") (fun xs H Q => xs = [.ref a, .ref S] ∧ cls = .ref D ∧ (∃ dd fs, d = some dd ∧ H dd = some (.xd fs)) ∧ Q (.bl true) H) := by
  rintro pins s σ H xs us Q I r ⟨rfl, rfl, ⟨dd, fs, rfl, hdd⟩, q⟩
  match us, r with
  | [u, v], .cons ru (.cons rv .nil) =>
    obtain rfl : u = Value.ref a := ru
    obtain rfl : v = Value.ref S := rv
    obtain ⟨ho, _⟩ := I.pin (a, oe) (List.mem_append_left _ List.mem_cons_self)
    obtain ⟨vs, hd⟩ := hf
    have hx : ObjOk X.prog X.w H s.heap dd (.xd fs) := I.hok dd _ hdd
    obtain ⟨mA, ⟨od, _, _, hod, _⟩, _⟩ := hx
    have J : PySem.W.InstAt s.heap a oe D (some od) := ⟨ho, hz.1, by unfold PySem.W.notCls; rw [hd] <;> rfl, by rw [hz.2]; exact hod⟩
    exact PySem.W.isi_call I.kIn (fun M => J.type) hi (fun z => nomatch z) ⟨.bl true, H, I, rfl, q⟩
end K10

set_option Elab.async false
set_option linter.all false
set_option maxRecDepth 100000
set_option maxHeartbeats 4000000
/-! K10Rules3: defs called where no repr is under way (the guards are known to be none). -/
namespace K10
open PySem PySem.Spec PyProof.Rows L2
section
variable {P : Program} {w : World} {K : PySem.W.Frag} {mg : Str → Option Value} {base : Heap} {CX : CXT}
/-- a promise that is kept wherever no repr is under way -/
structure FnG (P : Program) (w : World) (K : PySem.W.Frag) (mg : Str → Option Value) (base : Heap) (CX : CXT) (k : Nat) (f : Addr) (fd : FuncData) (ps : List Str) (sp : Sp) : Prop where
  len : ∀ vs H Q E, sp vs H Q E → vs.length = ps.length
  go : ∀ (A : Around) (outer : List Env) (s : Shared) (H : Hp) (args : Args) (us : List Value) (vs : List V) (Q : VK) (E : XK), A.guards = some [] → Room k A → Env0 P w K mg base A outer s H → BindsTo s fd args (ps.zip us) → Vals vs us → sp vs H Q E →
    codeAny (model P w) A (.call (.ref f) args) (CR CX outer P w H s Q E) s
/-- one def's body, at one surrounding -/
theorem fnG_at {k : Nat} {x qual : Str} {st : Stmt} {f : Addr} {fd : FuncData} {N ps : List Str} {sp : Sp} (F : Fun K x qual st f fd) (S : FnScope N ps (defScope st)) (len : ∀ vs H Q E, sp vs H Q E → vs.length = ps.length)
    (body : ∀ (cdv : Value) (A : Around) (outer : List Env) (s : Shared) (H : Hp) (vs : List V) (Q : VK) (E : XK), A.guards = some [] → Room k (A.deeper (envOfC qual (defScope st) s.heap.objs.size f cdv)) → sp vs H Q E →
      ∃ t, PSs (cxOf CX P w K mg base N qual (defScope st) f cdv A outer s H E) (defBody st) t ∧ t { nx := fun _ H' => Q .non H', rt := Q } (start N vs) H) : FnG P w K mg base CX (k + 1) f fd ps sp := by
  obtain ⟨oc, od, kV, doc, pm, an, cdv, ct, osl, rfl, lk, hcd⟩ := F.ex
  constructor
  · exact len
  · intro A outer s H args us vs Q E hg hr e0 hb r hsp
    have KX := e0.mod.kin.keeps fun b o e => (e0.bs b o e).1
    have lim := e0.mod.nolimit.keeps fun b o e => (e0.bs b o e).1
    apply codeAny_call_function hr.depth (KX _ _ lk) rfl S.co S.gen rfl (PySem.W.codeRec_of KX hcd)
    apply hb
    refine wpAny_newFunctionEnv_cells S.kind ?_ ?_
    · rintro ⟨n, v⟩ hy
      rcases S.par n (List.of_mem_zip hy).1 with q | q
      · exact .inl q
      · exact .inr ⟨q, PySem.W.cellsFrom_some _ _ _ (.inl q)⟩
    · rintro env rfl s1 x
      refine ⟨lim.keeps x.toInCall.keep, codeAny_func ?_⟩
      obtain ⟨t, ht, hq⟩ := body cdv A outer s H vs Q E hg (hr.deeper _) hsp
      have I := inv_start (CX := CX) (P := P) (w := w) (K := K) (mg := mg) (base := base) (qual := qual) (f := f) (cd := cdv) (outer := outer) (E := E) S hr.hd e0 (len _ _ _ _ hsp) r x
      refine wpAny_mono (ht.run [] s1 (start N vs) H _ I hq) ?_ (fun _ _ h => h)
      intro fl s' hs
      cases fl with
      | ret u =>
        obtain ⟨v, _, H', J, rv, q⟩ := hs
        exact ⟨v, H', J.os, J.bare, J.base, J.hok, rv, q⟩
      | next =>
        obtain ⟨_, H', J, q⟩ := hs
        exact ⟨.non, H', J.os, J.bare, J.base, J.hok, rfl, q⟩
      | brk => exact hs.elim fun _ h => h.elim fun _ h => h.2.elim
      | cont => exact hs.elim fun _ h => h.elim fun _ h => h.2.elim
end
section
variable {X : Cx} {CX : CXT} {k : Nat} {f : Addr} {fd : FuncData} {ps : List Str} {sp : Sp} {E : XK} {x : Str} {p pos : Pos} {e : Expr} {es : List Expr} {t : TA}
/-- f(e, ..) of such a def -/
theorem pe_callG (F : FnG X.prog X.w X.K X.mg X.base CX k f fd ps sp) (hgu : X.A.guards = some []) (hr : Room k X.A) (hg : Gl X x) (hm : X.mg x = some (.ref f)) (hk : PySem.W.keepIn X.K (.ref f) = true) (hb : Binds X.K fd ps []) (hx : Passes CX X E)
    (ha : PA X (e :: es) t) (hdb : (x == ("__debug__" : Str)) = false := by decide) (he : starEach (e :: es) X.env = (false, eval e X.env) :: starEach es X.env := by rfl) (hpl : (backTo pos (starEach es X.env)).any (·.1) = false := by rfl) :
    PE X (.Call (.Name x p) (e :: es) [] pos) (tCall sp [] E t) := by
  constructor
  intro pins s σ H Q I h
  apply wpAny_Call_Name_kw
  apply ld_glob I hg hm _ hdb
  apply PySem.W.callWith_K (h₀ := X.base) I.ok.mod.kin hk _ he hpl
  apply thn (ha.run pos pins s σ H _ I h)
  rintro us s1 ⟨vs, H1, I1, r, q⟩
  rw [List.append_nil] at q
  have hl : (us ++ []).length = ps.length := by
    rw [List.append_nil, ← r.length]
    exact F.len _ _ _ _ q
  have B := hb s1 us I1.kIn hl
  rw [List.append_nil] at B
  refine ⟨I1.kIn, wpAny_call (codeAny_mono (F.go X.A X.stack s1 H1 ⟨us, []⟩ us vs Q E hgu hr I1.env0 B r q) ?_)⟩
  intro r s' hq
  match r, hq with
  | .error e, hq => exact hx pins σ H1 s1 e s' I1 hq
  | .ok (.ret u), hq => exact I1.after hq
  | .ok .next, hq => exact False.elim hq
  | .ok .brk, hq => exact False.elim hq
  | .ok .cont, hq => exact False.elim hq
end
/-! ### the end of a law row for such a def -/
theorem dict_seq {vs : Array Value} {n : Nat} {es : Array DictEntry} {ep : Nat} (h : Data.seq vs n = Data.dict es ep) : False := nomatch h
/-- the law's call, from a heap H that holds at most the script -/
theorem law_from {P : Program} {w : World} {K : PySem.W.Frag} {mg mb : Str → Option Value} {CX : CXT} {k : Nat} {fa a : Addr} {fd : FuncData} {x : Str} {sp : Sp} {s : Shared} {vs : List Value} {H : Hp}
    (KX : K.In s.heap) (hns : s.heap.Ns mainGlobals mg) (hb : s.heap.Ns builtinsNs mb) (hbb : ∀ x : Str, x ≠ "__name__" → mb x = bootBuiltins x) (hlim : s.heap.NoLimit) (hg : s.gens = #[])
    (ha : s.heap.get? a = some { cls := .type "list", data := .seq vs.toArray }) (hr : Room k callerA)
    (F : ∀ base : Heap, K.In base → base.Ns mainGlobals mg → FnG P w K mg base CX k fa fd [x] sp) (hbind : ∀ (s : Shared) (u : Value), BindsTo s fd ⟨[u], []⟩ [(x, u)])
    (hsp : sp [.ref a] H (fun v _ => v = .bl true) fun _ _ _ => False) (hCX : ∀ e s', CX [] H s (fun _ _ _ => False) e s' → False)
    (hok : HOk P w H s.heap) (hA : ∀ b, H b ≠ none → b = a ∧ ∃ o xs, H b = some (.frz o (.lst xs))) (hK : H a ≠ none → K.lookup a = none) :
    codeAny (model P w) callerA (.call (.ref fa) ⟨[.ref a], []⟩) (fun r s' => r = .ok (.ret (.bool true)) ∧ OldK s.heap s'.heap ∧ s'.os = s.os ∧ AllBare s'.gens) s := by
  have free : ∀ {b : Addr} {o : Obj}, s.heap.get? b = some o → (b = a → False) → H b = none := by
    intro b o _ n
    cases q : H b with
    | none => rfl
    | some u => exact (n (hA b (by rw [q]; exact fun z => nomatch z)).1).elim
  have ns' : ∀ {b : Addr} {m : Str → Option Value}, s.heap.Ns b m → (hidT s.heap H).Ns b m := by
    rintro b m ⟨o, es, ep, e, d, r⟩
    refine ⟨o, es, ep, hidT_get e (free e fun z => ?_), d, r⟩
    rw [z, ha] at e
    cases e
    exact dict_seq d
  have kin' : K.In (hidT s.heap H) := by
    intro b o e
    refine hidT_get (KX b o e) ?_
    cases q : H b with
    | none => rfl
    | some u =>
      have z := (hA b (by rw [q]; exact fun z => nomatch z)).1
      rw [z] at q e
      rw [hK (by rw [q]; exact fun z => nomatch z)] at e
      cases e
  have md : Mod K mg (hidT s.heap H) := by
    obtain ⟨mc, l1, l2⟩ := hlim
    exact ⟨kin', ns' hns, ⟨mb, ns' hb, hbb⟩, ⟨mc, ns' l1, l2⟩⟩
  have e0 : Env0 P w K mg (hidT s.heap H) callerA [] s H :=
    { frames := rfl, mod := md, bs := fun b o e => of_hidT e, bsz := Nat.le_of_eq (hidT_size _ _), funs := trivial, frf := fun b z => absurd z List.not_mem_nil, hok := hok, bare := .of_eq hg }
  refine codeAny_mono ((F _ kin' (ns' hns)).go callerA [] s H ⟨[.ref a], []⟩ [.ref a] [.ref a] _ _ rfl hr e0 (hbind s (.ref a)) (.cons rfl .nil) hsp) ?_
  intro r s' h
  match r, h with
  | .error e, h => exact (hCX e s' h).elim
  | .ok .next, h => exact False.elim h
  | .ok .brk, h => exact False.elim h
  | .ok .cont, h => exact False.elim h
  | .ok (.ret u), h =>
    obtain ⟨v, H', os, bare, un, hok', rv, q⟩ := h
    obtain rfl : v = .bl true := q
    obtain rfl : u = Value.bool true := rv
    refine ⟨rfl, OldK.of_keep fun b o e => ?_, os, bare⟩
    cases q : H b with
    | none => exact un.keep b o e q (fun z => absurd z List.not_mem_nil) List.not_mem_nil
    | some u =>
      obtain ⟨_, ob, xs, z⟩ := hA b (by rw [q]; exact fun z => nomatch z)
      obtain ⟨e1, _⟩ := hok b _ z
      obtain ⟨e2, _⟩ := hok' b _ (un.frzs b ob _ z)
      rw [e] at e1
      cases e1
      exact e2
theorem walk_G {l : PySem.W.OpenLaw} {n k : Nat} {q : Program} {loose : List Str} {XP : (Str → Option Value) → Heap → Prop} {YP : World → Heap → Prop} {d : DefRec} {K : Params → PySem.W.Frag} {CX : CXT} {sp : PySem.W.Frag → Sp} {x : Str}
    (hn : l.most = some n) (hn2 : n ≤ sizeLine) (hdf : d.params.defaults = []) (hr : Room k callerA)
    (hY : ∀ (w : World) (h : Heap), YP w h → (K w.params).In h)
    (F : ∀ (w : World) (mg : Str → Option Value) (fa : Addr) (h : Heap), (K w.params).In h → h.Ns mainGlobals mg → mg d.name = some (.ref fa) →
      ∃ fd : FuncData, (∀ (s : Shared) (u : Value), BindsTo s fd ⟨[u], []⟩ [(x, u)]) ∧
        ∀ base : Heap, (K w.params).In base → base.Ns mainGlobals mg → FnG l.prog w (K w.params) mg base CX k fa fd [x] (sp (K w.params)))
    (hsp : ∀ (K : PySem.W.Frag) (H : Hp) (a : Addr) (ns : List Int), ns.length ≤ n → SqL K H a (ns.map V.int) → sp K [.ref a] H (fun v _ => v = .bl true) fun _ _ _ => False)
    (hCX : ∀ (H : Hp) (s : Shared) (e : Value) (s' : Shared), CX [] H s (fun _ _ _ => False) e s' → False) :
    PySem.W.WalkO q loose XP YP l.row.toRowW d [] (fun f vs => PySem.call f vs) := by
  refine Att.attach_call hn hdf ?_
  intro w s₀ s₁ mg mb fa o pm cd doc a vs ns G Y ho hd hcd hmg hobj hints hlen hg
  have KX := hY w _ Y
  obtain ⟨fd, hb, hF⟩ := F w mg fa _ KX G.T.g hmg
  have rv : Vals (ns.map V.int) vs := vals_ints hints
  have hl : vs.length = ns.length := hints.length
  have hz : ns.length ≤ sizeLine := Nat.le_trans hlen hn2
  cases hk : (K w.params).lookup a with
  | some oa =>
    have e := KX a oa hk
    rw [hobj] at e
    cases e
    have S : SqL (K w.params) (fun _ => none) a (ns.map V.int) := .inr ⟨_, vs.toArray, _, hk, rfl, rfl, rfl, by rw [List.size_toArray, hl]; exact hz, by simpa using rv⟩
    exact law_from KX G.T.g G.T.b G.T.builtins G.T.nolimit hg hobj hr hF hb (hsp _ _ a ns hlen S) (hCX _ s₁) (fun b u z => nomatch z) (fun b z => absurd rfl z) (fun z => absurd rfl z)
  | none =>
    have at_a : (fun b => if b = a then some (HO.frz { cls := .type "list", data := .seq vs.toArray } (.lst (ns.map V.int))) else none) a = some (HO.frz { cls := .type "list", data := .seq vs.toArray } (.lst (ns.map V.int))) := if_pos rfl
    refine law_from (H := fun b => if b = a then some (HO.frz { cls := .type "list", data := .seq vs.toArray } (.lst (ns.map V.int))) else none) KX G.T.g G.T.b G.T.builtins G.T.nolimit hg hobj hr hF hb (hsp _ _ a ns hlen (.inl (.inr ⟨_, at_a⟩))) (hCX _ s₁) ?_ ?_ (fun _ => hk)
    · intro b u z
      by_cases hb : b = a
      · subst hb
        have z2 := at_a.symm.trans z
        cases z2
        exact ⟨hobj, by rw [List.length_map]; exact hz, vs, _, rv, hobj⟩
      · have z2 := (if_neg hb).symm.trans z
        cases z2
    · intro b z
      by_cases hb : b = a
      · subst hb
        exact ⟨rfl, _, _, at_a⟩
      · exact absurd (if_neg hb) z
end K10

set_option Elab.async false
set_option linter.all false
set_option maxRecDepth 100000
set_option maxHeartbeats 4000000
/-! K10Text: the defs by place, their promises' common words, heaps. -/
namespace K10
open PySem PySem.Spec PyProof.Rows L2
def topS (i : Nat) : Stmt := PySem.Challenge.pw_stagesfull_k10_whole_papers_of_cuts.main.body.getD i (.Pass ⟨0, 0, 0, 0⟩)
abbrev sNum : Stmt := inClass (topS 2) 0
abbrev sBetw : Stmt := topS 4
abbrev sFInit : Stmt := inClass (topS 6) 0
abbrev sLeast : Stmt := inClass (topS 6) 1
abbrev sFound : Stmt := inClass (topS 6) 2
abbrev sFirst : Stmt := inClass (topS 6) 3
abbrev sBest : Stmt := topS 7
abbrev sPaper : Stmt := topS 8
abbrev sJudge : Stmt := topS 9
abbrev sDraws : Stmt := topS 11
abbrev sTake : Stmt := topS 12
abbrev sCuts : Stmt := topS 13
abbrev sParts : Stmt := topS 14
abbrev sGreat : Stmt := topS 15
abbrev sCosts : Stmt := topS 16
abbrev sRefu : Stmt := topS 17
abbrev sDue : Stmt := topS 18
abbrev sTakes : Stmt := topS 19
abbrev sRefd : Stmt := topS 20
abbrev sBent : Stmt := topS 21
abbrev sLaw : Stmt := topS 22
/-! ### a def as it stands, and what it keeps -/
structure DefOf (K : PySem.W.Frag) (mg : Str → Option Value) (x : Str) (st : Stmt) (ps : List Str) (f : Addr) (fd : FuncData) : Prop where
  F : Fun K x x st f fd
  g : mg x = some (.ref f)
  b : Binds K fd ps []
structure Cal (P : Program) (w : World) (K : PySem.W.Frag) (mg : Str → Option Value) (base : Heap) (k : Nat) (x : Str) (ps : List Str) (sp : Sp) : Prop where
  ex : ∃ (f : Addr) (fd : FuncData), FnOk P w K mg base CX0 k f fd ps sp ∧ mg x = some (.ref f) ∧ PySem.W.keepIn K (.ref f) = true ∧ Binds K fd ps []
section
variable {X : Cx} {k j : Nat} {x : Str} {ps : List Str} {sp : Sp} {e : Expr} {es : List Expr} {p pos : Pos} {t : TA}
theorem pe_k (c : Cal X.prog X.w X.K X.mg X.base k x ps sp) (hr : Room j X.A) (hk : k ≤ j) (ha : PA X (e :: es) t) (hg : Gl X x := by rfl) (hdb : (x == ("__debug__" : Str)) = false := by decide)
    (he : starEach (e :: es) X.env = (false, eval e X.env) :: starEach es X.env := by rfl) (hpl : (backTo pos (starEach es X.env)).any (·.1) = false := by rfl) :
    PE X (.Call (.Name x p) (e :: es) [] pos) (tCall sp [] E0 t) := by
  obtain ⟨f, fd, F, hm, hkp, hb⟩ := c.ex
  exact pe_call F (hr.mono hk) hg hm hkp hb .nil pass0 ha hdb he hpl
end
/-! ### heaps -/
theorem same_upd {H : Hp} {p : Addr} {o : HO} (h : H p = none) : Same H (upd H p o) := fun b u e => by
  rw [upd_ne (ne_of_none e h)]
  exact e
/-- all but h is as it was -/
def Keep (h : Addr) (H H' : Hp) : Prop := ∀ b o, b ≠ h → H b = some o → H' b = some o
theorem Keep.refl (h : Addr) (H : Hp) : Keep h H H := fun _ _ _ e => e
theorem Keep.trans {h : Addr} {H H1 H2 : Hp} (a : Keep h H H1) (b : Keep h H1 H2) : Keep h H H2 := fun c o n e => b c o n (a c o n e)
theorem Keep.same {h : Addr} {H H' : Hp} (a : Same H H') : Keep h H H' := fun c o _ e => a c o e
theorem Keep.upd {h : Addr} {H : Hp} {o : HO} : Keep h H (upd H h o) := fun b u n e => by rw [upd_ne n]; exact e
theorem Keep.new {h p : Addr} {H : Hp} {o : HO} (n : H p = none) : Keep h H (L2.upd H p o) := .same (same_upd n)
/-- an address that is free behind was free before, or is h -/
theorem Keep.free {h p : Addr} {H H' : Hp} (a : Keep h H H') (n : H' p = none) (d : p ≠ h) : H p = none := by
  cases q : H p with
  | none => rfl
  | some o =>
    rw [a p o d q] at n
    cases n
theorem same_tup {K : PySem.W.Frag} {H H' : Hp} {a : Addr} {xs : List V} (e : Same H H') (h : SqT K H a xs) : SqT K H' a xs := by
  rcases h with (h | ⟨o, h⟩) | h
  · exact .inl (.inl (e _ _ h))
  · exact .inl (.inr ⟨o, e _ _ h⟩)
  · exact .inr h
theorem Keep.tup {K : PySem.W.Frag} {h : Addr} {H H' : Hp} {a : Addr} {xs : List V} (e : Keep h H H') (n : ∀ ys, H h ≠ some (.tup ys)) (nf : ∀ o u, H h ≠ some (.frz o u)) (ht : SqT K H a xs) : SqT K H' a xs := by
  rcases ht with (q | ⟨o, q⟩) | q
  · exact .inl (.inl (e _ _ (fun z => n xs (z ▸ q)) q))
  · exact .inl (.inr ⟨o, e _ _ (fun z => nf o _ (z ▸ q)) q⟩)
  · exact .inr q
theorem Keep.seq {K : PySem.W.Frag} {h : Addr} {H H' : Hp} {a : Addr} {xs : List V} (e : Keep h H H') (n : a ≠ h) (ht : SqL K H a xs) : SqL K H' a xs := by
  rcases ht with (q | ⟨o, q⟩) | q
  · exact .inl (.inl (e _ _ n q))
  · exact .inl (.inr ⟨o, e _ _ n q⟩)
  · exact .inr q
theorem sqL {K : PySem.W.Frag} {H : Hp} {a : Addr} {xs : List V} (h : H a = some (.lst xs)) : SqL K H a xs := .inl (.inl h)
theorem sqT {K : PySem.W.Frag} {H : Hp} {a : Addr} {xs : List V} (h : H a = some (.tup xs)) : SqT K H a xs := .inl (.inl h)
theorem z_le {n : Nat} (h : n ≤ 10000) : n ≤ sizeLine := Nat.le_trans h (by decide)
theorem z_lt {n : Nat} (h : n ≤ 10000) : n < sizeLine := Nat.lt_of_le_of_lt h (by decide)
/-- a comprehension without a test -/
theorem yes_then {σ : L2.St} {H : Hp} {A B : Hp → Prop} (h : A H) : tYes σ H (fun b H3 => if b = true then A H3 else B H3) := by
  show (if true = true then A H else B H)
  exact iteT h
theorem on_b {b c : Bool} {H : Hp} {F : Bool → Hp → Prop} (e : b = c) (h : F c H) : F b H := e ▸ h
theorem len1 (v : V) : [v].length ≤ sizeLine := z_le (by show 1 ≤ 10000; decide)
theorem len2 (u v : V) : [u, v].length ≤ sizeLine := z_le (by show 2 ≤ 10000; decide)
/-! ### ints in lists -/
theorem int_at {ns : List Int} {i : Nat} {y : V} (h : (ns.map V.int)[i]? = some y) : ∃ z, ns[i]? = some z ∧ y = V.int z := by
  rw [List.getElem?_map] at h
  cases e : ns[i]? with
  | none =>
    rw [e] at h
    cases h
  | some z =>
    rw [e] at h
    exact ⟨z, rfl, (Option.some.inj h).symm⟩
theorem at_int {ns : List Int} {i : Nat} {z : Int} (h : ns[i]? = some z) : (ns.map V.int)[i]? = some (V.int z) := by
  rw [List.getElem?_map, h]
  rfl
theorem atI_int {ns : List Int} {z x : Int} (h0 : 0 ≤ z) (h : ns[z.toNat]? = some x) : atI (ns.map V.int) z = some (V.int x) := by
  have e : z = ((z.toNat : Nat) : Int) := by omega
  rw [e]
  exact atI_nat (at_int (by simpa using h))
/-! ### the hand of draws -/
def HandAt (H : Hp) (h d : Addr) : Prop := ∃ (s : Int) (ds : List Int), H h = some (.lst [.ref d, .int s]) ∧ 0 ≤ s ∧ H d = some (.lst (ds.map V.int))
theorem HandAt.ne {H : Hp} {h d a : Addr} (x : HandAt H h d) {xs : List V} (e : H a = some (.lst xs)) (n : ∀ d s, xs ≠ [.ref d, .int s]) : a ≠ h := by
  obtain ⟨s, ds, e2, _⟩ := x
  intro z
  rw [z, e2] at e
  injection e with e
  injection e with e
  exact n d s e.symm
theorem ints_not {ns : List Int} : ∀ (d : Addr) (s : Int), ns.map V.int ≠ [.ref d, .int s] := fun d s e => by
  cases ns with
  | nil => cases e
  | cons x r =>
    rw [List.map_cons] at e
    injection e with e _
    cases e
theorem HandAt.neI {H : Hp} {h d a : Addr} (x : HandAt H h d) {ns : List Int} (e : H a = some (.lst (ns.map V.int))) : a ≠ h := x.ne e ints_not
theorem HandAt.neT {H : Hp} {h d a : Addr} (x : HandAt H h d) {xs : List V} (e : H a = some (.tup xs)) : a ≠ h := by
  obtain ⟨s, ds, e2, _⟩ := x
  exact ne_of e e2 (fun z => by cases z)
theorem HandAt.same {H H' : Hp} {h d : Addr} (x : HandAt H h d) (s : Same H H') : HandAt H' h d := by
  obtain ⟨z, ds, e1, e2, e3⟩ := x
  exact ⟨z, ds, s _ _ e1, e2, s _ _ e3⟩
theorem HandAt.new {H : Hp} {h d p : Addr} {o : HO} (x : HandAt H h d) (n : H p = none) : HandAt (L2.upd H p o) h d := x.same (same_upd n)
/-- a store at an address that is neither -/
theorem HandAt.store {H : Hp} {h d p : Addr} {o : HO} (x : HandAt H h d) (n1 : p ≠ h) (n2 : p ≠ d) : HandAt (L2.upd H p o) h d := by
  obtain ⟨z, ds, e1, e2, e3⟩ := x
  exact ⟨z, ds, by rw [upd_ne (Ne.symm n1)]; exact e1, e2, by rw [upd_ne (Ne.symm n2)]; exact e3⟩
theorem HandAt.fresh {H : Hp} {h d p : Addr} (x : HandAt H h d) (n : H p = none) : p ≠ h ∧ p ≠ d := by
  obtain ⟨z, ds, e1, e2, e3⟩ := x
  exact ⟨Ne.symm (ne_of_none e1 n), Ne.symm (ne_of_none e3 n)⟩
/-! ### values that may stand where a number of stages does -/
inductive Kind (H : Hp) : V → Prop
  | int (i : Int) : Kind H (.int i)
  | bl (b : Bool) : Kind H (.bl b)
  | non : Kind H .non
  | str (x : Str) : Kind H (.str x)
  | tup {a : Addr} {xs : List V} (e : H a = some (.tup xs)) : Kind H (.ref a)
theorem Kind.same {H H' : Hp} {v : V} (k : Kind H v) (s : Same H H') : Kind H' v := by
  cases k with
  | int i => exact .int i
  | bl b => exact .bl b
  | non => exact .non
  | str x => exact .str x
  | tup e => exact .tup (s _ _ e)
def betw (v : V) (lo hi : Int) : Bool := match v with
  | .int i => decide (lo ≤ i) && decide (i ≤ hi)
  | _ => false
/-- a list, or a tuple, of ints -/
def Seq (K : PySem.W.Frag) (H : Hp) (a : Addr) (ns : List Int) : Prop := SqL K H a (ns.map V.int) ∨ SqT K H a (ns.map V.int)
theorem Seq.same {K : PySem.W.Frag} {H H' : Hp} {a : Addr} {ns : List Int} (q : Seq K H a ns) (s : Same H H') : Seq K H' a ns := q.elim (fun z => .inl (s.seq z)) (fun z => .inr (same_tup s z))
/-- what the top leaves: no name of the module hides a built-in -/
structure Blt (mg : Str → Option Value) : Prop where
  len : mg "len" = none
  sum : mg "sum" = none
  range : mg "range" = none
  max : mg "max" = none
  min : mg "min" = none
  tuple : mg "tuple" = none
  list : mg "list" = none
  enumerate : mg "enumerate" = none
  zip : mg "zip" = none
  all : mg "all" = none
  isinstance : mg "isinstance" = none
  int : mg "int" = none
  bool : mg "bool" = none
  repr : mg "repr" = none
  sorted : mg "sorted" = none
  abs : mg "abs" = none
end K10

set_option Elab.async false
set_option linter.all false
set_option maxRecDepth 100000
set_option maxHeartbeats 4000000
namespace K10
open PySem PySem.Spec PyProof.Rows L2
section
variable {P : Program} {w : World} {K : PySem.W.Frag} {mg : Str → Option Value} {base : Heap}
/-! ### a draw -/
theorem scTake : FnScope ["_law_hand", "_law_many", "_law_spot", "_law_draws_here"] ["_law_hand", "_law_many"] (defScope sTake) := ⟨rfl, rfl, rfl, by decide +kernel, rfl, by decide +kernel, by decide +kernel⟩
def spTake : Sp := fun vs H Q _ => ∃ (h d : Addr) (m : Int), vs = [.ref h, .int m] ∧ 0 < m ∧ HandAt H h d ∧ ∀ (r : Int) (H' : Hp), 0 ≤ r → r < m → Keep h H H' → HandAt H' h d → Q (.int r) H'
theorem ok_take {f : Addr} {fd : FuncData} (D : DefOf K mg "_law_take" sTake ["_law_hand", "_law_many"] f fd) (B : Blt mg) : Cal P w K mg base 1 "_law_take" ["_law_hand", "_law_many"] spTake := by
  refine ⟨f, fd, D.F.ok scTake (fun vs H Q E h => ?_) (fun cdv A outer s H vs Q E hr h => ?_), D.g, D.F.kp, D.b⟩
  · obtain ⟨_, _, _, rfl, _⟩ := h
    rfl
  · obtain ⟨h, d, m, rfl, hm, hH, k⟩ := h
    obtain ⟨sp, ds, eh, hs, ed⟩ := id hH
    refine ⟨_, pss_cons (ps_set (i := 2) scTake.nd rfl (.inl rfl) (pe_ix ix_list (pv 0) pe_int (fun _ _ => rfl)))
      (pss_cons (ps_asg (pe_op op_add (pv 2) pe_int) (pg_sub (pv 0) pe_int set_list))
      (pss_cons (ps_set (i := 3) scTake.nd rfl (.inl rfl) (pe_ix ix_list (pv 0) pe_int (fun _ _ => rfl)))
      (pss_cons (ps_if (pt_cmpR op_ge (pv 2) (pe_callB call_len_seq (by rfl) B.len PySem.boot_len (pa_cons (pv 3) pa_nil)) (nomark _)) (pss_one (ps_ret pe_int)) pss_nil)
      (pss_one (ps_ret (pe_op op_mod (pe_op op_fdiv (pe_callTy call_int1 (by rfl) B.int (by decide +kernel) (pa_cons (pe_ix ix_list (pv 3) (pv 2) (fun _ _ => rfl)) pa_nil)) pe_int) (pv 1))))))), ?_⟩
    -- spot = hand[1]; hand[1] = spot + 1; draws = hand[0]
    refine ⟨_, rfl, h, _, 1, .int sp, rfl, rfl, sqL eh, rfl, ?_⟩
    refine ⟨_, rfl, sp, 1, rfl, rfl, _, rfl, h, _, 1, 1, rfl, rfl, eh, rfl, ?_⟩
    have e2 : (L2.upd H h (.lst [.ref d, .int (sp + 1)])) h = some (.lst [.ref d, .int (sp + 1)]) := upd_same
    have nd : d ≠ h := hH.neI ed
    have e3 : (L2.upd H h (.lst [.ref d, .int (sp + 1)])) d = some (.lst (ds.map V.int)) := by rw [upd_ne nd]; exact ed
    have HA : HandAt (L2.upd H h (.lst [.ref d, .int (sp + 1)])) h d := ⟨sp + 1, ds, e2, by omega, e3⟩
    refine ⟨_, rfl, h, _, 0, .ref d, rfl, rfl, sqL e2, rfl, ?_⟩
    refine ⟨_, rfl, _, rfl, d, _, rfl, .inl (sqL e3), _, _, rfl, rfl, _, rfl, ite2 (fun c => ?_) (fun c => ?_)⟩
    · exact k 0 _ (Int.le_refl _) hm Keep.upd HA
    · have c1 : ¬ (((ds.map V.int).length : Nat) : Int) ≤ sp := fun z => c (decide_eq_true z)
      rw [List.length_map] at c1
      have hi : sp.toNat < ds.length := by omega
      refine ⟨_, rfl, _, rfl, d, _, sp, _, rfl, rfl, sqL e3, atI_int hs (List.getElem?_eq_getElem hi), .inl ⟨_, rfl, _, _, rfl, rfl, ⟨by decide, by decide⟩, _, rfl, _, m, rfl, rfl, hm, ?_⟩⟩
      exact k _ _ (Int.emod_nonneg _ (by omega)) (Int.emod_lt_of_pos _ hm) Keep.upd HA
/-! ### is_between -/
theorem scBetw : FnScope ["value", "least", "most"] ["value", "least", "most"] (defScope sBetw) := ⟨rfl, rfl, rfl, by decide +kernel, rfl, by decide +kernel, by decide +kernel⟩
def spBetw : Sp := fun vs H Q _ => ∃ (v : V) (lo hi : Int), vs = [v, .int lo, .int hi] ∧ Kind H v ∧ Q (.bl (betw v lo hi)) H
theorem Kind.tyx {H : Hp} {v : V} (k : Kind H v) : ∃ T : String, TyX K H v (.type T) ∧ (T = "int" ∨ T = "bool" ∨ T = "NoneType" ∨ T = "str" ∨ T = "tuple") ∧ (T = "int" ↔ ∃ i, v = .int i) := by
  cases k with
  | int i => exact ⟨"int", .base (.int i), .inl rfl, fun _ => ⟨i, rfl⟩, fun _ => rfl⟩
  | bl b => exact ⟨"bool", .base (.bl b), .inr (.inl rfl), fun e => absurd e (by decide), fun ⟨i, e⟩ => by cases e⟩
  | non => exact ⟨"NoneType", .base .non, .inr (.inr (.inl rfl)), fun e => absurd e (by decide), fun ⟨i, e⟩ => by cases e⟩
  | str x => exact ⟨"str", .base (.str x), .inr (.inr (.inr (.inl rfl))), fun e => absurd e (by decide), fun ⟨i, e⟩ => by cases e⟩
  | tup e => exact ⟨"tuple", .base (.tup e), .inr (.inr (.inr (.inr rfl))), fun e => absurd e (by decide), fun ⟨i, e⟩ => by cases e⟩
theorem ok_betw {f : Addr} {fd : FuncData} (D : DefOf K mg "is_between" sBetw ["value", "least", "most"] f fd) (B : Blt mg) : Cal P w K mg base 1 "is_between" ["value", "least", "most"] spBetw := by
  refine ⟨f, fd, D.F.ok scBetw (fun vs H Q E h => ?_) (fun cdv A outer s H vs Q E hr h => ?_), D.g, D.F.kp, D.b⟩
  · obtain ⟨_, _, _, rfl, _⟩ := h
    rfl
  · obtain ⟨v, lo, hi, rfl, hk, q⟩ := h
    refine ⟨_, pss_one (ps_ret (pe_and (pe_callB call_isi (by rfl) B.isinstance (by decide +kernel) (pa_cons (pv 0) (pa_cons (pe_bltn (v := .ty "int") (by rfl) B.int (by decide +kernel) rfl) pa_nil)))
      (pe_and (pe_not (pe_callB call_isi (by rfl) B.isinstance (by decide +kernel) (pa_cons (pv 0) (pa_cons (pe_bltn (v := .ty "bool") (by rfl) B.bool (by decide +kernel) rfl) pa_nil))))
      (pe_one (pe_chain op_le op_le (pv 1) (pv 0) (pv 2)))))), ?_⟩
    cases hk with
    | int i =>
      refine ⟨_, rfl, _, _, _, _, true, rfl, .ty "int", .base (.int i), kit_ty (by decide +kernel), true, rfl, iteT ?_⟩
      refine ⟨_, rfl, _, _, _, _, false, rfl, .ty "bool", .base (.int i), kit_ty (by decide +kernel), false, rfl, true, rfl, iteT ?_⟩
      refine ⟨_, rfl, _, rfl, _, _, rfl, rfl, _, rfl, ?_⟩
      have e : betw (.int i) lo hi = (decide (lo ≤ i) && decide (i ≤ hi)) := rfl
      rw [e] at q
      by_cases c : lo ≤ i
      · rw [decide_eq_true c, Bool.true_and] at q
        rw [decide_eq_true c]
        exact iteT ⟨_, rfl, _, _, rfl, rfl, q⟩
      · rw [decide_eq_false c, Bool.false_and] at q
        rw [decide_eq_false c]
        exact iteF q
    | bl b =>
      refine ⟨_, rfl, _, _, _, _, true, rfl, .ty "int", .base (.bl b), kit_ty (by decide +kernel), true, rfl, iteT ?_⟩
      exact ⟨_, rfl, _, _, _, _, true, rfl, .ty "bool", .base (.bl b), kit_ty (by decide +kernel), true, rfl, false, rfl, iteF q⟩
    | non => exact ⟨_, rfl, _, _, _, _, false, rfl, .ty "int", .base .non, kit_ty (by decide +kernel), false, rfl, iteF q⟩
    | str x => exact ⟨_, rfl, _, _, _, _, false, rfl, .ty "int", .base (.str x), kit_ty (by decide +kernel), false, rfl, iteF q⟩
    | tup e => exact ⟨_, rfl, _, _, _, _, false, rfl, .ty "int", .base (.tup e), kit_ty (by decide +kernel), false, rfl, iteF q⟩
end
end K10

set_option Elab.async false
set_option linter.all false
set_option maxRecDepth 100000
set_option maxHeartbeats 4000000
namespace K10
open PySem PySem.Spec PyProof.Rows L2
section
variable {P : Program} {w : World} {K : PySem.W.Frag} {mg : Str → Option Value} {base : Heap}
theorem map_snoc (ds : List Int) (z : Int) : ds.map V.int ++ [V.int z] = (ds ++ [z]).map V.int := by rw [List.map_append]; rfl
theorem map_put (rs : List Int) (j : Nat) (z : Int) : (rs.map V.int).set j (V.int z) = (rs.set j z).map V.int := by rw [List.map_set]
theorem ixN_map {rs : List Int} {j : Int} (h0 : 0 ≤ j) (h1 : j.toNat < rs.length) : ixN (rs.map V.int).length j = some j.toNat := by
  unfold ixN
  rw [if_pos h0, List.length_map, if_pos (by omega)]
abbrev nDraws : List Str := ["_law_script", "_law_many", "_law_rests", "_law_draws_here", "_law_k", "_law_cell", "_law_spot", "_law_mixed"]
theorem scDraws : FnScope nDraws ["_law_script", "_law_many"] (defScope sDraws) := ⟨rfl, rfl, rfl, by decide +kernel, rfl, by decide +kernel, by decide +kernel⟩
def spDraws (K : PySem.W.Frag) : Sp := fun vs H Q _ => ∃ (a : Addr) (ns : List Int), vs = [.ref a, .int 120] ∧ SqL K H a (ns.map V.int) ∧ ns.length ≤ 63 ∧
  ∀ (H' : Hp) (p : Addr) (ds : List Int), Same H H' → H p = none → H' p = some (.lst (ds.map V.int)) → Q (.ref p) H'
/-- what stands between two turns -/
structure DrawsAt (H H' : Hp) (a R p : Addr) (n i : Nat) (σ : L2.St) : Prop where
  sl : ∃ v4 v5 v6 v7, σ = [some (.ref a), some (.int 120), some (.ref R), some (.ref p), v4, v5, v6, v7]
  same : Same H H'
  nR : H R = none
  nP : H p = none
  ne : R ≠ p
  rests : ∃ rs : List Int, rs.length = n ∧ H' R = some (.lst (rs.map V.int))
  made : ∃ ds : List Int, ds.length ≤ i ∧ H' p = some (.lst (ds.map V.int))
theorem ok_draws {f : Addr} {fd : FuncData} (D : DefOf K mg "_law_draws" sDraws ["_law_script", "_law_many"] f fd) (B : Blt mg) : Cal P w K mg base 1 "_law_draws" ["_law_script", "_law_many"] (spDraws K) := by
  refine ⟨f, fd, D.F.ok scDraws (fun vs H Q E h => ?_) (fun cdv A outer s H vs Q E hr h => ?_), D.g, D.F.kp, D.b⟩
  · obtain ⟨_, _, rfl, _⟩ := h
    rfl
  · obtain ⟨a, ns, rfl, hS, hlen, k⟩ := h
    refine ⟨_, pss_cons (ps_setLc (i := 2) (own := [("_law_cell", 5)]) (g := gName 5) (tt := tYes) rfl scDraws.nd rfl rfl (sw_true rfl rfl rfl (by decide +kernel)) (pi_list (pv 0)) (blkOk_by (N := nDraws) (sc := defScope sDraws) (by decide +kernel))
        (fun _ _ _ _ _ => pg_name (i := 5) scDraws.nd rfl (.inl rfl)) (fun _ _ _ _ _ => pts_nil)
        (fun _ _ _ _ _ => pe_callB call_abs (by rfl) B.abs (by decide +kernel) (pa_cons (pe_callTy call_int1 (by rfl) B.int (by decide +kernel) (pa_cons (pv 5) pa_nil)) pa_nil)))
      (pss_cons (ps_set (i := 3) scDraws.nd rfl (.inl rfl) (pe_lst pa_nil))
      (pss_cons (ps_for PassesOwn.never rfl (pi_range1 rfl B.range (pa_cons (pv 1) pa_nil)) (pg_name (i := 4) scDraws.nd rfl (.inl rfl))
        (pss_cons (ps_set (i := 5) scDraws.nd rfl (.inl rfl) (pv 4))
        (Evl.pss_cut (ps_if (pt_cmpR op_gt (pe_callB call_len_seq (by rfl) B.len PySem.boot_len (pa_cons (pv 0) pa_nil)) pe_int (nomark _))
          (pss_cons (ps_set (i := 6) scDraws.nd rfl (.inl rfl) (pe_op op_mod (pv 4) (pe_callB call_len_seq (by rfl) B.len PySem.boot_len (pa_cons (pv 0) pa_nil))))
          (pss_cons (ps_set (i := 5) scDraws.nd rfl (.inl rfl) (pe_callTy call_int1 (by rfl) B.int (by decide +kernel) (pa_cons (pe_ix ix_list (pv 0) (pv 6) (fun _ _ => rfl)) pa_nil)))
          (pss_one (ps_if (PW.pt (pw_and (pt_cmpR op_ge (pv 5) (pe_op op_pow pe_int pe_int) (nomark _)) (pw_and1 (pt_cmpR op_gt (pe_ix ix_list (pv 2) (pv 6) (fun _ _ => rfl)) pe_int (nomark _)))))
            (pss_cons (ps_expr (pe_bm PySem.F.plainAttrs_list PySem.F.slot_list_append PySem.F.type_list_append mt_append (pv 3) (pa_cons (pe_op op_mod (pe_callTy call_int1 (by rfl) B.int (by decide +kernel) (pa_cons (pe_ix ix_list (pv 2) (pv 6) (fun _ _ => rfl)) pa_nil)) pe_int) pa_nil)))
            (pss_cons (ps_asg (pe_op op_fdiv (pe_callTy call_int1 (by rfl) B.int (by decide +kernel) (pa_cons (pe_ix ix_list (pv 2) (pv 6) (fun _ _ => rfl)) pa_nil)) pe_int) (pg_sub (pv 2) (pv 6) set_list))
            (pss_one ps_continue))) pss_nil)))) pss_nil)
        (pss_cons (ps_set (i := 7) scDraws.nd rfl (.inl rfl) (pe_op op_mod (pe_callTy call_int1 (by rfl) B.int (by decide +kernel) (pa_cons (pe_op op_add (pe_op op_add (pe_op op_mul (pv 5) pe_int) (pe_op op_mul (pv 4) pe_int)) pe_int) pa_nil)) pe_int))
        (pss_cons (ps_set (i := 7) scDraws.nd rfl (.inl rfl) (pe_op op_mod (pe_callTy call_int1 (by rfl) B.int (by decide +kernel) (pa_cons (pe_op op_add (pe_op op_fdiv (pe_op op_mul (pv 7) (pv 7)) pe_int) (pv 7)) pa_nil)) pe_int))
        (pss_one (ps_expr (pe_bm PySem.F.plainAttrs_list PySem.F.slot_list_append PySem.F.type_list_append mt_append (pv 3) (pa_cons (pe_op op_mod (pe_callTy call_int1 (by rfl) B.int (by decide +kernel) (pa_cons (pe_op op_add (pe_op op_fdiv (pe_op op_mul (pv 7) (pv 7)) pe_int) (pe_op op_mul (pv 4) pe_int)) pa_nil)) pe_int) pa_nil)))))))))
      (pss_one (ps_ret (pv 3))))), ?_⟩
    -- rests
    refine ⟨_, rfl, a, rfl, ⟨_, hS⟩, fun R nR => lc_list (K := K) (a := a) (xs := ns.map V.int) (fun i H' => Same H H' ∧ ∃ rs : List Int, rs.length = i ∧ H' R = some (.lst (rs.map V.int)))
      ⟨same_upd nR, [], rfl, upd_same⟩ (fun i H' _ q => q.1.seq hS) ?_ ?_⟩
    · rintro i x H' hx ⟨sm, rs, hl, eR⟩
      obtain ⟨z, hz, rfl⟩ := int_at hx
      have hi := (List.getElem?_eq_some_iff.mp hz).1
      refine ⟨rfl, yes_then ?_⟩
      refine ⟨_, rfl, .inl ⟨z, rfl, z, rfl, _, eR, ?_, fun b o e => ?_, rs ++ [if z < 0 then -z else z], ?_, ?_⟩⟩
      · rw [List.length_map]
        exact z_lt (by omega)
      · have nb : b ≠ R := ne_of_none e nR
        rw [upd_ne nb]
        exact sm _ _ e
      · rw [List.length_append, hl]
        rfl
      · rw [upd_same, map_snoc]
    · rintro H1 ⟨s1, rs, hrl, eR⟩
      rw [List.length_map] at hrl
      -- draws_here = []
      refine ⟨Nat.zero_le _, fun p np => ?_⟩
      have np0 : H p = none := s1.free np
      have nRp : R ≠ p := ne_of_none eR np
      refine ⟨_, rfl, 120, rfl, by decide, by decide, for_range (lo := 0) (n := 120) (fun i σ H' => DrawsAt H H' a R p ns.length i σ) ?_ ?_ ?_⟩
      · exact ⟨⟨none, none, none, none, rfl⟩, s1.trans (same_upd np), nR, np0, nRp, ⟨rs, hrl, by rw [upd_ne nRp]; exact eR⟩, ⟨[], Nat.le_refl _, upd_same⟩⟩
      · rintro i σ H' hi ⟨⟨v4, v5, v6, v7, rfl⟩, sm, _, _, _, ⟨rs, hrl, eR⟩, ⟨ds, hdl, eP⟩⟩
        have hA := sm.seq hS
        have i0 : (0 : Int) + (i : Nat) = (i : Nat) := by omega
        have more : ∀ (v4 v5 v6 v7 : Option V) (z : Int), DrawsAt H (L2.upd H' p (.lst (ds.map V.int ++ [.int z]))) a R p ns.length (i + 1) [some (.ref a), some (.int 120), some (.ref R), some (.ref p), v4, v5, v6, v7] := fun v4 v5 v6 v7 z => by
          refine ⟨⟨v4, v5, v6, v7, rfl⟩, fun b o e => ?_, nR, np0, nRp, ⟨rs, hrl, by rw [upd_ne nRp]; exact eR⟩, ⟨ds ++ [z], ?_, by rw [upd_same, map_snoc]⟩⟩
          · rw [upd_ne (ne_of_none e np0)]
            exact sm _ _ e
          · rw [List.length_append, List.length_singleton]
            omega
        have room : (ds.map V.int).length < sizeLine := by rw [List.length_map]; exact z_lt (by omega)
        -- cell = k
        refine ⟨_, rfl, ?_⟩
        -- the plain way, whatever the cell is
        refine ⟨fun σ2 H2 => H2 = H' ∧ ∃ (c : Int) (v6 v7 : Option V), σ2 = [some (.ref a), some (.int 120), some (.ref R), some (.ref p), some (.int (0 + (i : Nat))), some (.int c), v6, v7], ?_, ?_⟩
        rotate_left
        · rintro σ2 H2 ⟨rfl, c, v6, v7, rfl⟩
          refine ⟨_, rfl, _, _, rfl, rfl, .inr ⟨by decide, by decide⟩, _, rfl, _, _, rfl, rfl, .inr ⟨by decide, by decide⟩, _, _, rfl, rfl, _, _, rfl, rfl, .inl ⟨_, rfl, _, _, rfl, rfl, (by show (0 : Int) < 2147483647; decide), ?_⟩⟩
          let m : Int := (c * 48271 + (0 + (i : Nat)) * 69621 + 11) % 2147483647
          have m0 : 0 ≤ m := Int.emod_nonneg _ (by decide)
          have m1 : m < 2147483647 := Int.emod_lt_of_pos _ (by decide)
          refine ⟨_, rfl, _, rfl, _, _, rfl, rfl, .inl ⟨Int.lt_of_lt_of_le (by decide) m0, Int.lt_trans m1 (by decide)⟩, _, _, rfl, rfl, ⟨by decide, by decide⟩, _, rfl, _, _, rfl, rfl, .inl ⟨_, rfl, _, _, rfl, rfl, (by show (0 : Int) < 2147483629; decide), ?_⟩⟩
          let m2 : Int := (m * m / 4096 + m) % 2147483629
          have m20 : 0 ≤ m2 := Int.emod_nonneg _ (by decide)
          have m21 : m2 < 2147483629 := Int.emod_lt_of_pos _ (by decide)
          refine ⟨_, rfl, .inl ⟨rfl, _, .inl (.inl eP)⟩, _, rfl, _, rfl, _, _, rfl, rfl, .inl ⟨Int.lt_of_lt_of_le (by decide) m20, Int.lt_trans m21 (by decide)⟩, _, _, rfl, rfl, ⟨by decide, by decide⟩, _, rfl, _, _, rfl, rfl, .inr ⟨by decide, by decide⟩, _, _, rfl, rfl,
            .inl ⟨_, rfl, _, _, rfl, rfl, (by show (0 : Int) < 2147483629; decide), p, _, _, rfl, rfl, eP, room, ?_⟩⟩
          exact more _ _ _ _ _
        refine ⟨_, rfl, a, _, rfl, .inl hA, _, _, rfl, rfl, _, rfl, ite2 (fun c => ?_) (fun c => ?_)⟩
        · have c := of_decide_eq_true c
          rw [List.length_map] at c
          have hpos : (0 : Int) < (((ns.map V.int).length : Nat) : Int) := by rw [List.length_map]; exact c
          refine ⟨_, rfl, _, rfl, a, _, rfl, .inl hA, _, _, rfl, rfl, hpos, ?_⟩
          let j : Int := ((0 : Int) + (i : Nat)) % (((ns.map V.int).length : Nat) : Int)
          have j0 : 0 ≤ j := Int.emod_nonneg _ (by omega)
          have j1 : j < ((ns.length : Nat) : Int) := by
            have q : j < (((ns.map V.int).length : Nat) : Int) := Int.emod_lt_of_pos ((0 : Int) + (i : Nat)) hpos
            rw [List.length_map] at q
            exact q
          have jl : j.toNat < ns.length := by omega
          have jr : j.toNat < rs.length := by omega
          refine ⟨_, rfl, _, rfl, a, _, _, _, rfl, rfl, hA, atI_int j0 (List.getElem?_eq_getElem jl), .inl ⟨_, rfl, ?_⟩⟩
          refine ⟨_, rfl, _, _, rfl, rfl, ⟨by decide, by decide, by decide⟩, _, _, rfl, rfl, _, rfl, ite2 (fun c2 => ?_) (fun c2 => ?_)⟩
          · refine ⟨_, rfl, _, rfl, R, _, _, _, rfl, rfl, sqL eR, atI_int j0 (List.getElem?_eq_getElem jr), _, _, rfl, rfl, _, rfl, ite2 (fun c3 => ?_) (fun c3 => ?_)⟩
            · refine ⟨_, rfl, .inl ⟨rfl, _, .inl (.inl eP)⟩, _, rfl, _, rfl, R, _, _, _, rfl, rfl, sqL eR, atI_int j0 (List.getElem?_eq_getElem jr), .inl ⟨_, rfl, _, _, rfl, rfl, (by show (0 : Int) < 1000003; decide), p, _, _, rfl, rfl, eP, room, ?_⟩⟩
              let z : Int := rs[j.toNat] % 1000003
              have eR2 : (L2.upd H' p (.lst (ds.map V.int ++ [.int z]))) R = some (.lst (rs.map V.int)) := by rw [upd_ne nRp]; exact eR
              refine ⟨_, rfl, _, rfl, R, _, _, _, rfl, rfl, sqL eR2, atI_int j0 (List.getElem?_eq_getElem jr), .inl ⟨_, rfl, _, _, rfl, rfl, ⟨by decide, by decide⟩, ?_⟩⟩
              refine ⟨_, rfl, _, rfl, R, _, _, j.toNat, rfl, rfl, eR2, ixN_map j0 jr, ?_⟩
              · have M := more (some (.int (0 + (i : Nat)))) (some (.int ns[j.toNat])) (some (.int j)) v7 z
                refine ⟨⟨_, _, _, _, rfl⟩, fun b o e => ?_, nR, np0, nRp, ⟨rs.set j.toNat (rs[j.toNat] / 1000003), by rw [List.length_set]; exact hrl, by rw [upd_same, map_put]⟩, ?_⟩
                · rw [upd_ne (ne_of_none e nR)]
                  exact M.same _ _ e
                · obtain ⟨ds', h1, h2⟩ := M.made
                  exact ⟨ds', h1, by rw [upd_ne nRp.symm]; exact h2⟩
            · exact ⟨rfl, _, _, _, rfl⟩
          · exact ⟨rfl, _, _, _, rfl⟩
        · exact ⟨rfl, _, _, _, rfl⟩
      · rintro σ H' ⟨⟨v4, v5, v6, v7, rfl⟩, sm, _, _, _, _, ⟨ds, _, eP⟩⟩
        exact ⟨_, rfl, k H' p ds sm np0 eP⟩
end
end K10

set_option Elab.async false
set_option linter.all false
set_option maxRecDepth 100000
set_option maxHeartbeats 4000000
namespace K10
open PySem PySem.Spec PyProof.Rows L2
/-! ### rows of cuts -/
def toZ (ks : List Nat) : List Int := ks.map fun k : Nat => (k : Int)
theorem toZ_sum : ∀ ks : List Nat, (toZ ks).sum = (ks.sum : Nat)
  | [] => rfl
  | k :: ks => by
    show ((k : Int) :: toZ ks).sum = ((k :: ks).sum : Nat)
    rw [List.sum_cons, List.sum_cons, toZ_sum ks]
    omega
theorem toZ_app (a b : List Nat) : toZ (a ++ b) = toZ a ++ toZ b := List.map_append
theorem toZ_len (a : List Nat) : (toZ a).length = a.length := List.length_map _
def CutsAt (H : Hp) (l : Addr) (L : List (List Nat)) : Prop := ∃ as : List (Addr × List Nat), H l = some (.lst (as.map fun x => V.ref x.1)) ∧ as.map (·.2) = L ∧ ∀ x ∈ as, H x.1 = some (.tup ((toZ x.2).map V.int))
theorem CutsAt.same {H H' : Hp} {l : Addr} {L : List (List Nat)} (c : CutsAt H l L) (s : Same H H') : CutsAt H' l L := by
  obtain ⟨as, h1, h2, h3⟩ := c
  exact ⟨as, s _ _ h1, h2, fun x hx => s _ _ (h3 x hx)⟩
theorem flat_more {l : List (List Nat)} {f : List Nat → List (List Nat)} {i : Nat} {x : List Nat} (h : l[i]? = some x) : (l.take (i + 1)).flatMap f = (l.take i).flatMap f ++ f x := by
  rw [List.take_add_one, h, List.flatMap_append]
  show _ ++ [x].flatMap f = _
  rw [List.flatMap_singleton]
theorem flat_le (l : List (List Nat)) (f : List Nat → List (List Nat)) (i : Nat) : ((l.take i).flatMap f).length ≤ (l.flatMap f).length := by
  have e : l.flatMap f = (l.take i ++ l.drop i).flatMap f := by rw [List.take_append_drop]
  rw [e, List.flatMap_append, List.length_append]
  exact Nat.le_add_right _ _
/-- what a comprehension has made of the first j numbers -/
def extTo (p : Nat → Bool) (cut : List Nat) (j : Nat) : List (List Nat) := (((List.range j).map (· + 1)).filter p).map fun m => cut ++ [m]
theorem extTo_yes {p : Nat → Bool} {cut : List Nat} {j : Nat} (h : p (j + 1) = true) : extTo p cut (j + 1) = extTo p cut j ++ [cut ++ [j + 1]] := by
  unfold extTo
  rw [List.range_succ, List.map_append, List.filter_append, List.map_append]
  show _ ++ (List.filter p [j + 1]).map _ = _
  rw [List.filter_cons_of_pos h]
  rfl
theorem extTo_no {p : Nat → Bool} {cut : List Nat} {j : Nat} (h : p (j + 1) = false) : extTo p cut (j + 1) = extTo p cut j := by
  unfold extTo
  rw [List.range_succ, List.map_append, List.filter_append, List.map_append]
  show _ ++ (List.filter p [j + 1]).map _ = _
  rw [List.filter_cons_of_neg (by rw [h]; exact Bool.false_ne_true)]
  simp
theorem extTo_len (p : Nat → Bool) (cut : List Nat) (j : Nat) : (extTo p cut j).length ≤ j := by
  unfold extTo
  rw [List.length_map]
  refine Nat.le_trans (List.length_filter_le _ _) ?_
  rw [List.length_map, List.length_range]
  exact Nat.le_refl _
section
variable {P : Program} {w : World} {K : PySem.W.Frag} {mg : Str → Option Value} {base : Heap}
abbrev nCuts : List Str := ["_law_n", "_law_stages", "_law_found", "_law_k", "_law_longer", "_law_cut", "_law_left", "_law_many"]
theorem scCuts : FnScope nCuts ["_law_n", "_law_stages"] (defScope sCuts) := ⟨rfl, rfl, rfl, by decide +kernel, rfl, by decide +kernel, by decide +kernel⟩
def spCuts : Sp := fun vs H Q _ => ∃ (n s : Nat), vs = [.int n, .int s] ∧ 1 ≤ s ∧ s ≤ n ∧ n ≤ 8 ∧ ∀ (H' : Hp) (p : Addr), Same H H' → H p = none → CutsAt H' p (cutsM n s s) → Q (.ref p) H'
theorem ok_cuts {f : Addr} {fd : FuncData} (D : DefOf K mg "_law_cuts" sCuts ["_law_n", "_law_stages"] f fd) (B : Blt mg) : Cal P w K mg base 1 "_law_cuts" ["_law_n", "_law_stages"] spCuts := by
  refine ⟨f, fd, D.F.ok scCuts (fun vs H Q E h => ?_) (fun cdv A outer s H vs Q E hr h => ?_), D.g, D.F.kp, D.b⟩
  · obtain ⟨_, _, rfl, _⟩ := h
    rfl
  · obtain ⟨n, st, rfl, hs1, hs2, hn, k⟩ := h
    refine ⟨_, pss_cons (ps_set (i := 2) scCuts.nd rfl (.inl rfl) (pe_lst (pa_cons (pe_tup pa_nil) pa_nil)))
      (pss_cons (ps_for PassesOwn.never rfl (pi_range1 rfl B.range (pa_cons (pv 1) pa_nil)) (pg_name (i := 3) scCuts.nd rfl (.inr rfl))
        (pss_cons (ps_set (i := 4) scCuts.nd rfl (.inl rfl) (pe_lst pa_nil))
        (pss_cons (ps_for PassesOwn.never rfl (pi_list (pv 2)) (pg_name (i := 5) scCuts.nd rfl (.inr rfl))
          (pss_cons (ps_set (i := 6) scCuts.nd rfl (.inr rfl) (pe_op op_sub (pe_op op_sub (pv 0) (pe_callB (cr_sumT rfl) (by rfl) B.sum (by decide +kernel) (pa_cons (pv 5) pa_nil))) (pe_op op_sub (pe_op op_sub (pv 1) pe_int) (pv 3))))
          (pss_one (ps_set (i := 4) scCuts.nd rfl (.inl rfl) (pe_op op_cat (pv 4)
            (pe_lc (own := [("_law_many", 7)]) (g := gName 7) rfl scCuts.nd (pi_range2 rfl B.range (pa_cons pe_int (pa_cons (pe_op op_add (pv 6) pe_int) pa_nil))) (blkOk_by (N := nCuts) (sc := defScope sCuts) (by decide +kernel))
              (fun _ _ _ _ _ => pg_name (i := 7) scCuts.nd rfl (.inl rfl))
              (fun _ _ _ _ _ => pts_one (PW.pt (pw_or (pt_cmpR op_lt (pv 3) (pe_op op_sub (pv 1) pe_int) (nomark _)) (pw_or1 (pt_cmpR op_eq (pv 7) (pv 6) (nomark _))))))
              (fun _ _ _ _ _ => pe_op (r := rCatA K) op_catA (pv 5) (pe_tup (pa_cons (pv 7) pa_nil)))))))))
        (pss_one (ps_set (i := 2) scCuts.nd rfl (.inl rfl) (pv 4))))))
      (pss_one (ps_ret (pv 2)))), ?_⟩
    -- found = [()]
    refine ⟨Nat.zero_le _, fun e ne => ⟨z_le (by show 1 ≤ 10000; decide), fun F nF => ?_⟩⟩
    have nF0 : H F = none := (same_upd ne).free nF
    have c0 : CutsAt (L2.upd (L2.upd H e (.tup [])) F (.lst [.ref e])) F (cutsM n st 0) := ⟨[(e, [])], upd_same, rfl, fun x hx => by
      rw [List.mem_singleton.mp hx]
      have : e ≠ F := fun z => by
        rw [← z, upd_same] at nF
        cases nF
      show (L2.upd (L2.upd H e (.tup [])) F (.lst [.ref e])) e = _
      rw [upd_ne this, upd_same]
      rfl⟩
    refine ⟨_, rfl, _, rfl, by omega, by omega, for_range (lo := 0) (n := st) (fun i σ H' => ∃ F v3 v4 v5 v6, σ = [some (.int n), some (.int st), some (.ref F), v3, v4, v5, v6, none] ∧ Same H H' ∧ H F = none ∧ CutsAt H' F (cutsM n st i)) ?_ ?_ ?_⟩
    · exact ⟨F, none, none, none, none, rfl, (same_upd ne).trans (same_upd nF), nF0, c0⟩
    · rintro i σ H1 hi ⟨F, v3, v4, v5, v6, rfl, s1, nF, cF⟩
      obtain ⟨as, eF, emap, etup⟩ := id cF
      -- longer = []
      refine ⟨Nat.zero_le _, fun L0 nL0 => ?_⟩
      have eF1 := (same_upd (o := .lst []) nL0) _ _ eF
      refine ⟨_, rfl, F, rfl, ⟨_, sqL eF1⟩, for_list (K := K) (a := F) (xs := as.map fun x => V.ref x.1) (fun j σ H' => ∃ L v5 v6, σ = [some (.int n), some (.int st), some (.ref F), some (.int (0 + (i : Nat))), some (.ref L), v5, v6, none] ∧ Same H1 H' ∧ H1 L = none ∧ CutsAt H' L (((cutsM n st i).take j).flatMap (ext n st i))) ?_ ?_ ?_ ?_⟩
      · exact ⟨L0, v5, v6, rfl, same_upd nL0, nL0, [], upd_same, rfl, fun x hx => by cases hx⟩
      · rintro j σ H' _ ⟨L, v5, v6, rfl, s2, _, _⟩
        exact sqL (s2 _ _ eF)
      · rintro j x σ H2 hx ⟨L, v5, v6, rfl, s2, nL, cL⟩
        have hj := (List.getElem?_eq_some_iff.mp hx).1
        rw [List.length_map] at hj
        obtain ⟨t, ks, hat⟩ : ∃ t ks, as[j]? = some (t, ks) := ⟨as[j].1, as[j].2, List.getElem?_eq_getElem hj⟩
        rw [List.getElem?_map, hat] at hx
        obtain rfl : V.ref t = x := Option.some.inj hx
        have hmem : (t, ks) ∈ as := List.mem_of_getElem? hat
        have et2 := s2 _ _ (etup _ hmem)
        have hkj : (cutsM n st i)[j]? = some ks := by
          rw [← emap, List.getElem?_map, hat]
          rfl
        have PT := cuts_part hs2 i (by omega) ks (List.mem_of_getElem? hkj)
        have hroom := PT.room
        -- left
        refine ⟨_, rfl, _, rfl, t, toZ ks, rfl, sqT et2, _, _, rfl, rfl, _, rfl, _, _, rfl, rfl, _, rfl, _, _, rfl, rfl, _, _, rfl, rfl, ?_⟩
        have eleft : ((n : Nat) : Int) - (toZ ks).sum - (((st : Nat) : Int) - 1 - (0 + ((i : Nat) : Int))) = ((left n st i ks : Nat) : Int) := by
          rw [toZ_sum]
          unfold left
          omega
        have lpos : left n st i ks ≤ 8 := by unfold left; omega
        -- longer + [..]
        let p : Nat → Bool := fun m => decide (i + 1 < st) || decide (m = left n st i ks)
        obtain ⟨bs, eL, bmap, btup⟩ := id cL
        refine ⟨_, rfl, _, rfl, _, _, rfl, rfl, _, _, rfl, ⟨by decide, by decide, ?_, ?_⟩, fun E0 nE => ?_⟩
        · rw [eleft]; omega
        · rw [eleft]; omega
        have cnt : ((((n : Nat) : Int) - (toZ ks).sum - (((st : Nat) : Int) - 1 - (0 + ((i : Nat) : Int)))) + 1 - 1).toNat = left n st i ks := by
          rw [eleft]
          omega
        have nE0 : H1 E0 = none := s2.free nE
        have neL : E0 ≠ L := fun z => by
          rw [z, eL] at nE
          cases nE
        refine lc_range (lo := 1) (n := ((((n : Nat) : Int) - (toZ ks).sum - (((st : Nat) : Int) - 1 - (0 + ((i : Nat) : Int)))) + 1 - 1).toNat) (fun j H' => Same H2 H' ∧ CutsAt H' E0 (extTo p ks j)) ?_ ?_ ?_
        · exact ⟨same_upd nE, [], upd_same, rfl, fun x hx => by cases hx⟩
        · rintro m H3 hm ⟨s3, ds, eD, dmap, dtup⟩
          rw [cnt] at hm
          have et3 := s3 _ _ et2
          have dl : ds.length ≤ m := by
            have e := congrArg List.length dmap
            rw [List.length_map] at e
            have := extTo_len p ks m
            omega
          have m1 : (1 : Int) + (m : Nat) = ((m + 1 : Nat) : Int) := by omega
          -- one more cut
          have yes : p (m + 1) = true → ∀ (H4 : Hp) (q : Addr), Same H3 H4 → H4 q = some (.tup ((toZ (ks ++ [m + 1])).map V.int)) → ∃ acc, H4 E0 = some (.lst acc) ∧ acc.length < sizeLine ∧ Same H2 (L2.upd H4 E0 (.lst (acc ++ [V.ref q]))) ∧ CutsAt (L2.upd H4 E0 (.lst (acc ++ [V.ref q]))) E0 (extTo p ks (m + 1)) := fun hp H4 q s4 eq => by
            refine ⟨_, s4 _ _ eD, ?_, fun b o e => ?_, ds ++ [(q, ks ++ [m + 1])], ?_, ?_, fun x hx => ?_⟩
            · rw [List.length_map]
              exact z_lt (by omega)
            · have nb : b ≠ E0 := ne_of_none e nE
              rw [upd_ne nb]
              exact s4 _ _ (s3 _ _ e)
            · rw [upd_same, List.map_append]
              rfl
            · rw [List.map_append, dmap, extTo_yes hp]
              rfl
            · have nx : x.1 ≠ E0 := by
                rcases List.mem_append.mp hx with z | z
                · exact ne_of (dtup x z) eD (fun z => by cases z)
                · rw [List.mem_singleton.mp z]
                  exact ne_of eq (s4 _ _ eD) (fun z => by cases z)
              rw [upd_ne nx]
              rcases List.mem_append.mp hx with z | z
              · exact s4 _ _ (dtup x z)
              · rw [List.mem_singleton.mp z]
                exact eq
          -- the element, whatever the cut
          have elem : p (m + 1) = true → ∀ Z : V → Hp → Prop, (∀ (H4 : Hp) (q : Addr), Same H3 H4 → H4 q = some (.tup ((toZ (ks ++ [m + 1])).map V.int)) → Z (.ref q) H4) →
              ∀ u, H3 u = none → rCatA K (.ref t) (.ref u) (L2.upd H3 u (.tup [V.int (1 + (m : Nat))])) Z := fun hp Z hZ u nu => by
            have su := same_upd (o := .tup [V.int (1 + (m : Nat))]) nu
            have eu : (L2.upd H3 u (.tup [V.int (1 + (m : Nat))])) u = some (.tup [V.int (1 + (m : Nat))]) := upd_same
            refine ⟨t, u, (toZ ks).map V.int, [V.int (1 + (m : Nat))], rfl, rfl, sqT (su _ _ et3), sqT eu, ?_, fun h0 => ?_, fun _ h0 => absurd h0 (by simp), fun _ _ v nv => ?_⟩
            · rw [List.length_map, toZ_len, PT.len]
              exact z_le (Nat.le_trans (Nat.add_le_add_left (show [V.int (1 + (m : Nat))].length ≤ 1 from Nat.le_refl _) _) (by omega))
            · refine hZ _ u su ?_
              have e0 : ks = [] := by
                have := congrArg List.length h0
                rw [List.length_map, toZ_len] at this
                exact List.length_eq_zero_iff.mp this
              rw [eu, e0, m1]
              rfl
            · refine hZ _ v (su.trans (same_upd nv)) ?_
              rw [upd_same, toZ_app, List.map_append, m1]
              rfl
          refine ⟨rfl, _, rfl, _, rfl, _, _, rfl, rfl, _, _, rfl, rfl, _, rfl, ite2 (fun c1 => ?_) (fun c1 => ?_)⟩
          · have c1 := of_decide_eq_true c1
            have hp : p (m + 1) = true := by
              show (decide (i + 1 < st) || _) = true
              rw [decide_eq_true (by omega), Bool.true_or]
            refine iteT ⟨_, rfl, _, rfl, len1 _, fun u nu => elem hp _ (fun H4 q s4 eq => ?_) u nu⟩
            exact yes hp H4 q s4 eq
          · have c1 : ¬ (0 + ((i : Nat) : Int) < ((st : Nat) : Int) - 1) := fun z => c1 (decide_eq_true z)
            refine ⟨_, rfl, _, rfl, rfl, _, rfl, ite2 (fun c2 => ?_) (fun c2 => ?_)⟩
            · have c2 : (1 : Int) + (m : Nat) = ((n : Nat) : Int) - (toZ ks).sum - (((st : Nat) : Int) - 1 - (0 + ((i : Nat) : Int))) := V.int.inj (of_decide_eq_true c2)
              have hp : p (m + 1) = true := by
                show (_ || decide (m + 1 = left n st i ks)) = true
                rw [decide_eq_true (show m + 1 = left n st i ks by omega), Bool.or_true]
              refine ⟨_, rfl, _, rfl, len1 _, fun u nu => elem hp _ (fun H4 q s4 eq => ?_) u nu⟩
              exact yes hp H4 q s4 eq
            · have c2 : ¬ ((1 : Int) + (m : Nat) = ((n : Nat) : Int) - (toZ ks).sum - (((st : Nat) : Int) - 1 - (0 + ((i : Nat) : Int)))) := fun z => c2 (decide_eq_true (congrArg V.int z))
              have hp : p (m + 1) = false := by
                show (decide (i + 1 < st) || decide (m + 1 = left n st i ks)) = false
                rw [decide_eq_false (by omega), decide_eq_false (by omega)]
                rfl
              refine ⟨s3, ?_⟩
              rw [extTo_no hp]
              exact ⟨ds, eD, dmap, dtup⟩
        · rintro H3 ⟨s3, ds, eD, dmap, dtup⟩
          rw [cnt] at dmap
          have dl : ds.length ≤ 8 := by
            have e := congrArg List.length dmap
            rw [List.length_map] at e
            have := extTo_len p ks (left n st i ks)
            omega
          have bl : bs.length ≤ 4096 := by
            have e := congrArg List.length bmap
            rw [List.length_map] at e
            have h1 := flat_le (cutsM n st i) (ext n st i) j
            have h2 := cuts_few n (by omega) st (by omega) (i + 1) (by omega)
            have h3 : (cutsM n st (i + 1)).length = ((cutsM n st i).flatMap (ext n st i)).length := rfl
            omega
          refine ⟨_, _, _, _, rfl, rfl, s3 _ _ eL, eD, ?_, fun G nG => ?_⟩
          · rw [List.length_map, List.length_map]
            exact z_le (by omega)
          · refine ⟨G, _, _, rfl, s2.trans (s3.trans (same_upd nG)), s2.free (s3.free nG), bs ++ ds, by rw [upd_same, List.map_append], ?_, fun x hx => ?_⟩
            · rw [List.map_append, bmap, dmap, flat_more hkj]
              rfl
            · rcases List.mem_append.mp hx with z | z
              · exact (same_upd nG) _ _ (s3 _ _ (btup x z))
              · exact (same_upd nG) _ _ (dtup x z)
      · rintro σ H2 ⟨L, v5, v6, rfl, s2, nL, cL⟩
        refine ⟨_, rfl, ?_⟩
        refine ⟨L, _, _, _, _, rfl, s1.trans s2, s1.free nL, ?_⟩
        have e : (cutsM n st i).take (as.map fun x => V.ref x.1).length = cutsM n st i := by
          rw [List.length_map, ← emap, ← List.length_map (f := fun x : Addr × List Nat => x.2) (as := as), List.take_length]
        rw [e] at cL
        exact cL
    · rintro σ H' ⟨F, v3, v4, v5, v6, rfl, s1, nF, cF⟩
      exact ⟨_, rfl, k H' F s1 nF cF⟩
end
end K10

set_option Elab.async false
set_option linter.all false
set_option maxRecDepth 100000
set_option maxHeartbeats 4000000
namespace K10
open PySem PySem.Spec PyProof.Rows L2
/-! ### the layers of a cut's stages -/
def partsM : Nat → List Nat → List (Nat × Nat)
  | _, [] => []
  | f, k :: ks => (f, k) :: partsM (f + k) ks
theorem partsM_at : ∀ (ks : List Nat) (f i k : Nat), ks[i]? = some k → (partsM f ks)[i]? = some (f + (ks.take i).sum, k)
  | [], _, _, _, h => by simp at h
  | a :: ks, f, 0, k, h => by
    have e : a = k := Option.some.inj h
    rw [e]
    rfl
  | a :: ks, f, i + 1, k, h => by
    have q := partsM_at ks (f + a) i k (by simpa using h)
    show (partsM (f + a) ks)[i]? = some (f + ((a :: ks).take (i + 1)).sum, k)
    rw [q, List.take_succ_cons, List.sum_cons]
    congr 2
    omega
theorem partsM_len : ∀ (ks : List Nat) (f : Nat), (partsM f ks).length = ks.length
  | [], _ => rfl
  | a :: ks, f => by
    show (partsM (f + a) ks).length + 1 = ks.length + 1
    rw [partsM_len ks (f + a)]
theorem pSums_parts (l : List Int) : ∀ (ks : List Nat) (f : Nat), pSums (l.drop f) ks = (partsM f ks).map fun x => seg l x.1 (x.1 + x.2)
  | [], _ => rfl
  | k :: ks, f => by
    show ((l.drop f).take k).sum :: pSums ((l.drop f).drop k) ks = seg l f (f + k) :: (partsM (f + k) ks).map fun x => seg l x.1 (x.1 + x.2)
    rw [List.drop_drop, pSums_parts l ks (f + k)]
    unfold seg
    have e : f + k - f = k := by omega
    rw [e]
theorem parts_room : ∀ (ks : List Nat) (f : Nat), ∀ x ∈ partsM f ks, x.1 + x.2 ≤ f + ks.sum
  | [], _, x, h => by cases h
  | k :: ks, f, x, h => by
    have h' : x ∈ (f, k) :: partsM (f + k) ks := h
    rw [List.sum_cons]
    rcases List.mem_cons.mp h' with e | e
    · rw [e]
      show f + k ≤ _
      omega
    · have := parts_room ks (f + k) x e
      omega
section
variable {P : Program} {w : World} {K : PySem.W.Frag} {mg : Str → Option Value} {base : Heap}
abbrev nParts : List Str := ["_law_cut", "_law_parts_here", "_law_first", "_law_many"]
theorem scParts : FnScope nParts ["_law_cut"] (defScope sParts) := ⟨rfl, rfl, rfl, by decide +kernel, rfl, by decide +kernel, by decide +kernel⟩
def PartsAt (H : Hp) (as : List (Addr × Nat × Nat)) : Prop := ∀ x ∈ as, H x.1 = some (.tup (rgV ((x.2.1 : Nat) : Int) ((x.2.1 + x.2.2 : Nat) : Int)))
def spParts : Sp := fun vs H Q _ => ∃ (t : Addr) (ks : List Nat), vs = [.ref t] ∧ H t = some (.tup ((toZ ks).map V.int)) ∧ ks.sum ≤ 8 ∧ ks.length ≤ 8 ∧
  ∀ (H' : Hp) (p : Addr) (as : List (Addr × Nat × Nat)), Same H H' → H p = none → H' p = some (.tup (as.map fun x => V.ref x.1)) → as.map (·.2) = partsM 0 ks → PartsAt H' as → Q (.ref p) H'
theorem ok_parts {f : Addr} {fd : FuncData} (D : DefOf K mg "_law_parts" sParts ["_law_cut"] f fd) (B : Blt mg) : Cal P w K mg base 1 "_law_parts" ["_law_cut"] spParts := by
  refine ⟨f, fd, D.F.ok scParts (fun vs H Q E h => ?_) (fun cdv A outer s H vs Q E hr h => ?_), D.g, D.F.kp, D.b⟩
  · obtain ⟨_, _, rfl, _⟩ := h
    rfl
  · obtain ⟨t, ks, rfl, et, hsum, hlen, k⟩ := h
    refine ⟨_, pss_cons (ps_set (i := 1) scParts.nd rfl (.inl rfl) (pe_lst pa_nil))
      (pss_cons (ps_set (i := 2) scParts.nd rfl (.inl rfl) pe_int)
      (pss_cons (ps_for PassesOwn.never rfl (pi_tup (pv 0)) (pg_name (i := 3) scParts.nd rfl (.inl rfl))
        (pss_cons (ps_expr (pe_bm PySem.F.plainAttrs_list PySem.F.slot_list_append PySem.F.type_list_append mt_append (pv 1) (pa_cons (pe_tupRg rfl (by rfl) B.tuple (prg_2 (by rfl) B.range (pv 2) (pe_op op_add (pv 2) (pv 3)))) pa_nil)))
        (pss_one (ps_set (i := 2) scParts.nd rfl (.inl rfl) (pe_op op_add (pv 2) (pv 3))))))
      (pss_one (ps_ret (pe_callTy call_tuple_of (by rfl) B.tuple (by decide +kernel) (pa_cons (pv 1) pa_nil)))))), ?_⟩
    refine ⟨Nat.zero_le _, fun L nL => ?_⟩
    have s0 := same_upd (o := .lst []) nL
    refine ⟨_, rfl, t, rfl, ⟨_, sqT (s0 _ _ et)⟩, for_tup (K := K) (a := t) (xs := (toZ ks).map V.int) (fun i σ H' => ∃ v3, σ = [some (.ref t), some (.ref L), some (.int (((ks.take i).sum : Nat) : Int)), v3] ∧ Same H H' ∧ ∃ as : List (Addr × Nat × Nat), H' L = some (.lst (as.map fun x => V.ref x.1)) ∧ as.map (·.2) = (partsM 0 ks).take i ∧ PartsAt H' as) ?_ ?_ ?_ ?_⟩
    · exact ⟨none, rfl, s0, [], upd_same, rfl, fun x hx => by cases hx⟩
    · rintro i σ H' _ ⟨_, _, sm, _⟩
      exact sqT (sm _ _ et)
    · rintro i x σ H1 hx ⟨v3, rfl, s1, as, eL, emap, hp⟩
      obtain ⟨z, hz, rfl⟩ := int_at hx
      obtain ⟨kk, hk, rfl⟩ : ∃ kk : Nat, ks[i]? = some kk ∧ ((kk : Nat) : Int) = z := by
        have hz' : (ks.map fun k : Nat => (k : Int))[i]? = some z := hz
        rw [List.getElem?_map] at hz'
        cases e : ks[i]? with
        | none =>
          rw [e] at hz'
          cases hz'
        | some kk =>
          rw [e] at hz'
          exact ⟨kk, rfl, Option.some.inj hz'⟩
      have hpa := partsM_at ks 0 i kk hk
      rw [Nat.zero_add] at hpa
      have hroom := parts_room ks 0 _ (List.mem_of_getElem? hpa)
      have hroom : (ks.take i).sum + kk ≤ 0 + ks.sum := hroom
      have al : as.length ≤ 8 := by
        have e := congrArg List.length emap
        rw [List.length_map, List.length_take, partsM_len] at e
        omega
      have esum : (((ks.take i).sum : Nat) : Int) + ((kk : Nat) : Int) = (((ks.take i).sum + kk : Nat) : Int) := by omega
      refine ⟨_, rfl, .inl ⟨rfl, _, .inl (.inl eL)⟩, _, rfl, _, rfl, _, rfl, _, _, rfl, rfl, _, _, rfl, rfl, .of_le (by omega) (by omega) (by omega) (by omega), fun q nq => ?_⟩
      have nqL : L ≠ q := ne_of_none eL nq
      refine ⟨L, _, _, rfl, rfl, (same_upd nq) _ _ eL, ?_, ?_⟩
      · rw [List.length_map]
        exact z_lt (by omega)
      refine ⟨_, rfl, _, rfl, _, _, rfl, rfl, ?_⟩
      refine ⟨some (.int ((kk : Nat) : Int)), ?_, fun b o e => ?_, as ++ [(q, ((ks.take i).sum, kk))], ?_, ?_, fun y hy => ?_⟩
      · have e2 : (ks.take (i + 1)).sum = (ks.take i).sum + kk := by
          rw [List.take_add_one, hk]
          exact sum_snoc _ _
        rw [e2, ← esum]
        rfl
      · have nb : b ≠ L := ne_of_none e nL
        rw [upd_ne nb]
        exact (same_upd nq) _ _ (s1 _ _ e)
      · rw [upd_same, List.map_append]
        rfl
      · rw [List.map_append, emap, List.take_add_one, hpa]
        rfl
      · rcases List.mem_append.mp hy with e | e
        · rw [upd_ne (ne_of (hp y e) eL (fun z => by cases z))]
          exact (same_upd nq) _ _ (hp y e)
        · rw [List.mem_singleton.mp e]
          show (L2.upd (L2.upd H1 q _) L _) q = _
          rw [upd_ne nqL.symm, upd_same, esum]
    · rintro σ H1 ⟨v3, rfl, s1, as, eL, emap, hp⟩
      rw [List.length_map, toZ_len, List.take_of_length_le (by rw [partsM_len]; exact Nat.le_refl _)] at emap
      refine ⟨_, rfl, L, _, rfl, .inl ⟨sqL eL, fun p np => ?_⟩⟩
      exact k _ p as (s1.trans (same_upd np)) (s1.free np) upd_same emap fun x hx => (same_upd np) _ _ (hp x hx)
/-! ### the greatest sum of a cut -/
abbrev nGreat : List Str := ["_law_costs_here", "_law_cut", "_law_part", "_law_layer"]
theorem scGreat : FnScope nGreat ["_law_costs_here", "_law_cut"] (defScope sGreat) := ⟨rfl, rfl, rfl, by decide +kernel, rfl, by decide +kernel, by decide +kernel⟩
/-- the scope of the outer comprehension -/
def gScope : Scope := match defBody sGreat with
  | .Return (some (.Call _ (.ListComp _ _ sc _ :: _) _ _)) _ :: _ => sc
  | _ => { kind := .function, names := [], isGenerator := false, isCoroutine := false }
def spGreat (K : PySem.W.Frag) : Sp := fun vs H Q _ => ∃ (c t : Addr) (cs : List Int) (ks : List Nat), vs = [.ref c, .ref t] ∧ SqL K H c (cs.map V.int) ∧ H t = some (.tup ((toZ ks).map V.int)) ∧ cs.length ≤ 8 ∧ 1 ≤ ks.length ∧ IsCut cs.length ks ∧
  ∀ (H' : Hp) (m : Int), Same H H' → (∀ B, m ≤ B ↔ ∀ y ∈ pSums cs ks, y ≤ B) → Q (.int m) H'
theorem ok_great {f : Addr} {fd : FuncData} (D : DefOf K mg "_law_greatest" sGreat ["_law_costs_here", "_law_cut"] f fd) (B : Blt mg) (cP : Cal P w K mg base 1 "_law_parts" ["_law_cut"] spParts) :
    Cal P w K mg base 2 "_law_greatest" ["_law_costs_here", "_law_cut"] (spGreat K) := by
  refine ⟨f, fd, D.F.ok scGreat (fun vs H Q E h => ?_) (fun cdv A outer s H vs Q E hr h => ?_), D.g, D.F.kp, D.b⟩
  · obtain ⟨_, _, _, _, rfl, _⟩ := h
    rfl
  · obtain ⟨c, t, cs, ks, rfl, hc, et, hc8, hk1, hcut, k⟩ := h
    have hkl : ks.length ≤ 8 := by
      have := sum_ge ks hcut.1
      have := hcut.2
      omega
    refine ⟨_, pss_one (ps_ret (pe_callB (cr_max rfl) (by rfl) B.max (by decide +kernel) (pa_cons
      (pe_lc (own := [("_law_part", 2)]) (g := gName 2) (tt := tYes) rfl scGreat.nd (pi_tup (pe_k cP hr (Nat.le_refl _) (pa_cons (pv 1) pa_nil))) (blkOk_by (N := nGreat) (sc := defScope sGreat) (by decide +kernel))
        (fun _ _ _ _ _ => pg_name (i := 2) scGreat.nd rfl (.inl rfl)) (fun _ _ _ _ _ => pts_nil)
        (fun _ _ _ _ _ => pe_callB (r := rSum K) (cr_sum rfl) (by rfl) B.sum (by decide +kernel) (pa_cons
          (pe_lc (wi := iTup K (tVar 2)) (own := [("_law_layer", 3)]) (g := gName 3) (tt := tYes) rfl scGreat.nd (pi_tup (pv 2)) (blkOk_by (N := nGreat) (sc := relS gScope (defScope sGreat)) (by decide +kernel))
            (fun _ _ _ _ _ => pg_name (i := 3) scGreat.nd rfl (.inl rfl)) (fun _ _ _ _ _ => pts_nil)
            (fun _ _ _ _ _ => pe_ix (r := rIxL K) ix_list (pv 0) (pv 3) (fun _ _ => rfl))) pa_nil))) pa_nil))), ?_⟩
    refine ⟨_, rfl, t, ks, rfl, et, by have := hcut.2; omega, hkl, fun H1 p as s1 np ep emap hp => ?_⟩
    refine ⟨p, rfl, ⟨_, sqT ep⟩, fun E0 nE => ?_⟩
    refine lc_tup (K := K) (a := p) (xs := as.map fun x => V.ref x.1) (fun i H' => Same H1 H' ∧ H' E0 = some (.lst ((((partsM 0 ks).take i).map fun x => seg cs x.1 (x.1 + x.2)).map V.int))) ?_ ?_ ?_ ?_
    · exact ⟨same_upd nE, upd_same⟩
    · rintro i H' _ ⟨sm, _⟩
      exact sqT (sm _ _ ep)
    · rintro i x H2 hx ⟨s2, eE⟩
      have hi := (List.getElem?_eq_some_iff.mp hx).1
      rw [List.length_map] at hi
      obtain ⟨q, fi, ki, hat⟩ : ∃ q fi ki, as[i]? = some (q, fi, ki) := ⟨as[i].1, as[i].2.1, as[i].2.2, List.getElem?_eq_getElem hi⟩
      rw [List.getElem?_map, hat] at hx
      obtain rfl : V.ref q = x := Option.some.inj hx
      have eq2 := s2 _ _ (hp _ (List.mem_of_getElem? hat))
      have hpart : (partsM 0 ks)[i]? = some (fi, ki) := by
        rw [← emap, List.getElem?_map, hat]
        rfl
      have hroom : fi + ki ≤ 0 + ks.sum := parts_room ks 0 _ (List.mem_of_getElem? hpart)
      have hcs : ks.sum = cs.length := hcut.2
      have hc2 : SqL K H2 c (cs.map V.int) := (s1.trans s2).seq hc
      refine ⟨rfl, yes_then ?_⟩
      refine ⟨_, rfl, q, rfl, ⟨_, sqT eq2⟩, fun E1 nE1 => ?_⟩
      have nE1E : E0 ≠ E1 := ne_of_none eE nE1
      refine lc_tup (K := K) (a := q) (xs := rgV ((fi : Nat) : Int) ((fi + ki : Nat) : Int)) (fun j H' => Same H2 H' ∧ H' E1 = some (.lst (((cs.drop fi).take j).map V.int))) ?_ ?_ ?_ ?_
      · exact ⟨same_upd nE1, upd_same⟩
      · rintro j H' _ ⟨sm, _⟩
        exact sqT (sm _ _ eq2)
      · rintro j x H3 hx ⟨s3, eD⟩
        have hj := (List.getElem?_eq_some_iff.mp hx).1
        rw [rgV_length] at hj
        have hx' : x = V.int (((fi : Nat) : Int) + (j : Nat)) := by
          unfold rgV at hx
          rw [List.getElem?_map, List.getElem?_range hj] at hx
          exact (Option.some.inj hx).symm
        subst hx'
        have hin : fi + j < cs.length := by omega
        have hget : cs[fi + j]? = some cs[fi + j] := List.getElem?_eq_getElem hin
        refine ⟨rfl, yes_then ?_⟩
        refine ⟨_, rfl, _, rfl, c, _, _, _, rfl, rfl, s3.seq hc2, atI_int (x := cs[fi + j]) (by omega) ?_, ?_⟩
        · have e : (((fi : Nat) : Int) + (j : Nat)).toNat = fi + j := by omega
          rw [e]
          exact hget
        · refine ⟨_, eD, ?_, fun b o e => ?_, ?_⟩
          · rw [List.length_map, List.length_take, List.length_drop]
            exact z_lt (by omega)
          · have nb : b ≠ E1 := ne_of_none e nE1
            rw [upd_ne nb]
            exact s3 _ _ e
          · rw [upd_same, List.take_add_one, List.getElem?_drop, hget, List.map_append]
            rfl
      · rintro H3 ⟨s3, eD⟩
        rw [rgV_length] at eD
        have ek : (((fi + ki : Nat) : Int) - ((fi : Nat) : Int)).toNat = ki := by omega
        rw [ek] at eD
        refine ⟨E1, _, rfl, sqL eD, ?_⟩
        refine ⟨_, s3 _ _ eE, ?_, fun b o e => ?_, ?_⟩
        · rw [List.length_map, List.length_map, List.length_take, partsM_len]
          exact z_lt (by omega)
        · have nb : b ≠ E0 := ne_of_none e nE
          rw [upd_ne nb]
          exact s3 _ _ (s2 _ _ e)
        · rw [upd_same, List.take_add_one, hpart, List.map_append, List.map_append]
          have es : ((cs.drop fi).take ki).sum = seg cs fi (fi + ki) := by
            unfold seg
            rw [Nat.add_sub_cancel_left]
          rw [es]
          rfl
    · rintro H2 ⟨s2, eE⟩
      have el : as.length = (partsM 0 ks).length := by rw [← emap, List.length_map]
      rw [List.length_map, el, List.take_length, ← pSums_parts cs ks 0, List.drop_zero] at eE
      have pl : (pSums cs ks).length = ks.length := by
        have e := pSums_parts cs ks 0
        rw [List.drop_zero] at e
        rw [e, List.length_map, partsM_len]
      refine ⟨E0, _, rfl, sqL eE, by omega, fun m hm hle => ?_⟩
      exact k H2 m (s1.trans s2) fun B => ⟨fun h y hy => Int.le_trans (hle y hy) h, fun h => h m hm⟩
end
end K10

set_option Elab.async false
set_option linter.all false
set_option maxRecDepth 100000
set_option maxHeartbeats 4000000
namespace K10
open PySem PySem.Spec PyProof.Rows L2
section
variable {K : PySem.W.Frag} {a b : Addr} {xs ys : List V}
theorem walk_enumT : Walk (IteT K a) xs.length (fun H => SqT K H a xs) (YPair (fun i => some (.int (i : Nat))) (fun i => xs[i]?)) := by
  refine ⟨fun i H hi q => ⟨xs, xs[i], q, List.getElem?_eq_getElem hi⟩, fun H q => ⟨xs, q, rfl⟩, ?_⟩
  rintro i H v H' _ q ⟨T, x, h1, h2, h3, h4⟩
  exact ⟨T, .int (i : Nat), x, h1, h2, h3, rfl, h4 xs q⟩
theorem walk_zipT {n : Nat} (hn : n = min xs.length ys.length) : Walk (RZ.ItzT K a b) n (fun H => SqT K H a xs ∧ SqT K H b ys) (YPair (fun i => xs[i]?) (fun i => ys[i]?)) := by
  subst hn
  refine ⟨fun i H hi q => ?_, fun H q => ⟨xs, ys, q.1, q.2, by omega⟩, ?_⟩
  · exact ⟨xs, ys, xs[i]'(by omega), ys[i]'(by omega), q.1, q.2, List.getElem?_eq_getElem (by omega), List.getElem?_eq_getElem (by omega)⟩
  · rintro i H v H' _ q ⟨T, x, z, h1, h2, h3, h4, h5⟩
    exact ⟨T, x, z, h1, h2, h3, h4 xs q.1, h5 ys q.2⟩
/-- a list or a tuple, walked -/
theorem seq_it {H : Hp} {ns : List Int} {σ : L2.St} {i : Nat} {R : It → Hp → Prop} (q : Seq K H a ns) (hv : σ[i]? = some (some (.ref a)))
    (h : ∀ (J : It) (G : Hp → Prop), Walk J ns.length G (YAt (ns.map V.int)) → (∀ H', Same H H' → G H') → R J H) : iList K (tVar i) σ H R ∨ iTup K (tVar i) σ H R := by
  rcases q with q | q
  · refine .inl ⟨_, hv, a, rfl, ⟨_, q⟩, h _ _ ?_ fun H' s => s.seq q⟩
    have e := walk_list (K := K) (a := a) (xs := ns.map V.int)
    rwa [List.length_map] at e
  · refine .inr ⟨_, hv, a, rfl, ⟨_, q⟩, h _ _ ?_ fun H' s => same_tup s q⟩
    have e := walk_tup (K := K) (a := a) (xs := ns.map V.int)
    rwa [List.length_map] at e
/-- .. enumerated -/
theorem enum_it {H : Hp} {ns : List Int} {R : It → Hp → Prop} (q : Seq K H a ns)
    (h : ∀ (J : It) (G : Hp → Prop), Walk J ns.length G (YPair (fun i => some (.int (i : Nat))) (fun i => (ns.map V.int)[i]?)) → (∀ H', Same H H' → G H') → R J H) :
    ∃ a' xs, [V.ref a] = [.ref a'] ∧ ((SqL K H a' xs ∧ R (Ite K a') H) ∨ (SqT K H a' xs ∧ R (IteT K a') H)) := by
  rcases q with q | q
  · refine ⟨a, _, rfl, .inl ⟨q, h _ _ ?_ fun H' s => s.seq q⟩⟩
    have e := walk_enum (K := K) (a := a) (xs := ns.map V.int)
    rwa [List.length_map] at e
  · refine ⟨a, _, rfl, .inr ⟨q, h _ _ ?_ fun H' s => same_tup s q⟩⟩
    have e := walk_enumT (K := K) (a := a) (xs := ns.map V.int)
    rwa [List.length_map] at e
theorem cut_seg (cs : List Int) {i j : Nat} (h1 : i ≤ j) (h2 : j ≤ cs.length) : cutV (cs.map V.int) (some (i : Int)) (some (j : Int)) = ((cs.drop i).take (j - i)).map V.int := by
  unfold cutV
  rw [HT.sIx_nat, HT.sIx_nat, List.length_map, Nat.min_eq_left h2, Nat.min_eq_left (Nat.le_trans h1 h2), ← List.map_drop, ← List.map_take]
theorem cut_from (cs : List Int) {i : Nat} (h : i ≤ cs.length) : cutV (cs.map V.int) (some (i : Int)) none = (cs.drop i).map V.int := by
  unfold cutV
  rw [HT.sIx_nat, HT.sIx_none, List.length_map, Nat.min_eq_left h, ← List.map_drop, ← List.map_take, List.take_of_length_le]
  rw [List.length_drop]
  exact Nat.le_refl _
theorem cut_to (cs : List Int) {j : Nat} (h : j ≤ cs.length) : cutV (cs.map V.int) none (some (j : Int)) = (cs.take j).map V.int := by
  unfold cutV
  rw [HT.sIx_nat, HT.sIx_none, List.length_map, Nat.min_eq_left h, List.drop_zero, Nat.sub_zero, ← List.map_take]
end
/-- a hand and what a draw keeps -/
theorem Keep.hand {h a : Addr} {H H' : Hp} {o : HO} (k : Keep h H H') (n : a ≠ h) (e : H a = some o) : H' a = some o := k _ _ n e
section
variable {P : Program} {w : World} {K : PySem.W.Frag} {mg : Str → Option Value} {base : Heap}
/-! ### the costs -/
abbrev nCosts : List Str := ["_law_hand", "_law_most", "_law_kind", "_law_costs_here", "_law_k"]
theorem scCosts : FnScope nCosts ["_law_hand", "_law_most"] (defScope sCosts) := ⟨rfl, rfl, rfl, by decide +kernel, rfl, by decide +kernel, by decide +kernel⟩
/-- costs that may be -/
structure CostsOk (cs : List Int) : Prop where
  one : 1 ≤ cs.length
  few : cs.length ≤ 8
  pos : NonNeg cs
def spCosts : Sp := fun vs H Q _ => ∃ (h d : Addr), vs = [.ref h, .int 8] ∧ HandAt H h d ∧ ∀ (H' : Hp) (p : Addr) (cs : List Int), Keep h H H' → HandAt H' h d → p ≠ h → H p = none → H' p = some (.lst (cs.map V.int)) → CostsOk cs → Q (.ref p) H'
theorem ok_costs {f : Addr} {fd : FuncData} (D : DefOf K mg "_law_costs" sCosts ["_law_hand", "_law_most"] f fd) (B : Blt mg) (cT : Cal P w K mg base 1 "_law_take" ["_law_hand", "_law_many"] spTake) : Cal P w K mg base 2 "_law_costs" ["_law_hand", "_law_most"] spCosts := by
  refine ⟨f, fd, D.F.ok scCosts (fun vs H Q E h => ?_) (fun cdv A outer s H vs Q E hr h => ?_), D.g, D.F.kp, D.b⟩
  · obtain ⟨_, _, rfl, _⟩ := h
    rfl
  · obtain ⟨h, d, rfl, hH, k⟩ := h
    refine ⟨_, pss_cons (ps_set (i := 2) scCosts.nd rfl (.inl rfl) (pe_k cT hr (Nat.le_refl _) (pa_cons (pv 0) (pa_cons pe_int pa_nil))))
      (pss_cons (ps_set (i := 3) scCosts.nd rfl (.inl rfl) (pe_lst pa_nil))
      (pss_cons (ps_for PassesOwn.never rfl (pi_range1 rfl B.range (pa_cons (pe_op op_add pe_int (pe_k cT hr (Nat.le_refl _) (pa_cons (pv 0) (pa_cons (pv 1) pa_nil)))) pa_nil)) (pg_name (i := 4) scCosts.nd rfl (.inl rfl))
        (pss_one (ps_expr (pe_bm PySem.F.plainAttrs_list PySem.F.slot_list_append PySem.F.type_list_append mt_append (pv 3) (pa_cons (pe_ix ix_list
          (pe_lst (pa_cons (pe_k cT hr (Nat.le_refl _) (pa_cons (pv 0) (pa_cons pe_int pa_nil))) (pa_cons (pe_k cT hr (Nat.le_refl _) (pa_cons (pv 0) (pa_cons pe_int pa_nil)))
            (pa_cons (pe_op op_add pe_int (pe_k cT hr (Nat.le_refl _) (pa_cons (pv 0) (pa_cons pe_int pa_nil)))) (pa_cons pe_int pa_nil))))) (pv 2) (fun _ _ => rfl)) pa_nil)))))
      (pss_one (ps_ret (pv 3))))), ?_⟩
    refine ⟨_, rfl, h, d, 4, rfl, by decide, hH, fun kd H1 kd0 kd1 k1 hH1 => ?_⟩
    refine ⟨Nat.zero_le _, fun p np => ?_⟩
    have hH2 := hH1.new (o := .lst []) np
    have hne : p ≠ h := (hH1.fresh np).1
    have npd : p ≠ d := (hH1.fresh np).2
    have npH : H p = none := k1.free np hne
    refine ⟨_, rfl, _, rfl, h, d, 8, rfl, by decide, hH2, fun r H3 r0 r1 k3 hH3 => ⟨_, _, rfl, rfl, _, rfl, by omega, by omega, ?_⟩⟩
    refine for_range (lo := 0) (n := ((1 : Int) + r).toNat) (fun i σ H' => ∃ v4, σ = [some (.ref h), some (.int 8), some (.int kd), some (.ref p), v4] ∧ Keep h H H' ∧ HandAt H' h d ∧ ∃ cs : List Int, H' p = some (.lst (cs.map V.int)) ∧ cs.length = i ∧ NonNeg cs) ?_ ?_ ?_
    · exact ⟨none, rfl, k1.trans ((Keep.new np).trans k3), hH3, [], k3 _ _ hne upd_same, rfl, fun x hx => by cases hx⟩
    · rintro i σ H4 hi ⟨v4, rfl, k4, hH4, cs, ep, hl, hn⟩
      refine ⟨_, rfl, .inl ⟨rfl, _, .inl (.inl ep)⟩, ?_⟩
      refine ⟨_, rfl, h, d, 4, rfl, by decide, hH4, fun x1 H5 x10 x11 k5 hH5 => ?_⟩
      refine ⟨_, rfl, h, d, 1001, rfl, by decide, hH5, fun x2 H6 x20 x21 k6 hH6 => ?_⟩
      refine ⟨_, rfl, h, d, 9, rfl, by decide, hH6, fun x3 H7 x30 x31 k7 hH7 => ⟨_, _, rfl, rfl, ?_⟩⟩
      refine ⟨z_le (by show 4 ≤ 10000; decide), fun q nq => ?_⟩
      have e7 : H7 p = some (.lst (cs.map V.int)) := k7 _ _ hne (k6 _ _ hne (k5 _ _ hne ep))
      have hpq : p ≠ q := ne_of_none e7 nq
      -- the item, whichever it is
      have pick : ∃ x : Int, 0 ≤ x ∧ atI [V.int x1, V.int x2, V.int (1 + x3), V.int 7] kd = some (V.int x) := by
        rcases (show kd = 0 ∨ kd = 1 ∨ kd = 2 ∨ kd = 3 by omega) with z | z | z | z
        · exact ⟨x1, x10, by rw [z]; rfl⟩
        · exact ⟨x2, x20, by rw [z]; rfl⟩
        · exact ⟨1 + x3, by omega, by rw [z]; rfl⟩
        · exact ⟨7, by decide, by rw [z]; rfl⟩
      obtain ⟨x, x0, hx⟩ := pick
      have sq := same_upd (o := .lst [V.int x1, V.int x2, V.int (1 + x3), V.int 7]) nq
      refine ⟨_, rfl, q, _, kd, _, rfl, rfl, sqL upd_same, hx, ?_⟩
      refine ⟨p, _, _, rfl, rfl, sq _ _ e7, ?_, ?_⟩
      · rw [List.length_map]
        exact z_lt (by omega)
      · have k8 : Keep h H (L2.upd (L2.upd H7 q (.lst [V.int x1, V.int x2, V.int (1 + x3), V.int 7])) p (.lst (cs.map V.int ++ [V.int x]))) := fun b o nb e => by
          have hb : b ≠ p := ne_of_none e npH
          rw [upd_ne hb]
          exact sq _ _ (k7 _ _ nb (k6 _ _ nb (k5 _ _ nb (k4 _ _ nb e))))
        refine ⟨some (.int (0 + (i : Nat))), rfl, k8, (hH7.same sq).store hne npd, cs ++ [x], by rw [upd_same, map_snoc], by rw [List.length_append, hl]; rfl, fun y hy => ?_⟩
        · rcases List.mem_append.mp hy with z | z
          · exact hn y z
          · rw [List.mem_singleton.mp z]
            exact x0
    · rintro σ H4 ⟨v4, rfl, k4, hH4, cs, ep, hl, hn⟩
      exact ⟨_, rfl, k H4 p cs k4 hH4 hne npH ep ⟨by omega, by omega, hn⟩⟩
end
end K10

set_option Elab.async false
set_option linter.all false
set_option maxRecDepth 100000
set_option maxHeartbeats 4000000
namespace K10
open PySem PySem.Spec PyProof.Rows L2
theorem seg_sum (cs : List Int) (i j : Nat) : ((cs.drop i).take (j - i)).sum = seg cs i j := rfl
theorem gre_some {c : List Int} {m : Int} {k q x : Nat} (h : nextP c m q = some x) : gre c m (k + 1) q = x :: gre c m k x := by
  show (match nextP c m q with | some x => x :: gre c m k x | none => []) = _
  rw [h]
theorem gre_none {c : List Int} {m : Int} {k q : Nat} (h : nextP c m q = none) : gre c m k q = [] := by
  cases k with
  | zero => rfl
  | succ k =>
    show (match nextP c m q with | some x => x :: gre c m k x | none => []) = _
    rw [h]
theorem toZ_at {l : List Nat} {i x : Nat} (h : l[i]? = some x) : (toZ l)[i]? = some (x : Int) := by
  unfold toZ
  rw [List.getElem?_map, h]
  rfl
section
variable {P : Program} {w : World} {K : PySem.W.Frag} {mg : Str → Option Value} {base : Heap}
/-! ### the paper that is due -/
abbrev nDue : List Str := ["_law_costs_here", "_law_stages", "_law_most", "_law_layer", "_law_places", "_law_k"]
theorem scDue : FnScope nDue ["_law_costs_here", "_law_stages", "_law_most"] (defScope sDue) := ⟨rfl, rfl, rfl, by decide +kernel, rfl, by decide +kernel, by decide +kernel⟩
def spDue (K : PySem.W.Frag) : Sp := fun vs H Q _ => ∃ (c : Addr) (cs : List Int) (s : Nat) (m : Int), vs = [.ref c, .int s, .int m] ∧ SqL K H c (cs.map V.int) ∧ 1 ≤ cs.length ∧ cs.length ≤ 8 ∧ s ≤ 8 ∧
  ∀ (H' : Hp) (p : Addr), Same H H' → H p = none → H' p = some (.tup ((toZ (due cs s m)).map V.int)) → Q (.ref p) H'
theorem ok_due {f : Addr} {fd : FuncData} (D : DefOf K mg "_law_due" sDue ["_law_costs_here", "_law_stages", "_law_most"] f fd) (B : Blt mg) : Cal P w K mg base 1 "_law_due" ["_law_costs_here", "_law_stages", "_law_most"] (spDue K) := by
  refine ⟨f, fd, D.F.ok scDue (fun vs H Q E h => ?_) (fun cdv A outer s H vs Q E hr h => ?_), D.g, D.F.kp, D.b⟩
  · obtain ⟨_, _, _, _, rfl, _⟩ := h
    rfl
  · obtain ⟨c, cs, st, m, rfl, hc, h1, h8, hst, k⟩ := h
    refine ⟨_, pss_cons (ps_for PassesOwn.never rfl (pi_range1 rfl B.range (pa_cons (pe_callB call_len_seq (by rfl) B.len PySem.boot_len (pa_cons (pv 0) pa_nil)) pa_nil)) (pg_name (i := 3) scDue.nd rfl (.inl rfl))
        (pss_one (ps_if (pt_cmpR op_ge (pe_ix ix_list (pv 0) (pv 3) (fun _ _ => rfl)) (pv 2) (nomark _)) (pss_one (ps_ret (pe_tup (pa_cons (pv 3) pa_nil)))) pss_nil)))
      (pss_cons (ps_set (i := 4) scDue.nd rfl (.inl rfl) (pe_lst (pa_cons pe_int pa_nil)))
      (pss_cons (ps_for PassesOwn.never rfl (pi_range1 rfl B.range (pa_cons (pv 1) pa_nil)) (pg_name (i := 5) scDue.nd rfl (.inl rfl))
        (pss_one (ps_for PassesOwn.never rfl (pi_range2 rfl B.range (pa_cons (pe_op op_add (pe_ix ix_list (pv 4) (pe_un un_neg pe_int) (fun _ _ => rfl)) pe_int) (pa_cons (pe_callB call_len_seq (by rfl) B.len PySem.boot_len (pa_cons (pv 0) pa_nil)) pa_nil))) (pg_name (i := 3) scDue.nd rfl (.inl rfl))
          (pss_one (ps_if (pt_cmpR op_ge (pe_callB (cr_sum rfl) (by rfl) B.sum (by decide +kernel) (pa_cons (pe_slice sl_list (pv 0) (po_some (pe_ix ix_list (pv 4) (pe_un un_neg pe_int) (fun _ _ => rfl))) (po_some (pe_op op_add (pv 3) pe_int))) pa_nil)) (pv 2) (nomark _))
            (pss_cons (ps_expr (pe_bm PySem.F.plainAttrs_list PySem.F.slot_list_append PySem.F.type_list_append mt_append (pv 4) (pa_cons (pv 3) pa_nil))) (pss_one ps_break)) pss_nil)))))
      (pss_one (ps_ret (pe_callTy call_tuple_of (by rfl) B.tuple (by decide +kernel) (pa_cons (pv 4) pa_nil)))))), ?_⟩
    have lenZ : (((cs.map V.int).length : Nat) : Int) = (cs.length : Nat) := by rw [List.length_map]
    refine ⟨_, rfl, c, _, rfl, .inl hc, _, rfl, by rw [lenZ]; omega, by rw [lenZ]; omega, for_range (lo := 0) (n := (((cs.map V.int).length : Nat) : Int).toNat) (fun i σ H' => ∃ v3 : Option V, σ = [some (.ref c), some (.int (st : Nat)), some (.int m), v3, none, none] ∧ H' = H ∧ ∀ j x, j < i → cs[j]? = some x → x < m) ?_ ?_ ?_⟩
    · exact ⟨none, rfl, rfl, fun j x h => by omega⟩
    · rintro i σ H' hi ⟨v3, rfl, rfl, hlow⟩
      rw [lenZ] at hi
      have hi : i < cs.length := by omega
      have e0 : (0 + ((i : Nat) : Int)).toNat = i := by omega
      refine ⟨_, rfl, _, rfl, c, _, _, _, rfl, rfl, hc, atI_int (x := cs[i]) (by omega) (by rw [e0]; exact List.getElem?_eq_getElem hi), _, rfl, _, _, rfl, rfl, _, rfl, ite2 (fun c1 => ?_) (fun c1 => ?_)⟩
      · have c1 : m ≤ cs[i] := of_decide_eq_true c1
        refine ⟨_, rfl, len1 _, fun p np => ?_⟩
        refine k _ p (same_upd np) np ?_
        have ed : due cs st m = [i] := due_one (List.findIdx?_eq_some_iff_getElem.mpr ⟨hi, decide_eq_true c1, fun j hj hjm => by
          have := hlow j cs[j] hj (List.getElem?_eq_getElem (by omega))
          have := of_decide_eq_true hjm
          omega⟩)
        rw [upd_same, ed]
        have e1 : (0 : Int) + ((i : Nat) : Int) = (i : Nat) := by omega
        rw [e1]
        rfl
      · have c1 : ¬ m ≤ cs[i] := fun z => c1 (decide_eq_true z)
        refine ⟨_, rfl, rfl, fun j x hj hx => ?_⟩
        rcases Nat.lt_or_ge j i with q | q
        · exact hlow j x q hx
        · have : j = i := by omega
          subst this
          rw [List.getElem?_eq_getElem hi] at hx
          have := Option.some.inj hx
          omega
    · rintro σ H' ⟨v3, rfl, rfl, hlow⟩
      have hlt : ∀ x ∈ cs, x < m := fun x hx => by
        obtain ⟨j, hj⟩ := List.getElem?_of_mem hx
        have := (List.getElem?_eq_some_iff.mp hj).1
        exact hlow j x (by rw [lenZ]; omega) hj
      have ed : due cs st m = 0 :: gre cs m st 0 := due_many (List.findIdx?_eq_none_iff.mpr fun x hx => decide_eq_false (by have := hlt x hx; omega))
      refine ⟨len1 _, fun p np => ?_⟩
      -- places
      refine ⟨_, rfl, _, rfl, by omega, by omega, for_range (lo := 0) (n := st) (fun i σ H1 => ∃ (v3 v5 : Option V) (pl : List Nat) (q : Nat), σ = [some (.ref c), some (.int (st : Nat)), some (.int m), v3, some (.ref p), v5] ∧ Same H' H1 ∧ H1 p = some (.lst ((toZ (pl ++ [q])).map V.int)) ∧ pl.length ≤ i ∧ q < cs.length ∧ pl ++ q :: gre cs m (st - i) q = 0 :: gre cs m st 0) ?_ ?_ ?_⟩
      · exact ⟨v3, none, [], 0, rfl, same_upd np, upd_same, Nat.le_refl _, by omega, rfl⟩
      · rintro i σ H1 hi ⟨v3, v5, pl, q, rfl, s1, ep, hpl, hq, hg⟩
        have hat : atI ((toZ (pl ++ [q])).map V.int) (-1) = some (V.int (q : Nat)) := by
          rw [toZ_app, List.map_append]
          exact atI_last _ _
        have e2 : (((cs.length : Nat) : Int) - (((q : Nat) : Int) + 1)).toNat = cs.length - (q + 1) := by omega
        refine ⟨_, rfl, 1, rfl, p, _, -1, _, rfl, rfl, sqL ep, hat, _, _, rfl, rfl, _, rfl, c, _, rfl, .inl (s1.seq hc), _, _, rfl, ⟨by omega, by omega, by rw [lenZ]; omega, by rw [lenZ]; omega⟩, ?_⟩
        refine for_range (lo := ((q : Nat) : Int) + 1) (n := ((((cs.map V.int).length : Nat) : Int) - (((q : Nat) : Int) + 1)).toNat) (fun j σ H2 => ∃ (v3 : Option V), σ = [some (.ref c), some (.int (st : Nat)), some (.int m), v3, some (.ref p), some (.int (0 + (i : Nat)))] ∧ Same H1 H2 ∧ ∀ y, q < y → y < q + 1 + j → seg cs q (y + 1) < m) ?_ ?_ ?_
        · exact ⟨v3, rfl, .refl _, fun y h1 h2 => by omega⟩
        · rintro j σ H2 hj ⟨v3, rfl, s2, hlow2⟩
          rw [lenZ, e2] at hj
          have ep2 := s2 _ _ ep
          have ej : ((q : Nat) : Int) + 1 + ((j : Nat) : Int) + 1 = ((q + 1 + j + 1 : Nat) : Int) := by omega
          refine ⟨_, rfl, _, rfl, 1, rfl, p, _, -1, _, rfl, rfl, sqL ep2, hat, _, rfl, _, rfl, _, _, rfl, rfl, _, rfl, c, _, rfl, (s1.trans s2).seq hc, fun u nu => ?_⟩
          have hu : (L2.upd H2 u (.lst (cutV (cs.map V.int) (some ((q : Nat) : Int)) (some (((q : Nat) : Int) + 1 + ((j : Nat) : Int) + 1))))) u = some (.lst (((cs.drop q).take (q + 1 + j + 1 - q)).map V.int)) := by
            rw [upd_same, ej, cut_seg cs (by omega) (by omega)]
          have su := same_upd (o := .lst (cutV (cs.map V.int) (some ((q : Nat) : Int)) (some (((q : Nat) : Int) + 1 + ((j : Nat) : Int) + 1)))) nu
          refine ⟨u, _, rfl, sqL hu, _, rfl, _, _, rfl, rfl, _, rfl, ite2 (fun c2 => ?_) (fun c2 => ?_)⟩
          · have c2 : m ≤ seg cs q (q + 1 + j + 1) := of_decide_eq_true c2
            have nx : nextP cs m q = some (q + 1 + j) := nextP_is (by omega) (by omega) c2 fun y h1 h2 => hlow2 y h1 h2
            have ep3 := su _ _ ep2
            refine ⟨_, rfl, .inl ⟨rfl, _, .inl (.inl ep3)⟩, _, rfl, p, _, _, rfl, rfl, ep3, ?_, ?_⟩
            · rw [List.length_map, toZ_len, List.length_append]
              exact z_lt (by show pl.length + 1 ≤ 10000; omega)
            · have e3 : ((q : Nat) : Int) + 1 + ((j : Nat) : Int) = ((q + 1 + j : Nat) : Int) := by omega
              refine ⟨_, _, pl ++ [q], q + 1 + j, rfl, fun b o e => ?_, ?_, ?_, by omega, ?_⟩
              · have nb : b ≠ p := ne_of_none e np
                rw [upd_ne nb]
                exact su _ _ (s2 _ _ (s1 _ _ e))
              · rw [upd_same, e3, toZ_app (pl ++ [q]), List.map_append]
                rfl
              · rw [List.length_append, List.length_singleton]
                omega
              · have e4 : st - i = (st - (i + 1)) + 1 := by omega
                rw [e4, gre_some nx] at hg
                rw [List.append_assoc]
                exact hg
          · have c2 : ¬ m ≤ seg cs q (q + 1 + j + 1) := fun z => c2 (decide_eq_true z)
            refine ⟨_, rfl, s2.trans su, fun y h1 h2 => ?_⟩
            rcases Nat.lt_or_ge y (q + 1 + j) with z | z
            · exact hlow2 y h1 z
            · have : y = q + 1 + j := by omega
              rw [this]
              omega
        · rintro σ H2 ⟨v3, rfl, s2, hlow2⟩
          rw [lenZ, e2] at hlow2
          have nn : nextP cs m q = none := nextP_no fun y h1 h2 => hlow2 y h1 (by omega)
          refine ⟨v3, _, pl, q, rfl, s1.trans s2, s2 _ _ ep, by omega, hq, ?_⟩
          have g1 := gre_none (k := st - i) nn
          have g2 := gre_none (k := st - (i + 1)) nn
          rw [g1] at hg
          rw [g2]
          exact hg
      · rintro σ H1 ⟨v3, v5, pl, q, rfl, s1, ep, hpl, hq, hg⟩
        rw [Nat.sub_self] at hg
        refine ⟨_, rfl, p, _, rfl, .inl ⟨sqL ep, fun u nu => ?_⟩⟩
        refine k _ u (s1.trans (same_upd nu)) (s1.free nu) ?_
        have hg' : pl ++ [q] = 0 :: gre cs m st 0 := hg
        rw [upd_same, ed, hg']
end
end K10

set_option Elab.async false
set_option linter.all false
set_option maxRecDepth 100000
set_option maxHeartbeats 4000000
namespace K10
open PySem PySem.Spec PyProof.Rows L2
section
variable {K : PySem.W.Frag} {a : Addr} {H : Hp} {ns : List Int}
theorem seq_ix (q : Seq K H a ns) {z x : Int} (h0 : 0 ≤ z) (h : ns[z.toNat]? = some x) {Q : VK} (k : Q (.int x) H) : rIx K (.ref a) (.int z) H Q := by
  rcases q with q | q
  · exact .inl ⟨a, _, z, _, rfl, rfl, q, atI_int h0 h, k⟩
  · exact .inr (.inl ⟨a, _, z, _, rfl, rfl, q, atI_int h0 h, k⟩)
/-- a walk, its reading marked -/
theorem pi_w {X : Cx} {tg iter : Expr} {w : TI} (h : PI X tg iter w) : PI X tg iter (fun σ H R => w σ H R ∧ True) := ⟨fun pins s σ H R I q => h.run pins s σ H R I q.1⟩
/-- zip(v, v[1:]) of a list or a tuple -/
theorem zip_it {σ : L2.St} {i : Nat} {R : It → Hp → Prop} (q : Seq K H a ns) (hl : 2 ≤ ns.length) (hv : σ[i]? = some (some (.ref a)))
    (h : ∀ (J : It) (G : Hp → Prop) (H1 : Hp), Same H H1 → Walk J (ns.length - 1) G (YPair (fun i => (ns.map V.int)[i]?) (fun i => ((ns.drop 1).map V.int)[i]?)) → (∀ H', Same H1 H' → G H') → R J H1) :
    RZ.iZipA K (tCons (tVar i) (tCons (tSl (fun x lo hi H Q => rSlL K x lo hi H Q ∨ rSlT K x lo hi H Q) (tVar i) (tPart (tC (.int 1))) tNoPart) tNil)) σ H R ∧ True := by
  have ec : cutV (ns.map V.int) (some 1) none = (ns.drop 1).map V.int := cut_from ns (i := 1) (by omega)
  have en : ns.length - 1 = min (ns.map V.int).length ((ns.drop 1).map V.int).length := by rw [List.length_map, List.length_map, List.length_drop]; omega
  refine ⟨?_, trivial⟩
  rcases q with q | q
  · refine ⟨_, hv, _, hv, 1, rfl, .inl ⟨a, _, rfl, q, fun u nu => ⟨a, u, ns.map V.int, (ns.drop 1).map V.int, rfl, .inl ⟨(same_upd nu).seq q, ?_, ?_⟩⟩⟩⟩
    · exact sqL (by rw [upd_same, ec])
    · exact h _ _ _ (same_upd nu) (walk_zip en) fun H' s => ⟨s.seq ((same_upd nu).seq q), s.seq (sqL (by rw [upd_same, ec]))⟩
  · refine ⟨_, hv, _, hv, 1, rfl, .inr ⟨a, _, rfl, q, ?_, fun u nu => ⟨a, u, ns.map V.int, (ns.drop 1).map V.int, rfl, .inr ⟨same_tup (same_upd nu) q, ?_, ?_⟩⟩⟩⟩
    · have e : HT.sIx (ns.map V.int).length 0 (some 1) = min 1 (ns.map V.int).length := HT.sIx_nat _ _ 1
      rw [e, List.length_map]
      rintro ⟨z, _⟩
      omega
    · exact sqT (by rw [upd_same, ec])
    · exact h _ _ _ (same_upd nu) (walk_zipT en) fun H' s => ⟨same_tup s (same_tup (same_upd nu) q), same_tup s (sqT (by rw [upd_same, ec]))⟩
theorem seq_len (q : Seq K H a ns) : SqL K H a (ns.map V.int) ∨ SqT K H a (ns.map V.int) := q
end
theorem bool_snoc (f : Int → Bool) {pp : List Int} {i : Nat} {z : Int} (h : pp[i]? = some z) : ((pp.take i).map f).map V.bl ++ [V.bl (f z)] = ((pp.take (i + 1)).map f).map V.bl := by
  rw [List.take_add_one, h, List.map_append, List.map_append]
  rfl
theorem all_in (f : Int → Bool) (pp : List Int) : (pp.map f).all id = pp.all f := by
  rw [List.all_map]
  rfl
theorem in_all {cs pp : List Int} (h : pp.all (inR cs.length) = true) {i : Nat} {z : Int} (e : pp[i]? = some z) : 0 ≤ z ∧ z.toNat < cs.length := by
  have q := List.all_eq_true.mp h z (List.mem_of_getElem? e)
  unfold inR at q
  obtain ⟨a, b⟩ := Bool.and_eq_true_iff.mp q
  have a := of_decide_eq_true a
  have b := of_decide_eq_true b
  omega
theorem getD_of {l : List Int} {i : Nat} {z : Int} (h : l[i]? = some z) : l.getD i 0 = z := by
  rw [List.getD_eq_getElem?_getD, h]
  rfl
theorem takes_no {cs : List Int} {s : Nat} {m : Int} {pp : List Int} (h : ¬ pp.all (inR cs.length) = true) : takes cs s m pp = false := by
  unfold takes
  rw [if_neg h]
theorem takes_1 {cs : List Int} {s : Nat} {m : Int} {pp : List Int} (h : pp.all (inR cs.length) = true) (h1 : pp.length = 1) {z x : Int} (hz : pp[0]? = some z) (hx : cs[z.toNat]? = some x) : takes cs s m pp = decide (m ≤ x) := by
  unfold takes
  rw [if_pos h, if_pos h1, getD_of hz, getD_of hx]
theorem takes_len {cs : List Int} {s : Nat} {m : Int} {pp : List Int} (h : pp.all (inR cs.length) = true) (h1 : ¬ pp.length = 1) (h2 : ¬ pp.length = s + 1) : takes cs s m pp = false := by
  unfold takes
  rw [if_pos h, if_neg h1, if_neg h2]
theorem takes_all {cs : List Int} {s : Nat} {m : Int} {pp : List Int} (h : pp.all (inR cs.length) = true) (h1 : ¬ pp.length = 1) (h2 : pp.length = s + 1) : takes cs s m pp = (List.range s).all (pairOk cs m pp) := by
  unfold takes
  rw [if_pos h, if_neg h1, if_pos h2]
theorem pair_is {cs : List Int} {m : Int} {pp : List Int} {i : Nat} {x y : Int} (hx : pp[i]? = some x) (hy : pp[i + 1]? = some y) : pairOk cs m pp i = (decide (x < y) && decide (m ≤ seg cs x.toNat (y.toNat + 1))) := by
  unfold pairOk
  rw [getD_of hx, getD_of hy]
section
variable {P : Program} {w : World} {K : PySem.W.Frag} {mg : Str → Option Value} {base : Heap}
abbrev nTakes : List Str := ["_law_costs_here", "_law_stages", "_law_most", "_law_paper", "_law_k", "_law_place"]
theorem scTakes : FnScope nTakes ["_law_costs_here", "_law_stages", "_law_most", "_law_paper"] (defScope sTakes) := ⟨rfl, rfl, rfl, by decide +kernel, rfl, by decide +kernel, by decide +kernel⟩
/-- what the judge, and the law's own, keep -/
def spJ (K : PySem.W.Frag) : Sp := fun vs H Q _ => ∃ (c p : Addr) (cs pp : List Int) (s : Nat) (m : Int), vs = [.ref c, .int s, .int m, .ref p] ∧ SqL K H c (cs.map V.int) ∧ Seq K H p pp ∧ 1 ≤ cs.length ∧ cs.length ≤ 8 ∧ pp.length ≤ 1000 ∧ 1 ≤ s ∧ s ≤ 8 ∧
  ∀ H' : Hp, Same H H' → Q (.bl (takes cs s m pp)) H'
theorem ok_takes {f : Addr} {fd : FuncData} (D : DefOf K mg "_law_takes" sTakes ["_law_costs_here", "_law_stages", "_law_most", "_law_paper"] f fd) (B : Blt mg) :
    Cal P w K mg base 1 "_law_takes" ["_law_costs_here", "_law_stages", "_law_most", "_law_paper"] (spJ K) := by
  refine ⟨f, fd, D.F.ok scTakes (fun vs H Q E h => ?_) (fun cdv A outer s H vs Q E hr h => ?_), D.g, D.F.kp, D.b⟩
  · obtain ⟨_, _, _, _, _, _, rfl, _⟩ := h
    rfl
  · obtain ⟨c, p, cs, pp, st, m, rfl, hc, hp, h1, h8, hpl, hs1, hs8, k⟩ := h
    refine ⟨_, pss_cons (ps_if (pt_not (pt_val (pe_callB (cr_all rfl) (by rfl) B.all (by decide +kernel) (pa_cons
        (pe_lc (own := [("_law_place", 5)]) (g := gName 5) (tt := tYes) rfl scTakes.nd (pi_or (pi_list (pv 3)) (pi_tup (pv 3))) (blkOk_by (N := nTakes) (sc := defScope sTakes) (by decide +kernel))
          (fun _ _ _ _ _ => pg_name (i := 5) scTakes.nd rfl (.inl rfl)) (fun _ _ _ _ _ => pts_nil)
          (fun _ _ _ _ _ => pe_and (pe_cmpR op_ge (pv 5) pe_int (nomark _)) (pe_one (pe_cmpR op_lt (pv 5) (pe_callB (r := fun xs H Q => ∃ p ys, xs = [.ref p] ∧ (SqL K H p ys ∨ SqT K H p ys) ∧ Q (.int ys.length) H) call_len_seq (by rfl) B.len PySem.boot_len (pa_cons (pv 0) pa_nil)) (nomark _))))) pa_nil)))) (pss_one (ps_ret pe_bl)) pss_nil)
      (pss_cons (ps_if (pt_cmpR op_eq (pe_callB call_len_seq (by rfl) B.len PySem.boot_len (pa_cons (pv 3) pa_nil)) pe_int (nomark _)) (pss_one (ps_ret (pe_cmpR op_ge (pe_ix ix_list (pv 0) (pe_ix ix_seq (pv 3) pe_int (fun _ _ => rfl)) (fun _ _ => rfl)) (pv 2) (nomark _)))) pss_nil)
      (pss_cons (ps_if (pt_cmpR op_ne (pe_callB call_len_seq (by rfl) B.len PySem.boot_len (pa_cons (pv 3) pa_nil)) (pe_op op_add (pv 1) pe_int) (nomark _)) (pss_one (ps_ret pe_bl)) pss_nil)
      (pss_cons (ps_for PassesOwn.never rfl (pi_range1 rfl B.range (pa_cons (pv 1) pa_nil)) (pg_name (i := 4) scTakes.nd rfl (.inl rfl))
        (pss_one (ps_if (PW.pt (pw_or (pt_cmpR op_ge (pe_ix ix_seq (pv 3) (pv 4) (fun _ _ => rfl)) (pe_ix ix_seq (pv 3) (pe_op op_add (pv 4) pe_int) (fun _ _ => rfl)) (nomark _))
          (pw_or1 (pt_cmpR op_lt (pe_callB (cr_sum rfl) (by rfl) B.sum (by decide +kernel) (pa_cons (pe_slice sl_list (pv 0) (po_some (pe_ix ix_seq (pv 3) (pv 4) (fun _ _ => rfl))) (po_some (pe_op op_add (pe_ix ix_seq (pv 3) (pe_op op_add (pv 4) pe_int) (fun _ _ => rfl)) pe_int))) pa_nil)) (pv 2) (nomark _)))))
          (pss_one (ps_ret pe_bl)) pss_nil)))
      (pss_one (ps_ret pe_bl))))), ?_⟩
    refine seq_it (i := 3) hp rfl fun J G W hG E0 nE => ?_
    refine lc_it W (fun i H' => Same H H' ∧ H' E0 = some (.lst (((pp.take i).map (inR cs.length)).map V.bl))) ⟨same_upd nE, upd_same⟩ (fun i H' _ q => hG H' q.1) ?_ ?_
    · rintro i x H1 H1' hi ⟨s1, eE⟩ ⟨rfl, hx⟩
      obtain ⟨z, hz, rfl⟩ := int_at hx
      have put : ∀ b : Bool, b = inR cs.length z → ∃ acc, H1' E0 = some (.lst acc) ∧ acc.length < sizeLine ∧ Same H (L2.upd H1' E0 (.lst (acc ++ [V.bl b]))) ∧ (L2.upd H1' E0 (.lst (acc ++ [V.bl b]))) E0 = some (.lst (((pp.take (i + 1)).map (inR cs.length)).map V.bl)) := fun b hb => by
        refine ⟨_, eE, ?_, fun a o e => ?_, ?_⟩
        · rw [List.length_map, List.length_map, List.length_take]
          exact z_lt (by omega)
        · rw [upd_ne (ne_of_none e nE)]
          exact s1 _ _ e
        · rw [upd_same, hb, bool_snoc _ hz]
      refine ⟨rfl, yes_then ?_⟩
      refine ⟨_, rfl, _, _, rfl, rfl, _, rfl, ite2 (fun c1 => ?_) (fun c1 => ?_)⟩
      · have c1 : 0 ≤ z := of_decide_eq_true c1
        refine ⟨_, rfl, _, rfl, c, _, rfl, .inl (s1.seq hc), _, _, rfl, rfl, put _ ?_⟩
        unfold inR
        rw [List.length_map, decide_eq_true c1, Bool.true_and]
      · have c1 : ¬ 0 ≤ z := fun q => c1 (decide_eq_true q)
        refine put _ ?_
        unfold inR
        rw [decide_eq_false c1, Bool.false_and]
    · rintro H1 ⟨s1, eE⟩
      rw [List.take_length] at eE
      have hc1 := s1.seq hc
      have hp1 := hp.same s1
      refine ⟨E0, _, rfl, sqL eE, _, rfl, ?_⟩
      rw [all_in]
      by_cases ha : pp.all (inR cs.length) = true
      · rw [ha]
        refine iteF ?_
        refine ⟨_, rfl, p, _, rfl, hp1, rfl, _, rfl, ite2 (fun c1 => ?_) (fun c1 => ?_)⟩
        · have c1 : (((pp.map V.int).length : Nat) : Int) = 1 := V.int.inj (of_decide_eq_true c1)
          rw [List.length_map] at c1
          have hl : pp.length = 1 := by omega
          have hz : pp[0]? = some pp[0] := List.getElem?_eq_getElem (by omega)
          obtain ⟨z0, zn⟩ := in_all ha hz
          have hx : cs[pp[0].toNat]? = some cs[pp[0].toNat] := List.getElem?_eq_getElem zn
          refine ⟨_, rfl, _, rfl, seq_ix hp1 (Int.le_refl 0) hz ⟨c, _, _, _, rfl, rfl, hc1, atI_int z0 hx, _, rfl, _, _, rfl, rfl, ?_⟩⟩
          have q := k H1 s1
          rw [takes_1 ha hl hz hx] at q
          exact q
        · have c1 : ¬ pp.length = 1 := fun z => c1 (decide_eq_true (congrArg V.int (by rw [List.length_map, z]; rfl)))
          refine ⟨_, rfl, p, _, rfl, hp1, _, rfl, _, _, rfl, rfl, rfl, _, rfl, ite2 (fun c2 => ?_) (fun c2 => ?_)⟩
          · have c2 : ¬ pp.length = st + 1 := fun z => by
              have e : decide (V.int (((pp.map V.int).length : Nat) : Int) = V.int (((st : Nat) : Int) + 1)) = true := decide_eq_true (congrArg V.int (by rw [List.length_map, z]; omega))
              have c3 : (!decide (V.int (((pp.map V.int).length : Nat) : Int) = V.int (((st : Nat) : Int) + 1))) = true := c2
              rw [e] at c3
              cases c3
            have q := k H1 s1
            rw [takes_len ha c1 c2] at q
            exact q
          · have c2 : pp.length = st + 1 := by
              have c3 : ¬ (!decide (V.int (((pp.map V.int).length : Nat) : Int) = V.int (((st : Nat) : Int) + 1))) = true := c2
              by_cases z : V.int (((pp.map V.int).length : Nat) : Int) = V.int (((st : Nat) : Int) + 1)
              · have := V.int.inj z
                rw [List.length_map] at this
                omega
              · rw [decide_eq_false z] at c3
                exact absurd rfl c3
            refine ⟨_, rfl, _, rfl, by omega, by omega, for_range (lo := 0) (n := st) (fun i σ H2 => ∃ v4 : Option V, σ = [some (.ref c), some (.int (st : Nat)), some (.int m), some (.ref p), v4, none] ∧ Same H H2 ∧ ∀ j, j < i → pairOk cs m pp j = true) ?_ ?_ ?_⟩
            · exact ⟨none, rfl, s1, fun j h => by omega⟩
            · rintro i σ H2 hi ⟨v4, rfl, s2, hok⟩
              have hp2 := hp.same s2
              have e0 : (0 + ((i : Nat) : Int)).toNat = i := by omega
              have e1 : (0 + ((i : Nat) : Int) + 1).toNat = i + 1 := by omega
              have hx : pp[(0 + ((i : Nat) : Int)).toNat]? = some pp[i] := by rw [e0]; exact List.getElem?_eq_getElem (by omega)
              have hy : pp[(0 + ((i : Nat) : Int) + 1).toNat]? = some pp[i + 1] := by rw [e1]; exact List.getElem?_eq_getElem (by omega)
              have hx' := hx
              have hy' := hy
              rw [e0] at hx'
              rw [e1] at hy'
              obtain ⟨x0, xn⟩ := in_all ha hx'
              obtain ⟨y0, yn⟩ := in_all ha hy'
              have no : pairOk cs m pp i = false → ∀ H3, Same H H3 → Q (.bl false) H3 := fun hno H3 s3 => by
                have q := k H3 s3
                have e : (List.range st).all (pairOk cs m pp) = false := List.all_eq_false.mpr ⟨i, List.mem_range.mpr hi, by rw [hno]; exact Bool.false_ne_true⟩
                rw [takes_all ha c1 c2, e] at q
                exact q
              refine ⟨_, rfl, _, rfl, seq_ix hp2 (by omega) hx ⟨_, rfl, _, rfl, _, _, rfl, rfl, seq_ix hp2 (by omega) hy ⟨_, _, rfl, rfl, _, rfl, ite2 (fun c3 => ?_) (fun c3 => ?_)⟩⟩⟩
              · have c3 : pp[i + 1] ≤ pp[i] := of_decide_eq_true c3
                exact no (by rw [pair_is hx' hy', decide_eq_false (by omega), Bool.false_and]) H2 s2
              · have c3 : ¬ pp[i + 1] ≤ pp[i] := fun z => c3 (decide_eq_true z)
                refine ⟨_, rfl, _, rfl, _, rfl, seq_ix hp2 (by omega) hx ⟨_, rfl, _, rfl, _, rfl, _, _, rfl, rfl, seq_ix hp2 (by omega) hy ⟨_, _, rfl, rfl, _, rfl, c, _, rfl, s2.seq hc, fun u nu => ?_⟩⟩⟩
                have su := same_upd (o := .lst (cutV (cs.map V.int) (some pp[i]) (some (pp[i + 1] + 1)))) nu
                have hu : (L2.upd H2 u (.lst (cutV (cs.map V.int) (some pp[i]) (some (pp[i + 1] + 1))))) u = some (.lst (((cs.drop pp[i].toNat).take (pp[i + 1].toNat + 1 - pp[i].toNat)).map V.int)) := by
                  have ex : pp[i] = ((pp[i].toNat : Nat) : Int) := by omega
                  have ey : pp[i + 1] + 1 = ((pp[i + 1].toNat + 1 : Nat) : Int) := by omega
                  have e := cut_seg cs (i := pp[i].toNat) (j := pp[i + 1].toNat + 1) (by omega) (by omega)
                  rw [← ex, ← ey] at e
                  rw [upd_same, e]
                refine ⟨u, _, rfl, sqL hu, _, rfl, _, _, rfl, rfl, _, rfl, ite2 (fun c4 => ?_) (fun c4 => ?_)⟩
                · have c4 : seg cs pp[i].toNat (pp[i + 1].toNat + 1) < m := of_decide_eq_true c4
                  exact no (by rw [pair_is hx' hy', decide_eq_false (show ¬ m ≤ _ by omega), Bool.and_false]) _ (s2.trans su)
                · have c4 : ¬ seg cs pp[i].toNat (pp[i + 1].toNat + 1) < m := fun z => c4 (decide_eq_true z)
                  refine ⟨_, rfl, s2.trans su, fun j hj => ?_⟩
                  rcases Nat.lt_or_ge j i with z | z
                  · exact hok j z
                  · have : j = i := by omega
                    subst this
                    rw [pair_is hx' hy', decide_eq_true (show pp[j] < pp[j + 1] by omega), decide_eq_true (show m ≤ _ by omega)]
                    rfl
            · rintro σ H2 ⟨v4, rfl, s2, hok⟩
              have q := k H2 s2
              have e : (List.range st).all (pairOk cs m pp) = true := List.all_eq_true.mpr fun j hj => hok j (List.mem_range.mp hj)
              rw [takes_all ha c1 c2, e] at q
              exact q
      · have ha' : pp.all (inR cs.length) = false := by simpa using ha
        rw [ha']
        refine iteT ?_
        have q := k H1 s1
        rw [takes_no ha] at q
        exact q
end
end K10

set_option Elab.async false
set_option linter.all false
set_option maxRecDepth 100000
set_option maxHeartbeats 4000000
namespace K10
open PySem PySem.Spec PyProof.Rows L2
theorem betw_in (z : Int) {n : Nat} {k : Int} (h : k = (n : Int) - 1) : betw (.int z) 0 k = inR n z := by
  show (decide (0 ≤ z) && decide (z ≤ k)) = (decide (0 ≤ z) && decide (z < (n : Int)))
  congr 1
  by_cases q : z < (n : Int)
  · rw [decide_eq_true q, decide_eq_true (by omega)]
  · rw [decide_eq_false q, decide_eq_false (by omega)]
theorem oks_snoc (f : Nat → Bool) (i : Nat) : ((List.range i).map f).map V.bl ++ [V.bl (f i)] = ((List.range (i + 1)).map f).map V.bl := by
  rw [List.range_succ, List.map_append, List.map_append]
  rfl
theorem oks_all (f : Nat → Bool) (n : Nat) : ((List.range n).map f).all id = (List.range n).all f := by
  rw [List.all_map]
  rfl
section
variable {P : Program} {w : World} {K : PySem.W.Frag} {mg : Str → Option Value} {base : Heap}
abbrev nJudge : List Str := ["costs", "stages", "most", "paper", "place", "one", "two"]
theorem scJudge : FnScope nJudge ["costs", "stages", "most", "paper"] (defScope sJudge) := ⟨rfl, rfl, rfl, by decide +kernel, rfl, by decide +kernel, by decide +kernel⟩
theorem judge_ok {f : Addr} {fd : FuncData} (F : Fun K "judge_cut" "judge_cut" sJudge f fd) (B : Blt mg) (cB : Cal P w K mg base 1 "is_between" ["value", "least", "most"] spBetw) :
    FnOk P w K mg base CX0 2 f fd ["costs", "stages", "most", "paper"] (spJ K) := by
  refine F.ok scJudge (fun vs H Q E h => ?_) (fun cdv A outer s H vs Q E hr h => ?_)
  · obtain ⟨_, _, _, _, _, _, rfl, _⟩ := h
    rfl
  · obtain ⟨c, p, cs, pp, st, m, rfl, hc, hp, h1, h8, hpl, hs1, hs8, k⟩ := h
    refine ⟨_, pss_cons (ps_if (pt_not (pt_val (pe_callB (cr_all rfl) (by rfl) B.all (by decide +kernel) (pa_cons
        (pe_lc (own := [("place", 4)]) (g := gName 4) (tt := tYes) rfl scJudge.nd (pi_or (pi_list (pv 3)) (pi_tup (pv 3))) (blkOk_by (N := nJudge) (sc := defScope sJudge) (by decide +kernel))
          (fun _ _ _ _ _ => pg_name (i := 4) scJudge.nd rfl (.inl rfl)) (fun _ _ _ _ _ => pts_nil)
          (fun _ _ _ _ _ => pe_k cB hr (Nat.le_refl _) (pa_cons (pv 4) (pa_cons pe_int (pa_cons (pe_op op_sub (pe_callB (r := fun xs H Q => ∃ p ys, xs = [.ref p] ∧ (SqL K H p ys ∨ SqT K H p ys) ∧ Q (.int ys.length) H) call_len_seq (by rfl) B.len PySem.boot_len (pa_cons (pv 0) pa_nil)) pe_int) pa_nil))))) pa_nil)))) (pss_one (ps_ret pe_bl)) pss_nil)
      (pss_cons (ps_if (pt_cmpR op_eq (pe_callB call_len_seq (by rfl) B.len PySem.boot_len (pa_cons (pv 3) pa_nil)) pe_int (nomark _)) (pss_one (ps_ret (pe_cmpR op_ge (pe_ix ix_list (pv 0) (pe_ix ix_seq (pv 3) pe_int (fun _ _ => rfl)) (fun _ _ => rfl)) (pv 2) (nomark _)))) pss_nil)
      (pss_cons (ps_if (pt_cmpR op_ne (pe_callB call_len_seq (by rfl) B.len PySem.boot_len (pa_cons (pv 3) pa_nil)) (pe_op op_add (pv 1) pe_int) (nomark _)) (pss_one (ps_ret pe_bl)) pss_nil)
      (pss_one (ps_ret (pe_callB (cr_all rfl) (by rfl) B.all (by decide +kernel) (pa_cons
        (pe_lc (own := [("one", 5), ("two", 6)]) (g := gTup K 2 (gCons (gName 5) (gCons (gName 6) gNil))) (tt := tYes) rfl scJudge.nd
          (pi_w (RZ.pi_zipA (by rfl) B.zip (pa_cons (pv 3) (pa_cons (pe_slice (SlR.or sl_list sl_tup) (pv 3) (po_some pe_int) po_none) pa_nil)))) (blkOk_by (N := nJudge) (sc := defScope sJudge) (by decide +kernel))
          (fun _ _ _ _ _ => pg_tup rfl (pgs_cons (pg_name (i := 5) scJudge.nd rfl (.inl rfl)) (pgs_cons (pg_name (i := 6) scJudge.nd rfl (.inl rfl)) pgs_nil))) (fun _ _ _ _ _ => pts_nil)
          (fun _ _ _ _ _ => pe_and (pe_cmpR op_lt (pv 5) (pv 6) (nomark _)) (pe_one (pe_cmpR op_ge (pe_callB (r := rSum K) (cr_sum rfl) (by rfl) B.sum (by decide +kernel) (pa_cons (pe_slice (r := rSlL K) sl_list (pv 0) (po_some (pv 5)) (po_some (pe_op op_add (pv 6) pe_int))) pa_nil)) (pv 2) (nomark _))))) pa_nil)))))), ?_⟩
    refine seq_it (i := 3) hp rfl fun J G W hG E0 nE => ?_
    refine lc_it W (fun i H' => Same H H' ∧ H' E0 = some (.lst (((pp.take i).map (inR cs.length)).map V.bl))) ⟨same_upd nE, upd_same⟩ (fun i H' _ q => hG H' q.1) ?_ ?_
    · rintro i x H1 H1' hi ⟨s1, eE⟩ ⟨rfl, hx⟩
      obtain ⟨z, hz, rfl⟩ := int_at hx
      refine ⟨rfl, yes_then ?_⟩
      refine ⟨_, rfl, _, rfl, c, _, rfl, .inl (s1.seq hc), _, _, rfl, rfl, _, _, _, rfl, .int z, _, eE, ?_, fun a o e => ?_, ?_⟩
      · rw [List.length_map, List.length_map, List.length_take]
        exact z_lt (by omega)
      · rw [upd_ne (ne_of_none e nE)]
        exact s1 _ _ e
      · rw [upd_same, betw_in z (n := cs.length) (by rw [List.length_map]), bool_snoc _ hz]
    · rintro H1 ⟨s1, eE⟩
      rw [List.take_length] at eE
      have hc1 := s1.seq hc
      have hp1 := hp.same s1
      refine ⟨E0, _, rfl, sqL eE, _, rfl, ?_⟩
      rw [all_in]
      by_cases ha : pp.all (inR cs.length) = true
      · rw [ha]
        refine iteF ?_
        refine ⟨_, rfl, p, _, rfl, hp1, rfl, _, rfl, ite2 (fun c1 => ?_) (fun c1 => ?_)⟩
        · have c1 : (((pp.map V.int).length : Nat) : Int) = 1 := V.int.inj (of_decide_eq_true c1)
          rw [List.length_map] at c1
          have hl : pp.length = 1 := by omega
          have hz : pp[0]? = some pp[0] := List.getElem?_eq_getElem (by omega)
          obtain ⟨z0, zn⟩ := in_all ha hz
          have hx : cs[pp[0].toNat]? = some cs[pp[0].toNat] := List.getElem?_eq_getElem zn
          refine ⟨_, rfl, _, rfl, seq_ix hp1 (Int.le_refl 0) hz ⟨c, _, _, _, rfl, rfl, hc1, atI_int z0 hx, _, rfl, _, _, rfl, rfl, ?_⟩⟩
          have q := k H1 s1
          rw [takes_1 ha hl hz hx] at q
          exact q
        · have c1 : ¬ pp.length = 1 := fun z => c1 (decide_eq_true (congrArg V.int (by rw [List.length_map, z]; rfl)))
          refine ⟨_, rfl, p, _, rfl, hp1, _, rfl, _, _, rfl, rfl, rfl, _, rfl, ite2 (fun c2 => ?_) (fun c2 => ?_)⟩
          · have c2 : ¬ pp.length = st + 1 := fun z => by
              have e : decide (V.int (((pp.map V.int).length : Nat) : Int) = V.int (((st : Nat) : Int) + 1)) = true := decide_eq_true (congrArg V.int (by rw [List.length_map, z]; omega))
              have c3 : (!decide (V.int (((pp.map V.int).length : Nat) : Int) = V.int (((st : Nat) : Int) + 1))) = true := c2
              rw [e] at c3
              cases c3
            have q := k H1 s1
            rw [takes_len ha c1 c2] at q
            exact q
          · have c2 : pp.length = st + 1 := by
              have c3 : ¬ (!decide (V.int (((pp.map V.int).length : Nat) : Int) = V.int (((st : Nat) : Int) + 1))) = true := c2
              by_cases z : V.int (((pp.map V.int).length : Nat) : Int) = V.int (((st : Nat) : Int) + 1)
              · have := V.int.inj z
                rw [List.length_map] at this
                omega
              · rw [decide_eq_false z] at c3
                exact absurd rfl c3
            have el : pp.length - 1 = st := by omega
            refine zip_it (i := 3) hp1 (by omega) rfl fun J2 G2 H2 s2 W2 hG2 => ?_
            rw [show pp.length - 1 = st by omega] at W2
            intro E1 nE1
            refine lc_it W2 (fun i H' => Same H2 H' ∧ H' E1 = some (.lst (((List.range i).map (pairOk cs m pp)).map V.bl))) ⟨same_upd nE1, upd_same⟩ (fun i H' _ q => hG2 H' q.1) ?_ ?_
            · rintro i v H3 H3' hi ⟨s3, eE1⟩ ⟨T, vx, vy, rfl, nT, rfl, hvx, hvy⟩
              obtain ⟨x, hx, rfl⟩ := int_at hvx
              obtain ⟨y, hy, rfl⟩ := int_at hvy
              clear hvx hvy
              rw [List.getElem?_drop, Nat.add_comm] at hy
              obtain ⟨x0, xn⟩ := in_all ha hx
              obtain ⟨y0, yn⟩ := in_all ha hy
              have sT := same_upd (o := .tup [V.int x, V.int y]) nT
              have put : ∀ (b : Bool) (H4 : Hp), b = pairOk cs m pp i → Same H3 H4 → ∃ acc, H4 E1 = some (.lst acc) ∧ acc.length < sizeLine ∧ Same H2 (L2.upd H4 E1 (.lst (acc ++ [V.bl b]))) ∧ (L2.upd H4 E1 (.lst (acc ++ [V.bl b]))) E1 = some (.lst (((List.range (i + 1)).map (pairOk cs m pp)).map V.bl)) := fun b H4 hb s4 => by
                refine ⟨_, s4 _ _ eE1, ?_, fun a o e => ?_, ?_⟩
                · rw [List.length_map, List.length_map, List.length_range]
                  exact z_lt (by omega)
                · rw [upd_ne (ne_of_none e nE1)]
                  exact s4 _ _ (s3 _ _ e)
                · rw [upd_same, hb, oks_snoc]
              have ep := pair_is (cs := cs) (m := m) hx hy
              refine ⟨T, _, rfl, sqT upd_same, rfl, _, _, rfl, _, _, rfl, rfl, rfl, yes_then ?_⟩
              refine ⟨_, rfl, _, rfl, _, _, rfl, rfl, _, rfl, ite2 (fun c3 => ?_) (fun c3 => ?_)⟩
              · have c3 : x < y := of_decide_eq_true c3
                have hc3 : SqL K (L2.upd H3 T (.tup [V.int x, V.int y])) c (cs.map V.int) := sT.seq (s3.seq (s2.seq hc1))
                refine ⟨_, rfl, _, rfl, _, rfl, _, rfl, _, _, rfl, rfl, _, rfl, c, _, rfl, hc3, fun u nu => ?_⟩
                have su := same_upd (o := .lst (cutV (cs.map V.int) (some x) (some (y + 1)))) nu
                have hu : (L2.upd (L2.upd H3 T (.tup [V.int x, V.int y])) u (.lst (cutV (cs.map V.int) (some x) (some (y + 1))))) u = some (.lst (((cs.drop x.toNat).take (y.toNat + 1 - x.toNat)).map V.int)) := by
                  have ex : x = ((x.toNat : Nat) : Int) := by omega
                  have ey : y + 1 = ((y.toNat + 1 : Nat) : Int) := by omega
                  have e := cut_seg cs (i := x.toNat) (j := y.toNat + 1) (by omega) (by omega)
                  rw [← ex, ← ey] at e
                  rw [upd_same, e]
                refine ⟨u, _, rfl, sqL hu, _, rfl, _, _, rfl, rfl, put _ _ ?_ (sT.trans su)⟩
                rw [ep, decide_eq_true c3, Bool.true_and]
                rfl
              · have c3 : ¬ x < y := fun z => c3 (decide_eq_true z)
                refine put _ _ ?_ sT
                rw [ep, decide_eq_false c3, Bool.false_and]
            · rintro H3 ⟨s3, eE1⟩
              refine ⟨E1, _, rfl, sqL eE1, ?_⟩
              have q := k H3 (s1.trans (s2.trans s3))
              rw [takes_all ha c1 c2, ← oks_all] at q
              exact q
      · have ha' : pp.all (inR cs.length) = false := by simpa using ha
        rw [ha']
        refine iteT ?_
        have q := k H1 s1
        rw [takes_no ha] at q
        exact q
end
end K10

set_option Elab.async false
set_option linter.all false
set_option maxRecDepth 100000
set_option maxHeartbeats 4000000
namespace K10
open PySem PySem.Spec PyProof.Rows L2
theorem log_small {i : Int} (h : i.natAbs < 2 ^ 200) : i.natAbs.log2 < 1920 := by
  by_cases z : i.natAbs = 0
  · rw [z]
    decide
  · exact (Nat.log2_lt z).mpr (Nat.lt_of_lt_of_le h (Nat.pow_le_pow_right (by decide) (by decide)))
theorem betw_low {i : Int} {n : Nat} (h : i < 1) : betw (.int i) 1 n = false := by
  show (decide (1 ≤ i) && decide (i ≤ (n : Int))) = false
  rw [decide_eq_false (by omega), Bool.false_and]
theorem betw_high {i : Int} {n : Nat} (h : (n : Int) < i) : betw (.int i) 1 n = false := by
  show (decide (1 ≤ i) && decide (i ≤ (n : Int))) = false
  rw [decide_eq_false (show ¬ i ≤ (n : Int) by omega), Bool.and_false]
/-- what is no number of stages, and is shown -/
structure Refuse (K : PySem.W.Frag) (H : Hp) (n : Nat) (v : V) : Prop where
  kind : Kind H v
  out : betw v 1 n = false
  shown : ∃ t, Shown K H v t
section
variable {P : Program} {w : World} {K : PySem.W.Frag} {mg : Str → Option Value} {base : Heap}
abbrev nRefu : List Str := ["_law_hand", "_law_costs_here"]
theorem scRefu : FnScope nRefu ["_law_hand", "_law_costs_here"] (defScope sRefu) := ⟨rfl, rfl, rfl, by decide +kernel, rfl, by decide +kernel, by decide +kernel⟩
def spRefu (K : PySem.W.Frag) : Sp := fun vs H Q _ => ∃ (h d c : Addr) (cs : List Int), vs = [.ref h, .ref c] ∧ HandAt H h d ∧ H c = some (.lst (cs.map V.int)) ∧ cs.length ≤ 8 ∧ ∀ (v : V) (H' : Hp), Keep h H H' → HandAt H' h d → Refuse K H' cs.length v → Q v H'
theorem ok_refu {f : Addr} {fd : FuncData} (D : DefOf K mg "_law_refusals" sRefu ["_law_hand", "_law_costs_here"] f fd) (B : Blt mg) (cT : Cal P w K mg base 1 "_law_take" ["_law_hand", "_law_many"] spTake) :
    Cal P w K mg base 2 "_law_refusals" ["_law_hand", "_law_costs_here"] (spRefu K) := by
  refine ⟨f, fd, D.F.ok scRefu (fun vs H Q E h => ?_) (fun cdv A outer s H vs Q E hr h => ?_), D.g, D.F.kp, D.b⟩
  · obtain ⟨_, _, _, _, rfl, _⟩ := h
    rfl
  · obtain ⟨h, d, c, cs, rfl, hH, ec, h8, k⟩ := h
    refine ⟨_, pss_one (ps_ret (pe_ix ix_list (pe_lst (pa_cons pe_int (pa_cons (pe_un un_neg pe_int) (pa_cons (pe_op op_add (pe_callB call_len_seq (by rfl) B.len PySem.boot_len (pa_cons (pv 1) pa_nil)) pe_int)
      (pa_cons pe_bl (pa_cons pe_non (pa_cons pe_str (pa_cons (pe_tup (pa_cons pe_int pa_nil)) (pa_cons (pe_op op_pow pe_int pe_int) pa_nil)))))))))
      (pe_k cT hr (Nat.le_refl _) (pa_cons (pv 0) (pa_cons pe_int pa_nil))) (fun _ _ => rfl))), ?_⟩
    refine ⟨1, rfl, _, rfl, c, _, rfl, .inl (sqL ec), _, _, rfl, rfl, len1 _, fun t nt => ⟨_, _, rfl, rfl, ⟨by decide, by decide, by decide⟩, z_le (by show 8 ≤ 10000; decide), fun q nq => ?_⟩⟩
    have st := same_upd (o := .tup [V.int 1]) nt
    let L : List V := [V.int 0, V.int (-1), V.int ((((cs.map V.int).length : Nat) : Int) + 1), V.bl true, V.non, V.str "1", V.ref t, V.int (10 ^ (30 : Int).toNat)]
    have sq := st.trans (same_upd (o := .lst L) nq)
    have hq := hH.same sq
    have nqh := (hH.same st).fresh nq
    refine ⟨_, rfl, h, d, 8, rfl, by decide, hq, fun r H1 r0 r1 k1 hH1 => ?_⟩
    have kk : Keep h H H1 := (Keep.same sq).trans k1
    have eq1 : H1 q = some (.lst L) := k1 _ _ nqh.1 upd_same
    have ntq : t ≠ q := fun z => by
      rw [z, upd_same] at nq
      cases nq
    have et1 : H1 t = some (.tup [V.int 1]) := k1 _ _ (hH.fresh nt).1 (by rw [upd_ne ntq, upd_same])
    have item : ∀ v, atI L r = some v → Refuse K H1 cs.length v → _ := fun v hv hf => (⟨q, _, r, v, rfl, rfl, sqL eq1, hv, k v H1 kk hH1 hf⟩ : rIxL K (.ref q) (.int r) H1 Q)
    rcases (show r = 0 ∨ r = 1 ∨ r = 2 ∨ r = 3 ∨ r = 4 ∨ r = 5 ∨ r = 6 ∨ r = 7 by omega) with z | z | z | z | z | z | z | z
    · exact item (.int 0) (by rw [z]; rfl) ⟨.int _, betw_low (by decide), _, .int (log_small (by decide))⟩
    · exact item (.int (-1)) (by rw [z]; rfl) ⟨.int _, betw_low (by decide), _, .int (log_small (by decide))⟩
    · refine item (.int ((((cs.map V.int).length : Nat) : Int) + 1)) (by rw [z]; rfl) ⟨.int _, ?_, _, .int (log_small ?_)⟩
      · exact betw_high (by rw [List.length_map]; omega)
      · rw [List.length_map]
        have e : (((cs.length : Nat) : Int) + 1).natAbs ≤ 9 := by omega
        exact Nat.lt_of_le_of_lt e (by decide)
    · exact item (.bl true) (by rw [z]; rfl) ⟨.bl _, rfl, _, .bl _⟩
    · exact item .non (by rw [z]; rfl) ⟨.non, rfl, _, .non⟩
    · exact item (.str "1") (by rw [z]; rfl) ⟨.str _, rfl, _, .str (by decide +kernel)⟩
    · exact item (.ref t) (by rw [z]; rfl) ⟨.tup et1, rfl, _, .tup (ns := [1]) (sqT et1) (fun n hn => by rw [List.mem_singleton.mp hn]; decide) (by decide +kernel)⟩
    · refine item (.int (10 ^ (30 : Int).toNat)) (by rw [z]; rfl) ⟨.int _, ?_, _, .int (log_small (by decide))⟩
      have e : (10 : Int) ^ (30 : Int).toNat = 1000000000000000000000000000000 := by decide
      exact betw_high (by rw [e]; omega)
end
end K10

set_option Elab.async false
set_option linter.all false
set_option maxRecDepth 100000
set_option maxHeartbeats 4000000
namespace K10
open PySem PySem.Spec PyProof.Rows L2
section
variable {P : Program} {w : World} {K : PySem.W.Frag} {mg : Str → Option Value} {base : Heap}
abbrev nBent : List Str := ["_law_hand", "_law_paper", "_law_many", "_law_stages", "_law_spot", "_law_kind", "_law_k"]
theorem scBent : FnScope nBent ["_law_hand", "_law_paper", "_law_many", "_law_stages"] (defScope sBent) := ⟨rfl, rfl, rfl, by decide +kernel, rfl, by decide +kernel, by decide +kernel⟩
def spBent : Sp := fun vs H Q _ => ∃ (h d u : Addr) (us : List Int) (n s : Nat), vs = [.ref h, .ref u, .int n, .int s] ∧ HandAt H h d ∧ H u = some (.tup (us.map V.int)) ∧ 1 ≤ us.length ∧ us.length ≤ 9 ∧ 1 ≤ n ∧ s ≤ 8 ∧
  ∀ (H' : Hp) (p : Addr) (pp : List Int), Keep h H H' → HandAt H' h d → p ≠ h → H' p = some (.lst (pp.map V.int)) → pp.length ≤ 100 → Q (.ref p) H'
theorem ok_bent {f : Addr} {fd : FuncData} (D : DefOf K mg "_law_bent" sBent ["_law_hand", "_law_paper", "_law_many", "_law_stages"] f fd) (B : Blt mg) (cT : Cal P w K mg base 1 "_law_take" ["_law_hand", "_law_many"] spTake) :
    Cal P w K mg base 2 "_law_bent" ["_law_hand", "_law_paper", "_law_many", "_law_stages"] spBent := by
  refine ⟨f, fd, D.F.ok scBent (fun vs H Q E h => ?_) (fun cdv A outer s H vs Q E hr h => ?_), D.g, D.F.kp, D.b⟩
  · obtain ⟨_, _, _, _, _, _, rfl, _⟩ := h
    rfl
  · obtain ⟨h, d, u, us, n, st, rfl, hH, eu, hu1, hu9, hn, hs, k⟩ := h
    refine ⟨_, pss_cons (ps_set (i := 1) scBent.nd rfl (.inl rfl) (pe_callTy call_list_of (by rfl) B.list (by decide +kernel) (pa_cons (pv 1) pa_nil)))
      (pss_cons (ps_set (i := 4) scBent.nd rfl (.inl rfl) (pe_k cT hr (Nat.le_refl _) (pa_cons (pv 0) (pa_cons (pe_callB call_len_seq (by rfl) B.len PySem.boot_len (pa_cons (pv 1) pa_nil)) pa_nil))))
      (pss_cons (ps_set (i := 5) scBent.nd rfl (.inl rfl) (pe_k cT hr (Nat.le_refl _) (pa_cons (pv 0) (pa_cons pe_int pa_nil))))
      (pss_cons (ps_if (pt_cmpR op_eq (pv 5) pe_int (nomark _)) (pss_one (ps_ret (pe_op op_cat (pe_slice sl_list (pv 1) po_none (po_some (pv 4))) (pe_slice sl_list (pv 1) (po_some (pe_op op_add (pv 4) pe_int)) po_none)))) pss_nil)
      (pss_cons (ps_if (pt_cmpR op_eq (pv 5) pe_int (nomark _)) (pss_one (ps_ret (pe_op op_cat (pe_op op_cat (pe_slice sl_list (pv 1) po_none (po_some (pv 4))) (pe_lst (pa_cons (pe_ix ix_list (pv 1) (pv 4) (fun _ _ => rfl)) pa_nil))) (pe_slice sl_list (pv 1) (po_some (pv 4)) po_none)))) pss_nil)
      (pss_cons (ps_if (pt_cmpR op_eq (pv 5) pe_int (nomark _)) (pss_one (ps_ret (pe_revL (pv 1)))) pss_nil)
      (pss_cons (ps_if (pt_cmpR op_eq (pv 5) pe_int (nomark _)) (pss_one (ps_ret (pe_lst pa_nil))) pss_nil)
      (pss_cons (ps_if (pt_cmpR op_eq (pv 5) pe_int (nomark _)) (pss_one (ps_ret (pe_callB cr_sorted (by rfl) B.sorted (by decide +kernel) (pa_cons
        (pe_lc (own := [("_law_k", 6)]) (g := gName 6) (tt := tYes) rfl scBent.nd (pi_range1 rfl B.range (pa_cons (pe_op op_add (pv 3) pe_int) pa_nil)) (blkOk_by (N := nBent) (sc := defScope sBent) (by decide +kernel))
          (fun _ _ _ _ _ => pg_name (i := 6) scBent.nd rfl (.inl rfl)) (fun _ _ _ _ _ => pts_nil)
          (fun _ _ _ _ _ => pe_k cT hr (Nat.le_refl _) (pa_cons (pv 0) (pa_cons (pv 2) pa_nil)))) pa_nil)))) pss_nil)
      (pss_cons (ps_if (pt_cmpR op_eq (pv 5) pe_int (nomark _)) (pss_one (ps_ret (pe_lst (pa_cons (pe_k cT hr (Nat.le_refl _) (pa_cons (pv 0) (pa_cons (pv 2) pa_nil))) pa_nil)))) pss_nil)
      (pss_cons (ps_asg (pe_ix ix_list (pe_lst (pa_cons (pe_un un_neg pe_int) (pa_cons (pv 2) (pa_cons (pe_op op_add (pe_ix ix_list (pv 1) (pv 4) (fun _ _ => rfl)) pe_int) (pa_cons (pe_op op_sub (pe_ix ix_list (pv 1) (pv 4) (fun _ _ => rfl)) pe_int)
          (pa_cons (pe_op op_pow pe_int pe_int) (pa_cons (pe_k cT hr (Nat.le_refl _) (pa_cons (pv 0) (pa_cons (pv 2) pa_nil))) pa_nil)))))))
          (pe_k cT hr (Nat.le_refl _) (pa_cons (pv 0) (pa_cons pe_int pa_nil))) (fun _ _ => rfl)) (pg_sub (pv 1) (pv 4) set_list))
      (pss_one (ps_ret (pv 1)))))))))))), ?_⟩
    -- paper = list(paper); spot; kind
    refine ⟨_, rfl, u, _, rfl, .inr (sqT eu), fun L nL => ?_⟩
    have s0 := same_upd (o := .lst (us.map V.int)) nL
    have hH0 := hH.same s0
    obtain ⟨nLh, nLd⟩ := hH.fresh nL
    refine ⟨_, rfl, _, rfl, L, _, rfl, .inl (sqL upd_same), h, d, _, rfl, by rw [List.length_map]; omega, hH0, fun sp H1 sp0 sp1 k1 hH1 => ?_⟩
    rw [List.length_map] at sp1
    refine ⟨_, rfl, h, d, 9, rfl, by decide, hH1, fun kd H2 kd0 kd1 k2 hH2 => ?_⟩
    have kk : Keep h H H2 := (Keep.same s0).trans (k1.trans k2)
    have eL : H2 L = some (.lst (us.map V.int)) := k2 _ _ nLh (k1 _ _ nLh upd_same)
    obtain ⟨j, rfl⟩ : ∃ j : Nat, sp = (j : Int) := ⟨sp.toNat, by omega⟩
    have hj : j < us.length := by omega
    have hx : us[(((j : Nat) : Int)).toNat]? = some us[j] := by rw [Int.toNat_natCast]; exact List.getElem?_eq_getElem hj
    have ej1 : ((j : Nat) : Int) + 1 = ((j + 1 : Nat) : Int) := by omega
    -- what is handed back at the end of a way that made new lists alone
    have give : ∀ (H3 : Hp) (p : Addr) (pp : List Int), Same H2 H3 → p ≠ h → H3 p = some (.lst (pp.map V.int)) → pp.length ≤ 100 → Q (.ref p) H3 := fun H3 p pp s3 np ep hl => k H3 p pp (kk.trans (Keep.same s3)) (hH2.same s3) np ep hl
    have giveN : ∀ (H3 : Hp) (p : Addr) (zs : List V) (pp : List Int), Same H2 H3 → H3 p = none → zs = pp.map V.int → pp.length ≤ 100 → Q (.ref p) (L2.upd H3 p (.lst zs)) := fun H3 p zs pp s3 np ez hl => give _ p pp (s3.trans (same_upd np)) ((hH2.same s3).fresh np).1 (by rw [upd_same, ez]) hl
    have eto : cutV (us.map V.int) none (some ((j : Nat) : Int)) = (us.take j).map V.int := cut_to us (Nat.le_of_lt hj)
    have efrom : cutV (us.map V.int) (some ((j : Nat) : Int)) none = (us.drop j).map V.int := cut_from us (Nat.le_of_lt hj)
    have efrom1 : cutV (us.map V.int) (some (((j : Nat) : Int) + 1)) none = (us.drop (j + 1)).map V.int := by rw [ej1]; exact cut_from us hj
    have hat : atI (us.map V.int) ((j : Nat) : Int) = some (V.int us[j]) := atI_int (by omega) hx
    refine ⟨_, rfl, rfl, _, rfl, ite2 (fun c => ?_) (fun _ => ?_)⟩
    · refine ⟨_, rfl, _, rfl, _, rfl, L, _, rfl, sqL eL, fun a na => ?_⟩
      have sa := same_upd (o := .lst (cutV (us.map V.int) none (some ((j : Nat) : Int)))) na
      refine ⟨_, rfl, _, rfl, _, _, rfl, rfl, _, rfl, L, _, rfl, sqL (sa _ _ eL), fun b nb => ?_⟩
      have sb := same_upd (o := .lst (cutV (us.map V.int) (some (((j : Nat) : Int) + 1)) none)) nb
      refine ⟨a, b, _, _, rfl, rfl, sb _ _ upd_same, upd_same, ?_, fun p np => ?_⟩
      · rw [eto, efrom1, List.length_map, List.length_map]
        exact z_le (by rw [List.length_take, List.length_drop]; omega)
      · exact giveN _ p _ (us.take j ++ us.drop (j + 1)) (sa.trans sb) np (by rw [eto, efrom1, List.map_append]) (by rw [List.length_append, List.length_take, List.length_drop]; omega)
    refine ⟨_, rfl, rfl, _, rfl, ite2 (fun c => ?_) (fun _ => ?_)⟩
    · refine ⟨_, rfl, _, rfl, _, rfl, L, _, rfl, sqL eL, fun a na => ?_⟩
      have sa := same_upd (o := .lst (cutV (us.map V.int) none (some ((j : Nat) : Int)))) na
      refine ⟨_, rfl, _, rfl, L, _, _, _, rfl, rfl, sqL (sa _ _ eL), hat, len1 _, fun b nb => ?_⟩
      have sb := same_upd (o := .lst [V.int us[j]]) nb
      refine ⟨a, b, _, _, rfl, rfl, sb _ _ upd_same, upd_same, ?_, fun e ne => ?_⟩
      · rw [eto, List.length_map]
        exact z_le (by show _ + 1 ≤ 10000; rw [List.length_take]; omega)
      have se := same_upd (o := .lst (cutV (us.map V.int) none (some ((j : Nat) : Int)) ++ [V.int us[j]])) ne
      refine ⟨_, rfl, _, rfl, _, rfl, L, _, rfl, sqL (se _ _ (sb _ _ (sa _ _ eL))), fun g ng => ?_⟩
      have sg := same_upd (o := .lst (cutV (us.map V.int) (some ((j : Nat) : Int)) none)) ng
      refine ⟨e, g, _, _, rfl, rfl, sg _ _ upd_same, upd_same, ?_, fun p np => ?_⟩
      · rw [eto, efrom, List.length_append, List.length_map, List.length_map]
        exact z_le (by show _ + 1 + _ ≤ 10000; rw [List.length_take, List.length_drop]; omega)
      · exact giveN _ p _ (us.take j ++ [us[j]] ++ us.drop j) (((sa.trans sb).trans se).trans sg) np (by rw [eto, efrom, List.map_append, List.map_append]; rfl) (by rw [List.length_append, List.length_append, List.length_take, List.length_drop, List.length_singleton]; omega)
    refine ⟨_, rfl, rfl, _, rfl, ite2 (fun c => ?_) (fun _ => ?_)⟩
    · refine ⟨_, rfl, L, _, rfl, sqL eL, fun p np => ?_⟩
      exact giveN _ p _ us.reverse (.refl _) np (by rw [List.map_reverse]) (by rw [List.length_reverse]; omega)
    refine ⟨_, rfl, rfl, _, rfl, ite2 (fun c => ?_) (fun _ => ?_)⟩
    · exact ⟨Nat.zero_le _, fun p np => giveN _ p _ [] (.refl _) np rfl (Nat.zero_le _)⟩
    refine ⟨_, rfl, rfl, _, rfl, ite2 (fun c => ?_) (fun _ => ?_)⟩
    · refine ⟨_, rfl, _, _, rfl, rfl, _, rfl, by omega, by omega, fun D0 nD => ?_⟩
      obtain ⟨nDh, nDd⟩ := hH2.fresh nD
      refine lc_range (lo := 0) (n := (((st : Nat) : Int) + 1).toNat) (fun i H' => Keep h H2 H' ∧ HandAt H' h d ∧ ∃ ds : List Int, H' D0 = some (.lst (ds.map V.int)) ∧ ds.length = i) ?_ ?_ ?_
      · exact ⟨Keep.new nD, hH2.new nD, [], upd_same, rfl⟩
      · rintro i H3 hi ⟨k3, hH3, ds, eD, hl⟩
        refine ⟨rfl, yes_then ?_⟩
        refine ⟨_, rfl, _, rfl, h, d, _, rfl, by omega, hH3, fun r H4 _ _ k4 hH4 => ?_⟩
        refine ⟨_, k4 _ _ nDh eD, ?_, fun b o nb e => ?_, hH4.store nDh nDd, ds ++ [r], by rw [upd_same, map_snoc], by rw [List.length_append, hl]; rfl⟩
        · rw [List.length_map]
          exact z_lt (by omega)
        · have nbD : b ≠ D0 := ne_of_none e nD
          rw [upd_ne nbD]
          exact k4 _ _ nb (k3 _ _ nb e)
      · rintro H3 ⟨k3, hH3, ds, eD, hl⟩
        refine ⟨D0, ds, rfl, sqL eD, by omega, fun ns' p pr _ np => ?_⟩
        exact k _ p ns' (kk.trans (k3.trans (Keep.new np))) (hH3.new np) (hH3.fresh np).1 upd_same (by rw [pr.length_eq]; omega)
    refine ⟨_, rfl, rfl, _, rfl, ite2 (fun c => ?_) (fun _ => ?_)⟩
    · refine ⟨_, rfl, _, rfl, h, d, _, rfl, by omega, hH2, fun r H3 _ _ k3 hH3 => ⟨len1 _, fun p np => ?_⟩⟩
      exact k _ p [r] (kk.trans (k3.trans (Keep.new np))) (hH3.new np) (hH3.fresh np).1 upd_same (by show 1 ≤ 100; decide)
    · refine ⟨_, rfl, _, rfl, _, rfl, _, rfl, L, _, _, _, rfl, rfl, sqL eL, hat, _, _, rfl, rfl, _, rfl, _, rfl, L, _, _, _, rfl, rfl, sqL eL, hat, _, _, rfl, rfl, _, _, rfl, rfl, ⟨by decide, by decide, by decide⟩, ?_⟩
      refine ⟨_, rfl, _, rfl, h, d, _, rfl, by omega, hH2, fun r H3 _ _ k3 hH3 => ⟨z_le (by show 6 ≤ 10000; decide), fun q nq => ?_⟩⟩
      have sq := same_upd (o := .lst [V.int (-1), V.int ((n : Nat) : Int), V.int (us[j] + 1), V.int (us[j] - 1), V.int ((10 : Int) ^ (20 : Int).toNat), V.int r]) nq
      refine ⟨_, rfl, h, d, 6, rfl, by decide, hH3.same sq, fun z H4 z0 z1 k4 hH4 => ?_⟩
      have pick : ∃ x : Int, atI [V.int (-1), V.int ((n : Nat) : Int), V.int (us[j] + 1), V.int (us[j] - 1), V.int ((10 : Int) ^ (20 : Int).toNat), V.int r] z = some (V.int x) := by
        rcases (show z = 0 ∨ z = 1 ∨ z = 2 ∨ z = 3 ∨ z = 4 ∨ z = 5 by omega) with e | e | e | e | e | e <;> rw [e]
        · exact ⟨_, rfl⟩
        · exact ⟨_, rfl⟩
        · exact ⟨_, rfl⟩
        · exact ⟨_, rfl⟩
        · exact ⟨_, rfl⟩
        · exact ⟨_, rfl⟩
      obtain ⟨x, hxx⟩ := pick
      have nqh := (hH3.fresh nq).1
      have eL4 : H4 L = some (.lst (us.map V.int)) := k4 _ _ nLh (sq _ _ (k3 _ _ nLh eL))
      refine ⟨q, _, z, _, rfl, rfl, sqL (k4 _ _ nqh upd_same), hxx, ?_⟩
      refine ⟨_, rfl, _, rfl, L, _, _, j, rfl, rfl, eL4, ?_, ?_⟩
      · rw [List.length_map]
        exact Evl.ixN_nat hj
      · refine ⟨_, rfl, ?_⟩
        have k5 : Keep h H (L2.upd H4 L (.lst ((us.map V.int).set j (V.int x)))) := fun b o nb e => by
          have nbL : b ≠ L := ne_of_none e nL
          rw [upd_ne nbL]
          exact k4 _ _ nb (sq _ _ (k3 _ _ nb (kk _ _ nb e)))
        exact k _ L (us.set j x) k5 (hH4.store nLh nLd) nLh (by rw [upd_same, List.map_set]) (by rw [List.length_set]; omega)
end
end K10

set_option Elab.async false
set_option linter.all false
set_option maxRecDepth 100000
set_option maxHeartbeats 4000000
/-! K10Fill: the class Filler of the program. -/
namespace K10
open PySem PySem.Spec PyProof.Rows L2
/-! ### plain -/
theorem nodup_few {α : Type} [DecidableEq α] : ∀ (l m : List α), l.Nodup → (∀ x ∈ l, x ∈ m) → l.length ≤ m.length
  | [], _, _, _ => Nat.zero_le _
  | x :: l, m, hn, h => by
    rw [List.nodup_cons] at hn
    have hx := h x List.mem_cons_self
    have ih := nodup_few l (m.erase x) hn.2 fun y hy => (List.mem_erase_of_ne (fun z => hn.1 (by rw [← z]; exact hy))).mpr (h y (List.mem_cons_of_mem _ hy))
    have e := List.length_erase_of_mem hx
    have := List.length_pos_of_mem hx
    rw [List.length_cons]
    omega
/-- the least so far: over the first i ways -/
def MinTo (l : List Int) (s : Nat) (i : Nat) (r : Int) : Prop := ∀ B, (∃ m, 1 ≤ m ∧ m ≤ i ∧ (l.take m).sum ≤ B ∧ Feas (l.drop m) s B) ↔ r ≤ B
theorem minTo_end {l : List Int} {s i : Nat} {r : Int} (h : MinTo l s i r) (hi : i + s = l.length) : IsMin l (s + 1) r := fun B => by
  rw [← h B, feas_succ]
  constructor
  · rintro ⟨m, h1, h2, h3, h4⟩
    have := feas_len h4
    rw [List.length_drop] at this
    exact ⟨m, h1, by omega, h3, h4⟩
  · rintro ⟨m, h1, h2, h3, h4⟩
    exact ⟨m, h1, by omega, h3, h4⟩
def maxI (a b : Int) : Int := if b > a then b else a
theorem maxI_le {a b B : Int} : maxI a b ≤ B ↔ a ≤ B ∧ b ≤ B := by
  unfold maxI
  split <;> omega
theorem way_le {l : List Int} {s m : Nat} {r B : Int} (h : IsMin (l.drop m) s r) : ((l.take m).sum ≤ B ∧ Feas (l.drop m) s B) ↔ maxI (l.take m).sum r ≤ B := by
  rw [maxI_le, h B]
theorem minTo_first {l : List Int} {s : Nat} {r : Int} (h : IsMin (l.drop 1) s r) : MinTo l s 1 (maxI (l.take 1).sum r) := fun B => by
  rw [← way_le h]
  constructor
  · rintro ⟨m, h1, h2, h3⟩
    obtain rfl : m = 1 := by omega
    exact h3
  · rintro h3
    exact ⟨1, Nat.le_refl _, Nat.le_refl _, h3⟩
theorem minTo_next {l : List Int} {s i : Nat} {r b : Int} (hb : MinTo l s i b) (h : IsMin (l.drop (i + 1)) s r) : MinTo l s (i + 1) (if maxI (l.take (i + 1)).sum r < b then maxI (l.take (i + 1)).sum r else b) := fun B => by
  have e : (∃ m, 1 ≤ m ∧ m ≤ i + 1 ∧ (l.take m).sum ≤ B ∧ Feas (l.drop m) s B) ↔ (b ≤ B ∨ maxI (l.take (i + 1)).sum r ≤ B) := by
    rw [← hb B, ← way_le h]
    constructor
    · rintro ⟨m, h1, h2, h3⟩
      rcases Nat.lt_or_ge i m with q | q
      · obtain rfl : m = i + 1 := by omega
        exact .inr h3
      · exact .inl ⟨m, h1, q, h3⟩
    · rintro (⟨m, h1, h2, h3⟩ | h3)
      · exact ⟨m, h1, by omega, h3⟩
      · exact ⟨i + 1, by omega, Nat.le_refl _, h3⟩
  rw [e]
  split <;> omega
/-! ### the fields -/
theorem ck_ : ¬ (("costs" : Str) = "known") := by decide +kernel
def pf (t d : Addr) : List (Str × V) := putF "known" (.ref d) (putF "costs" (.ref t) [])
theorem pf_costs (t d : Addr) : (pf t d).lookup ("costs" : Str) = some (.ref t) := by
  unfold pf
  rw [lookup_putF, if_neg ck_, lookup_putF, if_pos rfl]
theorem pf_known (t d : Addr) : (pf t d).lookup ("known" : Str) = some (.ref d) := by
  unfold pf
  rw [lookup_putF, if_pos rfl]
theorem pf_no (t d : Addr) {m : Str} (h1 : ¬ m = "known") (h2 : ¬ m = "costs") : (pf t d).lookup m = none := by
  unfold pf
  rw [lookup_putF, if_neg h1, lookup_putF, if_neg h2]
  all_goals rfl
theorem pf_least (t d : Addr) : (pf t d).lookup ("least" : Str) = none := pf_no _ _ (by decide +kernel) (by decide +kernel)
theorem pf_found (t d : Addr) : (pf t d).lookup ("found" : Str) = none := pf_no _ _ (by decide +kernel) (by decide +kernel)
theorem pf_first (t d : Addr) : (pf t d).lookup ("first_cut" : Str) = none := pf_no _ _ (by decide +kernel) (by decide +kernel)
/-- what is known -/
def keyOf (i s : Nat) : List Key := [.inl (i : Int), .inl (s : Int)]
structure Known (cs : List Int) (kvs : List (List Key × V)) : Prop where
  nd : (kvs.map (·.1)).Nodup
  is : ∀ x ∈ kvs, ∃ (i s : Nat) (r : Int), x.1 = keyOf i s ∧ 1 ≤ s ∧ i + s ≤ cs.length ∧ x.2 = .int r ∧ IsMin (cs.drop i) s r
theorem Known.few {cs : List Int} {kvs : List (List Key × V)} (h : Known cs kvs) (h8 : cs.length ≤ 8) : kvs.length ≤ 81 := by
  have e := nodup_few (kvs.map (·.1)) ((List.range 9).flatMap fun i => (List.range 9).map fun s => keyOf i s) h.nd fun x hx => by
    obtain ⟨y, hy, rfl⟩ := List.mem_map.mp hx
    obtain ⟨i, s, r, e, h1, h2, _⟩ := h.is y hy
    rw [e]
    exact List.mem_flatMap.mpr ⟨i, List.mem_range.mpr (by omega), List.mem_map.mpr ⟨s, List.mem_range.mpr (by omega), rfl⟩⟩
  rw [List.length_map] at e
  exact Nat.le_trans e (by decide)
theorem keyOf_inj {i s j t : Nat} (h : keyOf i s = keyOf j t) : i = j ∧ s = t := by
  unfold keyOf at h
  injection h with h1 h2
  injection h2 with h2 _
  injection h1 with h1
  injection h2 with h2
  omega
theorem val_mem {kvs : List (List Key × V)} {k : List Key} {v : V} (h : valV kvs k = some v) : (k, v) ∈ kvs := by
  unfold valV at h
  cases e : kvs.find? (fun kv => decide (kv.1 = k)) with
  | none =>
    rw [e] at h
    cases h
  | some x =>
    rw [e] at h
    have e2 : x.2 = v := Option.some.inj h
    have e1 : x.1 = k := by
      have q := List.find?_some e
      simpa using q
    have := List.mem_of_find?_eq_some e
    rw [← e1, ← e2]
    exact this
theorem Known.get {cs : List Int} {kvs : List (List Key × V)} (h : Known cs kvs) {i s : Nat} {v : V} (e : valV kvs (keyOf i s) = some v) : ∃ r, v = .int r ∧ IsMin (cs.drop i) s r := by
  obtain ⟨j, t, r, e1, _, _, e2, hm⟩ := h.is _ (val_mem e)
  obtain ⟨rfl, rfl⟩ := keyOf_inj e1
  exact ⟨r, e2, hm⟩
theorem Known.put {cs : List Int} {kvs : List (List Key × V)} (h : Known cs kvs) {i s : Nat} {r : Int} (h1 : 1 ≤ s) (h2 : i + s ≤ cs.length) (hm : IsMin (cs.drop i) s r) : Known cs (putK kvs (keyOf i s) (.int r)) := by
  cases e : valV kvs (keyOf i s) with
  | none =>
    refine ⟨nd_putK _ h.nd e, fun x hx => ?_⟩
    rw [putK_new _ e] at hx
    rcases List.mem_append.mp hx with q | q
    · exact h.is x q
    · rw [List.mem_singleton.mp q]
      exact ⟨i, s, r, rfl, h1, h2, rfl, hm⟩
  | some v =>
    have ea : (kvs.any fun kv => decide (kv.1 = keyOf i s)) = true := by
      rw [valV_any, e]
      rfl
    have ep : putK kvs (keyOf i s) (.int r) = kvs.map (fun kv => if kv.1 = keyOf i s then (kv.1, V.int r) else kv) := by
      unfold putK
      rw [if_pos ea]
    rw [ep]
    refine ⟨?_, fun x hx => ?_⟩
    · rw [List.map_map]
      have e3 : (fun x => x.1) ∘ (fun kv : List Key × V => if kv.1 = keyOf i s then (kv.1, V.int r) else kv) = fun x => x.1 := by
        funext kv
        show (if kv.1 = keyOf i s then (kv.1, V.int r) else kv).1 = kv.1
        split <;> rfl
      rw [e3]
      exact h.nd
    · obtain ⟨y, hy, rfl⟩ := List.mem_map.mp hx
      obtain ⟨j, t, r2, e1, h3, h4, e2, hm2⟩ := h.is y hy
      by_cases c : y.1 = keyOf i s
      · rw [if_pos c]
        exact ⟨i, s, r, c, h1, h2, rfl, hm⟩
      · rw [if_neg c]
        exact ⟨j, t, r2, e1, h3, h4, e2, hm2⟩
/-- a Filler of the costs cs at p, its dict at d -/
def Fill (K : PySem.W.Frag) (C : Addr) (H : Hp) (p d : Addr) (cs : List Int) : Prop := ∃ dx t : Addr, H p = some (.ins C dx (pf t d)) ∧ SqT K H t (cs.map V.int) ∧ ∃ kvs, H d = some (.dT kvs) ∧ Known cs kvs
theorem Fill.same {K : PySem.W.Frag} {C : Addr} {H H' : Hp} {p d : Addr} {cs : List Int} (f : Fill K C H p d cs) (s : Same H H') : Fill K C H' p d cs := by
  obtain ⟨dx, t, h1, h2, kvs, h3, h4⟩ := f
  exact ⟨dx, t, s _ _ h1, same_tup s h2, kvs, s _ _ h3, h4⟩
/-- t[lo:hi] of a tuple, whether it is the whole or not -/
theorem slA {K : PySem.W.Frag} {H : Hp} {a : Addr} {xs : List V} {lo hi : Option Int} {Q : VK} (ht : SqT K H a xs) (h : ∀ H' u, Same H H' → SqT K H' u (cutV xs lo hi) → Q (.ref u) H') : rSlA K (.ref a) lo hi H Q := by
  refine ⟨a, xs, rfl, ht, fun w => h H a (.refl _) ?_, fun _ p np => h _ p (same_upd np) (sqT upd_same)⟩
  unfold cutV
  rw [w.1, w.2, List.drop_zero, Nat.sub_zero, List.take_length]
  exact ht
structure FilTxt (K : PySem.W.Frag) (mg : Str → Option Value) (C : Addr) : Prop where
  cl : Cls K C
  nC : NoAttr K C "costs"
  nK : NoAttr K C "known"
  mgC : mg "Filler" = some (.ref C)
section
variable {P : Program} {w : World} {K : PySem.W.Frag} {mg : Str → Option Value} {base : Heap}
/-! ### Filler(costs) -/
theorem scFI : FnScope ["self", "costs"] ["self", "costs"] (defScope sFInit) := ⟨rfl, rfl, rfl, by decide +kernel, rfl, by decide +kernel, by decide +kernel⟩
def spFI (K : PySem.W.Frag) (C : Addr) : Sp := fun vs H Q _ => ∃ (p c dx : Addr) (cs : List Int), vs = [.ref p, .ref c] ∧ Seq K H c cs ∧ H p = some (.ins C dx []) ∧ ∀ (H' : Hp) (d : Addr), Keep p H H' → H d = none → Fill K C H' p d cs → Q .non H'
theorem ok_finit {f C : Addr} {fd : FuncData} (F : Fun K "__init__" "Filler.__init__" sFInit f fd) (T : FilTxt K mg C) (B : Blt mg) : FnOk P w K mg base CX0 1 f fd ["self", "costs"] (spFI K C) := by
  refine F.ok scFI (fun vs H Q E h => ?_) (fun cdv A outer s H vs Q E hr h => ?_)
  · obtain ⟨_, _, _, _, rfl, _⟩ := h
    rfl
  · obtain ⟨p, c, dx, cs, rfl, hc, hp, k⟩ := h
    refine ⟨_, pss_cons (ps_fld (pv 0) (pe_callTy call_tuple_of (by rfl) B.tuple (by decide +kernel) (pa_cons (pv 1) pa_nil)) rfl) (pss_one (ps_fld (pv 0) pe_dnewT rfl)), ?_⟩
    -- the tuple, whether it is made or not
    have rest : ∀ (H1 : Hp) (t : Addr), Same H H1 → SqT K H1 t (cs.map V.int) → ∃ a C' dx' fs, V.ref p = .ref a ∧ H1 a = some (.ins C' dx' fs) ∧ Cls K C' ∧ NoAttr K C' "costs" ∧ fs.length < 1000 ∧
        ∀ q, (L2.upd H1 a (.ins C' dx' (putF "costs" (.ref t) fs))) q = none → ∃ a2 C2 dx2 fs2, V.ref p = .ref a2 ∧ (L2.upd (L2.upd H1 a (.ins C' dx' (putF "costs" (.ref t) fs))) q (.dT [])) a2 = some (.ins C2 dx2 fs2) ∧ Cls K C2 ∧ NoAttr K C2 "known" ∧ fs2.length < 1000 ∧
          Q .non (L2.upd (L2.upd (L2.upd H1 a (.ins C' dx' (putF "costs" (.ref t) fs))) q (.dT [])) a2 (.ins C2 dx2 (putF "known" (.ref q) fs2))) := by
      intro H1 t s1 ht
      refine ⟨p, C, dx, [], rfl, s1 _ _ hp, T.cl, T.nC, (by show 0 < 1000; decide), fun q nq => ?_⟩
      have npq : p ≠ q := fun z => by
        rw [← z, upd_same] at nq
        cases nq
      have nq1 : H1 q = none := by
        rw [upd_ne (Ne.symm npq)] at nq
        exact nq
      refine ⟨p, C, dx, _, rfl, (by rw [upd_ne npq]; exact upd_same), T.cl, T.nK, (by show 1 < 1000; decide), ?_⟩
      have k1 : Keep p H1 (L2.upd (L2.upd (L2.upd H1 p (.ins C dx (putF "costs" (.ref t) []))) q (.dT [])) p (.ins C dx (putF "known" (.ref q) (putF "costs" (.ref t) [])))) := fun b o nb e => by
        rw [upd_ne nb, upd_ne (ne_of_none e nq1), upd_ne nb]
        exact e
      refine k _ q ((Keep.same s1).trans k1) (s1.free nq1) ⟨dx, t, upd_same, k1.tup (fun ys z => ?_) (fun o u z => ?_) ht, [], ?_, ⟨List.nodup_nil, fun x hx => by cases hx⟩⟩
      · rw [s1 _ _ hp] at z
        cases z
      · rw [s1 _ _ hp] at z
        cases z
      · rw [upd_ne (Ne.symm npq)]
        exact upd_same
    rcases hc with hc | hc
    · refine ⟨_, rfl, c, _, rfl, .inl ⟨hc, fun t nt => ⟨_, rfl, ?_⟩⟩⟩
      obtain ⟨a, C', dx', fs, e1, e2, e3, e4, e5, e6⟩ := rest _ t (same_upd nt) (sqT upd_same)
      exact ⟨a, C', dx', fs, e1, e2, e3, e4, e5, fun q nq => ⟨_, rfl, e6 q nq⟩⟩
    · refine ⟨_, rfl, c, _, rfl, .inr ⟨hc, ⟨_, rfl, ?_⟩⟩⟩
      obtain ⟨a, C', dx', fs, e1, e2, e3, e4, e5, e6⟩ := rest _ c (.refl _) hc
      exact ⟨a, C', dx', fs, e1, e2, e3, e4, e5, fun q nq => ⟨_, rfl, e6 q nq⟩⟩
/-! ### least, found -/
abbrev psL : List Str := ["self", "first", "stages"]
def spLe (K : PySem.W.Frag) (C : Addr) (s : Nat) : Sp := fun vs H Q _ => ∃ (p d : Addr) (cs : List Int) (i : Nat), vs = [.ref p, .int (i : Nat), .int (s : Nat)] ∧ Fill K C H p d cs ∧ cs.length ≤ 8 ∧ 1 ≤ s ∧ i + s ≤ cs.length ∧
  ∀ (H' : Hp) (r : Int), IsMin (cs.drop i) s r → Keep d H H' → Fill K C H' p d cs → Q (.int r) H'
theorem scLe : FnScope ["self", "first", "stages", "key"] psL (defScope sLeast) := ⟨rfl, rfl, rfl, by decide +kernel, rfl, by decide +kernel, by decide +kernel⟩
theorem ok_least {f C g : Addr} {fd gd : FuncData} {n s : Nat} (F : Fun K "least" "Filler.least" sLeast f fd) (T : FilTxt K mg C) (G : FnOk P w K mg base CX0 n g gd psL (spLe K C s)) (bG : Binds K gd psL []) (mG : Meth K C "found" g) :
    FnOk P w K mg base CX0 (n + 1) f fd psL (spLe K C s) := by
  refine F.ok scLe (fun vs H Q E h => ?_) (fun cdv A outer s0 H vs Q E hr h => ?_)
  · obtain ⟨_, _, _, _, rfl, _⟩ := h
    rfl
  · obtain ⟨p, d, cs, i, rfl, hF, h8, hs, his, k⟩ := h
    have hu : (A.deeper (envOfC "Filler.least" (defScope sLeast) s0.heap.objs.size f cdv)).units + 1 < cLine := by
      have := hr.units
      omega
    refine ⟨_, pss_cons (ps_set (i := 3) scLe.nd rfl (.inl rfl) (pe_tup (pa_cons (pv 1) (pa_cons (pv 2) pa_nil))))
      (pss_cons (ps_if (pt_cmp (pc_dnotin hu (pv 3) (pe_fld (pv 0) rfl))) (pss_one (ps_dput hu (pe_fld (pv 0) rfl) (pv 3) (pe_meth (pv 0) T.cl mG G hr bG .nil pass0 (pa_cons (pv 1) (pa_cons (pv 2) pa_nil))) rfl)) pss_nil)
      (pss_one (ps_ret (pe_dget hu (pe_fld (pv 0) rfl) (pv 3) (fun _ _ => rfl))))), ?_⟩
    refine ⟨_, rfl, _, rfl, len2 _ _, fun q nq => ?_⟩
    have s1 := same_upd (o := .tup [V.int (i : Nat), V.int (s : Nat)]) nq
    obtain ⟨dx, t, h1, h2, kvs, h3, h4⟩ := hF.same s1
    have eq : (L2.upd H q (.tup [V.int (i : Nat), V.int (s : Nat)])) q = some (.tup ((keyOf i s).map kV)) := upd_same
    refine ⟨_, rfl, _, rfl, p, C, dx, _, _, rfl, h1, T.cl, T.nK, pf_known _ _, d, _, rfl, DGet.t (k := keyOf i s) h3 eq, _, rfl, ?_⟩
    cases e : valV kvs (keyOf i s) with
    | some v =>
      refine iteF ?_
      obtain ⟨r, rfl, hm⟩ := h4.get e
      refine ⟨_, rfl, p, C, dx, _, _, rfl, h1, T.cl, T.nK, pf_known _ _, _, rfl, d, .int r, rfl, ?_, ?_⟩
      · exact e ▸ DGet.t (k := keyOf i s) h3 eq
      · exact k _ r hm (Keep.same s1) ⟨dx, t, h1, h2, kvs, h3, h4⟩
    | none =>
      refine iteT ?_
      refine ⟨_, rfl, p, dx, _, rfl, h1, pf_found _ _, _, rfl, _, rfl, p, d, cs, i, rfl, ⟨dx, t, h1, h2, kvs, h3, h4⟩, h8, hs, his, fun H2 r hm k2 hF2 => ?_⟩
      obtain ⟨dx2, t2, g1, g2, kvs2, g3, g4⟩ := hF2
      have nqd : q ≠ d := fun z => by
        rw [z, upd_same] at h3
        cases h3
      have npd : p ≠ d := ne_of g1 g3 (by intro z; cases z)
      have eq2 := k2 _ _ nqd eq
      refine ⟨_, rfl, p, C, dx2, _, _, rfl, g1, T.cl, T.nK, pf_known _ _, _, rfl, d, _, rfl, DPut.t (k := keyOf i s) g3 eq2 (z_lt (by have := g4.few h8; omega)), ?_⟩
      have k3 : Keep d H2 (L2.upd H2 d (.dT (putK kvs2 (keyOf i s) (.int r)))) := Keep.upd
      have g1' := k3 _ _ npd g1
      refine ⟨_, rfl, p, C, dx2, _, _, rfl, g1', T.cl, T.nK, pf_known _ _, _, rfl, d, .int r, rfl, ?_, ?_⟩
      · have ev : valV (putK kvs2 (keyOf i s) (.int r)) (keyOf i s) = some (.int r) := by rw [valV_put, if_pos rfl]
        exact ev ▸ DGet.t (k := keyOf i s) upd_same (k3 _ _ nqd eq2)
      · refine k _ r hm ((Keep.same s1).trans (k2.trans k3)) ⟨dx2, t2, g1', k3.tup (fun ys z => ?_) (fun o u z => ?_) g2, _, upd_same, g4.put hs his hm⟩
        · rw [g3] at z
          cases z
        · rw [g3] at z
          cases z
end
end K10

set_option Elab.async false
set_option linter.all false
set_option maxRecDepth 100000
set_option maxHeartbeats 4000000
/-! K10Found: Filler.found. -/
namespace K10
open PySem PySem.Spec PyProof.Rows L2
theorem no_part {σ : L2.St} {H : Hp} {R : Option Int → Hp → Prop} (h : R none H) : tNoPart σ H R := h
section
variable {P : Program} {w : World} {K : PySem.W.Frag} {mg : Str → Option Value} {base : Heap}
abbrev nFo : List Str := ["self", "first", "stages", "left", "best", "many", "most"]
theorem scFo : FnScope nFo psL (defScope sFound) := ⟨rfl, rfl, rfl, by decide +kernel, rfl, by decide +kernel, by decide +kernel⟩
/-- the best so far, as it stands in the variable -/
def BestAt (l : List Int) (s i : Nat) (v : V) : Prop := (i = 0 ∧ v = .non) ∨ (1 ≤ i ∧ ∃ b, v = .int b ∧ MinTo l s i b)
theorem ok_found {f C g : Addr} {fd gd : FuncData} {n s : Nat} (F : Fun K "found" "Filler.found" sFound f fd) (T : FilTxt K mg C) (B : Blt mg) (G : FnOk P w K mg base CX0 n g gd psL (spLe K C s)) (bG : Binds K gd psL []) (mG : Meth K C "least" g) :
    FnOk P w K mg base CX0 (n + 1) f fd psL (spLe K C (s + 1)) := by
  refine F.ok scFo (fun vs H Q E h => ?_) (fun cdv A outer s0 H vs Q E hr h => ?_)
  · obtain ⟨_, _, _, _, rfl, _⟩ := h
    rfl
  · obtain ⟨p, d, cs, i, rfl, hF, h8, hs, his, k⟩ := h
    refine ⟨_, pss_cons (ps_set (i := 3) scFo.nd rfl (.inl rfl) (pe_op op_sub (pe_callB call_len_seq (by rfl) B.len PySem.boot_len (pa_cons (pe_fld (pv 0) rfl) pa_nil)) (pv 1)))
      (pss_cons (ps_if (pt_cmpR op_lt (pv 3) (pv 2) (nomark _)) (pss_one (ps_ret pe_non)) pss_nil)
      (pss_cons (ps_if (pt_cmpR op_eq (pv 2) pe_int (nomark _)) (pss_one (ps_ret (pe_callB (cr_sumT rfl) (by rfl) B.sum (by decide +kernel) (pa_cons (pe_slice sl_tupA (pe_fld (pv 0) rfl) (po_some (pv 1)) po_none) pa_nil)))) pss_nil)
      (pss_cons (ps_set (i := 4) scFo.nd rfl (.inl rfl) pe_non)
      (pss_cons (ps_for PassesOwn.never rfl (pi_range2 rfl B.range (pa_cons pe_int (pa_cons (pe_op op_add (pe_op op_sub (pv 3) (pv 2)) pe_int) pa_nil))) (pg_name (i := 5) scFo.nd rfl (.inl rfl))
        (pss_cons (ps_set (i := 6) scFo.nd rfl (.inl rfl) (pe_callB (call_max2 rfl) (by rfl) B.max (by decide +kernel)
            (pa_cons (pe_callB (cr_sumT rfl) (by rfl) B.sum (by decide +kernel) (pa_cons (pe_slice sl_tupA (pe_fld (pv 0) rfl) (po_some (pv 1)) (po_some (pe_op op_add (pv 1) (pv 5)))) pa_nil))
            (pa_cons (pe_meth (pv 0) T.cl mG G hr bG .nil pass0 (pa_cons (pe_op op_add (pv 1) (pv 5)) (pa_cons (pe_op op_sub (pv 2) pe_int) pa_nil))) pa_nil))))
        (pss_one (ps_if (PW.pt (pw_or (pt_cmpR op_isN (pv 4) pe_non (nomark _)) (pw_or1 (pt_cmpR op_lt (pv 6) (pv 4) (nomark _))))) (pss_one (ps_set (i := 4) scFo.nd rfl (.inl rfl) (pv 6))) pss_nil))))
      (pss_one (ps_ret (pv 4))))))), ?_⟩
    obtain ⟨dx, t, h1, h2, kvs, h3, h4⟩ := id hF
    have lenV : (cs.map V.int).length = cs.length := List.length_map _
    refine ⟨_, rfl, p, C, dx, _, _, rfl, h1, T.cl, T.nC, pf_costs _ _, t, _, rfl, .inr h2, _, rfl, _, _, rfl, rfl, ?_⟩
    let left : Int := ((cs.map V.int).length : Nat) - (i : Nat)
    have el : (((cs.map V.int).length : Nat) : Int) - ((i : Nat) : Int) = ((cs.length - i : Nat) : Int) := by rw [lenV]; omega
    refine ⟨_, rfl, _, rfl, _, _, rfl, rfl, _, rfl, ite2 (fun c => ?_) (fun _ => ?_)⟩
    · have c : (((cs.map V.int).length : Nat) : Int) - ((i : Nat) : Int) < ((s + 1 : Nat) : Int) := of_decide_eq_true c
      rw [el] at c
      omega
    refine ⟨_, rfl, rfl, _, rfl, ite2 (fun c => ?_) (fun c => ?_)⟩
    · have c : ((s + 1 : Nat) : Int) = 1 := V.int.inj (of_decide_eq_true c)
      obtain rfl : s = 0 := by omega
      refine ⟨_, rfl, p, C, dx, _, _, rfl, h1, T.cl, T.nC, pf_costs _ _, _, rfl, _, rfl, ?_⟩
      refine no_part ?_
      refine slA (lo := some ((i : Nat) : Int)) (hi := none) h2 fun H' u s' hu => ?_
      rw [cut_from cs (by omega)] at hu
      refine ⟨u, _, rfl, hu, k H' _ (fun B => ?_) (Keep.same s') (hF.same s')⟩
      rw [feas_one, List.length_drop]
      exact ⟨fun z => z.2, fun z => ⟨by omega, z⟩⟩
    · have c : ¬ ((s + 1 : Nat) : Int) = 1 := fun z => c (decide_eq_true (congrArg V.int z))
      have hs1 : 1 ≤ s := by omega
      refine ⟨_, rfl, _, rfl, _, _, rfl, rfl, _, _, rfl, rfl, _, _, rfl, ⟨by decide, by decide, by rw [el]; omega, by rw [el]; omega⟩, ?_⟩
      have cnt : ((((cs.map V.int).length : Nat) : Int) - ((i : Nat) : Int) - ((s + 1 : Nat) : Int) + 2 - 1).toNat = cs.length - i - s := by rw [el]; omega
      refine for_range (lo := 1) (n := ((((cs.map V.int).length : Nat) : Int) - ((i : Nat) : Int) - ((s + 1 : Nat) : Int) + 2 - 1).toNat) (fun j σ H' => ∃ (v4 : V) (v5 v6 : Option V), σ = [some (.ref p), some (.int (i : Nat)), some (.int (s + 1 : Nat)), some (.int ((((cs.map V.int).length : Nat) : Int) - ((i : Nat) : Int))), some v4, v5, v6] ∧ Keep d H H' ∧ Fill K C H' p d cs ∧ BestAt (cs.drop i) s j v4) ?_ ?_ ?_
      · exact ⟨.non, none, none, rfl, .refl _ _, hF, .inl ⟨rfl, rfl⟩⟩
      · rintro j σ H1 hj ⟨v4, v5, v6, rfl, k1, hF1, hb⟩
        rw [cnt] at hj
        obtain ⟨dx1, t1, g1, g2, kvs1, g3, g4⟩ := id hF1
        have e1 : ((i : Nat) : Int) + (1 + (j : Nat)) = ((i + (j + 1) : Nat) : Int) := by omega
        refine ⟨_, rfl, p, C, dx1, _, _, rfl, g1, T.cl, T.nC, pf_costs _ _, _, rfl, _, rfl, _, rfl, _, rfl, _, _, rfl, rfl, _, rfl, slA g2 fun H2 u s2 hu => ?_⟩
        rw [e1, cut_seg cs (by omega) (by omega)] at hu
        have hF2 := hF1.same s2
        obtain ⟨dx2, t2, q1, q2, kvs2, q3, q4⟩ := id hF2
        refine ⟨u, _, rfl, hu, _, rfl, p, dx2, _, rfl, q1, pf_least _ _, _, rfl, _, rfl, _, _, rfl, rfl, _, rfl, _, _, rfl, rfl, ?_⟩
        refine ⟨p, d, cs, i + (j + 1), ?_, hF2, h8, hs1, by omega, fun H3 r hm k3 hF3 => ?_⟩
        · have e2 : ((s + 1 : Nat) : Int) - 1 = ((s : Nat) : Int) := by omega
          show [V.ref p, V.int (((i : Nat) : Int) + (1 + (j : Nat))), V.int (((s + 1 : Nat) : Int) - 1)] = _
          rw [e1, e2]
        refine ⟨_, _, rfl, ?_⟩
        have k4 : Keep d H H3 := k1.trans ((Keep.same s2).trans k3)
        have e3 : i + (j + 1) - i = j + 1 := by omega
        rw [← List.drop_drop] at hm
        rw [e3]
        rcases hb with ⟨rfl, rfl⟩ | ⟨hj1, b, rfl, hb⟩
        · refine ⟨_, rfl, rfl, _, rfl, iteT ?_⟩
          exact ⟨_, rfl, _, _, _, rfl, k4, hF3, .inr ⟨Nat.le_refl _, _, rfl, minTo_first hm⟩⟩
        · have nx := minTo_next hb hm
          refine ⟨_, rfl, rfl, _, rfl, iteF ?_⟩
          refine ⟨_, rfl, _, rfl, _, _, rfl, rfl, _, rfl, ite2 (fun c2 => ?_) (fun c2 => ?_)⟩
          · have c2 : maxI ((cs.drop i).take (j + 1)).sum r < b := of_decide_eq_true c2
            rw [if_pos c2] at nx
            exact ⟨_, rfl, _, _, _, rfl, k4, hF3, .inr ⟨by omega, _, rfl, nx⟩⟩
          · have c2 : ¬ maxI ((cs.drop i).take (j + 1)).sum r < b := fun z => c2 (decide_eq_true z)
            rw [if_neg c2] at nx
            exact ⟨_, _, _, rfl, k4, hF3, .inr ⟨by omega, _, rfl, nx⟩⟩
      · rintro σ H1 ⟨v4, v5, v6, rfl, k1, hF1, hb⟩
        rw [cnt] at hb
        rcases hb with ⟨z, _⟩ | ⟨hj1, b, rfl, hb⟩
        · omega
        · refine ⟨_, rfl, k H1 b ?_ k1 hF1⟩
          exact minTo_end hb (by rw [List.length_drop]; omega)
end
end K10

set_option Elab.async false
set_option linter.all false
set_option maxRecDepth 100000
set_option maxHeartbeats 4000000
/-! K10First: Filler.least and .found at every number of stages; Filler.first_cut. -/
namespace K10
open PySem PySem.Spec PyProof.Rows L2
section
variable {P : Program} {w : World} {K : PySem.W.Frag} {mg : Str → Option Value} {base : Heap}
theorem le_zero {C f : Addr} {fd : FuncData} : FnOk P w K mg base CX0 0 f fd psL (spLe K C 0) := by
  have no : ∀ vs H Q E, ¬ spLe K C 0 vs H Q E := fun vs H Q E h => by
    obtain ⟨_, _, _, _, _, _, _, h1, _⟩ := h
    omega
  exact ⟨fun vs H Q E h => absurd h (no vs H Q E), fun A outer s H args us vs Q E _ _ _ _ h => absurd h (no vs H Q E)⟩
theorem le_all {f g C : Addr} {fd gd : FuncData} (F : Fun K "least" "Filler.least" sLeast f fd) (bF : Binds K fd psL []) (mF : Meth K C "least" f) (G : Fun K "found" "Filler.found" sFound g gd) (bG : Binds K gd psL []) (mG : Meth K C "found" g)
    (T : FilTxt K mg C) (B : Blt mg) : ∀ s : Nat, FnOk P w K mg base CX0 (2 * s) f fd psL (spLe K C s)
  | 0 => le_zero
  | s + 1 => by
    have ih := le_all F bF mF G bG mG T B s
    exact ok_least F T (ok_found G T B ih bF mF) bG mG
def spLU (K : PySem.W.Frag) (C : Addr) : Sp := fun vs H Q E => ∃ s, s ≤ 8 ∧ spLe K C s vs H Q E
theorem le_any {f g C : Addr} {fd gd : FuncData} (F : Fun K "least" "Filler.least" sLeast f fd) (bF : Binds K fd psL []) (mF : Meth K C "least" f) (G : Fun K "found" "Filler.found" sFound g gd) (bG : Binds K gd psL []) (mG : Meth K C "found" g)
    (T : FilTxt K mg C) (B : Blt mg) : FnOk P w K mg base CX0 16 f fd psL (spLU K C) :=
  ⟨fun vs H Q E ⟨s, _, h⟩ => (le_all (P := P) (w := w) (base := base) F bF mF G bG mG T B s).len vs H Q E h,
   fun A outer s0 H args us vs Q E hr I b r ⟨s, hs, h⟩ => (le_all F bF mF G bG mG T B s).run A outer s0 H args us vs Q E (hr.mono (by omega)) I b r h⟩
/-! ### first_cut -/
abbrev nFC : List Str := ["self", "stages", "most", "cut", "first", "left", "many"]
theorem scFC : FnScope nFC ["self", "stages"] (defScope sFirst) := ⟨rfl, rfl, rfl, by decide +kernel, rfl, by decide +kernel, by decide +kernel⟩
def spFC (K : PySem.W.Frag) (C : Addr) : Sp := fun vs H Q _ => ∃ (p d : Addr) (cs : List Int) (s : Nat), vs = [.ref p, .int (s : Nat)] ∧ Fill K C H p d cs ∧ cs.length ≤ 8 ∧ 1 ≤ s ∧ s ≤ cs.length ∧
  ∀ (H' : Hp) (q c : Addr) (r : Int), IsMin cs s r → Keep d H H' → H q = none → H' q = some (.tup [.int r, .ref c]) → Q (.ref q) H'
theorem ok_first {f C g : Addr} {fd gd : FuncData} (F : Fun K "first_cut" "Filler.first_cut" sFirst f fd) (T : FilTxt K mg C) (B : Blt mg) (G : FnOk P w K mg base CX0 16 g gd psL (spLU K C)) (bG : Binds K gd psL []) (mG : Meth K C "least" g) :
    FnOk P w K mg base CX0 17 f fd ["self", "stages"] (spFC K C) := by
  refine F.ok scFC (fun vs H Q E h => ?_) (fun cdv A outer s0 H vs Q E hr h => ?_)
  · obtain ⟨_, _, _, _, rfl, _⟩ := h
    rfl
  · obtain ⟨p, d, cs, s, rfl, hF, h8, hs1, hs, k⟩ := h
    refine ⟨_, pss_cons (ps_set (i := 2) scFC.nd rfl (.inl rfl) (pe_meth (pv 0) T.cl mG G hr bG .nil pass0 (pa_cons pe_int (pa_cons (pv 1) pa_nil))))
      (pss_cons (ps_set (i := 3) scFC.nd rfl (.inl rfl) (pe_lst pa_nil))
      (pss_cons (ps_set (i := 4) scFC.nd rfl (.inl rfl) pe_int)
      (pss_cons (ps_for PassesOwn.never rfl (pi_range3 rfl B.range (pa_cons (pe_op op_sub (pv 1) pe_int) (pa_cons pe_int (pa_cons (pe_un un_neg pe_int) pa_nil)))) (pg_name (i := 5) scFC.nd rfl (.inl rfl))
        (pss_cons (ps_set (i := 6) scFC.nd rfl (.inl rfl) pe_int)
        (pss_cons (ps_while PassesOwn.never (pt_cmpR op_gt (pe_meth (pv 0) T.cl mG G hr bG .nil pass0 (pa_cons (pe_op op_add (pv 4) (pv 6)) (pa_cons (pv 5) pa_nil))) (pv 2) (nomark _))
          (pss_one (ps_aug (i := 6) scFC.nd rfl (.inl rfl) pe_int ip_add)))
        (pss_cons (ps_expr (pe_bm PySem.F.plainAttrs_list PySem.F.slot_list_append PySem.F.type_list_append mt_append (pv 3) (pa_cons (pv 6) pa_nil)))
        (pss_one (ps_aug (i := 4) scFC.nd rfl (.inl rfl) (pv 6) ip_add))))))
      (pss_cons (ps_expr (pe_bm PySem.F.plainAttrs_list PySem.F.slot_list_append PySem.F.type_list_append mt_append (pv 3) (pa_cons (pe_op op_sub (pe_callB call_len_seq (by rfl) B.len PySem.boot_len (pa_cons (pe_fld (pv 0) rfl) pa_nil)) (pv 4)) pa_nil)))
      (pss_one (ps_ret (pe_tup (pa_cons (pv 2) (pa_cons (pe_callTy call_tuple_of (by rfl) B.tuple (by decide +kernel) (pa_cons (pv 3) pa_nil)) pa_nil))))))))), ?_⟩
    obtain ⟨dx, t, h1, h2, kvs, h3, h4⟩ := id hF
    refine ⟨_, rfl, p, dx, _, rfl, h1, pf_least _ _, _, rfl, s, by omega, p, d, cs, 0, rfl, hF, h8, hs1, by omega, fun H1 r hr0 k1 hF1 => ?_⟩
    rw [List.drop_zero] at hr0
    refine ⟨Nat.zero_le _, fun L nL => ?_⟩
    have sL := same_upd (o := .lst []) nL
    have hF2 := hF1.same sL
    have nLd : L ≠ d := fun z => by
      obtain ⟨_, _, _, _, _, g3, _⟩ := hF1
      rw [z, g3] at nL
      cases nL
    have nLH : H L = none := k1.free nL nLd
    have hFeas : Feas (cs.drop 0) s r := by rw [List.drop_zero]; exact (hr0 r).mpr (Int.le_refl _)
    refine ⟨_, rfl, _, _, rfl, rfl, _, rfl, ((s : Nat) : Int) - 1, 0, -1, s - 1, rfl, ?_, ?_⟩
    · have e : s - 1 = (((s : Nat) : Int) - 1 - 0).toNat := by omega
      rw [e]
      exact RgC.neg (by omega) (by omega) (by decide) (by decide)
    · refine for_rangeC (lo := ((s : Nat) : Int) - 1) (c := -1) (n := s - 1) (fun j σ H' => ∃ (v5 v6 : Option V) (fi : Nat) (ks : List Int), σ = [some (.ref p), some (.int (s : Nat)), some (.int r), some (.ref L), some (.int (fi : Nat)), v5, v6] ∧ Keep d H H' ∧ Fill K C H' p d cs ∧ H' L = some (.lst (ks.map V.int)) ∧ ks.length = j ∧ Feas (cs.drop fi) (s - j) r) ?_ ?_ ?_
      · exact ⟨none, none, 0, [], rfl, k1.trans (Keep.same sL), hF2, upd_same, rfl, hFeas⟩
      · rintro j σ H3 hj ⟨v5, v6, fi, ks, rfl, k3, hF3, eL, hkl, hf⟩
        have el : ((s : Nat) : Int) - 1 + (j : Nat) * (-1) = ((s - 1 - j : Nat) : Int) := by omega
        have es : s - j = (s - 1 - j) + 1 := by omega
        rw [es] at hf
        obtain ⟨m, hm1, hm2, hm3, hm4⟩ := feas_succ.mp hf
        rw [List.length_drop] at hm2
        rw [List.drop_drop] at hm4
        have hm5 := feas_len hm4
        rw [List.length_drop] at hm5
        -- the while
        refine ⟨fun z σ H' => ∃ a : Nat, z = m - a ∧ 1 ≤ a ∧ a ≤ m ∧ σ = [some (.ref p), some (.int (s : Nat)), some (.int r), some (.ref L), some (.int (fi : Nat)), some (.int (((s : Nat) : Int) - 1 + (j : Nat) * (-1))), some (.int (a : Nat))] ∧ Keep d H3 H' ∧ Fill K C H' p d cs,
          ⟨m - 1, 1, rfl, Nat.le_refl _, hm1, rfl, .refl _ _, hF3⟩, ?_⟩
        rintro z σ H4 ⟨a, rfl, ha1, ham, rfl, k4, hF4⟩
        obtain ⟨dx4, t4, g1, g2, kvs4, g3, g4⟩ := id hF4
        refine ⟨_, rfl, p, dx4, _, rfl, g1, pf_least _ _, _, rfl, _, rfl, _, _, rfl, rfl, _, rfl, ?_⟩
        refine ⟨s - 1 - j, by omega, p, d, cs, fi + a, ?_, hF4, h8, by omega, by omega, fun H5 r5 hr5 k5 hF5 => ?_⟩
        · have e2 : ((fi : Nat) : Int) + ((a : Nat) : Int) = ((fi + a : Nat) : Int) := by omega
          show [V.ref p, V.int (((fi : Nat) : Int) + ((a : Nat) : Int)), V.int (((s : Nat) : Int) - 1 + (j : Nat) * (-1))] = _
          rw [e2, el]
        refine ⟨_, rfl, _, _, rfl, rfl, _, rfl, ite2 (fun c => ?_) (fun c => ?_)⟩
        · have c : r5 > r := of_decide_eq_true c
          have hne : a ≠ m := fun z => by
            rw [z] at hr5
            have := (hr5 r).mp hm4
            omega
          refine ⟨_, fun σ' H' q => q, _, rfl, _, _, rfl, rfl, ?_⟩
          exact ⟨m - (a + 1), by omega, a + 1, rfl, by omega, by omega, rfl, k4.trans k5, hF5⟩
        · have c : ¬ r5 > r := fun z => c (decide_eq_true z)
          have hf5 : Feas (cs.drop (fi + a)) (s - 1 - j) r := (hr5 r).mpr (by omega)
          have eL5 : H5 L = some (.lst (ks.map V.int)) := k5 _ _ nLd (k4 _ _ nLd eL)
          refine ⟨_, rfl, .inl ⟨rfl, _, .inl (.inl eL5)⟩, _, rfl, L, _, _, rfl, rfl, eL5, ?_, ?_⟩
          · rw [List.length_map]
            exact z_lt (by omega)
          · have k6 : Keep d H (L2.upd H5 L (.lst (ks.map V.int ++ [V.int ((a : Nat) : Int)]))) := fun b o nb e => by
              have nbL : b ≠ L := ne_of_none e nLH
              rw [upd_ne nbL]
              exact k5 _ _ nb (k4 _ _ nb (k3 _ _ nb e))
            have hF6 : Fill K C (L2.upd H5 L (.lst (ks.map V.int ++ [V.int ((a : Nat) : Int)]))) p d cs := by
              have kk : Keep L H5 (L2.upd H5 L (.lst (ks.map V.int ++ [V.int ((a : Nat) : Int)]))) := Keep.upd
              obtain ⟨dx5, t5, q1, q2, kvs5, q3, q4⟩ := hF5
              have npL : p ≠ L := ne_of q1 eL5 (by intro z; cases z)
              refine ⟨dx5, t5, kk _ _ npL q1, kk.tup (fun ys z => ?_) (fun o u z => ?_) q2, kvs5, kk _ _ (Ne.symm nLd) q3, q4⟩
              · rw [eL5] at z
                cases z
              · rw [eL5] at z
                cases z
            refine ⟨_, rfl, _, rfl, _, _, rfl, rfl, ?_⟩
            have e3 : s - (j + 1) = s - 1 - j := by omega
            refine ⟨_, _, fi + a, ks ++ [((a : Nat) : Int)], rfl, k6, hF6, by rw [upd_same, map_snoc], by rw [List.length_append, hkl]; rfl, by rw [e3]; exact hf5⟩
      · rintro σ H3 ⟨v5, v6, fi, ks, rfl, k3, hF3, eL, hkl, hf⟩
        obtain ⟨dx3, t3, g1, g2, kvs3, g3, g4⟩ := id hF3
        refine ⟨_, rfl, .inl ⟨rfl, _, .inl (.inl eL)⟩, _, rfl, p, C, dx3, _, _, rfl, g1, T.cl, T.nC, pf_costs _ _, t3, _, rfl, .inr g2, _, rfl, _, _, rfl, rfl, L, _, _, rfl, rfl, eL, ?_, ?_⟩
        · rw [List.length_map]
          exact z_lt (by omega)
        · have k4 : Keep d H (L2.upd H3 L (.lst (ks.map V.int ++ [V.int ((((cs.map V.int).length : Nat) : Int) - ((fi : Nat) : Int))]))) := fun b o nb e => by
            have nbL : b ≠ L := ne_of_none e nLH
            rw [upd_ne nbL]
            exact k3 _ _ nb e
          refine ⟨_, rfl, _, rfl, L, _, rfl, .inl ⟨sqL upd_same, fun l nl => ⟨len2 _ _, fun q nq => ?_⟩⟩⟩
          have s5 := same_upd (o := .tup (ks.map V.int ++ [V.int ((((cs.map V.int).length : Nat) : Int) - ((fi : Nat) : Int))])) nl
          have s6 := same_upd (o := .tup [V.int r, V.ref l]) nq
          have hF4 : Fill K C (L2.upd H3 L (.lst (ks.map V.int ++ [V.int ((((cs.map V.int).length : Nat) : Int) - ((fi : Nat) : Int))]))) p d cs := by
            have kk : Keep L H3 (L2.upd H3 L (.lst (ks.map V.int ++ [V.int ((((cs.map V.int).length : Nat) : Int) - ((fi : Nat) : Int))]))) := Keep.upd
            have npL : p ≠ L := ne_of g1 eL (by intro z; cases z)
            refine ⟨dx3, t3, kk _ _ npL g1, kk.tup (fun ys z => ?_) (fun o u z => ?_) g2, kvs3, kk _ _ (Ne.symm nLd) g3, g4⟩
            · rw [eL] at z
              cases z
            · rw [eL] at z
              cases z
          have hF5 := hF4.same s5
          have nqd : q ≠ d := fun z => by
            obtain ⟨_, _, _, _, _, y, _⟩ := hF5
            rw [← z, nq] at y
            cases y
          exact k _ q l r hr0 (k4.trans (Keep.same (s5.trans s6))) ((k4.trans (Keep.same s5)).free nq nqd) upd_same
end
end K10

set_option Elab.async false
set_option linter.all false
set_option maxRecDepth 100000
set_option maxHeartbeats 4000000
/-! K10Best: InvalidNumber and best_cut. -/
namespace K10
open PySem PySem.Spec PyProof.Rows L2
section
variable {P : Program} {w : World} {K : PySem.W.Frag} {mg : Str → Option Value} {base : Heap}
theorem scNum : FnScope ["self", "number"] ["self", "number"] (defScope sNum) := ⟨rfl, rfl, rfl, by decide +kernel, rfl, by decide +kernel, by decide +kernel⟩
def numD (v : V) : List (Str × V) := [("number", v)]
def spNum (K : PySem.W.Frag) (C : Addr) : Sp := fun vs H Q _ => ∃ (a : Addr) (v : V), vs = [.ref a, v] ∧ OexC K C ∧ NoAttr K C "number" ∧ H a = some (exo a C none) ∧
  ∀ dx, H dx = none → dx ≠ a → Q .non (L2.upd (L2.upd H dx (exd dx (numD v))) a (exo a C (some dx)))
theorem ok_num {f C : Addr} {fd : FuncData} (F : Fun K "__init__" "InvalidNumber.__init__" sNum f fd) : FnOk P w K mg base CX0 1 f fd ["self", "number"] (spNum K C) := by
  refine F.ok scNum (fun vs H Q E h => ?_) (fun cdv A outer s H vs Q E hr h => ?_)
  · obtain ⟨_, _, rfl, _⟩ := h
    rfl
  · obtain ⟨a, v, rfl, T, nN, ha, k⟩ := h
    refine ⟨_, pss_one (ps_ost (pv 0) (pv 1)), ?_⟩
    exact ⟨_, rfl, _, rfl, a, C, rfl, T, nN, .inl ⟨ha, fun dx n ne => k dx n ne⟩⟩
/-- the texts of the exception -/
structure NumTxt (K : PySem.W.Frag) (mg : Str → Option Value) (C f : Addr) (fd : FuncData) : Prop where
  ox : OexC K C
  nN : NoAttr K C "number"
  iC : PySem.W.findIn K (.ref C) "__init__" = some (some (.ref f))
  tI : PySem.W.typeIn K (.ref f) = some (.type "function")
  F : Fun K "__init__" "InvalidNumber.__init__" sNum f fd
  b : Binds K fd ["self", "number"] []
  mgC : mg "InvalidNumber" = some (.ref C)
structure FilAll (P : Program) (w : World) (K : PySem.W.Frag) (mg : Str → Option Value) (base : Heap) (C fI fF : Addr) (fdI fdF : FuncData) : Prop where
  T : FilTxt K mg C
  M : Mk K C fI
  FI : FnOk P w K mg base CX0 1 fI fdI ["self", "costs"] (spFI K C)
  bI : Binds K fdI ["self", "costs"] []
  FF : FnOk P w K mg base CX0 17 fF fdF ["self", "stages"] (spFC K C)
  bF : Binds K fdF ["self", "stages"] []
  mF : Meth K C "first_cut" fF
theorem scBest : FnScope ["costs", "stages"] ["costs", "stages"] (defScope sBest) := ⟨rfl, rfl, rfl, by decide +kernel, rfl, by decide +kernel, by decide +kernel⟩
def spBest (K : PySem.W.Frag) (CI : Addr) : Sp := fun vs H Q E => ∃ (c : Addr) (cs : List Int) (v : V), vs = [.ref c, v] ∧ Seq K H c cs ∧ Kind H v ∧ 1 ≤ cs.length ∧ cs.length ≤ 8 ∧
  (∀ s : Nat, v = .int (s : Nat) → 1 ≤ s → s ≤ cs.length → ∀ (H' : Hp) (q t : Addr) (r : Int), IsMin cs s r → Same H H' → H q = none → H' q = some (.tup [.int r, .ref t]) → Q (.ref q) H') ∧
  (betw v 1 (cs.length : Nat) = false → ∀ (d : Addr) (H' : Hp), Same H H' → H d = none → H' d = some (.xd (numD v)) → E (.ref CI) (some d) H')
theorem ok_best {f CI fN C fI fF : Addr} {fd fdN fdI fdF : FuncData} (F : Fun K "best_cut" "best_cut" sBest f fd) (B : Blt mg) (N : NumTxt K mg CI fN fdN) (A' : FilAll P w K mg base C fI fF fdI fdF) (cB : Cal P w K mg base 1 "is_between" ["value", "least", "most"] spBetw) :
    FnOk P w K mg base (L2.CX P w) 18 f fd ["costs", "stages"] (spBest K CI) := by
  refine F.okX scBest (fun vs H Q E h => ?_) (fun cdv A outer s0 H vs Q E hr h => ?_)
  · obtain ⟨_, _, _, rfl, _⟩ := h
    rfl
  · obtain ⟨c, cs, v, rfl, hc, hv, h1, h8, ky, kn⟩ := h
    have FN : FnOk P w K mg base CX0 1 fN fdN ["self", "number"] (spNum K CI) := ok_num N.F
    refine ⟨_, pss_cons (ps_if (pt_not (pt_val (pe_k cB hr (by decide) (pa_cons (pv 1) (pa_cons pe_int (pa_cons (pe_callB call_len_seq (by rfl) B.len PySem.boot_len (pa_cons (pv 0) pa_nil)) pa_nil)))))) 
        (pss_one (ps_raise rfl (takes_of rfl rfl rfl rfl) (pmk_oex N.ox N.iC N.tI FN (hr.mono (by decide)) N.b .nil pass0 rfl N.mgC (pa_cons (pv 1) pa_nil)))) pss_nil)
      (pss_one (ps_ret (pe_meth (pe_make A'.M A'.FI (hr.mono (by decide)) rfl A'.T.mgC A'.bI .nil pass0 (pa_cons (pv 0) pa_nil)) A'.T.cl A'.mF A'.FF hr A'.bF .nil pass0 (pa_cons (pv 1) pa_nil)))), ?_⟩
    have lenV : (cs.map V.int).length = cs.length := List.length_map _
    refine ⟨_, rfl, _, rfl, c, _, rfl, hc, v, 1, _, rfl, hv, _, rfl, ?_⟩
    rw [lenV]
    cases eb : betw v 1 (cs.length : Nat) with
    | false =>
      refine iteT ?_
      refine ⟨_, rfl, by show 1 ≤ 1000; decide, fun a na => ?_⟩
      refine ⟨a, v, rfl, N.ox, N.nN, upd_same, fun dx ndx nda => ?_⟩
      have nH : H dx = none := by
        rw [upd_ne nda] at ndx
        exact ndx
      refine ⟨rfl, dx, numD v, upd_same, by rw [upd_ne nda]; exact upd_same, nH, ?_⟩
      refine kn eb dx _ (fun b o e => ?_) nH upd_same
      have nb1 : b ≠ a := ne_of_none e na
      have nb2 : b ≠ dx := ne_of_none e nH
      rw [upd_ne nb2, del_ne nb1, upd_ne nb1, upd_ne nb2, upd_ne nb1]
      exact e
    | true =>
      refine iteF ?_
      obtain ⟨s, rfl, hs1, hs2⟩ : ∃ s : Nat, v = .int (s : Nat) ∧ 1 ≤ s ∧ s ≤ cs.length := by
        cases v with
        | int i =>
          have e2 : (decide ((1 : Int) ≤ i) && decide (i ≤ ((cs.length : Nat) : Int))) = true := eb
          obtain ⟨a1, a2⟩ := Bool.and_eq_true_iff.mp e2
          have a1 := of_decide_eq_true a1
          have a2 := of_decide_eq_true a2
          exact ⟨i.toNat, by rw [Int.toNat_of_nonneg (by omega)], by omega, by omega⟩
        | _ => cases eb
      refine ⟨_, rfl, fun x dx nx ndx nex => ?_⟩
      have s1 : Same H (L2.upd (L2.upd H dx (.own x)) x (.ins C dx [])) := fun b o e => by
        rw [upd_ne (ne_of_none e nx), upd_ne (ne_of_none e ndx)]
        exact e
      refine ⟨x, c, dx, cs, rfl, hc.same s1, upd_same, fun H2 d k2 nd hF => ⟨rfl, ?_⟩⟩
      obtain ⟨dx2, t2, g1, g2, kvs, g3, g4⟩ := id hF
      refine ⟨x, dx2, _, rfl, g1, pf_first _ _, _, rfl, x, d, cs, s, rfl, hF, h8, hs1, hs2, fun H3 q t r hm k3 nq eq => ?_⟩
      have ndH : H d = none := s1.free nd
      have s2 : Same H H2 := fun b o e => k2 _ _ (ne_of_none e nx) (s1 _ _ e)
      have s3 : Same H H3 := fun b o e => k3 _ _ (ne_of_none e ndH) (s2 _ _ e)
      exact ky s rfl hs1 hs2 H3 q t r hm s3 (s2.free nq) eq
end
end K10

set_option Elab.async false
set_option linter.all false
set_option maxRecDepth 100000
set_option maxHeartbeats 4000000
/-! K10Paper: cut_paper. -/
namespace K10
open PySem PySem.Spec PyProof.Rows L2
/-- where the second walk over the costs stands, i layers behind it -/
structure Way (cs : List Int) (m : Int) (s i : Nat) (pl : List Nat) (q : Nat) (tot : Int) : Prop where
  few : pl.length ≤ s
  qlt : q < cs.length
  tot : tot = seg cs q i
  le : q ≤ i
  all : pl ++ q :: gre cs m (s - pl.length) q = 0 :: gre cs m s 0
  low : s ≤ pl.length ∨ ∀ y, q < y → y < i → seg cs q (y + 1) < m
theorem Way.first {cs : List Int} {m : Int} {s : Nat} (h : 1 ≤ cs.length) : Way cs m s 0 [] 0 0 :=
  ⟨Nat.zero_le _, h, (seg_self cs 0).symm, Nat.le_refl _, rfl, .inr fun y h1 h2 => by omega⟩
theorem seg_next {cs : List Int} {q i : Nat} {x : Int} (hq : q ≤ i) (hx : cs[i]? = some x) : seg cs q i + x = seg cs q (i + 1) := by
  rw [seg_add cs hq (Nat.le_succ i), seg_one hx]
theorem Way.put {cs : List Int} {m : Int} {s i : Nat} {pl : List Nat} {q : Nat} {tot x : Int} (W : Way cs m s i pl q tot) (hs : ∀ y ∈ cs, y < m) (hx : cs[i]? = some x) (h1 : m ≤ tot + x) (h2 : pl.length + 1 ≤ s) : Way cs m s (i + 1) (pl ++ [q]) i x := by
  have hi := (List.getElem?_eq_some_iff.mp hx).1
  have hx' := hs x (List.mem_of_getElem? hx)
  have hqi : q < i := by
    rcases Nat.lt_or_ge q i with z | z
    · exact z
    · have e : q = i := by have := W.le; omega
      have := W.tot
      rw [e, seg_self] at this
      omega
  have nx : nextP cs m q = some i := nextP_is hqi hi (by rw [← seg_next W.le hx, ← W.tot]; exact h1) fun y a b => by
    rcases W.low with z | z
    · omega
    · exact z y a b
  have e : s - pl.length = (s - (pl ++ [q]).length) + 1 := by rw [List.length_append, List.length_singleton]; omega
  refine ⟨by rw [List.length_append, List.length_singleton]; exact h2, hi, (seg_one hx).symm, Nat.le_succ _, ?_, .inr fun y a b => by omega⟩
  have a := W.all
  rw [e, gre_some nx] at a
  rw [List.append_assoc]
  exact a
theorem Way.go {cs : List Int} {m : Int} {s i : Nat} {pl : List Nat} {q : Nat} {tot x : Int} (W : Way cs m s i pl q tot) (hx : cs[i]? = some x) (h : m ≤ tot + x → s ≤ pl.length) : Way cs m s (i + 1) pl q (tot + x) := by
  refine ⟨W.few, W.qlt, by rw [W.tot, seg_next W.le hx], Nat.le_succ_of_le W.le, W.all, ?_⟩
  rcases W.low with z | z
  · exact .inl z
  · by_cases c : m ≤ tot + x
    · exact .inl (h c)
    · refine .inr fun y a b => ?_
      rcases Nat.lt_or_ge y i with k | k
      · exact z y a k
      · have e : y = i := by omega
        rw [e, ← seg_next W.le hx, ← W.tot]
        omega
theorem Way.done {cs : List Int} {m : Int} {s : Nat} {pl : List Nat} {q : Nat} {tot : Int} (W : Way cs m s cs.length pl q tot) : pl ++ [q] = 0 :: gre cs m s 0 := by
  rw [← W.all]
  congr 2
  rcases W.low with z | z
  · have e : s - pl.length = 0 := by omega
    rw [e]
    rfl
  · exact (gre_none (nextP_no z)).symm
theorem enumA_it {K : PySem.W.Frag} {a : Addr} {H0 H : Hp} {ns : List Int} {σ : L2.St} {i : Nat} {R : It → Hp → Prop} (q : Seq K H0 a ns) (s : Same H0 H) (hv : σ[i]? = some (some (.ref a)))
    (h : ∀ (J : It) (G : Hp → Prop), Walk J ns.length G (YPair (fun i => some (.int (i : Nat))) (fun i => (ns.map V.int)[i]?)) → (∀ H', Same H0 H' → G H') → R J H) : iEnumA K (tCons (tVar i) tNil) σ H R ∧ True := by
  refine ⟨⟨_, hv, ?_⟩, trivial⟩
  rcases q with q | q
  · refine ⟨a, _, rfl, .inl ⟨s.seq q, h _ _ ?_ fun H' s => s.seq q⟩⟩
    have e := walk_enum (K := K) (a := a) (xs := ns.map V.int)
    rwa [List.length_map] at e
  · refine ⟨a, _, rfl, .inr ⟨same_tup s q, h _ _ ?_ fun H' s => same_tup s q⟩⟩
    have e := walk_enumT (K := K) (a := a) (xs := ns.map V.int)
    rwa [List.length_map] at e
section
variable {P : Program} {w : World} {K : PySem.W.Frag} {mg : Str → Option Value} {base : Heap}
abbrev nPap : List Str := ["costs", "stages", "most", "_", "layer", "cost", "places", "total"]
theorem scPap : FnScope nPap ["costs", "stages"] (defScope sPaper) := ⟨rfl, rfl, rfl, by decide +kernel, rfl, by decide +kernel, by decide +kernel⟩
def spPaper (K : PySem.W.Frag) (CI : Addr) : Sp := fun vs H Q E => ∃ (c : Addr) (cs : List Int) (v : V), vs = [.ref c, v] ∧ Seq K H c cs ∧ Kind H v ∧ 1 ≤ cs.length ∧ cs.length ≤ 8 ∧
  (∀ s : Nat, v = .int (s : Nat) → 1 ≤ s → s ≤ cs.length → ∀ (H' : Hp) (p : Addr) (r : Int), IsMin cs s r → Same H H' → H p = none → H' p = some (.tup ((toZ (due cs s r)).map V.int)) → Q (.ref p) H') ∧
  (betw v 1 (cs.length : Nat) = false → ∀ (d : Addr) (H' : Hp), Same H H' → H d = none → H' d = some (.xd (numD v)) → E (.ref CI) (some d) H')
theorem ok_paper {f CI g : Addr} {fd gd : FuncData} (F : Fun K "cut_paper" "cut_paper" sPaper f fd) (B : Blt mg) (G : FnOk P w K mg base (L2.CX P w) 18 g gd ["costs", "stages"] (spBest K CI)) (mG : mg "best_cut" = some (.ref g)) (kG : PySem.W.keepIn K (.ref g) = true) (bG : Binds K gd ["costs", "stages"] []) :
    FnOk P w K mg base (L2.CX P w) 19 f fd ["costs", "stages"] (spPaper K CI) := by
  refine F.okX scPap (fun vs H Q E h => ?_) (fun cdv A outer s0 H vs Q E hr h => ?_)
  · obtain ⟨_, _, _, rfl, _⟩ := h
    rfl
  · obtain ⟨c, cs, v, rfl, hc, hv, h1, h8, ky, kn⟩ := h
    refine ⟨_, pss_cons (ps_asg (pe_call G hr rfl mG kG bG .nil (passes_call (takes_of rfl rfl rfl rfl) fun _ _ _ _ h => h) (pa_cons (pv 0) (pa_cons (pv 1) pa_nil)))
        (pg_tup rfl (pgs_cons (pg_name (i := 2) scPap.nd rfl (.inl rfl)) (pgs_cons (pg_name (i := 3) scPap.nd rfl (.inl rfl)) pgs_nil))))
      (pss_cons (ps_for (passes_of rfl) rfl (pi_w (pi_enumA (by rfl) B.enumerate (pa_cons (pv 0) pa_nil))) (pg_tup rfl (pgs_cons (pg_name (i := 4) scPap.nd rfl (.inl rfl)) (pgs_cons (pg_name (i := 5) scPap.nd rfl (.inl rfl)) pgs_nil)))
        (pss_one (ps_if (pt_cmpR op_ge (pv 5) (pv 2) (nomark _)) (pss_one (ps_ret (pe_tup (pa_cons (pv 4) pa_nil)))) pss_nil)))
      (pss_cons (ps_set (i := 6) scPap.nd rfl (.inl rfl) (pe_lst (pa_cons pe_int pa_nil)))
      (pss_cons (ps_set (i := 7) scPap.nd rfl (.inl rfl) pe_int)
      (pss_cons (ps_for (passes_of rfl) rfl (pi_w (pi_enumA (by rfl) B.enumerate (pa_cons (pv 0) pa_nil))) (pg_tup rfl (pgs_cons (pg_name (i := 4) scPap.nd rfl (.inl rfl)) (pgs_cons (pg_name (i := 5) scPap.nd rfl (.inl rfl)) pgs_nil)))
        (pss_cons (ps_aug (i := 7) scPap.nd rfl (.inl rfl) (pv 5) ip_add)
        (pss_one (ps_if (PW.pt (pw_and (pt_cmpR op_ge (pv 7) (pv 2) (nomark _)) (pw_and1 (pt_cmpR op_le (pe_callB call_len_seq (by rfl) B.len PySem.boot_len (pa_cons (pv 6) pa_nil)) (pv 1) (nomark _)))))
          (pss_cons (ps_expr (pe_bm PySem.F.plainAttrs_list PySem.F.slot_list_append PySem.F.type_list_append mt_append (pv 6) (pa_cons (pv 4) pa_nil)))
          (pss_one (ps_set (i := 7) scPap.nd rfl (.inl rfl) (pv 5)))) pss_nil))))
      (pss_one (ps_ret (pe_callTy call_tuple_of (by rfl) B.tuple (by decide +kernel) (pa_cons (pv 6) pa_nil)))))))), ?_⟩
    refine ⟨_, rfl, _, rfl, c, cs, v, rfl, hc, hv, h1, h8, fun s hvs hs1 hs H1 q t m hm s1 nq eq => ?_, fun eb d H' s' nd ed => kn eb d H' s' nd ed⟩
    subst hvs
    refine ⟨q, _, rfl, sqT eq, rfl, _, _, rfl, _, _, rfl, rfl, ?_⟩
    have nqH : H q = none := nq
    refine enumA_it (σ := [some (.ref c), some (.int (s : Nat)), some (.int m), some (.ref t), none, none, none, none]) (i := 0) hc s1 rfl fun J G1 W1 hG1 => ?_
    refine for_it W1 (fun i σ H' => ∃ v4 v5 : Option V, σ = [some (.ref c), some (.int (s : Nat)), some (.int m), some (.ref t), v4, v5, none, none] ∧ Same H1 H' ∧ ∀ j x, j < i → cs[j]? = some x → x < m) ?_ (fun i σ H' _ z => by obtain ⟨_, _, _, z, _⟩ := z; exact hG1 H' (s1.trans z)) ?_ ?_
    · exact ⟨none, none, rfl, .refl _, fun j x hj => by omega⟩
    · rintro i y σ H2 H2' hi ⟨v4, v5, rfl, s2, hlow⟩ ⟨T, vx, vy, rfl, nT, rfl, hvx, hvy⟩
      obtain ⟨x, hx, rfl⟩ := int_at hvy
      clear hvy
      obtain rfl : V.int (i : Nat) = vx := Option.some.inj hvx
      have sT := same_upd (o := .tup [V.int (i : Nat), V.int x]) nT
      refine ⟨T, _, rfl, sqT upd_same, rfl, _, _, rfl, _, _, rfl, rfl, ?_⟩
      refine ⟨_, rfl, _, rfl, _, _, rfl, rfl, _, rfl, ite2 (fun c1 => ?_) (fun c1 => ?_)⟩
      · have c1 : m ≤ x := of_decide_eq_true c1
        refine ⟨_, rfl, len1 _, fun p np => ?_⟩
        have ss : Same H (L2.upd H2 T (.tup [V.int (i : Nat), V.int x])) := s1.trans (s2.trans sT)
        refine ky s rfl hs1 hs _ p m hm (ss.trans (same_upd np)) (ss.free np) ?_
        obtain ⟨hil, hxe⟩ := List.getElem?_eq_some_iff.mp hx
        have ed : due cs s m = [i] := due_one (List.findIdx?_eq_some_iff_getElem.mpr ⟨hil, decide_eq_true (by rw [hxe]; exact c1), fun j hj hjm => by
          have := hlow j cs[j] hj (List.getElem?_eq_getElem (by omega))
          have := of_decide_eq_true hjm
          omega⟩)
        rw [upd_same, ed]
        rfl
      · have c1 : ¬ m ≤ x := fun z => c1 (decide_eq_true z)
        refine ⟨_, _, rfl, s2.trans sT, fun j z hj hz => ?_⟩
        rcases Nat.lt_or_ge j i with k | k
        · exact hlow j z k hz
        · have e : j = i := by omega
          rw [e, hx] at hz
          have := Option.some.inj hz
          omega
    · rintro σ H2 ⟨v4, v5, rfl, s2, hlow⟩
      have hall : ∀ y ∈ cs, y < m := fun y hy => by
        obtain ⟨j, hj⟩ := List.getElem?_of_mem hy
        exact hlow j y (List.getElem?_eq_some_iff.mp hj).1 hj
      have s12 := s1.trans s2
      refine ⟨len1 _, fun L nL => ?_⟩
      have sL := same_upd (o := .lst [V.int 0]) nL
      have nLH : H L = none := s12.free nL
      refine enumA_it (σ := [some (.ref c), some (.int (s : Nat)), some (.int m), some (.ref t), v4, v5, some (.ref L), some (.int 0)]) (i := 0) hc (s12.trans sL) rfl fun J2 G2 W2 hG2 => ?_
      refine for_it W2 (fun i σ H' => ∃ (v4 v5 : Option V) (pl : List Nat) (q' : Nat) (tot : Int), σ = [some (.ref c), some (.int (s : Nat)), some (.int m), some (.ref t), v4, v5, some (.ref L), some (.int tot)] ∧ Same H H' ∧ H' L = some (.lst ((toZ (pl ++ [q'])).map V.int)) ∧ Way cs m s i pl q' tot) ?_ (fun i σ H' _ z => ?_) ?_ ?_
      · exact ⟨v4, v5, [], 0, 0, rfl, s12.trans sL, upd_same, Way.first h1⟩
      · obtain ⟨_, _, _, _, _, _, z, _⟩ := z
        exact hG2 H' z
      · rintro i y σ H3 H3' hi ⟨v4, v5, pl, q', tot, rfl, s3, eL, W⟩ ⟨T, vx, vy, rfl, nT, rfl, hvx, hvy⟩
        obtain ⟨x, hx, rfl⟩ := int_at hvy
        clear hvy
        obtain rfl : V.int (i : Nat) = vx := Option.some.inj hvx
        have sT := same_upd (o := .tup [V.int (i : Nat), V.int x]) nT
        have eL1 := sT _ _ eL
        refine ⟨T, _, rfl, sqT upd_same, rfl, _, _, rfl, _, _, rfl, rfl, ?_⟩
        refine ⟨_, rfl, _, rfl, _, _, rfl, rfl, ?_⟩
        have lenP : ((toZ (pl ++ [q'])).map V.int).length = pl.length + 1 := by rw [List.length_map, toZ_len, List.length_append]; rfl
        have sT2 : Same H (L2.upd H3 T (.tup [V.int (i : Nat), V.int x])) := s3.trans sT
        refine ⟨_, rfl, _, rfl, _, _, rfl, rfl, _, rfl, ite2 (fun c1 => ?_) (fun c1 => ?_)⟩
        · have c1 : m ≤ tot + x := of_decide_eq_true c1
          refine ⟨_, rfl, L, _, rfl, .inl (sqL eL1), _, rfl, _, _, rfl, rfl, _, rfl, ite2 (fun c2 => ?_) (fun c2 => ?_)⟩
          · have c2 : (((((toZ (pl ++ [q'])).map V.int).length : Nat) : Int)) ≤ (s : Nat) := of_decide_eq_true c2
            rw [lenP] at c2
            refine ⟨_, rfl, .inl ⟨rfl, _, .inl (.inl eL1)⟩, _, rfl, L, _, _, rfl, rfl, eL1, ?_, ?_⟩
            · rw [lenP]
              exact z_lt (by omega)
            · refine ⟨_, rfl, _, _, pl ++ [q'], i, x, rfl, fun b o e => ?_, ?_, W.put hall hx c1 (by omega)⟩
              · rw [upd_ne (ne_of_none e nLH)]
                exact sT2 _ _ e
              · rw [upd_same, toZ_app (pl ++ [q']), List.map_append]
                rfl
          · have c2 : ¬ (((((toZ (pl ++ [q'])).map V.int).length : Nat) : Int)) ≤ (s : Nat) := fun z => c2 (decide_eq_true z)
            rw [lenP] at c2
            exact ⟨_, _, pl, q', tot + x, rfl, sT2, eL1, W.go hx fun _ => by omega⟩
        · have c1 : ¬ m ≤ tot + x := fun z => c1 (decide_eq_true z)
          exact ⟨_, _, pl, q', tot + x, rfl, sT2, eL1, W.go hx fun z => absurd z c1⟩
      · rintro σ H3 ⟨v4, v5, pl, q', tot, rfl, s3, eL, W⟩
        refine ⟨_, rfl, L, _, rfl, .inl ⟨sqL eL, fun p np => ?_⟩⟩
        refine ky s rfl hs1 hs _ p m hm (s3.trans (same_upd np)) (s3.free np) ?_
        have ed : due cs s m = 0 :: gre cs m s 0 := due_many (List.findIdx?_eq_none_iff.mpr fun x hx => decide_eq_false (by have := hall x hx; omega))
        rw [upd_same, ed, W.done]
end
end K10

set_option Elab.async false
set_option linter.all false
set_option maxRecDepth 100000
set_option maxHeartbeats 4000000
/-! K10Refd: _law_refused. -/
namespace K10
open PySem PySem.Spec PyProof.Rows L2
theorem Shown.same {K : PySem.W.Frag} {H H' : Hp} {v : V} {t : Str} (h : Shown K H v t) (s : Same H H') : Shown K H' v t := by
  cases h with
  | int h => exact .int h
  | bl b => exact .bl b
  | non => exact .non
  | str h => exact .str h
  | tup ht h hz => exact .tup (same_tup s ht) h hz
/-- what the text says of the error behind its handler -/
structure ErrTxt (K : PySem.W.Frag) (mg : Str → Option Value) (CI CS : Addr) : Prop where
  xf : XfC K CI
  te : PySem.W.exmOne K (.ref CI) (.ref CI) = some true
  up : PySem.W.isIn K (.ref CI) CS = true
  mgS : mg "StageError" = some (.ref CS)
section
variable {P : Program} {w : World} {K : PySem.W.Frag} {mg : Str → Option Value} {base : Heap}
abbrev nRd : List Str := ["_law_costs_here", "_law_value", "e"]
theorem scRd : FnScope nRd ["_law_costs_here", "_law_value"] (defScope sRefd) := ⟨rfl, rfl, rfl, by decide +kernel, rfl, by decide +kernel, by decide +kernel⟩
def spRefd (K : PySem.W.Frag) : Sp := fun vs H Q _ => ∃ (c : Addr) (cs : List Int) (v : V), vs = [.ref c, v] ∧ Seq K H c cs ∧ 1 ≤ cs.length ∧ cs.length ≤ 8 ∧ Refuse K H cs.length v ∧ ∀ H', Q (.bl true) H'
theorem ok_refd {f CI CS fN g : Addr} {fd fdN gd : FuncData} (F : Fun K "_law_refused" "_law_refused" sRefd f fd) (B : Blt mg) (N : NumTxt K mg CI fN fdN) (X' : ErrTxt K mg CI CS)
    (G : FnOk P w K mg base (L2.CX P w) 19 g gd ["costs", "stages"] (spPaper K CI)) (mG : mg "cut_paper" = some (.ref g)) (kG : PySem.W.keepIn K (.ref g) = true) (bG : Binds K gd ["costs", "stages"] []) :
    FnG P w K mg base CX0 20 f fd ["_law_costs_here", "_law_value"] (spRefd K) := by
  refine fnG_at F scRd (fun vs H Q E h => ?_) (fun cdv A outer s0 H vs Q E hgu hr h => ?_)
  · obtain ⟨_, _, _, rfl, _⟩ := h
    rfl
  · obtain ⟨c, cs, v, rfl, hc, h1, h8, hR, k⟩ := h
    have rp : ∀ (a : Addr) (oe : Obj) (pn : List (Addr × Obj)), CallR ((cxOf CX0 P w K mg base nRd "_law_refused" (defScope sRefd) f cdv A outer s0 H E).suite a ((a, oe) :: pn)) (.builtin "repr") (rRepr K) := fun a oe pn =>
      cr_repr hgu (by have := hr.units; exact Nat.lt_of_le_of_lt (Nat.add_le_add_left (by decide : 2 ≤ 64) _) this)
    refine ⟨_, pss_cons (ps_try_as (i := 2) (tb := fun W => tDrop (tCallS (spPaper K CI) (WE W) (tCons (tVar 0) (tCons (tVar 1) tNil)))) (Wout := fun _ _ _ _ => False) rfl rfl scRd.nd rfl rfl ⟨rfl, by decide, .inl N.mgC⟩ takes0
        (fun W pn xe tk _ => pss_one (ps_expr (pe_callS G hr rfl mG kG bG (fun σ => passAt tk σ) (pa_cons (pv 0) (pa_cons (pv 1) pa_nil)))))
        (fun a oe cls d pn hz hf => pss_one (ps_ret (pe_and (pe_cmpR op_eq (pe_callB (rp a oe pn) (by rfl) B.repr (by decide +kernel) (pa_cons (pe_xf X'.xf N.nN hz hf (pv 2)) pa_nil))
          (pe_callB (rp a oe pn) (by rfl) B.repr (by decide +kernel) (pa_cons (pv 1) pa_nil)) (nomark _))
          (pe_one (pe_callB (call_isUp hz hf X'.up) (by rfl) B.isinstance (by decide +kernel) (pa_cons (pv 2) (pa_cons (pe_glob (v := .ref CS) rfl X'.mgS rfl) pa_nil))))))))
      (pss_one (ps_ret pe_bl)), ?_⟩
    obtain ⟨kd, out, tx, sh⟩ := hR
    refine ⟨_, rfl, _, rfl, c, cs, v, rfl, hc, kd, h1, h8, fun s hvs hs1 hs H1 p r _ _ _ _ => ?_, fun _ d H1 s1 nd ed => ?_⟩
    · subst hvs
      have e : betw (.int (s : Nat)) 1 (cs.length : Nat) = true := by
        show (decide (1 ≤ ((s : Nat) : Int)) && decide (((s : Nat) : Int) ≤ ((cs.length : Nat) : Int))) = true
        rw [decide_eq_true (by omega), decide_eq_true (by omega)]
        rfl
      rw [e] at out
      cases out
    · refine ⟨true, X'.te, fun _ a na => ?_, fun q => Bool.noConfusion q⟩
      have lk : (numD v).lookup ("number" : Str) = some v := by
        unfold numD
        rw [lookup_put, if_pos rfl]
      refine ⟨_, rfl, rfl, rfl, d, numD v, v, rfl, ed, lk, v, tx, rfl, sh.same s1, _, rfl, v, tx, rfl, sh.same s1, rfl, ?_⟩
      refine ⟨true, ?_, ?_⟩
      · show V.bl (decide (V.str tx = V.str tx)) = V.bl true
        rw [decide_eq_true rfl]
      · refine iteT ?_
        exact ⟨_, rfl, rfl, rfl, ⟨d, numD v, rfl, ed⟩, k _⟩
end
end K10

set_option Elab.async false
set_option linter.all false
set_option maxRecDepth 100000
set_option maxHeartbeats 4000000
/-! K10Law: the law's own def. -/
namespace K10
open PySem PySem.Spec PyProof.Rows L2
/-! ### plain -/
theorem most_pos {cs : List Int} {s : Nat} {m : Int} (hn : NonNeg cs) (h1 : 1 ≤ s) (hm : IsMin cs s m) : 0 ≤ m := by
  obtain ⟨ks, e, _, h⟩ := (hm m).mpr (Int.le_refl _)
  match ks, e with
  | [], e =>
    have : 0 = s := e
    omega
  | q :: r, _ =>
    have a := h (cs.take q).sum List.mem_cons_self
    have b := (hn.take q).sum
    omega
theorem tiny_text : ∀ x, x < 9 → ((toString ((x : Nat) : Int) : String) : Str).length ≤ 1 := by decide +kernel
theorem due_shown {K : PySem.W.Frag} {H : Hp} {p : Addr} {ds : List Nat} (h : ∀ x ∈ ds, x < 9) (hl : ds.length ≤ 9) (e : H p = some (.tup ((toZ ds).map V.int))) : Shown K H (.ref p) (tupleText ((toZ ds).map fun n : Int => (toString n : Str))) := by
  refine .tup (sqT e) (fun n hn => ?_) ?_
  · obtain ⟨x, hx, rfl⟩ := List.mem_map.mp hn
    have := h x hx
    exact log_small (Nat.lt_of_lt_of_le (show ((x : Nat) : Int).natAbs < 9 by omega) (by decide))
  · have q := tupleText_len_le ((toZ ds).map fun n : Int => (toString n : Str))
    refine Nat.le_trans q (z_le ?_)
    have e1 : ((toZ ds).map fun n : Int => (toString n : Str)).length = ds.length := by rw [List.length_map, toZ_len]
    have e2 : ∀ l : List Nat, (∀ x ∈ l, x < 9) → ((((toZ l).map fun n : Int => (toString n : Str))).map (·.length)).sum ≤ l.length := by
      intro l
      induction l with
      | nil => intro _; exact Nat.le_refl _
      | cons x l ih =>
        intro hx
        have a := tiny_text x (hx x List.mem_cons_self)
        have b := ih fun y hy => hx y (List.mem_cons_of_mem _ hy)
        have e : ((((toZ (x :: l)).map fun n : Int => (toString n : Str))).map (·.length)).sum = ((toString ((x : Nat) : Int) : String) : Str).length + ((((toZ l).map fun n : Int => (toString n : Str))).map (·.length)).sum := List.sum_cons
        rw [e, List.length_cons]
        omega
    have e3 := e2 ds h
    rw [e1]
    omega
/-- what is asked of judge_cut: a number and a row of places -/
structure Ask where
  q : Addr
  num : Int
  p : Addr
  pp : List Int
structure AskOk (K : PySem.W.Frag) (h : Addr) (H : Hp) (x : Ask) : Prop where
  ne : x.q ≠ h
  pne : x.p ≠ h
  at_ : H x.q = some (.lst [.int x.num, .ref x.p])
  few : x.pp.length ≤ 1000
  seq : Seq K H x.p x.pp
theorem Seq.keep {K : PySem.W.Frag} {h a : Addr} {H H' : Hp} {ns : List Int} (k : Keep h H H') (n : a ≠ h) (q : Seq K H a ns) : Seq K H' a ns := by
  rcases q with q | q
  · exact .inl (k.seq n q)
  · rcases q with (q | ⟨o, q⟩) | q
    · exact .inr (.inl (.inl (k _ _ n q)))
    · exact .inr (.inl (.inr ⟨o, k _ _ n q⟩))
    · exact .inr (.inr q)
theorem AskOk.keep {K : PySem.W.Frag} {h : Addr} {H H' : Hp} {x : Ask} (a : AskOk K h H x) (k : Keep h H H') : AskOk K h H' x :=
  ⟨a.ne, a.pne, k _ _ a.ne a.at_, a.few, a.seq.keep k a.pne⟩
/-- the list of what is asked grows -/
theorem AskOk.put {K : PySem.W.Frag} {h L r : Addr} {H : Hp} {x : Ask} {rs ys : List V} (e : H L = some (.lst (.ref r :: rs))) (a : AskOk K h H x) : AskOk K h (L2.upd H L (.lst ys)) x := by
  obtain ⟨n1, n2, h1, h2, h3⟩ := a
  have ne1 : x.q ≠ L := fun z => by
    rw [z, e] at h1
    cases h1
  have at1 : ∀ {b : Addr} {o : HO}, H b = some o → o ≠ .lst (.ref r :: rs) → (L2.upd H L (.lst ys)) b = some o := fun {b o} eb no => by
    have nb : b ≠ L := fun z => by
      rw [z, e] at eb
      exact no (Option.some.inj eb).symm
    rw [upd_ne nb]
    exact eb
  have noL : HO.lst (x.pp.map V.int) ≠ .lst (.ref r :: rs) := fun z => by
    injection z with z
    cases hp : x.pp with
    | nil =>
      rw [hp] at z
      cases z
    | cons y l =>
      rw [hp, List.map_cons] at z
      injection z with z _
      cases z
  refine ⟨n1, n2, at1 h1 (fun z => by cases z), h2, ?_⟩
  rcases h3 with q | q
  · rcases q with (q | ⟨o, q⟩) | q
    · exact .inl (.inl (.inl (at1 q noL)))
    · exact .inl (.inl (.inr ⟨o, at1 q (fun z => by cases z)⟩))
    · exact .inl (.inr q)
  · rcases q with (q | ⟨o, q⟩) | q
    · exact .inr (.inl (.inl (at1 q (fun z => by cases z))))
    · exact .inr (.inl (.inr ⟨o, at1 q (fun z => by cases z)⟩))
    · exact .inr (.inr q)
section
variable {P : Program} {w : World} {K : PySem.W.Frag} {mg : Str → Option Value} {base : Heap}
abbrev nLaw : List Str := ["_law_script", "_law_hand", "_law_costs_here", "_law_stages", "_law_most", "_law_due_here", "_law_asked", "_law_k", "_law_number", "_law_paper", "_law_found", "_law_cut"]
theorem scLaw : FnScope nLaw ["_law_script"] (defScope sLaw) := ⟨rfl, rfl, rfl, by decide +kernel, rfl, by decide +kernel, by decide +kernel⟩
def spLaw (K : PySem.W.Frag) : Sp := fun vs H Q _ => ∃ (a : Addr) (ns : List Int), vs = [.ref a] ∧ SqL K H a (ns.map V.int) ∧ ns.length ≤ 63 ∧ ∀ H', Q (.bl true) H'
/-- all that the law calls -/
structure Callees (P : Program) (w : World) (K : PySem.W.Frag) (mg : Str → Option Value) (base : Heap) (CI fP fJ fR : Addr) (fdP fdJ fdR : FuncData) : Prop where
  B : Blt mg
  cT : Cal P w K mg base 1 "_law_take" ["_law_hand", "_law_many"] spTake
  cD : Cal P w K mg base 1 "_law_draws" ["_law_script", "_law_many"] (spDraws K)
  cC : Cal P w K mg base 1 "_law_cuts" ["_law_n", "_law_stages"] spCuts
  cG : Cal P w K mg base 2 "_law_greatest" ["_law_costs_here", "_law_cut"] (spGreat K)
  cCo : Cal P w K mg base 2 "_law_costs" ["_law_hand", "_law_most"] spCosts
  cDue : Cal P w K mg base 1 "_law_due" ["_law_costs_here", "_law_stages", "_law_most"] (spDue K)
  cTk : Cal P w K mg base 1 "_law_takes" ["_law_costs_here", "_law_stages", "_law_most", "_law_paper"] (spJ K)
  cBe : Cal P w K mg base 2 "_law_bent" ["_law_hand", "_law_paper", "_law_many", "_law_stages"] spBent
  cR : Cal P w K mg base 2 "_law_refusals" ["_law_hand", "_law_costs_here"] (spRefu K)
  GP : FnOk P w K mg base (L2.CX P w) 19 fP fdP ["costs", "stages"] (spPaper K CI)
  mP : mg "cut_paper" = some (.ref fP)
  kP : PySem.W.keepIn K (.ref fP) = true
  bP : KwAll fdP ["costs", "stages"]
  GJ : FnOk P w K mg base CX0 2 fJ fdJ ["costs", "stages", "most", "paper"] (spJ K)
  mJ : mg "judge_cut" = some (.ref fJ)
  kJ : PySem.W.keepIn K (.ref fJ) = true
  bJk : KwAll fdJ ["costs", "stages", "most", "paper"]
  bJ : Binds K fdJ ["costs", "stages", "most", "paper"] []
  GR : FnG P w K mg base CX0 20 fR fdR ["_law_costs_here", "_law_value"] (spRefd K)
  mR : mg "_law_refused" = some (.ref fR)
  kR : PySem.W.keepIn K (.ref fR) = true
  bR : Binds K fdR ["_law_costs_here", "_law_value"] []
theorem ok_law {f CI fP fJ fR : Addr} {fd fdP fdJ fdR : FuncData} (F : Fun K "law" "law" sLaw f fd) (U : Callees P w K mg base CI fP fJ fR fdP fdJ fdR) : FnG P w K mg base CX0 21 f fd ["_law_script"] (spLaw K) := by
  refine fnG_at F scLaw (fun vs H Q E h => ?_) (fun cdv A outer s0 H vs Q E hgu hr h => ?_)
  · obtain ⟨_, _, rfl, _⟩ := h
    rfl
  · obtain ⟨a, ns, rfl, ha, h63, k⟩ := h
    have B := U.B
    have cJ : Cal P w K mg base 2 "judge_cut" ["costs", "stages", "most", "paper"] (spJ K) := ⟨fJ, fdJ, U.GJ, U.mJ, U.kJ, U.bJ⟩
    have rp : CallR (cxOf CX0 P w K mg base nLaw "law" (defScope sLaw) f cdv A outer s0 H E) (.builtin "repr") (rRepr K) :=
      cr_repr hgu (by have := hr.units; exact Nat.lt_of_le_of_lt (Nat.add_le_add_left (by decide : 2 ≤ 64) _) this)
    refine ⟨_, pss_cons (ps_set (i := 1) scLaw.nd rfl (.inl rfl) (pe_lst (pa_cons (pe_k U.cD hr (by decide) (pa_cons (pv 0) (pa_cons pe_int pa_nil))) (pa_cons pe_int pa_nil))))
      (pss_cons (ps_set (i := 2) scLaw.nd rfl (.inr rfl) (pe_k U.cCo hr (by decide) (pa_cons (pv 1) (pa_cons pe_int pa_nil))))
      (pss_cons (ps_for (passes_of rfl) rfl (pi_list (pe_lst (pa_cons (pe_op op_add pe_int (pe_k U.cT hr (by decide) (pa_cons (pv 1) (pa_cons (pe_callB call_len_seq (by rfl) B.len PySem.boot_len (pa_cons (pv 2) pa_nil)) pa_nil))))
          (pa_cons (pe_op op_add pe_int (pe_k U.cT hr (by decide) (pa_cons (pv 1) (pa_cons (pe_callB call_len_seq (by rfl) B.len PySem.boot_len (pa_cons (pv 2) pa_nil)) pa_nil))))
          (pa_cons (pe_callB call_len_seq (by rfl) B.len PySem.boot_len (pa_cons (pv 2) pa_nil)) pa_nil))))) (pg_name (i := 3) scLaw.nd rfl (.inl rfl))
        (pss_cons (ps_set (i := 4) scLaw.nd rfl (.inl rfl) (pe_callB (cr_min rfl) (by rfl) B.min (by decide +kernel) (pa_cons
          (pe_lc (own := [("_law_cut", 11)]) (g := gName 11) (tt := tYes) rfl scLaw.nd (pi_list (pe_k U.cC hr (by decide) (pa_cons (pe_callB call_len_seq (by rfl) B.len PySem.boot_len (pa_cons (pv 2) pa_nil)) (pa_cons (pv 3) pa_nil)))) (blkOk_by (N := nLaw) (sc := defScope sLaw) (by decide +kernel))
            (fun _ _ _ _ _ => pg_name (i := 11) scLaw.nd rfl (.inl rfl)) (fun _ _ _ _ _ => pts_nil) (fun _ _ _ _ _ => pe_k U.cG hr (by decide) (pa_cons (pv 2) (pa_cons (pv 11) pa_nil)))) pa_nil)))
        (pss_cons (ps_set (i := 5) scLaw.nd rfl (.inl rfl) (pe_k U.cDue hr (by decide) (pa_cons (pv 2) (pa_cons (pv 3) (pa_cons (pv 4) pa_nil)))))
        (pss_cons (ps_if (pt_cmpR op_ne (pe_callB rp (by rfl) B.repr (by decide +kernel) (pa_cons (pe_callW U.GP (hr.mono (by decide)) rfl U.mP U.kP U.bP passL
            (pk_cons (pe_ix ix_list (pe_lst (pa_cons (pv 2) (pa_cons (pe_callTy call_tuple_of (by rfl) B.tuple (by decide +kernel) (pa_cons (pv 2) pa_nil)) pa_nil))) (pe_k U.cT hr (by decide) (pa_cons (pv 1) (pa_cons pe_int pa_nil))) (fun _ _ => rfl)) (pk_cons (pv 3) pk_nil))) pa_nil))
            (pe_callB rp (by rfl) B.repr (by decide +kernel) (pa_cons (pv 5) pa_nil)) (nomark _)) (pss_one (ps_ret pe_bl)) pss_nil)
        (pss_cons (ps_if (pt_cmpR op_isnot_bl (pe_callW U.GJ (hr.mono (by decide)) rfl U.mJ U.kJ U.bJk pass0 (pk_cons (pv 2) (pk_cons (pv 3) (pk_cons (pv 4) (pk_cons (pv 5) pk_nil))))) pe_bl (nomark _)) (pss_one (ps_ret pe_bl)) pss_nil)
        (pss_cons (ps_set (i := 6) scLaw.nd rfl (.inl rfl) (pe_lst (pa_cons (pe_lst (pa_cons (pv 4) (pa_cons (pe_callTy call_list_of (by rfl) B.list (by decide +kernel) (pa_cons (pv 5) pa_nil)) pa_nil))) (pa_cons (pe_lst (pa_cons (pe_op op_add (pv 4) pe_int) (pa_cons (pv 5) pa_nil))) pa_nil))))
        (pss_cons (ps_for (passes_of rfl) rfl (pi_range1 rfl B.range (pa_cons pe_int pa_nil)) (pg_name (i := 7) scLaw.nd rfl (.inl rfl))
          (pss_cons (ps_set (i := 8) scLaw.nd rfl (.inl rfl) (pe_callB (call_max2 rfl) (by rfl) B.max (by decide +kernel) (pa_cons pe_int (pa_cons (pe_op op_add (pv 4) (pe_ix ix_list (pe_lst (pa_cons pe_int (pa_cons pe_int (pa_cons (pe_un un_neg pe_int) (pa_cons pe_int (pa_cons (pe_un un_neg pe_int)
            (pa_cons (pe_un un_neg (pe_k U.cT hr (by decide) (pa_cons (pv 1) (pa_cons (pe_op op_add (pv 4) pe_int) pa_nil)))) pa_nil))))))) (pe_k U.cT hr (by decide) (pa_cons (pv 1) (pa_cons pe_int pa_nil))) (fun _ _ => rfl))) pa_nil))))
          (pss_one (ps_expr (pe_bm PySem.F.plainAttrs_list PySem.F.slot_list_append PySem.F.type_list_append mt_append (pv 6) (pa_cons (pe_lst (pa_cons (pv 8) (pa_cons (pe_k U.cBe hr (by decide) (pa_cons (pv 1) (pa_cons (pv 5) (pa_cons (pe_callB call_len_seq (by rfl) B.len PySem.boot_len (pa_cons (pv 2) pa_nil)) (pa_cons (pv 3) pa_nil))))) pa_nil))) pa_nil))))))
        (pss_one (ps_for (passes_of rfl) rfl (pi_list (pv 6)) (pg_lst rfl (pgs_cons (pg_name (i := 8) scLaw.nd rfl (.inl rfl)) (pgs_cons (pg_name (i := 9) scLaw.nd rfl (.inl rfl)) pgs_nil)))
          (pss_cons (ps_set (i := 10) scLaw.nd rfl (.inl rfl) (pe_k cJ hr (by decide) (pa_cons (pv 2) (pa_cons (pv 3) (pa_cons (pv 8) (pa_cons (pv 9) pa_nil))))))
          (pss_cons (ps_if (PW.pt (pw_or (pt_not (pt_val (pe_callB call_isi (by rfl) B.isinstance (by decide +kernel) (pa_cons (pv 10) (pa_cons (pe_bltn (v := .ty "bool") (by rfl) B.bool (by decide +kernel) rfl) pa_nil)))))
              (pw_or1 (pt_cmpR op_ne (pv 10) (pe_k U.cTk hr (by decide) (pa_cons (pv 2) (pa_cons (pv 3) (pa_cons (pv 8) (pa_cons (pv 9) pa_nil))))) (nomark _))))) (pss_one (ps_ret pe_bl)) pss_nil)
          (pss_one (ps_if (PW.pt (pw_and (pt_val (pv 10)) (pw_and1 (pt_cmpR op_gt (pv 8) (pv 4) (nomark _))))) (pss_one (ps_ret pe_bl)) pss_nil)))))))))))))
      (pss_one (ps_ret (pe_callG U.GR hgu hr rfl U.mR U.kR U.bR pass0 (pa_cons (pv 2) (pa_cons (pe_k U.cR hr (by decide) (pa_cons (pv 1) (pa_cons (pv 2) pa_nil))) pa_nil))))))), ?_⟩
    refine ⟨_, rfl, a, ns, rfl, ha, h63, fun H1 dr ds s1 ndr edr => ⟨len2 _ _, fun h nh => ?_⟩⟩
    have ndrh : dr ≠ h := ne_of_none edr nh
    have hH0 : HandAt (L2.upd H1 h (.lst [.ref dr, .int 0])) h dr := ⟨0, ds, upd_same, Int.le_refl _, by rw [upd_ne ndrh]; exact edr⟩
    refine ⟨_, rfl, h, dr, rfl, hH0, fun H3 c cs _ hH3 nch _ ec ok => ?_⟩
    obtain ⟨c1, c8, cpos⟩ := ok
    have lenV : (cs.map V.int).length = cs.length := List.length_map _
    have lenZ : (((cs.map V.int).length : Nat) : Int) = ((cs.length : Nat) : Int) := by rw [lenV]
    refine ⟨_, rfl, _, rfl, c, _, rfl, .inl (sqL ec), h, dr, _, rfl, by rw [lenV]; omega, hH3, fun r1 H4 r10 r11 k4 hH4 => ⟨_, _, rfl, rfl, ?_⟩⟩
    have ec4 := k4 _ _ nch ec
    refine ⟨_, rfl, _, rfl, c, _, rfl, .inl (sqL ec4), h, dr, _, rfl, by rw [lenV]; omega, hH4, fun r2 H5 r20 r21 k5 hH5 => ⟨_, _, rfl, rfl, ?_⟩⟩
    have ec5 := k5 _ _ nch ec4
    refine ⟨_, rfl, c, _, rfl, .inl (sqL ec5), z_le (by show 3 ≤ 10000; decide), fun Dd nD => ?_⟩
    rw [lenV] at *
    have sD := same_upd (o := .lst [V.int (1 + r1), V.int (1 + r2), V.int ((cs.length : Nat) : Int)]) nD
    obtain ⟨nDh, nDd⟩ := hH5.fresh nD
    have ecB := sD _ _ ec5
    have hHB := hH5.same sD
    refine ⟨Dd, rfl, ⟨_, sqL upd_same⟩, for_list (K := K) (a := Dd) (xs := [V.int (1 + r1), V.int (1 + r2), V.int ((cs.length : Nat) : Int)]) (fun _ σ H' => ∃ v3 v4 v5 v6 v7 v8 v9 v10 : Option V, σ = [some (.ref a), some (.ref h), some (.ref c), v3, v4, v5, v6, v7, v8, v9, v10, none] ∧ Keep h (L2.upd H5 Dd (.lst [V.int (1 + r1), V.int (1 + r2), V.int ((cs.length : Nat) : Int)])) H' ∧ HandAt H' h dr) ?_ ?_ ?_ ?_⟩
    · exact ⟨_, _, _, _, _, _, _, _, rfl, .refl _ _, hHB⟩
    · rintro i σ H' _ ⟨_, _, _, _, _, _, _, _, rfl, kb, _⟩
      exact sqL (kb _ _ nDh upd_same)
    · rintro i y σ H6 hy ⟨v3, v4, v5, v6, v7, v8, v9, v10, rfl, kb, hH6⟩
      obtain ⟨s, rfl, hs1, hs⟩ : ∃ s : Nat, y = .int (s : Nat) ∧ 1 ≤ s ∧ s ≤ cs.length := by
        have hm := List.mem_of_getElem? hy
        rcases List.mem_cons.mp hm with e | hm
        · exact ⟨(1 + r1).toNat, by rw [e, Int.toNat_of_nonneg (by omega)], by omega, by omega⟩
        · rcases List.mem_cons.mp hm with e | hm
          · exact ⟨(1 + r2).toNat, by rw [e, Int.toNat_of_nonneg (by omega)], by omega, by omega⟩
          · exact ⟨cs.length, List.mem_singleton.mp hm, c1, Nat.le_refl _⟩
      clear hy
      have ec6 := kb _ _ nch ecB
      have lenV2 : (cs.map V.int).length = cs.length := List.length_map _
      -- most
      refine ⟨_, rfl, c, _, rfl, .inl (sqL ec6), _, rfl, (cs.map V.int).length, s, rfl, hs1, by rw [lenV2]; exact hs, by rw [lenV2]; exact c8, fun H7 pc s7 npc cA => ?_⟩
      rw [lenV2] at cA
      obtain ⟨as, eA, emap, etup⟩ := cA
      have lenA : as.length = (cutsM cs.length s s).length := by rw [← emap, List.length_map]
      have few := cuts_few cs.length (by omega) s (by omega) s (by omega)
      have ec7 := s7 _ _ ec6
      refine ⟨pc, rfl, ⟨_, sqL eA⟩, fun E0' nE => ?_⟩
      refine lc_list (K := K) (a := pc) (xs := as.map fun x => V.ref x.1) (fun j H' => Same H7 H' ∧ ∃ vals : List Int, H' E0' = some (.lst (vals.map V.int)) ∧ vals.length = j ∧ ∀ (i : Nat) (v : Int) (ks : List Nat), vals[i]? = some v → (cutsM cs.length s s)[i]? = some ks → ∀ B, v ≤ B ↔ ∀ y ∈ pSums cs ks, y ≤ B) ?_ ?_ ?_ ?_
      · exact ⟨same_upd nE, [], upd_same, rfl, fun i v ks hv => by cases hv⟩
      · rintro j H' _ ⟨s8, _⟩
        exact sqL (s8 _ _ eA)
      · rintro j x H8 hx ⟨s8, vals, eE, hl, hg⟩
        have hj := (List.getElem?_eq_some_iff.mp hx).1
        rw [List.length_map] at hj
        obtain ⟨tt, ks, hat⟩ : ∃ tt ks, as[j]? = some (tt, ks) := ⟨as[j].1, as[j].2, List.getElem?_eq_getElem hj⟩
        rw [List.getElem?_map, hat] at hx
        obtain rfl : V.ref tt = x := Option.some.inj hx
        have hkj : (cutsM cs.length s s)[j]? = some ks := by
          rw [← emap, List.getElem?_map, hat]
          rfl
        obtain ⟨lk, ck⟩ := (cuts_mem hs1 hs).mp (List.mem_of_getElem? hkj)
        refine ⟨rfl, yes_then ?_⟩
        refine ⟨_, rfl, _, rfl, c, tt, cs, ks, rfl, sqL (s8 _ _ ec7), s8 _ _ (etup _ (List.mem_of_getElem? hat)), c8, by omega, ck, fun H9 mm s9 hmm => ?_⟩
        refine ⟨_, s9 _ _ eE, ?_, fun b o e => ?_, vals ++ [mm], by rw [upd_same, map_snoc], by rw [List.length_append, hl]; rfl, fun i' v' ks' hv' hk' => ?_⟩
        · rw [List.length_map]
          exact z_lt (by omega)
        · rw [upd_ne (ne_of_none e nE)]
          exact s9 _ _ (s8 _ _ e)
        · rcases Nat.lt_or_ge i' vals.length with z | z
          · rw [List.getElem?_append_left z] at hv'
            exact hg i' v' ks' hv' hk'
          · have hi' : i' < (vals ++ [mm]).length := (List.getElem?_eq_some_iff.mp hv').1
            rw [List.length_append, List.length_singleton] at hi'
            have e : i' = vals.length := by omega
            rw [e, List.getElem?_append_right (Nat.le_refl _), Nat.sub_self] at hv'
            rw [e, hl, hkj] at hk'
            have e1 : mm = v' := Option.some.inj hv'
            have e2 : ks = ks' := Option.some.inj hk'
            rw [← e1, ← e2]
            exact hmm
      rintro H8 ⟨s8, vals, eE, hl, hg⟩
      rw [List.length_map] at hl
      refine ⟨E0', vals, rfl, sqL eE, by rw [hl, lenA]; exact cuts_some hs1 hs, fun m hm1 hm2 => ?_⟩
      have hm : IsMin cs s m := min_of hs1 hs (hl.trans lenA) hg hm1 hm2
      have m0 : 0 ≤ m := most_pos cpos hs1 hm
      have s68 : Same H6 H8 := s7.trans s8
      have ec8 := s68 _ _ ec6
      have hH8 := hH6.same s68
      -- due
      refine ⟨_, rfl, _, rfl, _, rfl, c, cs, s, m, rfl, sqL ec8, c1, c8, by omega, fun H9 p s9 np ep => ?_⟩
      have ec9 := s9 _ _ ec8
      have hH9 := hH8.same s9
      have k69 : Keep h H6 H9 := Keep.same (s68.trans s9)
      have dlt : ∀ x ∈ due cs s m, x < 9 := fun x hx => by
        have := due_lt (by omega) x hx
        omega
      obtain ⟨dl1, dl2⟩ := due_len (c := cs) (s := s) (most := m)
      have dlZ : (toZ (due cs s m)).length = (due cs s m).length := toZ_len _
      have nph : p ≠ h := hH9.neT ep
      -- cut_paper
      refine ⟨_, rfl, _, rfl, c, _, rfl, .inl ⟨sqL ec9, fun tc ntc => ⟨len2 _ _, fun q nq => ?_⟩⟩⟩
      have st := same_upd (o := .tup (cs.map V.int)) ntc
      have sq := same_upd (o := .lst [.ref c, .ref tc]) nq
      refine ⟨_, rfl, h, dr, 2, rfl, by decide, (hH9.same st).same sq, fun z H10 z0 z1 k10 hH10 => ?_⟩
      have nqh : q ≠ h := ((hH9.same st).fresh nq).1
      have ntch : tc ≠ h := (hH9.fresh ntc).1
      have pick : ∃ x, atI [V.ref c, V.ref tc] z = some (.ref x) ∧ Seq K H10 x cs := by
        rcases (show z = 0 ∨ z = 1 by omega) with e | e <;> rw [e]
        · exact ⟨c, rfl, .inl (sqL (k10 _ _ nch (sq _ _ (st _ _ ec9))))⟩
        · exact ⟨tc, rfl, .inr (sqT (k10 _ _ ntch (sq _ _ upd_same)))⟩
      obtain ⟨x, hx, hxs⟩ := pick
      have k910 : Keep h H9 H10 := (Keep.same (st.trans sq)).trans k10
      have ebT : betw (.int (s : Nat)) 1 (cs.length : Nat) = true := by
        show (decide (1 ≤ ((s : Nat) : Int)) && decide (((s : Nat) : Int) ≤ ((cs.length : Nat) : Int))) = true
        rw [decide_eq_true (by omega), decide_eq_true (by omega)]
        rfl
      refine ⟨q, _, z, _, rfl, rfl, sqL (k10 _ _ nqh upd_same), hx, _, rfl, rfl, x, cs, .int (s : Nat), rfl, hxs, .int _, c1, c8, fun s' es hs1' hs' H11 p2 m2 hm2' s11 np2 ep2 => ?_, fun eb => by rw [ebT] at eb; cases eb⟩
      obtain rfl : s = s' := by
        have := V.int.inj es
        omega
      obtain rfl : m = m2 := hm.uniq hm2'
      have k911 : Keep h H9 H11 := k910.trans (Keep.same s11)
      have ep11 := k911 _ _ nph ep
      have ec11 := k911 _ _ nch ec9
      have hH11 := hH10.same s11
      refine ⟨_, _, rfl, due_shown dlt (by omega) ep2, _, rfl, _, _, rfl, due_shown dlt (by omega) ep11, rfl, _, rfl, ite2 (fun c' => ?_) (fun _ => ?_)⟩
      · rw [decide_eq_true rfl] at c'
        cases c'
      -- judge_cut takes it
      refine ⟨_, rfl, _, rfl, _, rfl, _, rfl, rfl, c, p, cs, toZ (due cs s m), s, m, rfl, sqL ec11, .inr (sqT ep11), c1, c8, by omega, hs1, by omega, fun H12 s12 => ?_⟩
      have tk : takes cs s m (toZ (due cs s m)) = true := due_takes cpos hs1 hs hm
      refine ⟨_, _, rfl, rfl, _, rfl, ite2 (fun c' => ?_) (fun _ => ?_)⟩
      · rw [tk, decide_eq_true rfl] at c'
        cases c'
      have k912 : Keep h H9 H12 := k911.trans (Keep.same s12)
      have ep12 := s12 _ _ ep11
      have ec12 := s12 _ _ ec11
      have hH12 := hH11.same s12
      -- what is asked
      refine ⟨_, rfl, _, rfl, p, _, rfl, .inr (sqT ep12), fun l nl => ⟨len2 _ _, fun q1 nq1 => ?_⟩⟩
      have sl := same_upd (o := .lst ((toZ (due cs s m)).map V.int)) nl
      have sq1 := same_upd (o := .lst [V.int m, .ref l]) nq1
      refine ⟨_, rfl, _, _, rfl, rfl, _, rfl, len2 _ _, fun q2 nq2 => ⟨len2 _ _, fun L nL => ?_⟩⟩
      have sq2 := same_upd (o := .lst [V.int (m + 1), .ref p]) nq2
      have sL := same_upd (o := .lst [.ref q1, .ref q2]) nL
      have nlh : l ≠ h := (hH12.fresh nl).1
      have nq1h : q1 ≠ h := ((hH12.same sl).fresh nq1).1
      have nq2h : q2 ≠ h := (((hH12.same sl).same sq1).fresh nq2).1
      have nLh : L ≠ h := ((((hH12.same sl).same sq1).same sq2).fresh nL).1
      have nLd : L ≠ dr := ((((hH12.same sl).same sq1).same sq2).fresh nL).2
      have s1216 := ((sl.trans sq1).trans sq2).trans sL
      have nL12 : H12 L = none := ((sl.trans sq1).trans sq2).free nL
      have hH16 := hH12.same s1216
      have A1 : AskOk K h (L2.upd (L2.upd (L2.upd (L2.upd H12 l (.lst ((toZ (due cs s m)).map V.int))) q1 (.lst [V.int m, .ref l])) q2 (.lst [V.int (m + 1), .ref p])) L (.lst [.ref q1, .ref q2])) ⟨q1, m, l, toZ (due cs s m)⟩ :=
        ⟨nq1h, nlh, sL _ _ (sq2 _ _ upd_same), by show (toZ (due cs s m)).length ≤ 1000; omega, .inl (sqL (sL _ _ (sq2 _ _ (sq1 _ _ upd_same))))⟩
      have A2 : AskOk K h (L2.upd (L2.upd (L2.upd (L2.upd H12 l (.lst ((toZ (due cs s m)).map V.int))) q1 (.lst [V.int m, .ref l])) q2 (.lst [V.int (m + 1), .ref p])) L (.lst [.ref q1, .ref q2])) ⟨q2, m + 1, p, toZ (due cs s m)⟩ :=
        ⟨nq2h, nph, sL _ _ upd_same, by show (toZ (due cs s m)).length ≤ 1000; omega, .inr (sqT (s1216 _ _ ep12))⟩
      refine ⟨5, rfl, by decide, by decide, for_range (lo := 0) (n := 5) (fun i σ H' => ∃ v7 v8 v9 v10 : Option V, σ = [some (.ref a), some (.ref h), some (.ref c), some (.int (s : Nat)), some (.int m), some (.ref p), some (.ref L), v7, v8, v9, v10, none] ∧ Keep h H12 H' ∧ HandAt H' h dr ∧
        ∃ (r : Addr) (rs : List V) (as : List Ask), H' L = some (.lst (.ref r :: rs)) ∧ V.ref r :: rs = as.map (fun x => V.ref x.q) ∧ as.length = i + 2 ∧ ∀ x ∈ as, AskOk K h H' x) ?_ ?_ ?_⟩
      · refine ⟨v7, v8, v9, v10, rfl, Keep.same s1216, hH16, q1, [.ref q2], [⟨q1, m, l, toZ (due cs s m)⟩, ⟨q2, m + 1, p, toZ (due cs s m)⟩], upd_same, rfl, rfl, fun x hx => ?_⟩
        rcases List.mem_cons.mp hx with e | hx
        · rw [e]; exact A1
        · rw [List.mem_singleton.mp hx]; exact A2
      · rintro j σ H17 hj ⟨v7, v8, v9, v10, rfl, k17, hH17, r, rs, aks, eL, er, hal, hak⟩
        have ec17 := k17 _ _ nch ec12
        have ep17 := k17 _ _ nph ep12
        refine ⟨_, rfl, _, rfl, _, rfl, _, rfl, _, rfl, _, _, rfl, rfl, h, dr, m + 1, rfl, by omega, hH17, fun r3 H18 r30 r31 k18 hH18 => ?_⟩
        refine ⟨_, rfl, z_le (by show 6 ≤ 10000; decide), fun q3 nq3 => ?_⟩
        have sq3 := same_upd (o := .lst [V.int 0, V.int 0, V.int (-1), V.int 1, V.int (-3), V.int (-r3)]) nq3
        refine ⟨_, rfl, h, dr, 6, rfl, by decide, hH18.same sq3, fun z3 H19 z30 z31 k19 hH19 => ?_⟩
        have pick3 : ∃ x, atI [V.int 0, V.int 0, V.int (-1), V.int 1, V.int (-3), V.int (-r3)] z3 = some (.int x) := by
          rcases (show z3 = 0 ∨ z3 = 1 ∨ z3 = 2 ∨ z3 = 3 ∨ z3 = 4 ∨ z3 = 5 by omega) with e | e | e | e | e | e <;> rw [e]
          · exact ⟨_, rfl⟩
          · exact ⟨_, rfl⟩
          · exact ⟨_, rfl⟩
          · exact ⟨_, rfl⟩
          · exact ⟨_, rfl⟩
          · exact ⟨_, rfl⟩
        obtain ⟨x3, hx3⟩ := pick3
        have nq3h : q3 ≠ h := (hH18.fresh nq3).1
        refine ⟨q3, _, z3, _, rfl, rfl, sqL (k19 _ _ nq3h upd_same), hx3, _, _, rfl, rfl, _, _, rfl, ?_⟩
        have k1719 : Keep h H17 H19 := k18.trans ((Keep.same sq3).trans k19)
        have eL19 := k1719 _ _ nLh eL
        have ec19 := k1719 _ _ nch ec17
        refine ⟨_, rfl, .inl ⟨rfl, _, .inl (.inl eL19)⟩, _, rfl, _, rfl, _, rfl, _, rfl, c, _, rfl, .inl (sqL ec19), _, rfl, ?_⟩
        refine ⟨h, dr, p, toZ (due cs s m), (cs.map V.int).length, s, rfl, hH19, k1719 _ _ nph ep17, by omega, by omega, by rw [lenV2]; exact c1, by omega, fun H20 pb pp k20 hH20 npb epb hlb => ⟨len2 _ _, fun q4 nq4 => ?_⟩⟩
        have eL20 := k20 _ _ nLh eL19
        have nq4h : q4 ≠ h := (hH20.fresh nq4).1
        have sq4 := same_upd (o := .lst [V.int (if m + x3 > 0 then m + x3 else 0), V.ref pb]) nq4
        have eL21 := sq4 _ _ eL20
        refine ⟨L, _, _, rfl, rfl, eL21, ?_, ?_⟩
        · rw [er, List.length_map, hal]
          exact z_lt (by omega)
        · have k1721 : Keep h H17 (L2.upd H20 q4 (.lst [V.int (if m + x3 > 0 then m + x3 else 0), V.ref pb])) := k1719.trans (k20.trans (Keep.same sq4))
          have A3 : AskOk K h (L2.upd H20 q4 (.lst [V.int (if m + x3 > 0 then m + x3 else 0), V.ref pb])) ⟨q4, if m + x3 > 0 then m + x3 else 0, pb, pp⟩ :=
            ⟨nq4h, npb, upd_same, by show pp.length ≤ 1000; omega, .inl (sqL (sq4 _ _ epb))⟩
          refine ⟨_, _, _, _, rfl, fun b o nb e => ?_, (hH20.same sq4).store nLh nLd, r, rs ++ [.ref q4], aks ++ [⟨q4, if m + x3 > 0 then m + x3 else 0, pb, pp⟩], upd_same, ?_, by rw [List.length_append, hal]; rfl, fun x hx => ?_⟩
          · rw [upd_ne (ne_of_none e nL12)]
            exact k1721 _ _ nb (k17 _ _ nb e)
          · rw [List.map_append, ← er]
            rfl
          · rcases List.mem_append.mp hx with z | z
            · exact ((hak x z).keep k1721).put eL21
            · rw [List.mem_singleton.mp z]
              exact A3.put eL21
      · rintro σ H17 ⟨v7, v8, v9, v10, rfl, k17, hH17, r, rs, aks, eL, er, hal, hak⟩
        have ec17 := k17 _ _ nch ec12
        have k617 : Keep h H6 H17 := k69.trans (k912.trans k17)
        rw [er] at eL
        refine ⟨_, rfl, L, rfl, ⟨_, sqL eL⟩, for_list (K := K) (a := L) (xs := aks.map fun x => V.ref x.q) (fun i σ H' => ∃ v8 v9 v10 : Option V, σ = [some (.ref a), some (.ref h), some (.ref c), some (.int (s : Nat)), some (.int m), some (.ref p), some (.ref L), v7, v8, v9, v10, none] ∧ Same H17 H') ?_ ?_ ?_ ?_⟩
        · exact ⟨v8, v9, v10, rfl, .refl _⟩
        · rintro j σ H' _ ⟨_, _, _, _, s18⟩
          exact sqL (s18 _ _ eL)
        · rintro j y σ H18 hy ⟨v8, v9, v10, rfl, s18⟩
          have hj := (List.getElem?_eq_some_iff.mp hy).1
          rw [List.length_map] at hj
          rw [List.getElem?_map, List.getElem?_eq_getElem hj] at hy
          obtain rfl : V.ref aks[j].q = y := Option.some.inj hy
          obtain ⟨_, _, hat, hfew, hseq⟩ := hak aks[j] (List.getElem_mem hj)
          have ec18 := s18 _ _ ec17
          refine ⟨aks[j].q, _, rfl, sqL (s18 _ _ hat), rfl, _, _, rfl, _, _, rfl, rfl, ?_⟩
          refine ⟨_, rfl, _, rfl, _, rfl, _, rfl, c, aks[j].p, cs, aks[j].pp, s, aks[j].num, rfl, sqL ec18, hseq.same s18, c1, c8, hfew, hs1, by omega, fun H19 s19 => ?_⟩
          have s1719 := s18.trans s19
          refine ⟨_, rfl, _, _, _, _, true, rfl, .ty "bool", .base (.bl _), kit_ty (by decide +kernel), true, rfl, iteF ?_⟩
          refine ⟨_, rfl, _, rfl, _, rfl, _, rfl, _, rfl, c, aks[j].p, cs, aks[j].pp, s, aks[j].num, rfl, sqL (s19 _ _ ec18), hseq.same s1719, c1, c8, hfew, hs1, by omega, fun H20 s20 => ⟨rfl, _, rfl, ite2 (fun c' => ?_) (fun _ => ?_)⟩⟩
          · rw [decide_eq_true rfl] at c'
            cases c'
          refine ⟨_, rfl, _, rfl, ?_⟩
          have fin : ∃ v8 v9 v10 : Option V, ([some (.ref a), some (.ref h), some (.ref c), some (.int (s : Nat)), some (.int m), some (.ref p), some (.ref L), v7, some (.int aks[j].num), some (.ref aks[j].p), some (.bl (takes cs s aks[j].num aks[j].pp)), none] : L2.St) = [some (.ref a), some (.ref h), some (.ref c), some (.int (s : Nat)), some (.int m), some (.ref p), some (.ref L), v7, v8, v9, v10, none] ∧ Same H17 H20 := ⟨_, _, _, rfl, s1719.trans s20⟩
          cases et : takes cs s aks[j].num aks[j].pp with
          | true =>
            have hle := takes_sound cpos et ((hm m).mpr (Int.le_refl _))
            refine iteT ⟨_, rfl, _, rfl, _, _, rfl, rfl, _, rfl, ite2 (fun c' => ?_) (fun _ => ?_)⟩
            · have c' : aks[j].num > m := of_decide_eq_true c'
              omega
            · rw [et] at fin
              exact fin
          | false =>
            rw [et] at fin
            exact iteF (iteF fin)
        · rintro σ H18 ⟨v8, v9, v10, rfl, s18⟩
          exact ⟨_, _, _, _, _, _, _, _, rfl, kb.trans (k617.trans (Keep.same s18)), hH17.same s18⟩
    · rintro σ H6 ⟨v3, v4, v5, v6, v7, v8, v9, v10, rfl, kb, hH6⟩
      have ec6 := kb _ _ nch ecB
      refine ⟨_, rfl, _, rfl, _, rfl, h, dr, c, cs, rfl, hH6, ec6, c8, fun v H7 k7 hH7 R => ?_⟩
      exact ⟨c, cs, v, rfl, .inl (sqL (k7 _ _ nch ec6)), c1, c8, R, fun H8 => k H8⟩
end
end K10

set_option Elab.async false
set_option linter.all false
set_option maxRecDepth 100000
set_option maxHeartbeats 4000000
/-! K10End: what the program's top has written; the end. -/
namespace K10
open PySem PySem.Spec PyProof.Rows L2
/-- an error of the class at S is what an except S names -/
theorem exm_own {K : PySem.W.Frag} {S : Addr} (h1 : PySem.W.subIn K (.ref S) (.type "BaseException") = some true) (h2 : PySem.W.isClsIn K S = true) (h3 : PySem.W.typeIn K (.ref S) = some (.type "type")) (h4 : PySem.W.subIn K (.ref S) (.ref S) = some true) :
    PySem.W.exmOne K (.ref S) (.ref S) = some true := by
  have e1 : (PySem.W.subIn K (.ref S) (.type "BaseException") == some true) = true := by rw [h1] <;> rfl
  have e2 : ((PySem.W.clsIn K S).isSome && PySem.W.typeIn K (.ref S) == some (.type "type")) = true := by
    have h2' : (PySem.W.clsIn K S).isSome = true := h2
    rw [h2', h3] <;> rfl
  show (if (PySem.W.subIn K (.ref S) (.type "BaseException") == some true) = true then (if ((PySem.W.clsIn K S).isSome && PySem.W.typeIn K (.ref S) == some (.type "type")) = true then PySem.W.subIn K (.ref S) (.ref S) else none) else none) = some true
  rw [if_pos e1, if_pos e2]
  exact h4
theorem all_mk {l : PySem.W.OpenLaw} {w : World} {K : PySem.W.Frag} {h : Heap} {mg : Str → Option Value} {fa C CI CS f_num f_betw f_fin f_lea f_fou f_fir f_bes f_pap f_jud f_dra f_tak f_cut f_par f_gre f_cos f_ref f_due f_tks f_rfd f_ben f_law : Addr} (X : K.In h) (G : h.Ns mainGlobals mg) (hfa : mg "law" = some (.ref fa))
    {nm qn : Str} {N : Addr} {bs : List Value} {sn : List Str} {sub : List Value} {ab : Bool} {col : Option Bool} {dd : Option Addr} {m0 m1 m2 m3 m5 : Option Value}
    {od_num an_num : Option Addr} {sl_num : Array (Option Value)} {oc_num kV_num dc_num pm_num cd_num ct_num : Value}
    {od_betw an_betw : Option Addr} {sl_betw : Array (Option Value)} {oc_betw kV_betw dc_betw pm_betw cd_betw ct_betw : Value}
    {od_fin an_fin : Option Addr} {sl_fin : Array (Option Value)} {oc_fin kV_fin dc_fin pm_fin cd_fin ct_fin : Value}
    {od_lea an_lea : Option Addr} {sl_lea : Array (Option Value)} {oc_lea kV_lea dc_lea pm_lea cd_lea ct_lea : Value}
    {od_fou an_fou : Option Addr} {sl_fou : Array (Option Value)} {oc_fou kV_fou dc_fou pm_fou cd_fou ct_fou : Value}
    {od_fir an_fir : Option Addr} {sl_fir : Array (Option Value)} {oc_fir kV_fir dc_fir pm_fir cd_fir ct_fir : Value}
    {od_bes an_bes : Option Addr} {sl_bes : Array (Option Value)} {oc_bes kV_bes dc_bes pm_bes cd_bes ct_bes : Value}
    {od_pap an_pap : Option Addr} {sl_pap : Array (Option Value)} {oc_pap kV_pap dc_pap pm_pap cd_pap ct_pap : Value}
    {od_jud an_jud : Option Addr} {sl_jud : Array (Option Value)} {oc_jud kV_jud dc_jud pm_jud cd_jud ct_jud : Value}
    {od_dra an_dra : Option Addr} {sl_dra : Array (Option Value)} {oc_dra kV_dra dc_dra pm_dra cd_dra ct_dra : Value}
    {od_tak an_tak : Option Addr} {sl_tak : Array (Option Value)} {oc_tak kV_tak dc_tak pm_tak cd_tak ct_tak : Value}
    {od_cut an_cut : Option Addr} {sl_cut : Array (Option Value)} {oc_cut kV_cut dc_cut pm_cut cd_cut ct_cut : Value}
    {od_par an_par : Option Addr} {sl_par : Array (Option Value)} {oc_par kV_par dc_par pm_par cd_par ct_par : Value}
    {od_gre an_gre : Option Addr} {sl_gre : Array (Option Value)} {oc_gre kV_gre dc_gre pm_gre cd_gre ct_gre : Value}
    {od_cos an_cos : Option Addr} {sl_cos : Array (Option Value)} {oc_cos kV_cos dc_cos pm_cos cd_cos ct_cos : Value}
    {od_ref an_ref : Option Addr} {sl_ref : Array (Option Value)} {oc_ref kV_ref dc_ref pm_ref cd_ref ct_ref : Value}
    {od_due an_due : Option Addr} {sl_due : Array (Option Value)} {oc_due kV_due dc_due pm_due cd_due ct_due : Value}
    {od_tks an_tks : Option Addr} {sl_tks : Array (Option Value)} {oc_tks kV_tks dc_tks pm_tks cd_tks ct_tks : Value}
    {od_rfd an_rfd : Option Addr} {sl_rfd : Array (Option Value)} {oc_rfd kV_rfd dc_rfd pm_rfd cd_rfd ct_rfd : Value}
    {od_ben an_ben : Option Addr} {sl_ben : Array (Option Value)} {oc_ben kV_ben dc_ben pm_ben cd_ben ct_ben : Value}
    {od_law an_law : Option Addr} {sl_law : Array (Option Value)} {oc_law kV_law dc_law pm_law cd_law ct_law : Value}
    (aCI : PySem.W.nsIn K mainGlobals "InvalidNumber" = some (some (.ref CI)))
    (aCS : PySem.W.nsIn K mainGlobals "StageError" = some (some (.ref CS)))
    (aC : PySem.W.nsIn K mainGlobals "Filler" = some (some (.ref C)))
    (xL : K.lookup CI = some (excClassObj nm qn CI N bs [.ref CS, .type "ValueError", .type "Exception", .type "BaseException", .type "object"] true sn sub ab col dd m0 m1 m2 m3 m5 "ValueError.__new__"))
    (sCI : PySem.W.findIn K (.ref CI) "__setattr__" = some (some (.builtin "object.__setattr__")))
    (gaCI : PySem.W.findIn K (.ref CI) "__getattribute__" = some (some (.builtin "BaseException.__getattribute__")))
    (ggCI : PySem.W.findIn K (.ref CI) "__getattr__" = some none)
    (nCI : PySem.W.findIn K (.ref CI) "number" = some none)
    (kCI : PySem.W.keepIn K (.ref CI) = true)
    (eCI : PySem.W.subIn K (.ref CI) (.type "BaseException") = some true)
    (tCI : PySem.W.typeIn K (.ref CI) = some (.type "type"))
    (hCI : PySem.W.hasDictIn K CI = true)
    (iCI : PySem.W.isClsIn K CI = true)
    (bCI : PySem.W.subIn K (.ref CI) (.ref CI) = some true)
    (uCI : PySem.W.isIn K (.ref CI) CS = true)
    (pg : PySem.W.plainGet K C Str.empty = true)
    (hd : PySem.W.hasDictIn K C = true)
    (po : PySem.W.plainOver K C = true)
    (sa : PySem.W.findIn K (.ref C) "__setattr__" = some (some (.builtin "object.__setattr__")))
    (mk : PySem.W.makesIn K C = true)
    (kc : PySem.W.keepIn K (.ref C) = true)
    (nC : PySem.W.findIn K (.ref C) "costs" = some none)
    (nK : PySem.W.findIn K (.ref C) "known" = some none)
    (a_num : PySem.W.findIn K (.ref CI) "__init__" = some (some (.ref f_num)))
    (t_num : PySem.W.typeIn K (.ref f_num) = some (.type "function"))
    (l_num : K.lookup f_num = some ⟨oc_num, od_num, .func (PySem.W.fnOf "__init__" "InvalidNumber.__init__" (defArgs sNum) (defBody sNum) (defScope sNum) .none kV_num dc_num pm_num an_num cd_num ct_num), sl_num⟩)
    (c_num : PySem.W.codeIn K cd_num "InvalidNumber.__init__" = true)
    (k_num : PySem.W.keepIn K (.ref f_num) = true)
    (a_betw : PySem.W.nsIn K mainGlobals "is_between" = some (some (.ref f_betw)))
    (l_betw : K.lookup f_betw = some ⟨oc_betw, od_betw, .func (PySem.W.fnOf "is_between" "is_between" (defArgs sBetw) (defBody sBetw) (defScope sBetw) .none kV_betw dc_betw pm_betw an_betw cd_betw ct_betw), sl_betw⟩)
    (c_betw : PySem.W.codeIn K cd_betw "is_between" = true)
    (k_betw : PySem.W.keepIn K (.ref f_betw) = true)
    (a_fin : PySem.W.findIn K (.ref C) "__init__" = some (some (.ref f_fin)))
    (i_fin : PySem.W.isFn K (.ref f_fin) = true)
    (l_fin : K.lookup f_fin = some ⟨oc_fin, od_fin, .func (PySem.W.fnOf "__init__" "Filler.__init__" (defArgs sFInit) (defBody sFInit) (defScope sFInit) .none kV_fin dc_fin pm_fin an_fin cd_fin ct_fin), sl_fin⟩)
    (c_fin : PySem.W.codeIn K cd_fin "Filler.__init__" = true)
    (k_fin : PySem.W.keepIn K (.ref f_fin) = true)
    (a_lea : PySem.W.findIn K (.ref C) "least" = some (some (.ref f_lea)))
    (i_lea : PySem.W.isFn K (.ref f_lea) = true)
    (l_lea : K.lookup f_lea = some ⟨oc_lea, od_lea, .func (PySem.W.fnOf "least" "Filler.least" (defArgs sLeast) (defBody sLeast) (defScope sLeast) .none kV_lea dc_lea pm_lea an_lea cd_lea ct_lea), sl_lea⟩)
    (c_lea : PySem.W.codeIn K cd_lea "Filler.least" = true)
    (k_lea : PySem.W.keepIn K (.ref f_lea) = true)
    (a_fou : PySem.W.findIn K (.ref C) "found" = some (some (.ref f_fou)))
    (i_fou : PySem.W.isFn K (.ref f_fou) = true)
    (l_fou : K.lookup f_fou = some ⟨oc_fou, od_fou, .func (PySem.W.fnOf "found" "Filler.found" (defArgs sFound) (defBody sFound) (defScope sFound) .none kV_fou dc_fou pm_fou an_fou cd_fou ct_fou), sl_fou⟩)
    (c_fou : PySem.W.codeIn K cd_fou "Filler.found" = true)
    (k_fou : PySem.W.keepIn K (.ref f_fou) = true)
    (a_fir : PySem.W.findIn K (.ref C) "first_cut" = some (some (.ref f_fir)))
    (i_fir : PySem.W.isFn K (.ref f_fir) = true)
    (l_fir : K.lookup f_fir = some ⟨oc_fir, od_fir, .func (PySem.W.fnOf "first_cut" "Filler.first_cut" (defArgs sFirst) (defBody sFirst) (defScope sFirst) .none kV_fir dc_fir pm_fir an_fir cd_fir ct_fir), sl_fir⟩)
    (c_fir : PySem.W.codeIn K cd_fir "Filler.first_cut" = true)
    (k_fir : PySem.W.keepIn K (.ref f_fir) = true)
    (a_bes : PySem.W.nsIn K mainGlobals "best_cut" = some (some (.ref f_bes)))
    (l_bes : K.lookup f_bes = some ⟨oc_bes, od_bes, .func (PySem.W.fnOf "best_cut" "best_cut" (defArgs sBest) (defBody sBest) (defScope sBest) .none kV_bes dc_bes pm_bes an_bes cd_bes ct_bes), sl_bes⟩)
    (c_bes : PySem.W.codeIn K cd_bes "best_cut" = true)
    (k_bes : PySem.W.keepIn K (.ref f_bes) = true)
    (a_pap : PySem.W.nsIn K mainGlobals "cut_paper" = some (some (.ref f_pap)))
    (l_pap : K.lookup f_pap = some ⟨oc_pap, od_pap, .func (PySem.W.fnOf "cut_paper" "cut_paper" (defArgs sPaper) (defBody sPaper) (defScope sPaper) .none kV_pap dc_pap pm_pap an_pap cd_pap ct_pap), sl_pap⟩)
    (c_pap : PySem.W.codeIn K cd_pap "cut_paper" = true)
    (k_pap : PySem.W.keepIn K (.ref f_pap) = true)
    (a_jud : PySem.W.nsIn K mainGlobals "judge_cut" = some (some (.ref f_jud)))
    (l_jud : K.lookup f_jud = some ⟨oc_jud, od_jud, .func (PySem.W.fnOf "judge_cut" "judge_cut" (defArgs sJudge) (defBody sJudge) (defScope sJudge) .none kV_jud dc_jud pm_jud an_jud cd_jud ct_jud), sl_jud⟩)
    (c_jud : PySem.W.codeIn K cd_jud "judge_cut" = true)
    (k_jud : PySem.W.keepIn K (.ref f_jud) = true)
    (a_dra : PySem.W.nsIn K mainGlobals "_law_draws" = some (some (.ref f_dra)))
    (l_dra : K.lookup f_dra = some ⟨oc_dra, od_dra, .func (PySem.W.fnOf "_law_draws" "_law_draws" (defArgs sDraws) (defBody sDraws) (defScope sDraws) .none kV_dra dc_dra pm_dra an_dra cd_dra ct_dra), sl_dra⟩)
    (c_dra : PySem.W.codeIn K cd_dra "_law_draws" = true)
    (k_dra : PySem.W.keepIn K (.ref f_dra) = true)
    (a_tak : PySem.W.nsIn K mainGlobals "_law_take" = some (some (.ref f_tak)))
    (l_tak : K.lookup f_tak = some ⟨oc_tak, od_tak, .func (PySem.W.fnOf "_law_take" "_law_take" (defArgs sTake) (defBody sTake) (defScope sTake) .none kV_tak dc_tak pm_tak an_tak cd_tak ct_tak), sl_tak⟩)
    (c_tak : PySem.W.codeIn K cd_tak "_law_take" = true)
    (k_tak : PySem.W.keepIn K (.ref f_tak) = true)
    (a_cut : PySem.W.nsIn K mainGlobals "_law_cuts" = some (some (.ref f_cut)))
    (l_cut : K.lookup f_cut = some ⟨oc_cut, od_cut, .func (PySem.W.fnOf "_law_cuts" "_law_cuts" (defArgs sCuts) (defBody sCuts) (defScope sCuts) .none kV_cut dc_cut pm_cut an_cut cd_cut ct_cut), sl_cut⟩)
    (c_cut : PySem.W.codeIn K cd_cut "_law_cuts" = true)
    (k_cut : PySem.W.keepIn K (.ref f_cut) = true)
    (a_par : PySem.W.nsIn K mainGlobals "_law_parts" = some (some (.ref f_par)))
    (l_par : K.lookup f_par = some ⟨oc_par, od_par, .func (PySem.W.fnOf "_law_parts" "_law_parts" (defArgs sParts) (defBody sParts) (defScope sParts) .none kV_par dc_par pm_par an_par cd_par ct_par), sl_par⟩)
    (c_par : PySem.W.codeIn K cd_par "_law_parts" = true)
    (k_par : PySem.W.keepIn K (.ref f_par) = true)
    (a_gre : PySem.W.nsIn K mainGlobals "_law_greatest" = some (some (.ref f_gre)))
    (l_gre : K.lookup f_gre = some ⟨oc_gre, od_gre, .func (PySem.W.fnOf "_law_greatest" "_law_greatest" (defArgs sGreat) (defBody sGreat) (defScope sGreat) .none kV_gre dc_gre pm_gre an_gre cd_gre ct_gre), sl_gre⟩)
    (c_gre : PySem.W.codeIn K cd_gre "_law_greatest" = true)
    (k_gre : PySem.W.keepIn K (.ref f_gre) = true)
    (a_cos : PySem.W.nsIn K mainGlobals "_law_costs" = some (some (.ref f_cos)))
    (l_cos : K.lookup f_cos = some ⟨oc_cos, od_cos, .func (PySem.W.fnOf "_law_costs" "_law_costs" (defArgs sCosts) (defBody sCosts) (defScope sCosts) .none kV_cos dc_cos pm_cos an_cos cd_cos ct_cos), sl_cos⟩)
    (c_cos : PySem.W.codeIn K cd_cos "_law_costs" = true)
    (k_cos : PySem.W.keepIn K (.ref f_cos) = true)
    (a_ref : PySem.W.nsIn K mainGlobals "_law_refusals" = some (some (.ref f_ref)))
    (l_ref : K.lookup f_ref = some ⟨oc_ref, od_ref, .func (PySem.W.fnOf "_law_refusals" "_law_refusals" (defArgs sRefu) (defBody sRefu) (defScope sRefu) .none kV_ref dc_ref pm_ref an_ref cd_ref ct_ref), sl_ref⟩)
    (c_ref : PySem.W.codeIn K cd_ref "_law_refusals" = true)
    (k_ref : PySem.W.keepIn K (.ref f_ref) = true)
    (a_due : PySem.W.nsIn K mainGlobals "_law_due" = some (some (.ref f_due)))
    (l_due : K.lookup f_due = some ⟨oc_due, od_due, .func (PySem.W.fnOf "_law_due" "_law_due" (defArgs sDue) (defBody sDue) (defScope sDue) .none kV_due dc_due pm_due an_due cd_due ct_due), sl_due⟩)
    (c_due : PySem.W.codeIn K cd_due "_law_due" = true)
    (k_due : PySem.W.keepIn K (.ref f_due) = true)
    (a_tks : PySem.W.nsIn K mainGlobals "_law_takes" = some (some (.ref f_tks)))
    (l_tks : K.lookup f_tks = some ⟨oc_tks, od_tks, .func (PySem.W.fnOf "_law_takes" "_law_takes" (defArgs sTakes) (defBody sTakes) (defScope sTakes) .none kV_tks dc_tks pm_tks an_tks cd_tks ct_tks), sl_tks⟩)
    (c_tks : PySem.W.codeIn K cd_tks "_law_takes" = true)
    (k_tks : PySem.W.keepIn K (.ref f_tks) = true)
    (a_rfd : PySem.W.nsIn K mainGlobals "_law_refused" = some (some (.ref f_rfd)))
    (l_rfd : K.lookup f_rfd = some ⟨oc_rfd, od_rfd, .func (PySem.W.fnOf "_law_refused" "_law_refused" (defArgs sRefd) (defBody sRefd) (defScope sRefd) .none kV_rfd dc_rfd pm_rfd an_rfd cd_rfd ct_rfd), sl_rfd⟩)
    (c_rfd : PySem.W.codeIn K cd_rfd "_law_refused" = true)
    (k_rfd : PySem.W.keepIn K (.ref f_rfd) = true)
    (a_ben : PySem.W.nsIn K mainGlobals "_law_bent" = some (some (.ref f_ben)))
    (l_ben : K.lookup f_ben = some ⟨oc_ben, od_ben, .func (PySem.W.fnOf "_law_bent" "_law_bent" (defArgs sBent) (defBody sBent) (defScope sBent) .none kV_ben dc_ben pm_ben an_ben cd_ben ct_ben), sl_ben⟩)
    (c_ben : PySem.W.codeIn K cd_ben "_law_bent" = true)
    (k_ben : PySem.W.keepIn K (.ref f_ben) = true)
    (a_law : PySem.W.nsIn K mainGlobals "law" = some (some (.ref f_law)))
    (l_law : K.lookup f_law = some ⟨oc_law, od_law, .func (PySem.W.fnOf "law" "law" (defArgs sLaw) (defBody sLaw) (defScope sLaw) .none kV_law dc_law pm_law an_law cd_law ct_law), sl_law⟩)
    (c_law : PySem.W.codeIn K cd_law "law" = true)
    (k_law : PySem.W.keepIn K (.ref f_law) = true)
    (z_len : PySem.W.nsIn K mainGlobals "len" = some none)
    (z_sum : PySem.W.nsIn K mainGlobals "sum" = some none)
    (z_range : PySem.W.nsIn K mainGlobals "range" = some none)
    (z_max : PySem.W.nsIn K mainGlobals "max" = some none)
    (z_min : PySem.W.nsIn K mainGlobals "min" = some none)
    (z_tuple : PySem.W.nsIn K mainGlobals "tuple" = some none)
    (z_list : PySem.W.nsIn K mainGlobals "list" = some none)
    (z_enumerate : PySem.W.nsIn K mainGlobals "enumerate" = some none)
    (z_zip : PySem.W.nsIn K mainGlobals "zip" = some none)
    (z_all : PySem.W.nsIn K mainGlobals "all" = some none)
    (z_isinstance : PySem.W.nsIn K mainGlobals "isinstance" = some none)
    (z_int : PySem.W.nsIn K mainGlobals "int" = some none)
    (z_bool : PySem.W.nsIn K mainGlobals "bool" = some none)
    (z_repr : PySem.W.nsIn K mainGlobals "repr" = some none)
    (z_sorted : PySem.W.nsIn K mainGlobals "sorted" = some none)
    (z_abs : PySem.W.nsIn K mainGlobals "abs" = some none) :
    ∃ fd : FuncData, (∀ (s : Shared) (v : Value), BindsTo s fd ⟨[v], []⟩ [("_law_script", v)]) ∧ ∀ base : Heap, K.In base → base.Ns mainGlobals mg → FnG l.prog w K mg base CX0 21 fa fd ["_law_script"] (spLaw K) := by
  have e := hfa.symm.trans (PySem.W.mg_of X G a_law)
  cases e
  have B : Blt mg := ⟨PySem.W.mg_none_of X G z_len, PySem.W.mg_none_of X G z_sum, PySem.W.mg_none_of X G z_range, PySem.W.mg_none_of X G z_max, PySem.W.mg_none_of X G z_min, PySem.W.mg_none_of X G z_tuple, PySem.W.mg_none_of X G z_list, PySem.W.mg_none_of X G z_enumerate, PySem.W.mg_none_of X G z_zip, PySem.W.mg_none_of X G z_all, PySem.W.mg_none_of X G z_isinstance, PySem.W.mg_none_of X G z_int, PySem.W.mg_none_of X G z_bool, PySem.W.mg_none_of X G z_repr, PySem.W.mg_none_of X G z_sorted, PySem.W.mg_none_of X G z_abs⟩
  have F_num := fun_mk (st := sNum) l_num c_num k_num
  have b_num := F_num.binds (ps := ["self", "number"]) fun _ _ _ _ _ _ us hl => match us, hl with | [_, _], _ => rfl
  have F_betw := fun_mk (st := sBetw) l_betw c_betw k_betw
  have b_betw := F_betw.binds (ps := ["value", "least", "most"]) fun _ _ _ _ _ _ us hl => match us, hl with | [_, _, _], _ => rfl
  have D_betw : DefOf K mg "is_between" sBetw ["value", "least", "most"] f_betw _ := ⟨F_betw, PySem.W.mg_of X G a_betw, b_betw⟩
  have F_fin := fun_mk (st := sFInit) l_fin c_fin k_fin
  have b_fin := F_fin.binds (ps := ["self", "costs"]) fun _ _ _ _ _ _ us hl => match us, hl with | [_, _], _ => rfl
  have F_lea := fun_mk (st := sLeast) l_lea c_lea k_lea
  have b_lea := F_lea.binds (ps := ["self", "first", "stages"]) fun _ _ _ _ _ _ us hl => match us, hl with | [_, _, _], _ => rfl
  have F_fou := fun_mk (st := sFound) l_fou c_fou k_fou
  have b_fou := F_fou.binds (ps := ["self", "first", "stages"]) fun _ _ _ _ _ _ us hl => match us, hl with | [_, _, _], _ => rfl
  have F_fir := fun_mk (st := sFirst) l_fir c_fir k_fir
  have b_fir := F_fir.binds (ps := ["self", "stages"]) fun _ _ _ _ _ _ us hl => match us, hl with | [_, _], _ => rfl
  have F_bes := fun_mk (st := sBest) l_bes c_bes k_bes
  have b_bes := F_bes.binds (ps := ["costs", "stages"]) fun _ _ _ _ _ _ us hl => match us, hl with | [_, _], _ => rfl
  have D_bes : DefOf K mg "best_cut" sBest ["costs", "stages"] f_bes _ := ⟨F_bes, PySem.W.mg_of X G a_bes, b_bes⟩
  have F_pap := fun_mk (st := sPaper) l_pap c_pap k_pap
  have b_pap := F_pap.binds (ps := ["costs", "stages"]) fun _ _ _ _ _ _ us hl => match us, hl with | [_, _], _ => rfl
  have D_pap : DefOf K mg "cut_paper" sPaper ["costs", "stages"] f_pap _ := ⟨F_pap, PySem.W.mg_of X G a_pap, b_pap⟩
  have F_jud := fun_mk (st := sJudge) l_jud c_jud k_jud
  have b_jud := F_jud.binds (ps := ["costs", "stages", "most", "paper"]) fun _ _ _ _ _ _ us hl => match us, hl with | [_, _, _, _], _ => rfl
  have D_jud : DefOf K mg "judge_cut" sJudge ["costs", "stages", "most", "paper"] f_jud _ := ⟨F_jud, PySem.W.mg_of X G a_jud, b_jud⟩
  have F_dra := fun_mk (st := sDraws) l_dra c_dra k_dra
  have b_dra := F_dra.binds (ps := ["_law_script", "_law_many"]) fun _ _ _ _ _ _ us hl => match us, hl with | [_, _], _ => rfl
  have D_dra : DefOf K mg "_law_draws" sDraws ["_law_script", "_law_many"] f_dra _ := ⟨F_dra, PySem.W.mg_of X G a_dra, b_dra⟩
  have F_tak := fun_mk (st := sTake) l_tak c_tak k_tak
  have b_tak := F_tak.binds (ps := ["_law_hand", "_law_many"]) fun _ _ _ _ _ _ us hl => match us, hl with | [_, _], _ => rfl
  have D_tak : DefOf K mg "_law_take" sTake ["_law_hand", "_law_many"] f_tak _ := ⟨F_tak, PySem.W.mg_of X G a_tak, b_tak⟩
  have F_cut := fun_mk (st := sCuts) l_cut c_cut k_cut
  have b_cut := F_cut.binds (ps := ["_law_n", "_law_stages"]) fun _ _ _ _ _ _ us hl => match us, hl with | [_, _], _ => rfl
  have D_cut : DefOf K mg "_law_cuts" sCuts ["_law_n", "_law_stages"] f_cut _ := ⟨F_cut, PySem.W.mg_of X G a_cut, b_cut⟩
  have F_par := fun_mk (st := sParts) l_par c_par k_par
  have b_par := F_par.binds (ps := ["_law_cut"]) fun _ _ _ _ _ _ us hl => match us, hl with | [_], _ => rfl
  have D_par : DefOf K mg "_law_parts" sParts ["_law_cut"] f_par _ := ⟨F_par, PySem.W.mg_of X G a_par, b_par⟩
  have F_gre := fun_mk (st := sGreat) l_gre c_gre k_gre
  have b_gre := F_gre.binds (ps := ["_law_costs_here", "_law_cut"]) fun _ _ _ _ _ _ us hl => match us, hl with | [_, _], _ => rfl
  have D_gre : DefOf K mg "_law_greatest" sGreat ["_law_costs_here", "_law_cut"] f_gre _ := ⟨F_gre, PySem.W.mg_of X G a_gre, b_gre⟩
  have F_cos := fun_mk (st := sCosts) l_cos c_cos k_cos
  have b_cos := F_cos.binds (ps := ["_law_hand", "_law_most"]) fun _ _ _ _ _ _ us hl => match us, hl with | [_, _], _ => rfl
  have D_cos : DefOf K mg "_law_costs" sCosts ["_law_hand", "_law_most"] f_cos _ := ⟨F_cos, PySem.W.mg_of X G a_cos, b_cos⟩
  have F_ref := fun_mk (st := sRefu) l_ref c_ref k_ref
  have b_ref := F_ref.binds (ps := ["_law_hand", "_law_costs_here"]) fun _ _ _ _ _ _ us hl => match us, hl with | [_, _], _ => rfl
  have D_ref : DefOf K mg "_law_refusals" sRefu ["_law_hand", "_law_costs_here"] f_ref _ := ⟨F_ref, PySem.W.mg_of X G a_ref, b_ref⟩
  have F_due := fun_mk (st := sDue) l_due c_due k_due
  have b_due := F_due.binds (ps := ["_law_costs_here", "_law_stages", "_law_most"]) fun _ _ _ _ _ _ us hl => match us, hl with | [_, _, _], _ => rfl
  have D_due : DefOf K mg "_law_due" sDue ["_law_costs_here", "_law_stages", "_law_most"] f_due _ := ⟨F_due, PySem.W.mg_of X G a_due, b_due⟩
  have F_tks := fun_mk (st := sTakes) l_tks c_tks k_tks
  have b_tks := F_tks.binds (ps := ["_law_costs_here", "_law_stages", "_law_most", "_law_paper"]) fun _ _ _ _ _ _ us hl => match us, hl with | [_, _, _, _], _ => rfl
  have D_tks : DefOf K mg "_law_takes" sTakes ["_law_costs_here", "_law_stages", "_law_most", "_law_paper"] f_tks _ := ⟨F_tks, PySem.W.mg_of X G a_tks, b_tks⟩
  have F_rfd := fun_mk (st := sRefd) l_rfd c_rfd k_rfd
  have b_rfd := F_rfd.binds (ps := ["_law_costs_here", "_law_value"]) fun _ _ _ _ _ _ us hl => match us, hl with | [_, _], _ => rfl
  have D_rfd : DefOf K mg "_law_refused" sRefd ["_law_costs_here", "_law_value"] f_rfd _ := ⟨F_rfd, PySem.W.mg_of X G a_rfd, b_rfd⟩
  have F_ben := fun_mk (st := sBent) l_ben c_ben k_ben
  have b_ben := F_ben.binds (ps := ["_law_hand", "_law_paper", "_law_many", "_law_stages"]) fun _ _ _ _ _ _ us hl => match us, hl with | [_, _, _, _], _ => rfl
  have D_ben : DefOf K mg "_law_bent" sBent ["_law_hand", "_law_paper", "_law_many", "_law_stages"] f_ben _ := ⟨F_ben, PySem.W.mg_of X G a_ben, b_ben⟩
  have F_law := fun_mk (st := sLaw) l_law c_law k_law
  have bP : KwAll (PySem.W.fnOf "cut_paper" "cut_paper" (defArgs sPaper) (defBody sPaper) (defScope sPaper) .none kV_pap dc_pap pm_pap an_pap cd_pap ct_pap) ["costs", "stages"] := fun ws hl => match ws, hl with | [_, _], _ => rfl
  have bJ : KwAll (PySem.W.fnOf "judge_cut" "judge_cut" (defArgs sJudge) (defBody sJudge) (defScope sJudge) .none kV_jud dc_jud pm_jud an_jud cd_jud ct_jud) ["costs", "stages", "most", "paper"] := fun ws hl => match ws, hl with | [_, _, _, _], _ => rfl
  have ox : OexC K CI := ⟨⟨nm, qn, N, bs, _, sn, sub, ab, col, dd, m0, m1, m2, m3, m5, xL, by rfl⟩, sCI, eCI, tCI, kCI⟩
  have NT : NumTxt K mg CI f_num _ := ⟨ox, nCI, a_num, t_num, F_num, b_num, PySem.W.mg_of X G aCI⟩
  have ET : ErrTxt K mg CI CS := ⟨⟨gaCI, ggCI, eCI, hCI⟩, exm_own eCI iCI tCI bCI, uCI, PySem.W.mg_of X G aCS⟩
  have FT : FilTxt K mg C := ⟨⟨pg, hd, po, sa⟩, nC, nK, PySem.W.mg_of X G aC⟩
  have ML : Meth K C "least" f_lea := ⟨a_lea, i_lea, k_lea⟩
  have MF : Meth K C "found" f_fou := ⟨a_fou, i_fou, k_fou⟩
  refine ⟨PySem.W.fnOf "law" "law" (defArgs sLaw) (defBody sLaw) (defScope sLaw) .none kV_law dc_law pm_law an_law cd_law ct_law, fun s v => .of_eq rfl, fun base _ _ => ?_⟩
  have cT := ok_take (P := l.prog) (w := w) (base := base) D_tak B
  have cB := ok_betw (P := l.prog) (w := w) (base := base) D_betw B
  have LE := le_any (P := l.prog) (w := w) (base := base) F_lea b_lea ML F_fou b_fou MF FT B
  have FA : FilAll l.prog w K mg base C f_fin f_fir _ _ := ⟨FT, ⟨mk, a_fin, i_fin, kc⟩, ok_finit F_fin FT B, b_fin, ok_first F_fir FT B LE b_lea ML, b_fir, ⟨a_fir, i_fir, k_fir⟩⟩
  have GB := ok_best F_bes B NT FA cB
  have GP := ok_paper F_pap B GB (PySem.W.mg_of X G a_bes) k_bes b_bes
  have GR := ok_refd F_rfd B NT ET GP (PySem.W.mg_of X G a_pap) k_pap b_pap
  have cP := ok_parts (P := l.prog) (w := w) (base := base) D_par B
  exact ok_law F_law { B := B, cT := cT, cD := ok_draws D_dra B, cC := ok_cuts D_cut B, cG := ok_great D_gre B cP, cCo := ok_costs D_cos B cT, cDue := ok_due D_due B, cTk := ok_takes D_tks B, cBe := ok_bent D_ben B cT, cR := ok_refu D_ref B cT, GP := GP, mP := PySem.W.mg_of X G a_pap, kP := k_pap, bP := bP, GJ := judge_ok F_jud B cB, mJ := PySem.W.mg_of X G a_jud, kJ := k_jud, bJk := bJ, bJ := b_jud, GR := GR, mR := PySem.W.mg_of X G a_rfd, kR := k_rfd, bR := b_rfd }
theorem walk {l : PySem.W.OpenLaw} {q : Program} {loose : List Str} {XP : (Str → Option Value) → Heap → Prop} {YP : World → Heap → Prop} {d : DefRec} {K : Params → PySem.W.Frag} (hn : l.most = some 63) (hdf : d.params.defaults = [])
    (hY : ∀ (w : World) (h : Heap), YP w h → (K w.params).In h)
    (F : ∀ (w : World) (mg : Str → Option Value) (fa : Addr) (h : Heap), (K w.params).In h → h.Ns mainGlobals mg → mg d.name = some (.ref fa) →
      ∃ fd : FuncData, (∀ (s : Shared) (u : Value), BindsTo s fd ⟨[u], []⟩ [("_law_script", u)]) ∧ ∀ base : Heap, (K w.params).In base → base.Ns mainGlobals mg → FnG l.prog w (K w.params) mg base CX0 21 fa fd ["_law_script"] (spLaw (K w.params))) :
    PySem.W.WalkO q loose XP YP l.row.toRowW d [] (fun f vs => PySem.call f vs) :=
  walk_G (n := 63) (k := 21) (CX := CX0) (sp := fun K => spLaw K) (x := "_law_script") hn (by decide) hdf ⟨rfl, by decide, by decide⟩ hY F (fun _ _ a ns hl hS => ⟨a, ns, rfl, hS, hl, fun _ => rfl⟩) fun _ _ _ _ z => z
end K10

open PySem PySem.W PyProof.Rows in
set_option maxRecDepth 100000 in
set_option maxHeartbeats 0 in
theorem PySem.Challenge.cw_stagesfull_k10_whole_papers_of_cuts_holds : PySem.Challenge.rw_stagesfull_k10_whole_papers_of_cuts.Holds := by
  w_on; o_law; k_head; (case hw => w_witness2)
  k_fill
  refine K10.walk (l := PySem.Challenge.rw_stagesfull_k10_whole_papers_of_cuts) rfl rfl (fun w h Y => PySem.W.kIn_of Y) ?F
  case F =>
    intro w mg fa h KX G hmg
    refine' K10.all_mk KX G hmg ?aCI ?aCS ?aC ?xL ?sCI ?gaCI ?ggCI ?nCI ?kCI ?eCI ?tCI ?hCI ?iCI ?bCI ?uCI ?pg ?hd ?po ?sa ?mk ?kc ?nC ?nK ?a_num ?t_num ?l_num ?c_num ?k_num ?a_betw ?l_betw ?c_betw ?k_betw ?a_fin ?i_fin ?l_fin ?c_fin ?k_fin ?a_lea ?i_lea ?l_lea ?c_lea ?k_lea ?a_fou ?i_fou ?l_fou ?c_fou ?k_fou ?a_fir ?i_fir ?l_fir ?c_fir ?k_fir ?a_bes ?l_bes ?c_bes ?k_bes ?a_pap ?l_pap ?c_pap ?k_pap ?a_jud ?l_jud ?c_jud ?k_jud ?a_dra ?l_dra ?c_dra ?k_dra ?a_tak ?l_tak ?c_tak ?k_tak ?a_cut ?l_cut ?c_cut ?k_cut ?a_par ?l_par ?c_par ?k_par ?a_gre ?l_gre ?c_gre ?k_gre ?a_cos ?l_cos ?c_cos ?k_cos ?a_ref ?l_ref ?c_ref ?k_ref ?a_due ?l_due ?c_due ?k_due ?a_tks ?l_tks ?c_tks ?k_tks ?a_rfd ?l_rfd ?c_rfd ?k_rfd ?a_ben ?l_ben ?c_ben ?k_ben ?a_law ?l_law ?c_law ?k_law ?z_len ?z_sum ?z_range ?z_max ?z_min ?z_tuple ?z_list ?z_enumerate ?z_zip ?z_all ?z_isinstance ?z_int ?z_bool ?z_repr ?z_sorted ?z_abs
    (case aCI => k_is)
    (case aCS => k_is)
    (case aC => k_is)
    (case xL => k_is)
    (case sCI => k_is)
    (case gaCI => k_is)
    (case ggCI => k_is)
    (case nCI => k_is)
    (case kCI => k_is)
    (case eCI => k_is)
    (case tCI => k_is)
    (case hCI => k_is)
    (case iCI => k_is)
    (case bCI => first | rfl | k_is)
    (case uCI => k_is)
    (case pg => k_is)
    (case hd => k_is)
    (case po => k_is)
    (case sa => k_is)
    (case mk => k_is)
    (case kc => k_is)
    (case nC => k_is)
    (case nK => k_is)
    (case a_num => k_is)
    (case t_num => k_is)
    (case l_num => k_is)
    (case c_num => k_is)
    (case k_num => k_is)
    (case a_betw => k_is)
    (case l_betw => k_is)
    (case c_betw => k_is)
    (case k_betw => k_is)
    (case a_fin => k_is)
    (case i_fin => k_is)
    (case l_fin => k_is)
    (case c_fin => k_is)
    (case k_fin => k_is)
    (case a_lea => k_is)
    (case i_lea => k_is)
    (case l_lea => k_is)
    (case c_lea => k_is)
    (case k_lea => k_is)
    (case a_fou => k_is)
    (case i_fou => k_is)
    (case l_fou => k_is)
    (case c_fou => k_is)
    (case k_fou => k_is)
    (case a_fir => k_is)
    (case i_fir => k_is)
    (case l_fir => k_is)
    (case c_fir => k_is)
    (case k_fir => k_is)
    (case a_bes => k_is)
    (case l_bes => k_is)
    (case c_bes => k_is)
    (case k_bes => k_is)
    (case a_pap => k_is)
    (case l_pap => k_is)
    (case c_pap => k_is)
    (case k_pap => k_is)
    (case a_jud => k_is)
    (case l_jud => k_is)
    (case c_jud => k_is)
    (case k_jud => k_is)
    (case a_dra => k_is)
    (case l_dra => k_is)
    (case c_dra => k_is)
    (case k_dra => k_is)
    (case a_tak => k_is)
    (case l_tak => k_is)
    (case c_tak => k_is)
    (case k_tak => k_is)
    (case a_cut => k_is)
    (case l_cut => k_is)
    (case c_cut => k_is)
    (case k_cut => k_is)
    (case a_par => k_is)
    (case l_par => k_is)
    (case c_par => k_is)
    (case k_par => k_is)
    (case a_gre => k_is)
    (case l_gre => k_is)
    (case c_gre => k_is)
    (case k_gre => k_is)
    (case a_cos => k_is)
    (case l_cos => k_is)
    (case c_cos => k_is)
    (case k_cos => k_is)
    (case a_ref => k_is)
    (case l_ref => k_is)
    (case c_ref => k_is)
    (case k_ref => k_is)
    (case a_due => k_is)
    (case l_due => k_is)
    (case c_due => k_is)
    (case k_due => k_is)
    (case a_tks => k_is)
    (case l_tks => k_is)
    (case c_tks => k_is)
    (case k_tks => k_is)
    (case a_rfd => k_is)
    (case l_rfd => k_is)
    (case c_rfd => k_is)
    (case k_rfd => k_is)
    (case a_ben => k_is)
    (case l_ben => k_is)
    (case c_ben => k_is)
    (case k_ben => k_is)
    (case a_law => k_is)
    (case l_law => k_is)
    (case c_law => k_is)
    (case k_law => k_is)
    (case z_len => k_is)
    (case z_sum => k_is)
    (case z_range => k_is)
    (case z_max => k_is)
    (case z_min => k_is)
    (case z_tuple => k_is)
    (case z_list => k_is)
    (case z_enumerate => k_is)
    (case z_zip => k_is)
    (case z_all => k_is)
    (case z_isinstance => k_is)
    (case z_int => k_is)
    (case z_bool => k_is)
    (case z_repr => k_is)
    (case z_sorted => k_is)
    (case z_abs => k_is)
