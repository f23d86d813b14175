import PyProof.Rows.All
import Wide.All
import OpenK.AllK
import Wide.FinOn
import HandS.ForMost
import HandS.Lambda
import HandS.EndTab
import HandS.SortKw
import KE.SortKeyHeap
import KE.DataMinKey
import KE.DatumOrd
import HandS.Walk
import HandS.Zip
import KE.GoesNew
import KE.GoesMore
import PyProof.EnumMake
import HandS.IsInst
import HandS.Conv
import HandS.TupAny
import HandS.Star
import HandS.Strs
import HandS.SetFor
import HandS.SortRule
import HandS.Evl
import HandS.SortInts
import KE.KDictWalk
import KE.KTupSum
import PySem.Challenge.RW_shoporders_k01_whole_lateness
/-! Orders of work on one machine: plain mathematics, no program in sight. -/
namespace Mth

/-! ### sums -/
def sumT (T : Nat → Int) (l : List Nat) : Int := (l.map T).sum
theorem sumT_nil (T : Nat → Int) : sumT T [] = 0 := rfl
theorem sumT_cons (T : Nat → Int) (a : Nat) (l : List Nat) : sumT T (a :: l) = T a + sumT T l := by
  unfold sumT
  rw [List.map_cons, List.sum_cons]
theorem sumT_append (T : Nat → Int) : ∀ (a b : List Nat), sumT T (a ++ b) = sumT T a + sumT T b
  | [], b => by rw [List.nil_append, sumT_nil]; omega
  | x :: a, b => by rw [List.cons_append, sumT_cons, sumT_cons, sumT_append T a b]; omega
theorem sumT_one (T : Nat → Int) (a : Nat) : sumT T [a] = T a := by rw [sumT_cons, sumT_nil]; omega
theorem sumT_nonneg {T : Nat → Int} : ∀ {l : List Nat}, (∀ i ∈ l, 0 ≤ T i) → 0 ≤ sumT T l
  | [], _ => by rw [sumT_nil]; exact Int.le_refl 0
  | a :: l, h => by
    have h1 := h a List.mem_cons_self
    have h2 := sumT_nonneg fun i hi => h i (List.mem_cons_of_mem a hi)
    rw [sumT_cons]
    omega
theorem sumT_perm {T : Nat → Int} {a b : List Nat} (h : a.Perm b) : sumT T a = sumT T b := by
  induction h with
  | nil => rfl
  | cons x _ ih => rw [sumT_cons, sumT_cons, ih]
  | swap x y l => rw [sumT_cons, sumT_cons, sumT_cons, sumT_cons]; omega
  | trans _ _ ih1 ih2 => rw [ih1, ih2]
theorem sumT_filter_le {T : Nat → Int} (p : Nat → Bool) : ∀ {l : List Nat}, (∀ i ∈ l, 0 ≤ T i) → sumT T (l.filter p) ≤ sumT T l
  | [], _ => Int.le_refl _
  | a :: l, h => by
    have h1 := h a List.mem_cons_self
    have h2 := sumT_filter_le p (l := l) fun i hi => h i (List.mem_cons_of_mem a hi)
    rw [List.filter_cons]
    split
    · rw [sumT_cons, sumT_cons]; omega
    · rw [sumT_cons]; omega

/-! ### the order by due days -/
def ele (D : Nat → Int) (i j : Nat) : Bool := decide (D i < D j) || (decide (D i = D j) && decide (i ≤ j))
theorem ele_iff {D : Nat → Int} {i j : Nat} : ele D i j = true ↔ (D i < D j ∨ (D i = D j ∧ i ≤ j)) := by
  unfold ele
  simp only [Bool.or_eq_true, Bool.and_eq_true, decide_eq_true_eq]
theorem ele_refl {D : Nat → Int} (i : Nat) : ele D i i = true := ele_iff.mpr (.inr ⟨rfl, Nat.le_refl _⟩)
theorem ele_trans {D : Nat → Int} {i j k : Nat} (h1 : ele D i j = true) (h2 : ele D j k = true) : ele D i k = true := by
  rw [ele_iff] at *
  omega
theorem ele_anti {D : Nat → Int} {i j : Nat} (h1 : ele D i j = true) (h2 : ele D j i = true) : i = j := by
  rw [ele_iff] at *
  omega
theorem ele_total {D : Nat → Int} (i j : Nat) : ele D i j = true ∨ ele D j i = true := by
  rw [ele_iff, ele_iff]
  omega
theorem ele_le {D : Nat → Int} {i j : Nat} (h : ele D i j = true) : D i ≤ D j := by
  rw [ele_iff] at h
  omega
abbrev Srt (D : Nat → Int) (e : List Nat) : Prop := e.Pairwise fun a b => ele D a b = true

/-! ### ends -/
def endAt (T : Nat → Int) : List Nat → Nat → Int
  | [], _ => 0
  | a :: r, i => if i = a then T a else T a + endAt T r i
theorem endAt_self (T : Nat → Int) (a : Nat) (r : List Nat) : endAt T (a :: r) a = T a := if_pos rfl
theorem endAt_ne (T : Nat → Int) {a i : Nat} (r : List Nat) (h : i ≠ a) : endAt T (a :: r) i = T a + endAt T r i := if_neg h
theorem endAt_append (T : Nat → Int) : ∀ (l r : List Nat) (i : Nat), i ∈ l → endAt T (l ++ r) i = endAt T l i
  | [], _, _, h => by cases h
  | a :: l, r, i, h => by
    rw [List.cons_append]
    by_cases e : i = a
    · subst e; rw [endAt_self, endAt_self]
    · rw [endAt_ne T _ e, endAt_ne T _ e, endAt_append T l r i ((List.mem_cons.mp h).resolve_left e)]
theorem endAt_append_r (T : Nat → Int) : ∀ (l r : List Nat) (i : Nat), i ∉ l → endAt T (l ++ r) i = sumT T l + endAt T r i
  | [], r, i, _ => by rw [List.nil_append, sumT_nil]; omega
  | a :: l, r, i, h => by
    have h1 : i ≠ a := fun e => h (e ▸ List.mem_cons_self)
    have h2 : i ∉ l := fun e => h (List.mem_cons_of_mem a e)
    rw [List.cons_append, endAt_ne T _ h1, endAt_append_r T l r i h2, sumT_cons]
    omega
/-- of the jobs that p tells one ends so late that all of them were done -/
theorem lemA {T : Nat → Int} {p : Nat → Bool} : ∀ {o : List Nat}, o.Nodup → (∀ i ∈ o, 0 ≤ T i) → o.filter p ≠ [] → ∃ k, k ∈ o ∧ p k = true ∧ sumT T (o.filter p) ≤ endAt T o k
  | [], _, _, h => absurd rfl h
  | a :: r, hn, hT, h => by
    rw [List.nodup_cons] at hn
    have hTr : ∀ i ∈ r, 0 ≤ T i := fun i hi => hT i (List.mem_cons_of_mem a hi)
    have hTa := hT a List.mem_cons_self
    by_cases hr : r.filter p = []
    · have pa : p a = true := by
        cases hp : p a with
        | true => rfl
        | false =>
          rw [List.filter_cons_of_neg (by rw [hp]; decide)] at h
          exact absurd hr h
      refine ⟨a, List.mem_cons_self, pa, ?_⟩
      rw [List.filter_cons_of_pos pa, hr, sumT_one, endAt_self]
      exact Int.le_refl _
    · obtain ⟨k, hk, pk, hs⟩ := lemA hn.2 hTr hr
      have hka : k ≠ a := fun e => hn.1 (e ▸ hk)
      refine ⟨k, List.mem_cons_of_mem a hk, pk, ?_⟩
      rw [endAt_ne T r hka, List.filter_cons]
      split
      · rw [sumT_cons]; omega
      · omega
theorem filter_nil_of {α : Type} {p : α → Bool} : ∀ {l : List α}, (∀ x ∈ l, p x = false) → l.filter p = []
  | [], _ => rfl
  | a :: l, h => by
    rw [List.filter_cons_of_neg (by rw [h a List.mem_cons_self]; decide)]
    exact filter_nil_of fun x hx => h x (List.mem_cons_of_mem a hx)
theorem filter_all_of {α : Type} {p : α → Bool} : ∀ {l : List α}, (∀ x ∈ l, p x = true) → l.filter p = l
  | [], _ => rfl
  | a :: l, h => by
    rw [List.filter_cons_of_pos (h a List.mem_cons_self), filter_all_of fun x hx => h x (List.mem_cons_of_mem a hx)]
theorem filter_cong {α : Type} {p q : α → Bool} : ∀ {l : List α}, (∀ x ∈ l, p x = q x) → l.filter p = l.filter q
  | [], _ => rfl
  | a :: l, h => by
    have h1 := h a List.mem_cons_self
    have h2 := filter_cong (l := l) fun x hx => h x (List.mem_cons_of_mem a hx)
    rw [List.filter_cons, List.filter_cons, h1, h2]
theorem lemB {T D : Nat → Int} : ∀ {e : List Nat}, e.Nodup → Srt D e → ∀ j, j ∈ e → endAt T e j = sumT T (e.filter fun i => ele D i j)
  | [], _, _, _, h => by cases h
  | a :: r, hn, hs, j, hj => by
    have hn' := List.nodup_cons.mp hn
    have hs' := List.pairwise_cons.mp hs
    by_cases e : j = a
    · subst e
      rw [endAt_self, List.filter_cons, if_pos (ele_refl j), filter_nil_of, sumT_one]
      intro i hi
      cases q : ele D i j with
      | false => rfl
      | true => exact absurd (ele_anti (hs'.1 i hi) q ▸ hi) hn'.1
    · have hjr : j ∈ r := (List.mem_cons.mp hj).resolve_left e
      rw [endAt_ne T r e, List.filter_cons, if_pos (hs'.1 j hjr), sumT_cons, lemB hn'.2 hs'.2 j hjr]

/-! ### least lateness -/
theorem edd_le {T D : Nat → Int} {e o : List Nat} (hp : o.Perm e) (hn : e.Nodup) (hs : Srt D e) (hT : ∀ i ∈ e, 0 ≤ T i) {j : Nat} (hj : j ∈ e) : ∃ k, k ∈ e ∧ endAt T e j - D j ≤ endAt T o k - D k := by
  have hno : o.Nodup := hp.nodup_iff.mpr hn
  have hTo : ∀ i ∈ o, 0 ≤ T i := fun i hi => hT i (hp.mem_iff.mp hi)
  have hne : o.filter (fun i => ele D i j) ≠ [] := fun z => by
    have : j ∈ o.filter (fun i => ele D i j) := List.mem_filter.mpr ⟨hp.mem_iff.mpr hj, ele_refl j⟩
    rw [z] at this
    cases this
  obtain ⟨k, hk, pk, hle⟩ := lemA hno hTo hne
  have e1 := sumT_perm (T := T) (hp.filter fun i => ele D i j)
  have e2 := lemB (T := T) hn hs j hj
  have hd := ele_le pk
  exact ⟨k, hp.mem_iff.mp hk, by omega⟩

/-! ### sets of jobs that can be on time -/
def feas (T D : Nat → Int) (A : List Nat) : Prop := ∀ j ∈ A, sumT T (A.filter fun i => ele D i j) ≤ D j
def onT (T D : Nat → Int) (o : List Nat) : List Nat := o.filter fun i => decide (endAt T o i ≤ D i)
theorem feas_onT {T D : Nat → Int} {o : List Nat} (hn : o.Nodup) (hT : ∀ i ∈ o, 0 ≤ T i) : feas T D (onT T D o) := by
  intro j hj
  unfold onT at *
  have hj' := List.mem_filter.mp hj
  rw [List.filter_filter]
  have hne : o.filter (fun i => ele D i j && decide (endAt T o i ≤ D i)) ≠ [] := fun z => by
    have : j ∈ o.filter (fun i => ele D i j && decide (endAt T o i ≤ D i)) := List.mem_filter.mpr ⟨hj'.1, by rw [ele_refl, hj'.2]; rfl⟩
    rw [z] at this
    cases this
  obtain ⟨k, hk, pk, hle⟩ := lemA hn hT hne
  rw [Bool.and_eq_true, decide_eq_true_eq] at pk
  have hd := ele_le pk.1
  omega
theorem feas_filter {T D : Nat → Int} {A : List Nat} (q : Nat → Bool) (h : feas T D A) (hT : ∀ i ∈ A, 0 ≤ T i) : feas T D (A.filter q) := by
  intro j hj
  have h1 := h j (List.mem_filter.mp hj).1
  have e : (A.filter q).filter (fun i => ele D i j) = (A.filter fun i => ele D i j).filter q := by
    rw [List.filter_filter, List.filter_filter]
    exact filter_cong fun x _ => Bool.and_comm ..
  rw [e]
  have h2 := sumT_filter_le (T := T) q (l := A.filter fun i => ele D i j) fun i hi => hT i (List.mem_filter.mp hi).1
  omega
theorem feas_perm {T D : Nat → Int} {A B : List Nat} (hp : A.Perm B) (h : feas T D A) : feas T D B := by
  intro j hj
  rw [← sumT_perm (hp.filter fun i => ele D i j)]
  exact h j (hp.mem_iff.mpr hj)
/-- in a row sorted by due days: each job ends in time -/
theorem feas_ends {T D : Nat → Int} {K : List Nat} (hn : K.Nodup) (hs : Srt D K) : feas T D K ↔ ∀ i ∈ K, endAt T K i ≤ D i :=
  ⟨fun h i hi => by rw [lemB hn hs i hi]; exact h i hi, fun h i hi => by rw [← lemB hn hs i hi]; exact h i hi⟩

/-! ### small facts of lists without repeats -/
theorem erase_perm {a : Nat} : ∀ {l : List Nat}, l.Nodup → a ∈ l → l.Perm (a :: l.filter fun x => x != a)
  | [], _, h => by cases h
  | b :: l, hn, h => by
    have hn' := List.nodup_cons.mp hn
    by_cases e : a = b
    · subst e
      rw [List.filter_cons_of_neg (by simp), filter_all_of]
      intro x hx
      have : x ≠ a := fun e => hn'.1 (e ▸ hx)
      simpa using this
    · have ha : a ∈ l := (List.mem_cons.mp h).resolve_left e
      rw [List.filter_cons_of_pos (by simpa using fun z => e z.symm)]
      exact ((erase_perm hn'.2 ha).cons b).trans (List.Perm.swap a b _)
theorem sub_len : ∀ {A B : List Nat}, A.Nodup → (∀ x ∈ A, x ∈ B) → B.Nodup → A.length ≤ B.length
  | [], _, _, _, _ => Nat.zero_le _
  | a :: A, B, hn, h, hB => by
    have hn' := List.nodup_cons.mp hn
    have p := erase_perm hB (h a List.mem_cons_self)
    have hl := p.length_eq
    have ih := sub_len (A := A) (B := B.filter fun x => x != a) hn'.2 (fun x hx => List.mem_filter.mpr ⟨h x (List.mem_cons_of_mem a hx), by
      have : x ≠ a := fun e => hn'.1 (e ▸ hx)
      simpa using this⟩) (hB.sublist List.filter_sublist)
    rw [List.length_cons] at hl ⊢
    omega
theorem perm_of {A B : List Nat} : A.Nodup → B.Nodup → (∀ x ∈ A, x ∈ B) → (∀ x ∈ B, x ∈ A) → A.Perm B := by
  induction A generalizing B with
  | nil =>
    intro _ _ _ h
    cases B with
    | nil => exact .nil
    | cons b B => exact absurd (h b List.mem_cons_self) (by simp)
  | cons a A ih =>
    intro hn hB h1 h2
    have hn' := List.nodup_cons.mp hn
    have p := erase_perm hB (h1 a List.mem_cons_self)
    refine (List.Perm.cons a (ih hn'.2 (hB.sublist List.filter_sublist) (fun x hx => ?_) fun x hx => ?_)).trans p.symm
    · refine List.mem_filter.mpr ⟨h1 x (List.mem_cons_of_mem a hx), ?_⟩
      have : x ≠ a := fun e => hn'.1 (e ▸ hx)
      simpa using this
    · have hx' := List.mem_filter.mp hx
      have : x ≠ a := by simpa using hx'.2
      exact (List.mem_cons.mp (h2 x hx'.1)).resolve_left this

/-! ### the fewest late jobs (J. Moore, T. Hodgson) -/
structure MInv (T D : Nat → Int) (pre K : List Nat) : Prop where
  sub : K.Sublist pre
  ok : feas T D K
  best : ∀ A : List Nat, A.Nodup → (∀ i ∈ A, i ∈ pre) → feas T D A → ∃ B : List Nat, B.Nodup ∧ (∀ i ∈ B, i ∈ K) ∧ B.length = A.length ∧ sumT T B ≤ sumT T A
theorem minv_nil (T D : Nat → Int) : MInv T D [] [] := by
  refine ⟨.slnil, (fun j hj => nomatch hj), fun A _ h _ => ⟨[], List.nodup_nil, fun _ h => h, ?_, ?_⟩⟩
  · cases A with
    | nil => rfl
    | cons a A => exact absurd (h a List.mem_cons_self) (by simp)
  · cases A with
    | nil => exact Int.le_refl _
    | cons a A => exact absurd (h a List.mem_cons_self) (by simp)
section
variable {T D : Nat → Int} {pre K : List Nat} {j : Nat}
theorem snoc_nd (hn : (pre ++ [j]).Nodup) : pre.Nodup ∧ j ∉ pre := by
  rw [List.nodup_append] at hn
  exact ⟨hn.1, fun h => hn.2.2 j h j (List.mem_singleton.mpr rfl) rfl⟩
theorem snoc_srt (hs : Srt D (pre ++ [j])) : Srt D pre ∧ ∀ i ∈ pre, ele D i j = true := by
  have h := List.pairwise_append.mp hs
  exact ⟨h.1, fun i hi => h.2.2 i hi j (List.mem_singleton.mpr rfl)⟩
theorem feas_snoc (hn : (pre ++ [j]).Nodup) (hs : Srt D (pre ++ [j])) (hsub : K.Sublist pre) : ∀ i ∈ K, (K ++ [j]).filter (fun x => ele D x i) = K.filter fun x => ele D x i := by
  intro i hi
  have hip := hsub.subset hi
  have h1 := (snoc_srt hs).2 i hip
  have h2 : ele D j i = false := by
    cases q : ele D j i with
    | false => rfl
    | true => exact absurd (ele_anti h1 q ▸ hip) (snoc_nd hn).2
  rw [List.filter_append, List.filter_cons_of_neg (by rw [h2]; decide), List.filter_nil, List.append_nil]
theorem filt_last (hs : Srt D (pre ++ [j])) {A : List Nat} (h : ∀ i ∈ A, i ∈ pre ++ [j]) : A.filter (fun x => ele D x j) = A := by
  refine filter_all_of fun x hx => ?_
  rcases List.mem_append.mp (h x hx) with q | q
  · exact (snoc_srt hs).2 x q
  · rw [List.mem_singleton.mp q]
    exact ele_refl j
theorem step_best (M : MInv T D pre K) (hn : (pre ++ [j]).Nodup) (hT : ∀ i ∈ pre ++ [j], 0 ≤ T i) {A : List Nat} (hA : A.Nodup) (hAp : ∀ i ∈ A, i ∈ pre ++ [j]) (hf : feas T D A) :
    ∃ B : List Nat, B.Nodup ∧ (∀ i ∈ B, i ∈ K ++ [j]) ∧ B.length = A.length ∧ sumT T B ≤ sumT T A ∧ (j ∉ A → ∀ i ∈ B, i ∈ K) := by
  by_cases hj : j ∈ A
  · have p := erase_perm hA hj
    obtain ⟨B, b1, b2, b3, b4⟩ := M.best (A.filter fun x => x != j) (hA.sublist List.filter_sublist) (fun i hi => by
      have hi' := List.mem_filter.mp hi
      have h2 : i ≠ j := by simpa using hi'.2
      rcases List.mem_append.mp (hAp i hi'.1) with q | q
      · exact q
      · exact absurd (List.mem_singleton.mp q) h2) (feas_filter _ hf fun i hi => hT i (hAp i hi))
    refine ⟨j :: B, List.nodup_cons.mpr ⟨fun h => (snoc_nd hn).2 (M.sub.subset (b2 j h)), b1⟩, fun i hi => ?_, ?_, ?_, fun h => absurd hj h⟩
    · rcases List.mem_cons.mp hi with e | e
      · rw [e]; exact List.mem_append_right _ (List.mem_singleton.mpr rfl)
      · exact List.mem_append_left _ (b2 i e)
    · rw [p.length_eq, List.length_cons, List.length_cons, b3]
    · rw [sumT_perm p, sumT_cons, sumT_cons]
      omega
  · obtain ⟨B, b1, b2, b3, b4⟩ := M.best A hA (fun i hi => by
      rcases List.mem_append.mp (hAp i hi) with q | q
      · exact q
      · exact absurd (List.mem_singleton.mp q ▸ hi) hj) hf
    exact ⟨B, b1, fun i hi => List.mem_append_left _ (b2 i hi), b3, b4, fun _ => b2⟩
theorem minv_keep (M : MInv T D pre K) (hn : (pre ++ [j]).Nodup) (hs : Srt D (pre ++ [j])) (hT : ∀ i ∈ pre ++ [j], 0 ≤ T i) (hle : sumT T (K ++ [j]) ≤ D j) : MInv T D (pre ++ [j]) (K ++ [j]) := by
  refine ⟨M.sub.append (List.Sublist.refl _), fun i hi => ?_, fun A hA hAp hf => ?_⟩
  · rcases List.mem_append.mp hi with q | q
    · rw [feas_snoc hn hs M.sub i q]
      exact M.ok i q
    · rw [List.mem_singleton.mp q, filt_last hs fun x hx => (M.sub.append (List.Sublist.refl [j])).subset hx]
      exact hle
  · obtain ⟨B, b1, b2, b3, b4, _⟩ := step_best M hn hT hA hAp hf
    exact ⟨B, b1, b2, b3, b4⟩
theorem sum_le_last (hsub : K.Sublist pre) (hs : Srt D (pre ++ [j])) (hf : feas T D K) (hne : K ≠ []) : sumT T K ≤ D j := by
  have hK : Srt D K := (snoc_srt hs).1.sublist hsub
  have hl := List.getLast_mem hne
  have e : K.filter (fun x => ele D x (K.getLast hne)) = K := by
    refine filter_all_of fun x hx => ?_
    have hK' : Srt D (K.dropLast ++ [K.getLast hne]) := by rw [List.dropLast_concat_getLast]; exact hK
    have hx' : x ∈ K.dropLast ++ [K.getLast hne] := by rw [List.dropLast_concat_getLast]; exact hx
    rcases List.mem_append.mp hx' with q | q
    · exact (snoc_srt hK').2 x q
    · rw [List.mem_singleton.mp q]; exact ele_refl _
  have h1 := hf _ hl
  rw [e] at h1
  have h2 := ele_le ((snoc_srt hs).2 _ (hsub.subset hl))
  omega
theorem minv_drop (M : MInv T D pre K) (hn : (pre ++ [j]).Nodup) (hs : Srt D (pre ++ [j])) (hT : ∀ i ∈ pre ++ [j], 0 ≤ T i) (hgt : D j < sumT T (K ++ [j])) {x : Nat} (hx : x ∈ K ++ [j]) (hmax : ∀ y ∈ K ++ [j], T y ≤ T x) :
    MInv T D (pre ++ [j]) ((K ++ [j]).filter fun y => y != x) := by
  have hsub1 : (K ++ [j]).Sublist (pre ++ [j]) := M.sub.append (List.Sublist.refl _)
  have hn1 : (K ++ [j]).Nodup := hn.sublist hsub1
  have hT1 : ∀ i ∈ K ++ [j], 0 ≤ T i := fun i hi => hT i (hsub1.subset hi)
  have px := erase_perm hn1 hx
  have sx := sumT_perm (T := T) px
  rw [sumT_cons, sumT_append, sumT_one] at sx
  refine ⟨List.filter_sublist.trans hsub1, fun i hi => ?_, fun A hA hAp hf => ?_⟩
  · have hi' := List.mem_filter.mp hi
    have hix : i ≠ x := by simpa using hi'.2
    rcases List.mem_append.mp hi'.1 with q | q
    · have e : ((K ++ [j]).filter fun y => y != x).filter (fun z => ele D z i) = (K.filter fun z => ele D z i).filter fun y => y != x := by
        rw [← feas_snoc hn hs M.sub i q, List.filter_filter, List.filter_filter]
        exact filter_cong fun z _ => Bool.and_comm ..
      rw [e]
      have h1 := M.ok i q
      have h2 := sumT_filter_le (T := T) (fun y => y != x) (l := K.filter fun z => ele D z i) fun k hk => hT1 k (List.mem_append_left _ (List.mem_filter.mp hk).1)
      omega
    · have ej := List.mem_singleton.mp q
      subst ej
      rw [filt_last hs fun y hy => hsub1.subset (List.mem_filter.mp hy).1]
      have hm := hmax i (List.mem_append_right _ (List.mem_singleton.mpr rfl))
      have hne : K ≠ [] := fun z => by
        rw [z] at hx
        rcases List.mem_append.mp hx with h | h
        · cases h
        · exact hix (List.mem_singleton.mp h).symm
      have hl := sum_le_last M.sub hs M.ok hne
      omega
  · obtain ⟨B, b1, b2, b3, b4, b5⟩ := step_best M hn hT hA hAp hf
    by_cases hxB : x ∈ B
    · by_cases hall : ∀ y ∈ K ++ [j], y ∈ B
      · exfalso
        have pB := sumT_perm (T := T) (perm_of b1 hn1 b2 hall)
        have hjB := hall j (List.mem_append_right _ (List.mem_singleton.mpr rfl))
        have hjA : j ∈ A := by
          refine Decidable.byContradiction fun h => ?_
          exact (snoc_nd hn).2 (M.sub.subset (b5 h j hjB))
        have h1 := hf j hjA
        rw [filt_last hs hAp] at h1
        omega
      · obtain ⟨y, hy, hyB⟩ : ∃ y, y ∈ K ++ [j] ∧ y ∉ B := by
          refine Classical.byContradiction fun h => hall fun y hy => Classical.byContradiction fun h2 => h ⟨y, hy, h2⟩
        have p2 := erase_perm b1 hxB
        have s2 := sumT_perm (T := T) p2
        have l2 := p2.length_eq
        have hyx : y ≠ x := fun e => hyB (e ▸ hxB)
        have hm := hmax y hy
        rw [sumT_cons] at s2
        rw [List.length_cons] at l2
        refine ⟨y :: B.filter fun z => z != x, List.nodup_cons.mpr ⟨fun h => hyB (List.mem_filter.mp h).1, b1.sublist List.filter_sublist⟩, fun i hi => ?_, ?_, ?_⟩
        · rcases List.mem_cons.mp hi with e | e
          · rw [e]
            exact List.mem_filter.mpr ⟨hy, by simpa using hyx⟩
          · have e' := List.mem_filter.mp e
            exact List.mem_filter.mpr ⟨b2 i e'.1, e'.2⟩
        · rw [List.length_cons]; omega
        · rw [sumT_cons]; omega
    · refine ⟨B, b1, fun i hi => List.mem_filter.mpr ⟨b2 i hi, ?_⟩, b3, b4⟩
      have : i ≠ x := fun e => hxB (e ▸ hi)
      simpa using this
end

/-! ### what the law reckons of an order: late jobs, their number, their weight -/
def lateL (T D : Nat → Int) (n : Nat) (o : List Nat) : List Nat := (List.range n).filter fun i => decide (D i < endAt T o i)
theorem late_count {T D : Nat → Int} {n : Nat} {o : List Nat} (hp : o.Perm (List.range n)) : (lateL T D n o).length + (onT T D o).length = n := by
  unfold lateL onT
  have e := (hp.filter fun i => decide (endAt T o i ≤ D i)).length_eq
  rw [e]
  have h : ∀ l : List Nat, (l.filter fun i => decide (D i < endAt T o i)).length + (l.filter fun i => decide (endAt T o i ≤ D i)).length = l.length := fun l => by
    induction l with
    | nil => rfl
    | cons a l ih =>
      by_cases q : D a < endAt T o a
      · have q2 : ¬ endAt T o a ≤ D a := by omega
        rw [List.filter_cons, List.filter_cons, if_pos (decide_eq_true q), if_neg (by rw [decide_eq_false q2]; decide), List.length_cons, List.length_cons]
        omega
      · have q2 : endAt T o a ≤ D a := by omega
        rw [List.filter_cons, List.filter_cons, if_neg (by rw [decide_eq_false q]; decide), if_pos (decide_eq_true q2), List.length_cons, List.length_cons]
        omega
  rw [h, List.length_range]
theorem moore_least {T D : Nat → Int} {n : Nat} {e K R o : List Nat} (hpe : e.Perm (List.range n)) (hs : Srt D e) (hT : ∀ i ∈ e, 0 ≤ T i) (M : MInv T D e K) (hpR : (K ++ R).Perm (List.range n)) (hp : o.Perm (List.range n)) :
    (lateL T D n (K ++ R)).length ≤ (lateL T D n o).length := by
  have hne : e.Nodup := hpe.nodup_iff.mpr List.nodup_range
  have hno : o.Nodup := hp.nodup_iff.mpr List.nodup_range
  have hnR : (K ++ R).Nodup := hpR.nodup_iff.mpr List.nodup_range
  have hKn : K.Nodup := hne.sublist M.sub
  have hToe : ∀ i ∈ o, i ∈ e := fun i hi => hpe.mem_iff.mpr (hp.mem_iff.mp hi)
  have c1 := late_count (T := T) (D := D) hp
  have c2 := late_count (T := T) (D := D) hpR
  have hsub : (onT T D o).Sublist o := List.filter_sublist
  obtain ⟨B, b1, b2, b3, b4⟩ := M.best (onT T D o) (hno.sublist hsub) (fun i hi => hToe i (hsub.subset hi)) (feas_onT hno fun i hi => hT i (hToe i hi))
  have h1 := sub_len b1 b2 hKn
  have h2 : K.length ≤ (onT T D (K ++ R)).length := by
    refine sub_len hKn (fun x hx => ?_) (hnR.sublist List.filter_sublist)
    refine List.mem_filter.mpr ⟨List.mem_append_left _ hx, decide_eq_true ?_⟩
    rw [endAt_append T K R x hx]
    exact (feas_ends hKn (hs.sublist M.sub)).mp M.ok x hx
  omega

/-! ### the least weight of late jobs: rows by the day -/
abbrev Row := Int × List Nat
abbrev Rows := List (Int × Row)
def lookR (m : Rows) (k : Int) : Option Row := (m.find? fun kv => decide (kv.1 = k)).map (·.2)
def putR (m : Rows) (k : Int) (r : Row) : Rows := if (m.any fun kv => decide (kv.1 = k)) = true then m.map (fun kv => if kv.1 = k then (kv.1, r) else kv) else m ++ [(k, r)]
def ups (lt : Row → Row → Bool) (m : Rows) (k : Int) (r : Row) : Rows :=
  match lookR m k with
  | none => putR m k r
  | some q => if lt r q = true then putR m k r else m
def opts (T W D : Nat → Int) (j : Nat) (x : Int × Row) : Rows :=
  (x.1, (x.2.1 + W j, x.2.2)) :: (if x.1 + T j ≤ D j then [(x.1 + T j, (x.2.1, x.2.2 ++ [j]))] else [])
def stepO (lt : Row → Row → Bool) (m : Rows) (os : Rows) : Rows := os.foldl (fun m o => ups lt m o.1 o.2) m
def stepJ (lt : Row → Row → Bool) (T W D : Nat → Int) (rows : Rows) (j : Nat) : Rows := rows.foldl (fun m x => stepO lt m (opts T W D j x)) []
def dp (lt : Row → Row → Bool) (T W D : Nat → Int) (e : List Nat) : Rows := e.foldl (stepJ lt T W D) [(0, (0, []))]
/-- a row that is less has no greater weight, one that isn't, no less -/
structure LtOk (lt : Row → Row → Bool) : Prop where
  yes : ∀ p q, lt p q = true → p.1 ≤ q.1
  no : ∀ p q, lt p q = false → q.1 ≤ p.1
def KeysNd (m : Rows) : Prop := (m.map (·.1)).Nodup
theorem look_none {m : Rows} {k : Int} (h : lookR m k = none) : ∀ x ∈ m, x.1 ≠ k := by
  intro x hx e
  unfold lookR at h
  rw [Option.map_eq_none_iff, List.find?_eq_none] at h
  exact h x hx (decide_eq_true e)
theorem look_some {m : Rows} {k : Int} {q : Row} (h : lookR m k = some q) : (k, q) ∈ m := by
  unfold lookR at h
  obtain ⟨x, hx, e⟩ := Option.map_eq_some_iff.mp h
  have h1 := List.mem_of_find?_eq_some hx
  have h2 : x.1 = k := by
    have h3 := List.find?_some hx
    simpa using h3
  rw [← h2, ← e]
  exact h1
theorem put_none {m : Rows} {k : Int} (r : Row) (h : lookR m k = none) : putR m k r = m ++ [(k, r)] := by
  unfold putR
  rw [if_neg]
  intro hc
  obtain ⟨x, hx, e⟩ := List.any_eq_true.mp hc
  exact look_none h x hx (of_decide_eq_true e)
theorem put_some {m : Rows} {k : Int} {q : Row} (r : Row) (h : lookR m k = some q) : putR m k r = m.map (fun kv => if kv.1 = k then (kv.1, r) else kv) := by
  unfold putR
  rw [if_pos]
  exact List.any_eq_true.mpr ⟨(k, q), look_some h, decide_eq_true rfl⟩
theorem nd_unique {m : Rows} (hn : KeysNd m) {k : Int} {a b : Row} (ha : (k, a) ∈ m) (hb : (k, b) ∈ m) : a = b := by
  induction m with
  | nil => cases ha
  | cons x m ih =>
    have hn' : x.1 ∉ m.map (·.1) ∧ (m.map (·.1)).Nodup := by
      have hn0 : ((x :: m).map (·.1)).Nodup := hn
      rw [List.map_cons] at hn0
      exact List.nodup_cons.mp hn0
    rcases List.mem_cons.mp ha with e1 | e1
    · rcases List.mem_cons.mp hb with e2 | e2
      · rw [← e1] at e2
        exact (congrArg Prod.snd e2).symm
      · exact absurd (List.mem_map.mpr ⟨(k, b), e2, (congrArg Prod.fst e1 : k = x.1)⟩) hn'.1
    · rcases List.mem_cons.mp hb with e2 | e2
      · exact absurd (List.mem_map.mpr ⟨(k, a), e1, (congrArg Prod.fst e2 : k = x.1)⟩) hn'.1
      · exact ih hn'.2 e1 e2
theorem map_keys (m : Rows) (k : Int) (r : Row) : (m.map (fun kv => if kv.1 = k then (kv.1, r) else kv)).map (·.1) = m.map (·.1) := by
  rw [List.map_map]
  refine List.map_congr_left fun x _ => ?_
  show (if x.1 = k then (x.1, r) else x).1 = x.1
  split <;> rfl
section
variable {lt : Row → Row → Bool} {m : Rows} {k : Int} {r : Row}
theorem ups_nd (hn : KeysNd m) : KeysNd (ups lt m k r) := by
  unfold ups
  cases h : lookR m k with
  | none =>
    show KeysNd (putR m k r)
    rw [put_none r h]
    unfold KeysNd
    rw [List.map_append, List.nodup_append]
    refine ⟨hn, by simp, fun a ha b hb e => ?_⟩
    obtain ⟨x, hx, e1⟩ := List.mem_map.mp ha
    have e2 : b = k := by simpa using hb
    exact look_none h x hx (e1.trans (e.trans e2))
  | some q =>
    show KeysNd (if lt r q = true then putR m k r else m)
    split
    · rw [put_some r h]
      unfold KeysNd
      rw [map_keys]
      exact hn
    · exact hn
theorem ups_len : (ups lt m k r).length ≤ m.length + 1 := by
  unfold ups
  cases h : lookR m k with
  | none =>
    show (putR m k r).length ≤ _
    rw [put_none r h, List.length_append]
    exact Nat.le_refl _
  | some q =>
    show (if lt r q = true then putR m k r else m).length ≤ _
    split
    · rw [put_some r h, List.length_map]
      omega
    · omega
theorem ups_mem {x : Int × Row} (hx : x ∈ ups lt m k r) : x ∈ m ∨ x = (k, r) := by
  unfold ups at hx
  cases h : lookR m k with
  | none =>
    rw [h] at hx
    have hx : x ∈ putR m k r := hx
    rw [put_none r h] at hx
    rcases List.mem_append.mp hx with q | q
    · exact .inl q
    · exact .inr (List.mem_singleton.mp q)
  | some q =>
    rw [h] at hx
    have hx : x ∈ (if lt r q = true then putR m k r else m) := hx
    split at hx
    · rw [put_some r h] at hx
      obtain ⟨y, hy, e⟩ := List.mem_map.mp hx
      split at e
      · rename_i hk
        rw [hk] at e
        exact .inr e.symm
      · exact .inl (e ▸ hy)
    · exact .inl hx
theorem ups_own (L : LtOk lt) : ∃ r', (k, r') ∈ ups lt m k r ∧ r'.1 ≤ r.1 := by
  unfold ups
  cases h : lookR m k with
  | none =>
    refine ⟨r, ?_, Int.le_refl _⟩
    show (k, r) ∈ putR m k r
    rw [put_none r h]
    exact List.mem_append_right _ (List.mem_singleton.mpr rfl)
  | some q =>
    cases hl : lt r q with
    | true =>
      refine ⟨r, ?_, Int.le_refl _⟩
      show (k, r) ∈ (if lt r q = true then putR m k r else m)
      rw [hl]
      rw [if_pos rfl, put_some r h]
      exact List.mem_map.mpr ⟨(k, q), look_some h, if_pos rfl⟩
    | false =>
      refine ⟨q, ?_, L.no _ _ hl⟩
      show (k, q) ∈ (if lt r q = true then putR m k r else m)
      rw [hl]
      rw [if_neg (by decide)]
      exact look_some h
theorem ups_dom (L : LtOk lt) (hn : KeysNd m) {k' : Int} {r' : Row} (hm : (k', r') ∈ m) : ∃ r'', (k', r'') ∈ ups lt m k r ∧ r''.1 ≤ r'.1 := by
  unfold ups
  cases h : lookR m k with
  | none =>
    refine ⟨r', ?_, Int.le_refl _⟩
    show (k', r') ∈ putR m k r
    rw [put_none r h]
    exact List.mem_append_left _ hm
  | some q =>
    cases hl : lt r q with
    | true =>
      by_cases e : k' = k
      · subst e
        have e2 := nd_unique hn hm (look_some h)
        refine ⟨r, ?_, by rw [e2]; exact L.yes _ _ hl⟩
        show (k', r) ∈ (if lt r q = true then putR m k' r else m)
        rw [hl]
        rw [if_pos rfl, put_some r h]
        exact List.mem_map.mpr ⟨(k', q), look_some h, if_pos rfl⟩
      · refine ⟨r', ?_, Int.le_refl _⟩
        show (k', r') ∈ (if lt r q = true then putR m k r else m)
        rw [hl]
        rw [if_pos rfl, put_some r h]
        exact List.mem_map.mpr ⟨(k', r'), hm, if_neg e⟩
    | false =>
      refine ⟨r', ?_, Int.le_refl _⟩
      show (k', r') ∈ (if lt r q = true then putR m k r else m)
      rw [hl]
      rw [if_neg (by decide)]
      exact hm
theorem stepO_all (L : LtOk lt) : ∀ (os : Rows) (m : Rows), KeysNd m → KeysNd (stepO lt m os) ∧ (∀ x ∈ stepO lt m os, x ∈ m ∨ x ∈ os) ∧ (∀ k r, (k, r) ∈ m ∨ (k, r) ∈ os → ∃ r', (k, r') ∈ stepO lt m os ∧ r'.1 ≤ r.1) ∧ (stepO lt m os).length ≤ m.length + os.length
  | [], m, hn => ⟨hn, fun x hx => .inl hx, fun k r h => ⟨r, h.elim id (fun z => by cases z), Int.le_refl _⟩, Nat.le_refl _⟩
  | o :: os, m, hn => by
    have e : stepO lt m (o :: os) = stepO lt (ups lt m o.1 o.2) os := rfl
    obtain ⟨h1, h2, h3, h4⟩ := stepO_all L os (ups lt m o.1 o.2) (ups_nd hn)
    rw [e]
    refine ⟨h1, fun x hx => ?_, fun k r h => ?_, ?_⟩
    · rcases h2 x hx with q | q
      · rcases ups_mem q with q | q
        · exact .inl q
        · exact .inr (by rw [q]; exact List.mem_cons_self)
      · exact .inr (List.mem_cons_of_mem o q)
    · have key : ∀ k r, (k, r) ∈ m ∨ (k, r) = o → ∃ r', (k, r') ∈ stepO lt (ups lt m o.1 o.2) os ∧ r'.1 ≤ r.1 := fun k r h => by
        obtain ⟨r1, a1, a2⟩ : ∃ r1, (k, r1) ∈ ups lt m o.1 o.2 ∧ r1.1 ≤ r.1 := by
          rcases h with h | h
          · exact ups_dom L hn h
          · rw [← h]
            exact ups_own L
        obtain ⟨r2, b1, b2⟩ := h3 k r1 (.inl a1)
        exact ⟨r2, b1, Int.le_trans b2 a2⟩
      rcases h with h | h
      · exact key k r (.inl h)
      · rcases List.mem_cons.mp h with h | h
        · exact key k r (.inr h)
        · exact h3 k r (.inr h)
    · have h5 := ups_len (lt := lt) (m := m) (k := o.1) (r := o.2)
      rw [List.length_cons]
      omega
end
theorem opts_len (T W D : Nat → Int) (j : Nat) (x : Int × Row) : (opts T W D j x).length ≤ 2 := by
  unfold opts
  split <;> simp
def foldJ (lt : Row → Row → Bool) (T W D : Nat → Int) (j : Nat) (m : Rows) (rows : Rows) : Rows := rows.foldl (fun m x => stepO lt m (opts T W D j x)) m
theorem foldJ_all {lt : Row → Row → Bool} {T W D : Nat → Int} {j : Nat} (L : LtOk lt) : ∀ (rows : Rows) (m : Rows), KeysNd m →
    KeysNd (foldJ lt T W D j m rows) ∧ (∀ x ∈ foldJ lt T W D j m rows, x ∈ m ∨ ∃ y ∈ rows, x ∈ opts T W D j y) ∧
    (∀ k r, ((k, r) ∈ m ∨ ∃ y ∈ rows, (k, r) ∈ opts T W D j y) → ∃ r', (k, r') ∈ foldJ lt T W D j m rows ∧ r'.1 ≤ r.1) ∧ (foldJ lt T W D j m rows).length ≤ m.length + 2 * rows.length
  | [], m, hn => ⟨hn, fun x hx => .inl hx, fun k r h => ⟨r, h.elim id (fun ⟨y, hy, _⟩ => by cases hy), Int.le_refl _⟩, Nat.le_refl _⟩
  | x :: rows, m, hn => by
    have e : foldJ lt T W D j m (x :: rows) = foldJ lt T W D j (stepO lt m (opts T W D j x)) rows := rfl
    obtain ⟨a1, a2, a3, a4⟩ := stepO_all L (opts T W D j x) m hn
    obtain ⟨h1, h2, h3, h4⟩ := foldJ_all L rows (stepO lt m (opts T W D j x)) a1
    rw [e]
    refine ⟨h1, fun z hz => ?_, fun k r h => ?_, ?_⟩
    · rcases h2 z hz with q | ⟨y, hy, q⟩
      · rcases a2 z q with q | q
        · exact .inl q
        · exact .inr ⟨x, List.mem_cons_self, q⟩
      · exact .inr ⟨y, List.mem_cons_of_mem x hy, q⟩
    · have low : (k, r) ∈ m ∨ (k, r) ∈ opts T W D j x → ∃ r', (k, r') ∈ foldJ lt T W D j (stepO lt m (opts T W D j x)) rows ∧ r'.1 ≤ r.1 := fun h => by
        obtain ⟨r1, b1, b2⟩ := a3 k r h
        obtain ⟨r2, c1, c2⟩ := h3 k r1 (.inl b1)
        exact ⟨r2, c1, Int.le_trans c2 b2⟩
      rcases h with h | ⟨y, hy, h⟩
      · exact low (.inl h)
      · rcases List.mem_cons.mp hy with e | hy
        · exact low (.inr (e ▸ h))
        · exact h3 k r (.inr ⟨y, hy, h⟩)
    · have h5 := opts_len T W D j x
      rw [List.length_cons]
      omega
theorem stepJ_eq (lt : Row → Row → Bool) (T W D : Nat → Int) (rows : Rows) (j : Nat) : stepJ lt T W D rows j = foldJ lt T W D j [] rows := rfl

def out (pre K : List Nat) : List Nat := pre.filter fun i => decide (i ∉ K)
structure DInv (T W D : Nat → Int) (pre : List Nat) (rows : Rows) : Prop where
  nd : KeysNd rows
  good : ∀ x ∈ rows, x.2.2.Sublist pre ∧ (∀ i ∈ x.2.2, endAt T x.2.2 i ≤ D i) ∧ sumT T x.2.2 = x.1 ∧ x.2.1 = sumT W (out pre x.2.2)
  best : ∀ A : List Nat, A.Sublist pre → (∀ i ∈ A, endAt T A i ≤ D i) → ∃ x ∈ rows, x.1 = sumT T A ∧ x.2.1 ≤ sumT W (out pre A)
theorem dinv_nil (T W D : Nat → Int) : DInv T W D [] [(0, (0, []))] := by
  refine ⟨List.pairwise_singleton _ _, fun x hx => ?_, fun A hA _ => ⟨(0, (0, [])), List.mem_singleton.mpr rfl, ?_, ?_⟩⟩
  · rw [List.mem_singleton.mp hx]
    exact ⟨.slnil, (fun i hi => nomatch hi), rfl, rfl⟩
  · rw [List.sublist_nil.mp hA]; rfl
  · exact Int.le_refl _
theorem out_snoc_no {pre K : List Nat} {j : Nat} (h : j ∉ K) : out (pre ++ [j]) K = out pre K ++ [j] := by
  unfold out
  rw [List.filter_append, List.filter_cons, if_pos (decide_eq_true h), List.filter_nil]
theorem out_snoc_yes {pre K : List Nat} {j : Nat} (h : j ∉ pre) : out (pre ++ [j]) (K ++ [j]) = out pre K := by
  unfold out
  rw [List.filter_append, List.filter_cons_of_neg (by simp), List.filter_nil, List.append_nil]
  refine filter_cong fun x hx => ?_
  have hxj : x ≠ j := fun e => h (e ▸ hx)
  simp [hxj]
theorem sub_snoc {pre A : List Nat} {j : Nat} (h : A.Sublist (pre ++ [j])) : A.Sublist pre ∨ ∃ A', A = A' ++ [j] ∧ A'.Sublist pre := by
  obtain ⟨l1, l2, e, h1, h2⟩ := List.sublist_append_iff.mp h
  cases l2 with
  | nil => exact .inl (by rw [e, List.append_nil]; exact h1)
  | cons a r =>
    have hl := h2.length_le
    have hr : r = [] := by
      cases r with
      | nil => rfl
      | cons b r => simp at hl
    rw [hr] at h2 e
    have ha : a = j := by simpa using h2.subset (List.mem_singleton.mpr rfl)
    exact .inr ⟨l1, by rw [e, ha], h1⟩
theorem dinv_step {lt : Row → Row → Bool} {T W D : Nat → Int} {pre : List Nat} {rows : Rows} {j : Nat} (L : LtOk lt) (I : DInv T W D pre rows) (hn : (pre ++ [j]).Nodup) : DInv T W D (pre ++ [j]) (stepJ lt T W D rows j) := by
  have hj := (snoc_nd hn).2
  obtain ⟨a1, a2, a3, _⟩ := foldJ_all (T := T) (W := W) (D := D) (j := j) L rows [] List.nodup_nil
  rw [stepJ_eq]
  refine ⟨a1, fun x hx => ?_, fun A hA hf => ?_⟩
  · rcases a2 x hx with q | ⟨y, hy, q⟩
    · cases q
    · obtain ⟨g1, g2, g3, g4⟩ := I.good y hy
      have hjK : j ∉ y.2.2 := fun h => hj (g1.subset h)
      unfold opts at q
      rcases List.mem_cons.mp q with e | e
      · rw [e]
        refine ⟨g1.trans (List.sublist_append_left _ _), g2, g3, ?_⟩
        show y.2.1 + W j = sumT W (out (pre ++ [j]) y.2.2)
        rw [out_snoc_no hjK, sumT_append, sumT_one, g4]
      · split at e
        · rename_i hle
          rw [List.mem_singleton.mp e]
          refine ⟨g1.append (List.Sublist.refl _), fun i hi => ?_, ?_, ?_⟩
          · rcases List.mem_append.mp (show i ∈ y.2.2 ++ [j] from hi) with q | q
            · show endAt T (y.2.2 ++ [j]) i ≤ D i
              rw [endAt_append T _ _ i q]
              exact g2 i q
            · have e2 := List.mem_singleton.mp q
              subst e2
              show endAt T (y.2.2 ++ [i]) i ≤ D i
              rw [endAt_append_r T _ _ i hjK, endAt_self, g3]
              exact hle
          · show sumT T (y.2.2 ++ [j]) = y.1 + T j
            rw [sumT_append, sumT_one, g3]
          · show y.2.1 = sumT W (out (pre ++ [j]) (y.2.2 ++ [j]))
            rw [out_snoc_yes hj, g4]
        · cases e
  · rcases sub_snoc hA with hA1 | ⟨A', rfl, hA1⟩
    · have hjA : j ∉ A := fun h => hj (hA1.subset h)
      obtain ⟨x, hx, e1, e2⟩ := I.best A hA1 hf
      obtain ⟨r', h1, h2⟩ := a3 x.1 (x.2.1 + W j, x.2.2) (.inr ⟨x, hx, List.mem_cons_self⟩)
      refine ⟨(x.1, r'), h1, e1, ?_⟩
      rw [out_snoc_no hjA, sumT_append, sumT_one]
      have h2 : r'.1 ≤ x.2.1 + W j := h2
      show r'.1 ≤ _
      omega
    · have hjA : j ∉ A' := fun h => hj (hA1.subset h)
      have hf' : ∀ i ∈ A', endAt T A' i ≤ D i := fun i hi => by
        have h := hf i (List.mem_append_left _ hi)
        rw [endAt_append T _ _ i hi] at h
        exact h
      have hfj := hf j (List.mem_append_right _ (List.mem_singleton.mpr rfl))
      rw [endAt_append_r T _ _ j hjA, endAt_self] at hfj
      obtain ⟨x, hx, e1, e2⟩ := I.best A' hA1 hf'
      have hle : x.1 + T j ≤ D j := by omega
      obtain ⟨r', h1, h2⟩ := a3 (x.1 + T j) (x.2.1, x.2.2 ++ [j]) (.inr ⟨x, hx, by
        unfold opts
        rw [if_pos hle]
        exact List.mem_cons_of_mem _ (List.mem_singleton.mpr rfl)⟩)
      refine ⟨(x.1 + T j, r'), h1, ?_, ?_⟩
      · show x.1 + T j = sumT T (A' ++ [j])
        rw [sumT_append, sumT_one, e1]
      · rw [out_snoc_yes hj]
        have h2 : r'.1 ≤ x.2.1 := h2
        show r'.1 ≤ _
        omega
theorem dinv_all {lt : Row → Row → Bool} {T W D : Nat → Int} (L : LtOk lt) : ∀ (post pre : List Nat) (rows : Rows), (pre ++ post).Nodup → DInv T W D pre rows → DInv T W D (pre ++ post) (post.foldl (stepJ lt T W D) rows)
  | [], pre, rows, _, I => by rw [List.append_nil]; exact I
  | j :: post, pre, rows, hn, I => by
    have e : pre ++ j :: post = (pre ++ [j]) ++ post := by rw [List.append_assoc]; rfl
    rw [e] at hn ⊢
    have hn1 : (pre ++ [j]).Nodup := hn.sublist (List.sublist_append_left _ _)
    exact dinv_all L post (pre ++ [j]) _ hn (dinv_step L I hn1)
theorem dinv_dp {lt : Row → Row → Bool} {T W D : Nat → Int} (L : LtOk lt) {e : List Nat} (hn : e.Nodup) : DInv T W D e (dp lt T W D e) := by
  have h := dinv_all L e [] [(0, (0, []))] (by rw [List.nil_append]; exact hn) (dinv_nil T W D)
  rw [List.nil_append] at h
  exact h
/-- the least row's weight is no greater than the weight of the late jobs of any order, and the order with its jobs ahead has no greater one -/
theorem dp_least {T W D : Nat → Int} {n : Nat} {e o : List Nat} {rows : Rows} {r : Row} (I : DInv T W D e rows) (hpe : e.Perm (List.range n)) (hs : Srt D e) (hT : ∀ i ∈ e, 0 ≤ T i)
    (hmin : ∀ x ∈ rows, r.1 ≤ x.2.1) (hp : o.Perm (List.range n)) : r.1 ≤ sumT W (lateL T D n o) := by
  have hne : e.Nodup := hpe.nodup_iff.mpr List.nodup_range
  have hno : o.Nodup := hp.nodup_iff.mpr List.nodup_range
  have hpo : o.Perm e := hp.trans hpe.symm
  have hsub : (e.filter fun i => decide (endAt T o i ≤ D i)).Sublist e := List.filter_sublist
  have hf : feas T D (e.filter fun i => decide (endAt T o i ≤ D i)) := feas_perm (hpo.filter _) (feas_onT hno fun i hi => hT i (hpo.mem_iff.mp hi))
  obtain ⟨x, hx, _, h2⟩ := I.best _ hsub ((feas_ends (hne.sublist hsub) (hs.sublist hsub)).mp hf)
  have h1 := hmin x hx
  have e1 : out e (e.filter fun i => decide (endAt T o i ≤ D i)) = e.filter fun i => decide (D i < endAt T o i) := by
    unfold out
    refine filter_cong fun i hi => ?_
    by_cases q : D i < endAt T o i
    · rw [decide_eq_true q, decide_eq_true]
      intro h
      have := of_decide_eq_true (List.mem_filter.mp h).2
      omega
    · rw [decide_eq_false q, decide_eq_false]
      exact fun h => h (List.mem_filter.mpr ⟨hi, decide_eq_true (by omega)⟩)
  rw [e1, sumT_perm (hpe.filter fun i => decide (D i < endAt T o i))] at h2
  show _ ≤ sumT W ((List.range n).filter fun i => decide (D i < endAt T o i))
  omega
theorem dp_has {T W D : Nat → Int} {n : Nat} {e K R : List Nat} (hpe : e.Perm (List.range n)) (hK : ∀ i ∈ K, endAt T K i ≤ D i) (hW : ∀ i ∈ e, 0 ≤ W i) :
    sumT W (lateL T D n (K ++ R)) ≤ sumT W (out e K) := by
  have e1 : sumT W (out e K) = sumT W ((List.range n).filter fun i => decide (i ∉ K)) := sumT_perm (hpe.filter _)
  rw [e1]
  unfold lateL
  have e2 : ((List.range n).filter fun i => decide (D i < endAt T (K ++ R) i)) = ((List.range n).filter fun i => decide (i ∉ K)).filter fun i => decide (D i < endAt T (K ++ R) i) := by
    rw [List.filter_filter]
    refine filter_cong fun i _ => ?_
    by_cases q : i ∈ K
    · have h1 := hK i q
      have h2 : ¬ D i < endAt T (K ++ R) i := by
        rw [endAt_append T K R i q]
        omega
      rw [decide_eq_false h2, Bool.false_and]
    · rw [show decide (i ∉ K) = true from decide_eq_true q, Bool.and_true]
  rw [e2]
  refine sumT_filter_le _ fun i hi => hW i (hpe.mem_iff.mpr (List.mem_filter.mp hi).1)

/-! ### the list of all orders -/
def ords (n : Nat) : Nat → List (List Nat)
  | 0 => [[]]
  | k + 1 => (ords n k).flatMap fun p => ((List.range n).filter fun j => decide (j ∉ p)).map fun j => p ++ [j]
theorem ords_mem {n : Nat} : ∀ {k : Nat} {o : List Nat}, o ∈ ords n k ↔ (o.Nodup ∧ (∀ i ∈ o, i < n) ∧ o.length = k)
  | 0, o => by
    constructor
    · intro h
      rw [List.mem_singleton.mp h]
      exact ⟨List.nodup_nil, (fun i hi => nomatch hi), rfl⟩
    · rintro ⟨_, _, h⟩
      rw [List.length_eq_zero_iff.mp h]
      exact List.mem_singleton.mpr rfl
  | k + 1, o => by
    show o ∈ (ords n k).flatMap (fun p => ((List.range n).filter fun j => decide (j ∉ p)).map fun j => p ++ [j]) ↔ _
    rw [List.mem_flatMap]
    constructor
    · rintro ⟨p, hp, h⟩
      obtain ⟨j, hj, rfl⟩ := List.mem_map.mp h
      have hj' := List.mem_filter.mp hj
      obtain ⟨h1, h2, h3⟩ := ords_mem.mp hp
      have hjp : j ∉ p := of_decide_eq_true hj'.2
      refine ⟨?_, fun i hi => ?_, by rw [List.length_append, h3]; rfl⟩
      · rw [List.nodup_append]
        exact ⟨h1, by simp, fun a ha b hb e => hjp (by rw [← List.mem_singleton.mp hb, ← e]; exact ha)⟩
      · rcases List.mem_append.mp hi with q | q
        · exact h2 i q
        · rw [List.mem_singleton.mp q]
          exact List.mem_range.mp hj'.1
    · rintro ⟨h1, h2, h3⟩
      have hne : o ≠ [] := fun z => by rw [z] at h3; cases h3
      have e := List.dropLast_concat_getLast hne
      have h1' : (o.dropLast ++ [o.getLast hne]).Nodup := by rw [e]; exact h1
      have hs := snoc_nd h1'
      refine ⟨o.dropLast, ords_mem.mpr ⟨hs.1, fun i hi => h2 i ((List.dropLast_sublist o).subset hi), by rw [List.length_dropLast, h3]; rfl⟩, List.mem_map.mpr ⟨o.getLast hne, ?_, e⟩⟩
      exact List.mem_filter.mpr ⟨List.mem_range.mpr (h2 _ (List.getLast_mem hne)), decide_eq_true hs.2⟩
theorem ords_perm {n : Nat} {o : List Nat} : o ∈ ords n n ↔ o.Perm (List.range n) := by
  rw [ords_mem]
  constructor
  · rintro ⟨h1, h2, h3⟩
    refine perm_of h1 List.nodup_range (fun i hi => List.mem_range.mpr (h2 i hi)) fun x hx => ?_
    refine Decidable.byContradiction fun hno => ?_
    have := sub_len (A := x :: o) (B := List.range n) (List.nodup_cons.mpr ⟨hno, h1⟩) (fun y hy => by
      rcases List.mem_cons.mp hy with e | e
      · rw [e]; exact hx
      · exact List.mem_range.mpr (h2 y e)) List.nodup_range
    rw [List.length_cons, List.length_range] at this
    omega
  · intro h
    exact ⟨h.nodup_iff.mpr List.nodup_range, fun i hi => List.mem_range.mp (h.mem_iff.mp hi), by rw [h.length_eq, List.length_range]⟩
end Mth
set_option Elab.async false
set_option linter.all false
set_option maxRecDepth 100000
set_option maxHeartbeats 4000000
/-! Rules of my own over the layer: sorted and max by a key that is a lambda y: (a[y], y), a captured. -/
namespace Sh
open PySem PySem.Spec PyProof.Rows L2
abbrev lamBody (aa ya : Str) (p1 p2 p3 p4 p5 : Pos) (kk : Nat) : Expr := .Tuple [.Subscript (.Name aa p1) (.Name ya p2) p3, .Name ya p4] kk p5
theorem natI (j : Nat) (n : Nat) (h : j < n) : seqIndex? (j : Int) n = some j := by
  unfold seqIndex?
  have h0 : ¬ ((j : Int) < 0) := by omega
  simp only [h0, if_false]
  have h1 : (0 : Int) ≤ (j : Int) ∧ (j : Int) < (n : Int) := by omega
  simp [h]
section
variable {X : Cx} {pins : List (Addr × Obj)} {σ : L2.St} {H : Hp} {s : Shared}
/-- what is known of the lambda's object, and of what it reads -/
structure LamAt (X : Cx) (h : Heap) (f ta : Addr) (ds : List Value) (params : Arguments) (body : Expr) (scope : Scope) (aa ya : Str) : Prop where
  ob : ∃ q c' pm ctv cl, h.get? f = some (PySem.W.kla_obj "<lambda>" q params body scope cl pm c' ctv) ∧ h.CodeRec (.ref c') q ∧ (∃ c, cl.lookup aa = some c ∧ h.IsCell c (some (.ref ta))) ∧
    ∀ v, bindArgs (PySem.W.kla_fn "<lambda>" q params body scope cl pm (.ref c') ctv) ⟨[v], []⟩ = pure [(ya, v)]
  nm : scope.names = [(ya, .local), (aa, .free)]
  ne : ya ≠ aa
  kind : scope.kind = .function
  co : scope.isCoroutine = false
  gen : scope.isGenerator = false
  tup : IsTup h ta ds.toArray
  lim : h.NoLimit
theorem LamAt.keeps {h h' : Heap} {f ta : Addr} {ds : List Value} {params : Arguments} {body : Expr} {scope : Scope} {aa ya : Str} (L : LamAt X h f ta ds params body scope aa ya) (kp : ∀ b o, h.get? b = some o → h'.get? b = some o) : LamAt X h' f ta ds params body scope aa ya := by
  obtain ⟨q, c', pm, ctv, cl, h1, h2, ⟨c, h3, h4⟩, h5⟩ := L.ob
  exact ⟨⟨q, c', pm, ctv, cl, kp _ _ h1, h2.keeps kp, ⟨c, h3, h4.keeps kp⟩, h5⟩, L.nm, L.ne, L.kind, L.co, L.gen, L.tup.keeps kp, L.lim.keeps kp⟩
/-- the lambda called -/
theorem lam_pair {prog : Program} {w : World} {f ta : Addr} {ds : List Value} {params : Arguments} {scope : Scope} {aa ya : Str} {p1 p2 p3 p4 p5 : Pos} {kk : Nat} (L : LamAt X s.heap f ta ds params (lamBody aa ya p1 p2 p3 p4 p5 kk) scope aa ya)
    (d1 : (aa == ("__debug__" : Str)) = false) (d2 : (aa == ("__classdict__" : Str)) = false) (d3 : (ya == ("__debug__" : Str)) = false)
    {j : Nat} {x : Value} (hj : ds[j]? = some x) (hl : ds.length ≤ sizeLine) (t : Tok) {A : Around} (hr : A.depth < recursionLimit) {Q : Value → Shared → Prop} {E : Value → Shared → Prop}
    (hQ : ∀ p h' tk', s.heap.objs.size ≤ p → (∀ b o, s.heap.get? b = some o → h'.get? b = some o) → IsTup h' p #[x, .int (j : Nat) t] → Q (.ref p) { s with heap := h', toks := tk' }) :
    wpAny (model prog w) A (call (.ref f) [.int (j : Nat) t]) Q E s := by
  obtain ⟨q, c', pm, ctv, cl, hf, hcr, ⟨c, hc, hcell⟩, hbind⟩ := L.ob
  have hlt : j < ds.length := (List.getElem?_eq_some_iff.mp hj).1
  refine wpAny_call (PySem.W.kla_callFunE hr hf rfl L.co L.gen rfl hcr ?_)
  rw [hbind]
  have hloc : ∀ y ∈ [(ya, Value.int (j : Nat) t)], scope.names.lookup y.1 = some .local := fun y hy => by
    rw [List.mem_singleton.mp hy, L.nm]
    simp [List.lookup]
  have hnc : ∀ y ∈ scope.names, y.2 ≠ .cell := fun y hy => by
    rw [L.nm] at hy
    rcases List.mem_cons.mp hy with e | e
    · rw [e]; exact fun z => by cases z
    · rw [List.mem_singleton.mp e]; exact fun z => by cases z
  refine wpAny_pure (wpAny_newFunctionEnv hnc hloc (fun h₁ hns hsb => ⟨L.lim.fresh _ hsb, ?_⟩) L.kind)
  show codeAny _ _ (.expr (lamBody aa ya p1 p2 p3 p4 p5 kk) (PySem.W.envX q scope s.heap.objs.size f (.ref c') cl)) _ _
  have kp : ∀ b o, s.heap.get? b = some o → h₁.get? b = some o := fun b o e => hsb.extBut b o (Nat.ne_of_lt (Heap.lt_size e)) (Heap.get?_push_of_some _ e)
  have hsz : s.heap.objs.size < h₁.objs.size := hns.lt
  have hky : (PySem.W.envX q scope s.heap.objs.size f (.ref c') cl).kindOf ya = some .local := hloc (ya, Value.int (j : Nat) t) (List.mem_singleton.mpr rfl)
  have hka : (PySem.W.envX q scope s.heap.objs.size f (.ref c') cl).kindOf aa = some .free := by
    show scope.names.lookup aa = some .free
    rw [L.nm]
    have hb : (aa == ya) = false := beq_eq_false_iff_ne.mpr (Ne.symm L.ne)
    simp [List.lookup, hb]
  refine PySem.W.kla_codeExpr ?_
  have ly : ∀ (p : Pos) (tk : Nat) (Q' : Value → Shared → Prop) (E' : Value → Shared → Prop), Q' (.int (j : Nat) t) { s with heap := h₁, toks := tk } → wpAny (model prog w) (A.deeper (PySem.W.envX q scope s.heap.objs.size f (.ref c') cl)) (eval (.Name ya p) (PySem.W.envX q scope s.heap.objs.size f (.ref c') cl)) Q' E' { s with heap := h₁, toks := tk } := fun p tk Q' E' hq =>
    wpAny_Name (wpAny_loadName_local L.kind hky hns (by simp [List.lookup]) hq) d3
  have la : ∀ (p : Pos) (tk : Nat) (Q' : Value → Shared → Prop) (E' : Value → Shared → Prop), Q' (.ref ta) { s with heap := h₁, toks := tk } → wpAny (model prog w) (A.deeper (PySem.W.envX q scope s.heap.objs.size f (.ref c') cl)) (eval (.Name aa p) (PySem.W.envX q scope s.heap.objs.size f (.ref c') cl)) Q' E' { s with heap := h₁, toks := tk } := fun p tk Q' E' hq =>
    wpAny_Name (wpAny_loadName_free L.kind hka hc (hcell.keeps kp) hq d2) d1
  have hn := line63
  refine Tuple_ (Calls.spliced_cons (Subscript_ (la _ _ _ _ (ly _ _ _ _ (item_tupleL (L.tup.keeps kp) (by omega) (by omega) (natI j ds.length hlt) hj ?_ rfl (fun _ => rfl))))))
  refine Calls.spliced_cons (ly _ _ _ _ (Calls.spliced_nil ?_))
  refine wpAny_newObj_type ?_ (by show 2 ≤ sizeLine; decide)
  exact hQ h₁.objs.size _ _ (Nat.le_of_lt hsz) (fun b o e => Heap.get?_push_of_some _ (kp b o e)) ⟨_, Heap.get?_push_size _ rfl, rfl, _, rfl⟩
/-- the lambda is made: it stands, and reads the tuple that its captured name holds -/
theorem lam_at {T : List (Addr × Str)} {c P : Addr} {params : Arguments} {aa ya : Str} {p1 p2 p3 p4 p5 : Pos} {kk : Nat} {scope : Scope} {pos : Pos} {i : Nat} {ta : Addr} {ds : List V} {E : Value → Shared → Prop} {Q : Value → Shared → Prop}
    (I : Inv X pins σ H s) (TB : LamX.TabB X.base X.mg c P) (hcode : X.env.code = .ref c)
    (hm : (P, X.env.qual ++ "<lambda>") ∈ T) (hu : ∀ p ∈ T, p.1 = P → p.2 = X.env.qual ++ "<lambda>") (hT : LamX.Tabs T H) (hdef : defaultsOf params X.env = ([], []))
    (hn : scope.names = [(ya, .local), (aa, .free)]) (hne : ya ≠ aa) (hk : scope.kind = .function) (hcor : scope.isCoroutine = false) (hgen : scope.isGenerator = false)
    (hbind : ∀ q cl pm c' ctv v, bindArgs (PySem.W.kla_fn "<lambda>" q params (lamBody aa ya p1 p2 p3 p4 p5 kk) scope cl pm (.ref c') ctv) ⟨[v], []⟩ = pure [(ya, v)])
    (hN : X.N[i]? = some aa) (hσ : σ[i]? = some (some (.ref ta))) (hva : X.env.scope.names.lookup aa = some .cell) (hS : SqT X.K H ta ds)
    (h : ∀ (f : Addr) (its : List Value) (H1 : Hp) (s' : Shared), Inv X pins σ H1 s' → LamX.ExtN H H1 → LamX.Tabs T H1 → Vals ds its → LamAt X s'.heap f ta its params (lamBody aa ya p1 p2 p3 p4 p5 kk) scope aa ya → Q (.ref f) s') :
    wpAny (model X.prog X.w) X.A (eval (.Lambda params (lamBody aa ya p1 p2 p3 p4 p5 kk) scope pos) X.env) Q E s := by
  obtain ⟨mm, hns, hl⟩ := I.loc
  have hfree : ∀ y ∈ scope.names, y.2 = .free → ∃ c, X.env.cells.lookup y.1 = some c := fun y hy e => by
    rw [hn] at hy
    rcases List.mem_cons.mp hy with z | z
    · rw [z] at e; cases e
    · rw [List.mem_singleton.mp z]
      exact I.ok.has aa (.inl hva)
  refine LamX.lam_make2 I TB hcode hm hu hT hdef hfree fun f c' pm ctv H1 s' I1 eN T1 hf hfn hfr hco => ?_
  have hS1 : SqT X.K H1 ta ds := by
    rcases hS with (z | ⟨o, z⟩) | z
    · exact .inl (.inl (eN _ _ z fun ps q => by cases q))
    · exact .inl (.inr ⟨o, eN _ _ z fun ps q => by cases q⟩)
    · exact .inr z
  obtain ⟨its, rv, ht, hz⟩ := I1.tuple hS1
  obtain ⟨m1, hns1, hl1⟩ := I1.loc
  obtain ⟨u, ru, lk⟩ := hl1 i aa (.ref ta) hN hσ (.inr (.inl hva))
  obtain rfl : u = Value.ref ta := ru
  have hka : X.env.kindOf aa = some .cell := hva
  obtain ⟨ca, hca, hcell⟩ : ∃ ca, X.env.cells.lookup aa = some ca ∧ s'.heap.IsCell ca (some (.ref ta)) := by
    rcases lk with ⟨z, _⟩ | ⟨_, z⟩
    · rw [hka] at z; cases z
    · exact z
  obtain ⟨⟨oc, vs, t, hoc, hdc, hvc⟩, _, _⟩ := I1.hok c' _ hco
  have hcl : (cloFrom X.env.cells scope.names []).lookup aa = some ca := by
    rw [hn]
    show (cloFrom X.env.cells [(aa, .free)] []).lookup aa = some ca
    show List.lookup aa [(aa, (X.env.cells.lookup aa).getD 0)] = some ca
    rw [hca]
    simp [List.lookup]
  exact h f its H1 s' I1 eN T1 rv ⟨⟨_, c', pm, ctv, _, hf, ⟨c', oc, vs, t, rfl, hoc, hdc, hvc⟩, ⟨ca, hcl, hcell⟩, fun v => hbind _ _ _ _ _ v⟩, hn, hne, hk, hcor, hgen, ht, I1.nolimit⟩

/-! ### sorted(jobs, key=lambda y: (a[y], y)) -/
abbrev jobs (js : List Nat) : List V := js.map fun j => V.int (j : Nat)
/-- the due day by the job -/
abbrev Dof (ds : List Int) : Nat → Int := fun k => ds.getD k 0
def sortD (ds : List Int) (js : List Nat) : List Nat := js.mergeSort (Mth.ele (Dof ds))
def tSortLam (K : PySem.W.Frag) (T : List (Addr × Str)) (i : Nat) (te : TE) : TE := fun σ H Q => te σ H fun x H1 => ∃ (a ta : Addr) (js : List Nat) (ds : List Int), x = .ref a ∧ SqL K H1 a (jobs js) ∧ σ[i]? = some (some (.ref ta)) ∧ SqT K H1 ta (ds.map V.int) ∧ (∀ j ∈ js, j < ds.length) ∧ LamX.Tabs T H1 ∧
  ∀ (H2 : Hp) (p : Addr), LamX.ExtN H1 H2 → LamX.Tabs T H2 → (∀ b o, H1 b = some o → (∀ ps, o ≠ .tbl ps) → b ≠ p) → H2 p = some (.lst (jobs (sortD ds js))) → Q (.ref p) H2
theorem vals_of_each {its : List Value} {js : List Nat} (e : PySem.W.EachIs (fun (v : Value) (j : Nat) => ∃ t, v = .int (j : Nat) t) its js) : Vals (jobs js) its := by
  induction e with
  | nil => exact .nil
  | cons h _ ih => exact .cons h ih
theorem each_of_vals : ∀ {its : List Value} {js : List Nat}, Vals (jobs js) its → PySem.W.EachIs (fun (v : Value) (j : Nat) => ∃ t, v = .int (j : Nat) t) its js
  | _, [], .nil => .nil
  | _, j :: js, .cons h r => .cons h (each_of_vals r)
theorem le_eq (ds : List Int) : PySem.W.dataLe false (fun b : Nat => PyData.tuple [.int (Dof ds b), .int ((b : Nat) : Int)]) = Mth.ele (Dof ds) := by
  rw [PySem.W.dataLe_ii]
  funext p q
  rw [Bool.eq_iff_iff, decide_eq_true_eq, Mth.ele_iff]
  omega
theorem pe_sortLam {T : List (Addr × Str)} {c P : Addr} {params : Arguments} {aa ya : Str} {p1 p2 p3 p4 p5 : Pos} {kk : Nat} {scope : Scope} {p lpos kpos pos : Pos} {i : Nat} {e : Expr} {te : TE}
    (hg : Gl X "sorted") (hmg : X.mg "sorted" = none) (TB : LamX.TabB X.base X.mg c P) (hcode : X.env.code = .ref c)
    (hm : (P, X.env.qual ++ "<lambda>") ∈ T) (hu : ∀ p ∈ T, p.1 = P → p.2 = X.env.qual ++ "<lambda>") (hdef : defaultsOf params X.env = ([], []))
    (hn : scope.names = [(ya, .local), (aa, .free)]) (hne : ya ≠ aa) (hk : scope.kind = .function) (hcor : scope.isCoroutine = false) (hgen : scope.isGenerator = false)
    (hbind : ∀ q cl pm c' ctv v, bindArgs (PySem.W.kla_fn "<lambda>" q params (lamBody aa ya p1 p2 p3 p4 p5 kk) scope cl pm (.ref c') ctv) ⟨[v], []⟩ = pure [(ya, v)])
    (hN : X.N[i]? = some aa) (hva : X.env.scope.names.lookup aa = some .cell) (hr : Room 1 X.A) (d1 : (aa == ("__debug__" : Str)) = false) (d2 : (aa == ("__classdict__" : Str)) = false) (d3 : (ya == ("__debug__" : Str)) = false)
    (he : PE X e te) (hse : starEach [e] X.env = [(false, eval e X.env)] := by rfl) :
    PE X (.Call (.Name "sorted" p) [e] [⟨some "key", .Lambda params (lamBody aa ya p1 p2 p3 p4 p5 kk) scope lpos, kpos⟩] pos) (tSortLam X.K T i te) := by
  refine ⟨fun pins s σ H Q I h => ?_⟩
  have hb : backTo pos (starEach [e] X.env) = (false, eval e X.env) :: backTo pos (starEach [] X.env) := by
    rw [hse]
    rfl
  refine wpAny_Call_Name_kw (ld_blt (u := .builtin "sorted") I hg hmg (by decide +kernel) ?_)
  refine PyProof.Rows.callWith_kw ?_ hb (by rw [hb]; rfl) rfl rfl
  refine thn ((pa_cons he pa_nil hse).run pos pins s σ H (fun vs H1 => match vs with
    | [x] => ∃ (a ta : Addr) (js : List Nat) (ds : List Int), x = .ref a ∧ SqL X.K H1 a (jobs js) ∧ σ[i]? = some (some (.ref ta)) ∧ SqT X.K H1 ta (ds.map V.int) ∧ (∀ j ∈ js, j < ds.length) ∧ LamX.Tabs T H1 ∧
        ∀ (H2 : Hp) (p : Addr), LamX.ExtN H1 H2 → LamX.Tabs T H2 → (∀ b o, H1 b = some o → (∀ ps, o ≠ .tbl ps) → b ≠ p) → H2 p = some (.lst (jobs (sortD ds js))) → Q (.ref p) H2
    | _ => False) I h) fun us s1 ⟨vs, H1, I1, r1, q1⟩ => ?_
  cases r1 with
  | nil => exact q1.elim
  | cons rx rr =>
    cases rr with
    | cons _ _ => exact q1.elim
    | nil =>
      obtain ⟨a, ta, js, ds, rfl, ha, hσ, hta, hjs, hT, hQ⟩ := q1
      cases rx
      show wpAny _ _ (evalAll [do let v ← eval (.Lambda params (lamBody aa ya p1 p2 p3 p4 p5 kk) scope lpos) X.env; standAt pos; pure v]) _ _ s1
      refine wpAny_evalAll_cons (wpAny_bind (lam_at I1 TB hcode hm hu hT hdef hn hne hk hcor hgen hbind hN hσ hva hta fun f its H2 s2 I2 eN T2 rv L => wpAny_bind (wpAny_standAt (wpAny_pure (wpAny_evalAll_nil ?_)))))
      show wpAny _ _ (call (.builtin "sorted") [.ref a] [(Str.ofString "key", .ref f)]) _ _ s2
      have ha2 : SqL X.K H2 a (jobs js) := by
        rcases ha with (z | ⟨o, z⟩) | z
        · exact .inl (.inl (eN _ _ z fun ps q => by cases q))
        · exact .inl (.inr ⟨o, eN _ _ z fun ps q => by cases q⟩)
        · exact .inr z
      obtain ⟨ajs, ra, pl, hz⟩ := I2.list ha2
      have hlen := rv.length
      obtain ⟨_, _, _, hzt⟩ := I1.tuple hta
      rw [List.length_map] at hlen hzt
      have hjl : js.length ≤ sizeLine := by
        have h2 := hz
        rw [List.length_map] at h2
        exact h2
      have hu1 := hr.un
      have hd1 := hr.dp
      refine PySem.W.sorted_key_data (β := Nat) (bs := js) (b := false) (R := fun (v : Value) (j : Nat) => ∃ t, v = .int (j : Nat) t) (fun b => PyData.tuple [.int (Dof ds b), .int ((b : Nat) : Int)]) pl.isList (each_of_vals ra) (fun d hd d' hd' => ?_) (.inl fun d hd => ?_) hjl (fun x hx => ?_) (ksk_s1 _ _) (fun _ => ksk_l1 _ _) (fun _ => ksk_t1 _ _) (fun v x hv hx h tk kp => ?_) fun out cc h' tk kp hfr hat hol hea => ?_
      · obtain ⟨x, _, rfl⟩ := List.mem_map.mp hd
        obtain ⟨y, _, rfl⟩ := List.mem_map.mp hd'
        simp [PySem.W.alike, PySem.W.alikeAll]
      · obtain ⟨x, _, rfl⟩ := List.mem_map.mp hd
        exact ⟨_, _, rfl⟩
      · have e1 : (PyData.tuple [.int (Dof ds x), .int ((x : Nat) : Int)]).depth = 1 := by
          simp [PyData.depth, PyData.depthAll]
        rw [e1]
        omega
      · obtain ⟨t, rfl⟩ := hv
        have hxl := hjs x hx
        obtain ⟨u, hu2, ru⟩ : ∃ u, its[x]? = some u ∧ RelV (.int (Dof ds x)) u := by
          refine rv.get (i := x) ?_
          rw [List.getElem?_map, List.getElem?_eq_getElem hxl]
          show some (V.int ds[x]) = some (V.int (ds.getD x 0))
          rw [List.getD_eq_getElem?_getD, List.getElem?_eq_getElem hxl]
          rfl
        obtain ⟨tu, rfl⟩ := ru
        refine lam_pair (s := { s2 with heap := h, toks := tk }) (L.keeps kp) d1 d2 d3 hu2 (by omega) t (by show X.A.depth < recursionLimit; omega) fun p h' tk' hp hk' ht => ?_
        obtain ⟨ob, e1, e2, n, e3⟩ := ht
        refine ⟨h', tk', rfl, hk', ?_⟩
        have r := Reads.tuple e1 e2 e3 (.cons (.int (Dof ds x) tu) (.cons (.int ((x : Nat) : Int) t) .nil))
        exact r
      · rw [le_eq] at hea
        have new : ObjOk X.prog X.w (upd H2 (s2.heap.objs.size + 1) (.lst (jobs (sortD ds js)))) h' (s2.heap.objs.size + 1) (.lst (jobs (sortD ds js))) := by
          refine ⟨?_, out, cc, vals_of_each hea, hat⟩
          rw [List.length_map]
          have e1 := hea.length
          have e2 : (sortD ds js).length = out.length := e1.symm
          omega
        have hn2 : H2 (s2.heap.objs.size + 1) = none := I2.hok.fresh (Nat.le_succ _)
        have hn1 : ∀ b o, H1 b = some o → (∀ ps, o ≠ .tbl ps) → b ≠ s2.heap.objs.size + 1 := fun b o z ht => ne_of_none (eN _ _ z ht) hn2
        exact ⟨.ref _, _, I2.laid (t' := tk) kp (Nat.le_succ _) new, rfl, hQ _ _ (eN.trans (LamX.ExtN.of fun b o z => by rw [upd_ne (ne_of_none z hn2)]; exact z)) (T2.ext fun b o z => by rw [upd_ne (ne_of_none z hn2)]; exact z) hn1 upd_same⟩
end
end Sh
set_option Elab.async false
set_option linter.all false
set_option maxRecDepth 100000
set_option maxHeartbeats 4000000
/-! max(jobs, key=lambda y: (a[y], y)) -/
namespace Sh
open PySem PySem.Spec PyProof.Rows L2
theorem argBest_top {bt : Nat → Nat → Bool} {f : Nat → Int} (h1 : ∀ i j, bt i j = true → f j ≤ f i) (h2 : ∀ i j, bt i j = false → f i ≤ f j) : ∀ k, argBest bt k ≤ k ∧ ∀ j, j ≤ k → f j ≤ f (argBest bt k)
  | 0 => ⟨Nat.le_refl _, fun j hj => by rw [Nat.le_zero.mp hj]; exact Int.le_refl _⟩
  | k + 1 => by
    obtain ⟨i1, i2⟩ := argBest_top h1 h2 k
    show (if bt (k + 1) (argBest bt k) then k + 1 else argBest bt k) ≤ k + 1 ∧ ∀ j, j ≤ k + 1 → f j ≤ f (if bt (k + 1) (argBest bt k) then k + 1 else argBest bt k)
    cases q : bt (k + 1) (argBest bt k) with
    | true =>
      refine ⟨Nat.le_refl _, fun j hj => ?_⟩
      show f j ≤ f (k + 1)
      have h := h1 _ _ q
      by_cases e : j = k + 1
      · rw [e]; exact Int.le_refl _
      · exact Int.le_trans (i2 j (by omega)) h
    | false =>
      refine ⟨Nat.le_succ_of_le i1, fun j hj => ?_⟩
      show f j ≤ f (argBest bt k)
      have h := h2 _ _ q
      by_cases e : j = k + 1
      · rw [e]; exact h
      · exact i2 j (by omega)
section
variable {X : Cx} {pins : List (Addr × Obj)} {σ : L2.St} {H : Hp} {s : Shared}
def tMaxLam (K : PySem.W.Frag) (T : List (Addr × Str)) (i : Nat) (te : TE) : TE := fun σ H Q => te σ H fun x H1 => ∃ (a ta : Addr) (js : List Nat) (ds : List Int), x = .ref a ∧ SqL K H1 a (jobs js) ∧ σ[i]? = some (some (.ref ta)) ∧ SqT K H1 ta (ds.map V.int) ∧ (∀ j ∈ js, j < ds.length) ∧ js ≠ [] ∧ LamX.Tabs T H1 ∧
  ∀ (H2 : Hp) (z : Nat), LamX.ExtN H1 H2 → LamX.Tabs T H2 → z ∈ js → (∀ y ∈ js, Dof ds y ≤ Dof ds z) → Q (.int (z : Nat)) H2
theorem pe_maxLam {T : List (Addr × Str)} {c P : Addr} {params : Arguments} {aa ya : Str} {p1 p2 p3 p4 p5 : Pos} {kk : Nat} {scope : Scope} {p lpos kpos pos : Pos} {i : Nat} {e : Expr} {te : TE}
    (hg : Gl X "max") (hmg : X.mg "max" = none) (TB : LamX.TabB X.base X.mg c P) (hcode : X.env.code = .ref c)
    (hm : (P, X.env.qual ++ "<lambda>") ∈ T) (hu : ∀ p ∈ T, p.1 = P → p.2 = X.env.qual ++ "<lambda>") (hdef : defaultsOf params X.env = ([], []))
    (hn : scope.names = [(ya, .local), (aa, .free)]) (hne : ya ≠ aa) (hk : scope.kind = .function) (hcor : scope.isCoroutine = false) (hgen : scope.isGenerator = false)
    (hbind : ∀ q cl pm c' ctv v, bindArgs (PySem.W.kla_fn "<lambda>" q params (lamBody aa ya p1 p2 p3 p4 p5 kk) scope cl pm (.ref c') ctv) ⟨[v], []⟩ = pure [(ya, v)])
    (hN : X.N[i]? = some aa) (hva : X.env.scope.names.lookup aa = some .cell) (hr : Room 1 X.A) (d1 : (aa == ("__debug__" : Str)) = false) (d2 : (aa == ("__classdict__" : Str)) = false) (d3 : (ya == ("__debug__" : Str)) = false)
    (he : PE X e te) (hse : starEach [e] X.env = [(false, eval e X.env)] := by rfl) :
    PE X (.Call (.Name "max" p) [e] [⟨some "key", .Lambda params (lamBody aa ya p1 p2 p3 p4 p5 kk) scope lpos, kpos⟩] pos) (tMaxLam X.K T i te) := by
  refine ⟨fun pins s σ H Q I h => ?_⟩
  have hb : backTo pos (starEach [e] X.env) = (false, eval e X.env) :: backTo pos (starEach [] X.env) := by
    rw [hse]
    rfl
  refine wpAny_Call_Name_kw (ld_blt (u := .builtin "max") I hg hmg (by decide +kernel) ?_)
  refine PyProof.Rows.callWith_kw ?_ hb (by rw [hb]; rfl) rfl rfl
  refine thn ((pa_cons he pa_nil hse).run pos pins s σ H (fun vs H1 => match vs with
    | [x] => ∃ (a ta : Addr) (js : List Nat) (ds : List Int), x = .ref a ∧ SqL X.K H1 a (jobs js) ∧ σ[i]? = some (some (.ref ta)) ∧ SqT X.K H1 ta (ds.map V.int) ∧ (∀ j ∈ js, j < ds.length) ∧ js ≠ [] ∧ LamX.Tabs T H1 ∧
        ∀ (H2 : Hp) (z : Nat), LamX.ExtN H1 H2 → LamX.Tabs T H2 → z ∈ js → (∀ y ∈ js, Dof ds y ≤ Dof ds z) → Q (.int (z : Nat)) H2
    | _ => False) I h) fun us s1 ⟨vs, H1, I1, r1, q1⟩ => ?_
  cases r1 with
  | nil => exact q1.elim
  | cons rx rr =>
    cases rr with
    | cons _ _ => exact q1.elim
    | nil =>
      obtain ⟨a, ta, js, ds, rfl, ha, hσ, hta, hjs, hj0, hT, hQ⟩ := q1
      cases rx
      show wpAny _ _ (evalAll [do let v ← eval (.Lambda params (lamBody aa ya p1 p2 p3 p4 p5 kk) scope lpos) X.env; standAt pos; pure v]) _ _ s1
      refine wpAny_evalAll_cons (wpAny_bind (lam_at I1 TB hcode hm hu hT hdef hn hne hk hcor hgen hbind hN hσ hva hta fun f its H2 s2 I2 eN T2 rv L => wpAny_bind (wpAny_standAt (wpAny_pure (wpAny_evalAll_nil ?_)))))
      show wpAny _ _ (call (.builtin "max") [.ref a] [(Str.ofString "key", .ref f)]) _ _ s2
      have ha2 : SqL X.K H2 a (jobs js) := by
        rcases ha with (z | ⟨o, z⟩) | z
        · exact .inl (.inl (eN _ _ z fun ps q => by cases q))
        · exact .inl (.inr ⟨o, eN _ _ z fun ps q => by cases q⟩)
        · exact .inr z
      obtain ⟨ajs, ra, pl, hz⟩ := I2.list ha2
      have hlen := rv.length
      have hla := ra.length
      obtain ⟨_, _, _, hzt⟩ := I1.tuple hta
      rw [List.length_map] at hlen hzt hla
      have hu1 := hr.un
      have hd1 := hr.dp
      have hjn : 0 < js.length := List.length_pos_iff.mpr hj0
      have hsz : ajs.toArray.size = js.length := by rw [List.size_toArray, ← hla]
      have ritem : ∀ (i : Nat) (v : Value), ajs.toArray[i]? = some v → ∃ z t, js[i]? = some z ∧ v = .int (z : Nat) t := fun i v hv => by
        have hv' : ajs[i]? = some v := by simpa using hv
        have hi : i < js.length := by
          have := (List.getElem?_eq_some_iff.mp hv').1
          omega
        obtain ⟨u, hu2, ru⟩ := ra.get (i := i) (x := .int (js[i] : Nat)) (by rw [List.getElem?_map, List.getElem?_eq_getElem hi]; rfl)
        rw [hu2] at hv'
        cases hv'
        obtain ⟨t, rfl⟩ := ru
        exact ⟨js[i], t, List.getElem?_eq_getElem hi, rfl⟩
      let kd : Nat → PyData := fun i => .tuple [.int (Dof ds (js.getD i 0)), .int ((js.getD i 0 : Nat) : Int)]
      let bt : Nat → Nat → Bool := fun i j => PySem.W.dataLt (kd j) (kd i)
      let J : Shared → Prop := fun s' => ∃ h' tk, s' = { s2 with heap := h', toks := tk } ∧ ∀ b o, s2.heap.get? b = some o → h'.get? b = some o
      let Vv : Nat → Value → Shared → Prop := fun i k s' => ∃ p t1 t2, k = .ref p ∧ p ≠ s2.heap.objs.size ∧ p ≠ s2.heap.objs.size + 1 ∧ IsTup s'.heap p #[.int (Dof ds (js.getD i 0)) t1, .int ((js.getD i 0 : Nat) : Int) t2]
      refine call_max_walkK (PySem.W.iter_listW (A := X.A.in1) (by exact hr.hd) pl.isList fun s₃ e3 W st hfp hw hkp => ?_)
      have hS3 : s₃.heap.objs.size = s2.heap.objs.size + 1 := by rw [e3]; exact size_push' ..
      have J3 : J s₃ := ⟨_, s2.toks, e3, fun b o q => Heap.get?_push_of_some _ q⟩
      refine ⟨_, _, _, _, _, _, _, J, Vv, bt, rfl, W, st, hfp, by omega, ⟨?_, ?_, ?_, ?_⟩, J3, ?_⟩
      · -- keep
        rintro s4 s5 ⟨h4, tk4, rfl, k4⟩ m
        refine ⟨s5.heap, s5.toks, ?_, fun b o q => m.heap b o (fun hb => ?_) (k4 b o q)⟩
        · obtain ⟨hp, g, d, tk, os⟩ := s5
          have h1 : g = s2.gens := m.gens
          have h2 : d = s2.drawn := m.drawn
          have h3 : os = s2.os := m.os
          subst h1 h2 h3
          rfl
        · have hlt : b < s2.heap.objs.size := Heap.lt_size q
          rcases List.mem_cons.mp hb with z | z
          · rw [hS3] at z
            exact absurd (show b = s2.heap.objs.size + 1 from z) (Nat.ne_of_lt (Nat.lt_succ_of_lt hlt))
          · exact absurd (List.mem_singleton.mp z) (Nat.ne_of_lt hlt)
      · -- keepV
        rintro i k s4 s5 ⟨p, t1, t2, rfl, n1, n2, ob, e1, r⟩ m
        refine ⟨p, t1, t2, rfl, n1, n2, ob, m.heap p ob (fun hb => ?_) e1, r⟩
        rcases List.mem_cons.mp hb with z | z
        · rw [hS3] at z; exact n2 z
        · exact n1 (List.mem_singleton.mp z)
      · -- turn
        rintro i v s4 o Q4 E4 hi hP ⟨h4, tk4, rfl, k4⟩ hst hS4 hQ4
        obtain ⟨z, t, hz2, rfl⟩ := ritem i v hP
        have hzm : z ∈ js := List.mem_of_getElem? hz2
        have ez : js.getD i 0 = z := by rw [List.getD_eq_getElem?_getD, hz2]; rfl
        have hxl := hjs z hzm
        obtain ⟨u, hu2, ru⟩ : ∃ u, its[z]? = some u ∧ RelV (.int (Dof ds z)) u := by
          refine rv.get (i := z) ?_
          rw [List.getElem?_map, List.getElem?_eq_getElem hxl]
          show some (V.int ds[z]) = some (V.int (ds.getD z 0))
          rw [List.getD_eq_getElem?_getD, List.getElem?_eq_getElem hxl]
          rfl
        obtain ⟨tu, rfl⟩ := ru
        have hI4 : s2.heap.objs.size < h4.objs.size := by
          obtain ⟨⟨oi, ei, _⟩, _⟩ := hst
          exact Heap.lt_size ei
        have hSl : s₃.heap.objs.size < h4.objs.size := Heap.lt_size hS4
        refine lam_pair (s := { s2 with heap := h4, toks := tk4 }) (L.keeps k4) d1 d2 d3 hu2 (by omega) t (by show X.A.depth < recursionLimit; omega) fun p h' tk' hp hk' ht => ?_
        refine hQ4 _ _ ⟨h', tk', rfl, fun b o q => hk' b o (k4 b o q)⟩ ?_ (hk' _ _ hS4) ⟨p, tu, t, rfl, Nat.ne_of_gt (Nat.lt_of_lt_of_le hI4 hp), ?_, by rw [ez]; exact ht⟩ fun j k' hv => ?_
        · obtain ⟨⟨oi, ei, ri⟩, ol, el, rl⟩ := hst
          exact ⟨⟨oi, hk' _ _ ei, ri⟩, ol, hk' _ _ el, rl⟩
        · rw [← hS3]
          exact Nat.ne_of_gt (Nat.lt_of_lt_of_le hSl hp)
        · obtain ⟨p', t1, t2, rfl, n1, n2, r⟩ := hv
          exact ⟨p', t1, t2, rfl, n1, n2, r.keeps hk'⟩
      · -- cmp
        rintro i j ki kj s4 Q4 E4 hJ4 ⟨pi, t1, t2, rfl, _, _, oi, ei1, ei2, ni, ei3⟩ ⟨pj, t3, t4, rfl, _, _, oj, ej1, ej2, nj, ej3⟩ hq
        have ri := Reads.tuple ei1 ei2 ei3 (.cons (.int (Dof ds (js.getD i 0)) t1) (.cons (.int ((js.getD i 0 : Nat) : Int) t2) .nil))
        have rj := Reads.tuple ej1 ej2 ej3 (.cons (.int (Dof ds (js.getD j 0)) t3) (.cons (.int ((js.getD j 0 : Nat) : Int) t4) .nil))
        refine PySem.W.rcGt_alike _ _ X.A.in1 s4 _ _ _ _ ri rj (by simp [PySem.W.alike, PySem.W.alikeAll]) (fun z => by cases z) ?_ X.prog X.w E4 Q4 hq
        have e1 : (PyData.tuple [.int (Dof ds (js.getD i 0)), .int ((js.getD i 0 : Nat) : Int)]).depth = 1 := by
          simp [PyData.depth, PyData.depthAll]
        have hmin := Nat.min_le_left (PyData.tuple [.int (Dof ds (js.getD i 0)), .int ((js.getD i 0 : Nat) : Int)]).depth (PyData.tuple [.int (Dof ds (js.getD j 0)), .int ((js.getD j 0 : Nat) : Int)]).depth
        rw [e1] at hmin
        show X.A.units + 1 + _ < cLine
        omega
      · -- the end
        rintro v s' hP ⟨h', tk, rfl, k'⟩
        obtain ⟨z, t, hz2, rfl⟩ := ritem _ v hP
        have ez : js.getD (argBest bt (ajs.toArray.size - 1)) 0 = z := by rw [List.getD_eq_getElem?_getD, hz2]; rfl
        have top := argBest_top (bt := bt) (f := fun i => Dof ds (js.getD i 0)) (fun i j q => by
          have q : PySem.W.dataLt (.tuple [.int (Dof ds (js.getD j 0)), .int ((js.getD j 0 : Nat) : Int)]) (.tuple [.int (Dof ds (js.getD i 0)), .int ((js.getD i 0 : Nat) : Int)]) = true := q
          rw [PySem.W.dataLt_ii, decide_eq_true_eq] at q
          show Dof ds (js.getD j 0) ≤ Dof ds (js.getD i 0)
          omega) (fun i j q => by
          have q : PySem.W.dataLt (.tuple [.int (Dof ds (js.getD j 0)), .int ((js.getD j 0 : Nat) : Int)]) (.tuple [.int (Dof ds (js.getD i 0)), .int ((js.getD i 0 : Nat) : Int)]) = false := q
          rw [PySem.W.dataLt_ii, decide_eq_false_iff_not] at q
          show Dof ds (js.getD i 0) ≤ Dof ds (js.getD j 0)
          omega) (ajs.toArray.size - 1)
        refine ⟨.int (z : Nat), H2, I2.kept (t' := tk) k', ⟨t, rfl⟩, hQ H2 z eN T2 (List.mem_of_getElem? hz2) fun y hy => ?_⟩
        obtain ⟨n, hn1, hn2⟩ := List.getElem_of_mem hy
        have h1 := top.2 n (by omega)
        have h2 : js.getD n 0 = y := by rw [List.getD_eq_getElem?_getD, List.getElem?_eq_getElem hn1, hn2]; rfl
        have h1' : Dof ds (js.getD n 0) ≤ Dof ds (js.getD (argBest bt (ajs.toArray.size - 1)) 0) := h1
        rw [ez, h2] at h1'
        exact h1'
end
end Sh
set_option Elab.async false
set_option linter.all false
set_option maxRecDepth 100000
set_option maxHeartbeats 4000000
/-! Walks of pairs out of the library's GoesN: enumerate of a tuple, zip of a list and a tuple. -/
namespace Sh
open PySem PySem.Spec PyProof.Rows L2
/-- n turns, each a new pair, while src holds -/
def ItN (n : Nat) (src : Hp → Prop) (px : Nat → V → V → Prop) : It :=
  ⟨fun i H => i < n ∧ src H, fun i H v H' => ∃ T x y, v = .ref T ∧ H T = none ∧ H' = upd H T (.tup [x, y]) ∧ px i x y, fun i H => i = n ∧ src H⟩
theorem walk_N {n : Nat} {src : Hp → Prop} {px : Nat → V → V → Prop} : Walk (ItN n src px) n src (fun i H v H' => ∃ T x y, v = .ref T ∧ H T = none ∧ H' = upd H T (.tup [x, y]) ∧ px i x y) :=
  ⟨fun _ _ hi q => ⟨hi, q⟩, fun _ q => ⟨rfl, q⟩, fun _ _ _ _ _ _ y => y⟩
/-- what one turn's state gives -/
structure OneTurn (X : Cx) (elts : List Expr) (kk : Nat) (tpos : Pos) (n : Nat) (I : Addr) (own : List Addr) (tn : Nat → Heap → Prop) (px : Nat → V → V → Prop) (i : Nat) (h : Heap) : Prop where
  ex : ∃ (Y : Nat → Heap → Value → Heap → Prop) (St : Nat → Heap → Prop) (fp wr : List Addr), GoesN X.prog X.w X.A (.Tuple elts kk tpos) I fp wr n Y St ∧ St i h ∧ (∀ b ∈ wr, b ∈ own) ∧ (∀ h', St (i + 1) h' → tn (i + 1) h') ∧
    ∀ v h', Y i h v h' → ∃ T x y u1 u2, v = .ref T ∧ h.objs.size ≤ T ∧ h'.IsTuple T #[u1, u2] ∧ RelV x u1 ∧ RelV y u2 ∧ px i x y
theorem turn_N {P : Program} {w : World} {K : PySem.W.Frag} {elts : List Expr} {kk : Nat} {tpos : Pos} {n : Nat} {it : Addr} {own : List Addr} {tn : Nat → Heap → Prop} {src : Hp → Prop} {px : Nat → V → V → Prop} (hm : it ∈ own)
    (hobj : ∀ i h, tn i h → ∀ b ∈ own, ∃ o, h.get? b = some o ∧ ∀ v, o.data ≠ .cell v) (hkeep : ∀ i h h', tn i h → (∀ b ∈ own, ∀ o, h.get? b = some o → h'.get? b = some o) → tn i h')
    (hself : ∀ (A : Around) (i : Nat) (s : Shared) (Q : Value → Shared → Prop) (E : Value → Shared → Prop), tn i s.heap → Q (.ref it) s → wpAny (model P w) A (pyIter (.ref it)) Q E s)
    (hone : ∀ (X : Cx), X.prog = P → X.w = w → X.K = K → X.calm = true → ∀ (i : Nat) (pins : List (Addr × Obj)) (s : Shared) (σ : L2.St) (H : Hp), Inv X pins σ H s → tn i s.heap → src H → OneTurn X elts kk tpos n it own tn px i s.heap) :
    Turn P w K (.Tuple elts kk tpos) (ItN n src px) own it tn where
  mem := hm
  obj := hobj
  keep := hkeep
  self := hself
  item := by
    intro X hP hw hK hc i pins s σ H E I hf st hg
    obtain ⟨Y, St, fp, wr, G, hst, hwr, hnx, hY⟩ := (hone X hP hw hK hc i pins s σ H I st hg.2).ex
    subst hP hw hK
    refine wpAny_mono (G.goes i s (fun v s2 => ∃ x H', Inv X pins σ H' s2 ∧ RelV x v ∧ (ItN n src px).yld i H x H' ∧ tn (i + 1) s2.heap ∧ ∀ b ∈ own, H' b = none) E hg.1 hst fun v h' tk hy hst' hk htk => ?_) (fun r s1 q => q) fun _ _ q => q
    obtain ⟨T, x, y, u1, u2, rfl, hT, ht, r1, r2, hp⟩ := hY v h' hy
    obtain ⟨ob, e1, e2, m, e3⟩ := ht
    have new : ObjOk X.prog X.w (upd H T (.tup [x, y])) h' T (.tup [x, y]) := ⟨by show 2 ≤ sizeLine; decide, [u1, u2], .cons r1 (.cons r2 .nil), ⟨ob, e1, e2, m, e3⟩⟩
    have I2 := I.turnedNew (t' := tk) (ch := own) (fun b o hb q => hk b o (fun z => hb (hwr b z)) q) hf hT new
    refine ⟨.ref T, _, I2, rfl, ⟨T, x, y, rfl, I.hok.fresh hT, rfl, hp⟩, hnx h' hst', fun b hb => ?_⟩
    obtain ⟨o, ho, _⟩ := hobj i s.heap st b hb
    rw [upd_ne (Nat.ne_of_lt (Nat.lt_of_lt_of_le (Heap.lt_size ho) hT))]
    exact (hf b hb).1
  done := by
    intro X hP hw hK hc i pins s σ H E I hf st hg
    obtain ⟨Y, St, fp, wr, G, hst, hwr, hnx, hY⟩ := (hone X hP hw hK hc i pins s σ H I st hg.2).ex
    subst hP hw hK
    have hi : i = n := hg.1
    subst hi
    exact G.stops s (fun s1 => Inv X pins σ H s1) E hst fun h' tk hk _ => I.turnedL (t' := tk) (ch := own) (fun b o hb q => hk b o (fun z => hb (hwr b z)) q) hf

/-! ### enumerate(t), t a tuple -/
theorem meets_enum1 {v : Value} {o : Obj} {H : Heap → Prop} (B : Begins v o H) :
    Meets (Builtin.«enumerate.__new__» ⟨[.type "enumerate", v], []⟩) (fun _ R s => H s.heap ∧
      R (.ok (.ret (.ref (s.heap.push o).objs.size))) { s with heap := (s.heap.push o).push { cls := .type "enumerate", data := .fields #[.none, .bool false, .ref s.heap.objs.size, rawInt 0, .none, .none] } }) :=
  .of_wp fun prog w A R s h => by
    obtain ⟨hp, g, d, tk, os⟩ := s
    obtain ⟨h1, h⟩ := h
    have hsub := sub_enumerate
    have it1 : ∀ {A' : Around} {E : Value → Shared → Prop} {Q : Value → Shared → Prop}, Q (.ref hp.objs.size) ⟨hp.push o, g, d, tk, os⟩ → wpAny (model prog w) A' (pyIter v) Q E ⟨hp, g, d, tk, os⟩ :=
      fun q => B.iter prog w _ _ ⟨hp, g, d, tk, os⟩ _ h1 q
    wp_walk using it1
    refine wpAny_stack_any fun st => wpAny_pure ?_
    split
    · rename_i c _ _ _ _ _
      cases (c == Value.type "enumerate")
      · wp_walk using it1
        exact ⟨_, rfl, h⟩
      · wp_walk using it1
        exact ⟨_, rfl, h⟩
    · wp_walk using it1
      exact ⟨_, rfl, h⟩
theorem call_enum1 {prog : Program} {w : World} {A : Around} {E : Value → Shared → Prop} {s : Shared} {v : Value} {o : Obj} {H : Heap → Prop} {Q : Value → Shared → Prop} (B : Begins v o H) (h1 : H s.heap)
    (h : ∀ h', IsEnum h' (s.heap.objs.size + 1) s.heap.objs.size 0 .none → h'.get? s.heap.objs.size = some o → (∀ b o, s.heap.get? b = some o → h'.get? b = some o) → Q (.ref (s.heap.objs.size + 1)) { s with heap := h' }) :
    wpAny (model prog w) A (call (.type "enumerate") [v]) Q E s := by
  refine callType_new F.called_enumerate (by decide) (F.typeCall_enumerate_1 _) (F.newCall_enumerate_1 _) (fun obj => F.args_object_init_2 obj _) F.entry_enumerate_new (meets_enum1 B) ⟨h1, ?_⟩
  have hz : (s.heap.push o).objs.size = s.heap.objs.size + 1 := Heap.size_push ..
  have he : IsEnum ((s.heap.push o).push { cls := .type "enumerate", data := .fields #[.none, .bool false, .ref s.heap.objs.size, rawInt 0, .none, .none] }) (s.heap.objs.size + 1) s.heap.objs.size 0 .none := by
    have q := Heap.get?_push_size (s.heap.push o) (o := { cls := .type "enumerate", data := .fields #[.none, .bool false, .ref s.heap.objs.size, rawInt 0, .none, .none] }) rfl
    rw [hz] at q
    exact q
  show _ ∧ _
  rw [hz]
  exact ⟨⟨_, he, rfl⟩, h _ he (Heap.get?_push_of_some _ (Heap.get?_push_size _ B.free)) fun b o x => Heap.get?_push_of_some _ (Heap.get?_push_of_some _ x)⟩
def pxEnum (xs : List V) : Nat → V → V → Prop := fun i x y => x = .int (i : Nat) ∧ xs[i]? = some y
def iEnumT (K : PySem.W.Frag) (ta : TA) : TI := fun σ H R => ta σ H fun vs H1 => ∃ a xs, vs = [.ref a] ∧ SqT K H1 a xs ∧ R (ItN xs.length (fun H => SqT K H a xs) (pxEnum xs)) H1
theorem turn_enumT {P : Program} {w : World} {K : PySem.W.Frag} {elts : List Expr} {kk : Nat} {tpos : Pos} {a e it : Addr} {xs : List V} (hei : e ≠ it) (hea : e ≠ a) (hia : a ≠ it) :
    Turn P w K (.Tuple elts kk tpos) (ItN xs.length (fun H => SqT K H a xs) (pxEnum xs)) [e, it] e (fun i h => (∃ old, IsEnum h e it (i : Int) old) ∧ h.IsTupleIter it a i) := by
  refine turn_N (by simp) (fun i h st b hb => ?_) (fun i h h' st k => ?_) (fun A i s Q E st hq => ?_) fun X hP hw hK hc i pins s σ H I st hs => ?_
  · obtain ⟨⟨old, h1⟩, ⟨o, h2, _, d2⟩⟩ := st
    rcases List.mem_cons.mp hb with q | q
    · rw [q]; exact ⟨_, h1, fun v z => by cases z⟩
    · rw [List.mem_singleton.mp q]
      exact ⟨o, h2, fun v z => by rw [d2] at z; cases z⟩
  · obtain ⟨⟨old, h1⟩, h2⟩ := st
    exact ⟨⟨old, k e (by simp) _ h1⟩, h2.at fun o q => k it (by simp) o q⟩
  · obtain ⟨⟨old, h1⟩, _⟩ := st
    exact wpAny_pyIter_enum h1 hq
  · subst hK
    obtain ⟨its, rv, ht, _⟩ := I.tuple hs
    have hh : X.A.handled = none := I.ok.hd hc
    have hln := rv.length
    have D := Draws.tuple (prog := X.prog) (w := X.w) (A := X.A.in1) hh it a hia its.toArray
    have G := GoesN.enumFrom (elts := elts) (x1 := kk) (pos := tpos) 0 D e hei (fun z => by
      rcases List.mem_cons.mp z with q | q
      · exact hei q
      · exact hea (List.mem_singleton.mp q)) List.mem_cons_self
    have hsz : its.toArray.size = xs.length := by rw [List.size_toArray, ← hln]
    rw [hsz] at G
    refine ⟨_, _, _, _, G, ⟨?_, st.2, ht⟩, fun b hb => hb, fun h' hst' => ?_, fun v h' hy => ?_⟩
    · obtain ⟨old, h1⟩ := st.1
      exact ⟨old, by rw [Int.zero_add]; exact h1⟩
    · obtain ⟨⟨old, h1⟩, h2, _⟩ := hst'
      refine ⟨⟨old, ?_⟩, h2⟩
      rw [Int.zero_add] at h1
      exact h1
    · obtain ⟨T, t, x, rfl, hT, hx, htu⟩ := hy
      have hx' : its[i]? = some x := by simpa using hx
      have hi : i < xs.length := by
        have := (List.getElem?_eq_some_iff.mp hx').1
        omega
      obtain ⟨u, hu, ru⟩ := rv.get (List.getElem?_eq_getElem hi)
      rw [hx'] at hu
      cases hu
      exact ⟨T, .int (i : Nat), xs[i], _, x, rfl, hT, htu, ⟨t, by rw [Int.zero_add]⟩, ru, rfl, List.getElem?_eq_getElem hi⟩
theorem pi_enumT {X : Cx} {e : Expr} {ta : TA} {p pos tpos : Pos} {elts : List Expr} {kk : Nat} (hg : Gl X "enumerate") (hm : X.mg "enumerate" = none) (ha : PA X [e] ta)
    (hs : starEach [e] X.env = (false, eval e X.env) :: starEach [] X.env := by rfl) : PI X (.Tuple elts kk tpos) (.Call (.Name "enumerate" p) [e] [] pos) (iEnumT X.K ta) := by
  refine ⟨fun pins s σ H R I h => ?_⟩
  refine Call_ (ld_blt (u := .type "enumerate") I hg hm (by decide +kernel) (PyProof.Rows.callWith_type1 (thn (ha.run pos pins s σ H _ I h) fun us s1 ⟨vs, H1, I1, r1, q1⟩ => ?_) hs rfl))
  obtain ⟨a, xs, rfl, hq, q⟩ := q1
  obtain rfl := Vals.ref1 r1
  obtain ⟨its, rv, ht, _⟩ := I1.tuple hq
  have hal : a < s1.heap.objs.size := by
    obtain ⟨o, ho, _⟩ := ht
    exact Heap.lt_size ho
  refine call_enum1 (begins_tuple a its.toArray) ht fun h' he hi hk => wpAny_pyIter_enum he ?_
  have hf : ∀ b ∈ [s1.heap.objs.size + 1, s1.heap.objs.size], FpOk X pins H1 b := fun b hb => by
    have hle : s1.heap.objs.size ≤ b := by
      rcases List.mem_cons.mp hb with z | z
      · rw [z]; exact Nat.le_succ _
      · rw [List.mem_singleton.mp z]; exact Nat.le_refl _
    exact I1.fpOk hle (I1.hok.fresh hle)
  exact ⟨s1.heap.objs.size + 1, [s1.heap.objs.size + 1, s1.heap.objs.size], _, _, H1, rfl, I1.kept (t' := s1.toks) hk, turn_enumT (Nat.succ_ne_self _) (Nat.ne_of_gt (Nat.lt_succ_of_lt hal)) (Nat.ne_of_lt hal), ⟨⟨_, he⟩, _, hi, rfl, rfl⟩, hf, q⟩

/-! ### zip(l, t), l a list and t a tuple -/
def pxZip (xs ys : List V) : Nat → V → V → Prop := fun i x y => xs[i]? = some x ∧ ys[i]? = some y
def iZipLT (K : PySem.W.Frag) (ta : TA) : TI := fun σ H R => ta σ H fun vs H1 => ∃ a b xs ys, vs = [.ref a, .ref b] ∧ SqL K H1 a xs ∧ SqT K H1 b ys ∧ R (ItN (min xs.length ys.length) (fun H => SqL K H a xs ∧ SqT K H b ys) (pxZip xs ys)) H1
theorem turn_zipLT {P : Program} {w : World} {K : PySem.W.Frag} {elts : List Expr} {kk : Nat} {tpos : Pos} {a b N : Addr} {xs ys : List V} (ha : a < N) (hb : b < N) :
    Turn P w K (.Tuple elts kk tpos) (ItN (min xs.length ys.length) (fun H => SqL K H a xs ∧ SqT K H b ys) (pxZip xs ys)) [N + 4, N + 2, N + 3, N, N + 1] (N + 4)
      (fun i h => IsZip h (N + 4) (N + 2) (N + 3) .none ∧ IsTupOf2 h (N + 2) (.ref N) (.ref (N + 1)) ∧ (∃ a1 a2, IsTupOf2 h (N + 3) a1 a2) ∧ h.IsListIter N a i ∧ h.IsTupleIter (N + 1) b i) := by
  refine turn_N (by simp) (fun i h st c hc => ?_) (fun i h h' st k => ?_) (fun A i s Q E st hq => wpAny_pyIter_zip st.1 hq) fun X hP hw hK hc i pins s σ H I st hs => ?_
  · obtain ⟨h1, h2, ⟨a1, a2, h3⟩, ⟨o4, h4, _, d4⟩, ⟨o5, h5, _, d5⟩⟩ := st
    have hc' : c = N + 4 ∨ c = N + 2 ∨ c = N + 3 ∨ c = N ∨ c = N + 1 := by simpa using hc
    rcases hc' with q | q | q | q | q
    · rw [q]; exact ⟨_, h1, fun v z => nomatch z⟩
    · rw [q]; exact ⟨_, h2, fun v z => nomatch z⟩
    · rw [q]; exact ⟨_, h3, fun v z => nomatch z⟩
    · rw [q]; exact ⟨o4, h4, fun v z => by rw [d4] at z; cases z⟩
    · rw [q]; exact ⟨o5, h5, fun v z => by rw [d5] at z; cases z⟩
  · obtain ⟨h1, h2, ⟨a1, a2, h3⟩, h4, h5⟩ := st
    exact ⟨k _ (by simp) _ h1, k _ (by simp) _ h2, ⟨a1, a2, k _ (by simp) _ h3⟩, h4.at fun o q => k _ (by simp) o q, h5.at fun o q => k _ (by simp) o q⟩
  · subst hK
    obtain ⟨its, rv, ht, _⟩ := I.list hs.1
    obtain ⟨its2, rv2, ht2, _⟩ := I.tuple hs.2
    have hh : X.A.handled = none := I.ok.hd hc
    have hln := rv.length
    have hln2 := rv2.length
    have D1 := Draws.list (prog := X.prog) (w := X.w) (A := X.A.in1) hh N a (Nat.ne_of_lt ha) its.toArray
    have D2 := Draws.tuple (prog := X.prog) (w := X.w) (A := X.A.in1) hh (N + 1) b (Nat.ne_of_lt (Nat.lt_succ_of_lt hb)) its2.toArray
    have S := zip_sep2 (N := N) (fp1 := [a]) (fp2 := [b]) (fun c hc => by rw [List.mem_singleton.mp hc]; exact ha) (fun c hc => by rw [List.mem_singleton.mp hc]; exact hb)
    have G := GoesN.zip2 (elts := elts) (x1 := kk) (pos := tpos) S D1 D2
    have hsz : min its.toArray.size its2.toArray.size = min xs.length ys.length := by rw [List.size_toArray, List.size_toArray, ← hln, ← hln2]
    rw [hsz] at G
    refine ⟨_, _, _, _, G, ⟨st.1, st.2.1, st.2.2.1, ⟨st.2.2.2.1, ht.isList⟩, st.2.2.2.2, ht2⟩, fun c hc => ?_, fun h' hst' => ⟨hst'.1, hst'.2.1, hst'.2.2.1, hst'.2.2.2.1.1, hst'.2.2.2.2.1⟩, fun v h' hy => ?_⟩
    · have hc' : c = N + 4 ∨ c = N + 3 ∨ c = N ∨ c = N + 1 := by simpa using hc
      rcases hc' with q | q | q | q <;> rw [q] <;> simp
    · obtain ⟨T, x, y, rfl, hT, hx, hy2, htu⟩ := hy
      have hx' : its[i]? = some x := by simpa using hx
      have hy' : its2[i]? = some y := by simpa using hy2
      have hi : i < xs.length := by
        have := (List.getElem?_eq_some_iff.mp hx').1
        omega
      have hi2 : i < ys.length := by
        have := (List.getElem?_eq_some_iff.mp hy').1
        omega
      obtain ⟨u, hu, ru⟩ := rv.get (List.getElem?_eq_getElem hi)
      obtain ⟨u2, hu2, ru2⟩ := rv2.get (List.getElem?_eq_getElem hi2)
      rw [hx'] at hu
      rw [hy'] at hu2
      cases hu
      cases hu2
      exact ⟨T, xs[i], ys[i], x, y, rfl, hT, htu, ru, ru2, List.getElem?_eq_getElem hi, List.getElem?_eq_getElem hi2⟩
theorem pi_zipLT {X : Cx} {e e2 : Expr} {ta : TA} {p pos tpos : Pos} {elts : List Expr} {kk : Nat} (hg : Gl X "zip") (hm : X.mg "zip" = none) (ha : PA X [e, e2] ta)
    (hs : starEach [e, e2] X.env = (false, eval e X.env) :: starEach [e2] X.env := by rfl) (hpl : (backTo pos (starEach [e2] X.env)).any (·.1) = false := by rfl) : PI X (.Tuple elts kk tpos) (.Call (.Name "zip" p) [e, e2] [] pos) (iZipLT X.K ta) := by
  refine ⟨fun pins s σ H R I h => ?_⟩
  refine Call_ (ld_blt I hg hm PyProof.Rows.boot_zip (PyProof.Rows.callWith_type1 (thn (ha.run pos pins s σ H _ I h) fun us s1 ⟨vs, H1, I1, r1, q1⟩ => ?_) hs hpl))
  obtain ⟨a, b, xs, ys, rfl, hqx, hqy, q⟩ := q1
  obtain ⟨u1, u2, rfl, ru1, ru2⟩ := vals2 r1
  obtain rfl : u1 = Value.ref a := ru1
  obtain rfl : u2 = Value.ref b := ru2
  obtain ⟨its, rv, p1, _⟩ := I1.list hqx
  obtain ⟨its2, rv2, p2, _⟩ := I1.tuple hqy
  have hal : a < s1.heap.objs.size := p1.lt
  have hbl : b < s1.heap.objs.size := by
    obtain ⟨o, ho, _⟩ := p2
    exact Heap.lt_size ho
  refine zip_begins2 (begins_list a its.toArray) (begins_tuple b its2.toArray) p1.isList p2 fun h' hz hTI hTO h1 h2 hsz hk => wpAny_pyIter_zip hz ?_
  have hf : ∀ c ∈ [s1.heap.objs.size + 4, s1.heap.objs.size + 2, s1.heap.objs.size + 3, s1.heap.objs.size, s1.heap.objs.size + 1], FpOk X pins H1 c := fun c hc => by
    have hle : s1.heap.objs.size ≤ c := by
      have hc' : c = s1.heap.objs.size + 4 ∨ c = s1.heap.objs.size + 2 ∨ c = s1.heap.objs.size + 3 ∨ c = s1.heap.objs.size ∨ c = s1.heap.objs.size + 1 := by simpa using hc
      rcases hc' with z | z | z | z | z <;> rw [z] <;> first | exact Nat.le_add_right _ _ | exact Nat.le_refl _
    exact I1.fpOk hle (I1.hok.fresh hle)
  exact ⟨_, _, _, _, H1, rfl, I1.kept (t' := s1.toks) hk, turn_zipLT hal hbl, ⟨hz, hTI, ⟨_, _, hTO⟩, ⟨_, h1, rfl, rfl⟩, ⟨_, h2, rfl, rfl⟩⟩, hf, q⟩
end Sh
set_option Elab.async false
set_option linter.all false
set_option maxRecDepth 100000
set_option maxHeartbeats 4000000
/-! The text by places; what a def of it is to its callers. -/
namespace Sh
open PySem PySem.Spec PyProof.Rows L2
def topS (i : Nat) : Stmt := PySem.Challenge.pw_shoporders_k01_whole_lateness.main.body.getD i (.Pass ⟨0, 0, 0, 0⟩)
/-- a def of the module, by its name, and its promise -/
structure Has (P : Program) (w : World) (K : PySem.W.Frag) (mg : Str → Option Value) (base : Heap) (name : Str) (k : Nat) (ps : List Str) (sp : Sp) : Prop where
  ex : ∃ f fd, mg name = some (.ref f) ∧ PySem.W.keepIn K (.ref f) = true ∧ Binds K fd ps [] ∧ FnOk P w K mg base CX0 k f fd ps sp
/-- a tuple of ints that is tracked -/
abbrev TupI (H : Hp) (a : Addr) (ns : List Int) : Prop := H a = some (.tup (ns.map V.int))
abbrev TupJ (H : Hp) (a : Addr) (js : List Nat) : Prop := H a = some (.tup (jobs js))
/-- the built-in names that the text uses are nowhere bound -/
structure Free (mg : Str → Option Value) : Prop where
  isinstance : mg "isinstance" = none
  int : mg "int" = none
  bool : mg "bool" = none
  str : mg "str" = none
  tuple : mg "tuple" = none
  list : mg "list" = none
  set : mg "set" = none
  len : mg "len" = none
  range : mg "range" = none
  enumerate : mg "enumerate" = none
  zip : mg "zip" = none
  all : mg "all" = none
  sum : mg "sum" = none
  max : mg "max" = none
  min : mg "min" = none
  sorted : mg "sorted" = none
theorem qT {Q : VK} {H : Hp} {b : Bool} (q : Q (.bl true) H) (e : b = true) : Q (.bl b) H := by
  rw [e]
  exact q
theorem qI {Q : VK} {H : Hp} {a b : Int} (q : Q (.int a) H) (e : b = a) : Q (.int b) H := by
  rw [e]
  exact q
theorem same_upd {H : Hp} {p : Addr} {o : HO} (h : H p = none) : Same H (upd H p o) := fun b x e => by
  rw [upd_ne (ne_of_none e h)]
  exact e
theorem int_at {ns : List Int} {i : Nat} {x : V} (h : (ns.map V.int)[i]? = some x) : ∃ n, ns[i]? = some n ∧ x = .int n ∧ i < ns.length := by
  rw [List.getElem?_map] at h
  cases q : ns[i]? with
  | none => rw [q] at h; cases h
  | some n =>
    rw [q] at h
    exact ⟨n, rfl, (Option.some.inj h).symm, (List.getElem?_eq_some_iff.mp q).1⟩
theorem job_at {js : List Nat} {i : Nat} {x : V} (h : (jobs js)[i]? = some x) : ∃ n, js[i]? = some n ∧ x = .int (n : Nat) ∧ i < js.length := by
  rw [List.getElem?_map] at h
  cases q : js[i]? with
  | none => rw [q] at h; cases h
  | some n =>
    rw [q] at h
    exact ⟨n, rfl, (Option.some.inj h).symm, (List.getElem?_eq_some_iff.mp q).1⟩
end Sh
set_option Elab.async false
set_option linter.all false
set_option maxRecDepth 100000
set_option maxHeartbeats 4000000
/-! checks.py: is_integer, is_in, is_list -/
namespace Sh
open PySem PySem.Spec PyProof.Rows L2
abbrev sIsInteger : Stmt := topS 7
abbrev sIsIn : Stmt := topS 8
abbrev sIsList : Stmt := topS 9
theorem scIsInteger : FnScope ["value"] ["value"] (defScope sIsInteger) := ⟨rfl, rfl, rfl, by decide +kernel, rfl, by decide +kernel, by decide +kernel⟩
theorem scIsIn : FnScope ["value", "least", "most"] ["value", "least", "most"] (defScope sIsIn) := ⟨rfl, rfl, rfl, by decide +kernel, rfl, by decide +kernel, by decide +kernel⟩
theorem scIsList : FnScope ["value", "least", "most"] ["value", "least", "most"] (defScope sIsList) := ⟨rfl, rfl, rfl, by decide +kernel, rfl, by decide +kernel, by decide +kernel⟩
def spIsInteger : Sp := fun vs H Q _ => ∃ n : Int, vs = [.int n] ∧ Q (.bl true) H
def spIsIn : Sp := fun vs H Q _ => ∃ n lo hi : Int, vs = [.int n, .int lo, .int hi] ∧ lo ≤ n ∧ n ≤ hi ∧ Q (.bl true) H
def spIsList : Sp := fun vs H Q _ => ∃ (a : Addr) (xs : List V) (lo hi : Int), vs = [.ref a, .int lo, .int hi] ∧ H a = some (.tup xs) ∧ lo ≤ (xs.length : Int) ∧ (xs.length : Int) ≤ hi ∧ Q (.bl true) H
section
variable {P : Program} {w : World} {K : PySem.W.Frag} {mg : Str → Option Value} {base : Heap} {f : Addr} {fd : FuncData}
theorem ok_isInteger (F : Fun K "is_integer" "is_integer" sIsInteger f fd) (T : Free mg) : FnOk P w K mg base CX0 1 f fd ["value"] spIsInteger := by
  refine F.ok scIsInteger (fun vs H Q E h => ?_) (fun cdv A outer s H vs Q E hr h => ?_)
  · obtain ⟨n, rfl, _⟩ := h
    rfl
  · obtain ⟨n, rfl, q⟩ := h
    refine ⟨_, pss_one (ps_ret (pe_and (pe_callB call_isi (by rfl) T.isinstance (by decide +kernel) (pa_cons (pv 0) (pa_cons (pe_bltn (v := .ty "int") (u := .type "int") (by rfl) T.int (by decide +kernel) rfl) pa_nil)))
      (pe_one (pe_not (pe_callB call_isi (by rfl) T.isinstance (by decide +kernel) (pa_cons (pv 0) (pa_cons (pe_bltn (v := .ty "bool") (u := .type "bool") (by rfl) T.bool (by decide +kernel) rfl) pa_nil))))))), ?_⟩
    refine ⟨_, rfl, _, _, .type "int", .type "int", true, rfl, .ty _, .base (.int n), kit_ty (by decide +kernel), true, rfl, iteT ?_⟩
    exact ⟨_, rfl, _, _, .type "int", .type "bool", false, rfl, .ty _, .base (.int n), kit_ty (by decide +kernel), false, rfl, q⟩
theorem ok_isIn (F : Fun K "is_in" "is_in" sIsIn f fd) (h1 : Has P w K mg base "is_integer" 1 ["value"] spIsInteger) : FnOk P w K mg base CX0 2 f fd ["value", "least", "most"] spIsIn := by
  obtain ⟨f1, fd1, g1, k1, b1, G1⟩ := h1.ex
  refine F.ok scIsIn (fun vs H Q E h => ?_) (fun cdv A outer s H vs Q E hr h => ?_)
  · obtain ⟨n, lo, hi, rfl, _⟩ := h
    rfl
  · obtain ⟨n, lo, hi, rfl, l1, l2, q⟩ := h
    refine ⟨_, pss_one (ps_ret (pe_and (pe_call G1 hr (by rfl) g1 k1 b1 .nil pass0 (pa_cons (pv 0) pa_nil)) (pe_one (pe_chain op_le op_le (pv 1) (pv 0) (pv 2))))), ?_⟩
    refine ⟨_, rfl, n, rfl, true, rfl, iteT ?_⟩
    refine ⟨_, rfl, _, rfl, lo, n, rfl, rfl, true, congrArg V.bl (decide_eq_true l1), iteT ?_⟩
    refine ⟨_, rfl, n, hi, rfl, rfl, qT q (decide_eq_true l2)⟩
theorem ok_isList (F : Fun K "is_list" "is_list" sIsList f fd) (T : Free mg) : FnOk P w K mg base CX0 1 f fd ["value", "least", "most"] spIsList := by
  refine F.ok scIsList (fun vs H Q E h => ?_) (fun cdv A outer s H vs Q E hr h => ?_)
  · obtain ⟨a, xs, lo, hi, rfl, _⟩ := h
    rfl
  · obtain ⟨a, xs, lo, hi, rfl, ha, l1, l2, q⟩ := h
    refine ⟨_, pss_one (ps_ret (pe_and (pe_callB call_isi (by rfl) T.isinstance (by decide +kernel) (pa_cons (pv 0) (pa_cons (pe_bltn (v := .ty "tuple") (u := .type "tuple") (by rfl) T.tuple (by decide +kernel) rfl) pa_nil)))
      (pe_one (pe_chain op_le op_le (pv 1) (pe_callB call_len (by rfl) T.len PySem.boot_len (pa_cons (pv 0) pa_nil)) (pv 2))))), ?_⟩
    refine ⟨_, rfl, _, _, .type "tuple", .type "tuple", true, rfl, .ty _, .base (.tup ha), kit_ty (by decide +kernel), true, rfl, iteT ?_⟩
    refine ⟨_, rfl, _, rfl, _, xs.length, rfl, .inr ⟨_, SqT.of ha, rfl⟩, ?_⟩
    refine ⟨lo, (xs.length : Int), rfl, rfl, true, congrArg V.bl (decide_eq_true l1), iteT ?_⟩
    refine ⟨_, rfl, (xs.length : Int), hi, rfl, rfl, qT q (decide_eq_true l2)⟩
end
end Sh
set_option Elab.async false
set_option linter.all false
set_option maxRecDepth 100000
set_option maxHeartbeats 4000000
/-! jobs.py: first_bad, need_times, need_weights, need_dues -/
namespace Sh
open PySem PySem.Spec PyProof.Rows L2
abbrev sFirstBad : Stmt := topS 15
abbrev sNeedTimes : Stmt := topS 16
abbrev sNeedWeights : Stmt := topS 17
abbrev sNeedDues : Stmt := topS 18
theorem scFirstBad : FnScope ["value", "many", "low", "high", "index", "item"] ["value", "many", "low", "high"] (defScope sFirstBad) := ⟨rfl, rfl, rfl, by decide +kernel, rfl, by decide +kernel, by decide +kernel⟩
theorem scNeedTimes : FnScope ["times", "index"] ["times"] (defScope sNeedTimes) := ⟨rfl, rfl, rfl, by decide +kernel, rfl, by decide +kernel, by decide +kernel⟩
theorem scNeedWeights : FnScope ["weights", "many", "index"] ["weights", "many"] (defScope sNeedWeights) := ⟨rfl, rfl, rfl, by decide +kernel, rfl, by decide +kernel, by decide +kernel⟩
theorem scNeedDues : FnScope ["dues", "many", "index"] ["dues", "many"] (defScope sNeedDues) := ⟨rfl, rfl, rfl, by decide +kernel, rfl, by decide +kernel, by decide +kernel⟩
def spFirstBad : Sp := fun vs H Q _ => ∃ (a : Addr) (ns : List Int) (many low high : Int), vs = [.ref a, .int many, .int low, .int high] ∧ TupI H a ns ∧ (ns.length : Int) = many ∧ (∀ n ∈ ns, low ≤ n ∧ n ≤ high) ∧ ∀ H', Same H H' → Q (.int (-1)) H'
def spNeedTimes : Sp := fun vs H Q _ => ∃ (a : Addr) (ns : List Int), vs = [.ref a] ∧ TupI H a ns ∧ 1 ≤ ns.length ∧ ns.length ≤ 10 ∧ (∀ n ∈ ns, 1 ≤ n ∧ n ≤ 60) ∧ ∀ H', Same H H' → Q .non H'
def spNeedWeights : Sp := fun vs H Q _ => ∃ (a : Addr) (ns : List Int) (many : Int), vs = [.ref a, .int many] ∧ TupI H a ns ∧ (ns.length : Int) = many ∧ (∀ n ∈ ns, 0 ≤ n ∧ n ≤ 60) ∧ ∀ H', Same H H' → Q .non H'
def spNeedDues : Sp := fun vs H Q _ => ∃ (a : Addr) (ns : List Int) (many : Int), vs = [.ref a, .int many] ∧ TupI H a ns ∧ (ns.length : Int) = many ∧ (∀ n ∈ ns, 0 ≤ n ∧ n ≤ 600) ∧ ∀ H', Same H H' → Q .non H'
section
variable {P : Program} {w : World} {K : PySem.W.Frag} {mg : Str → Option Value} {base : Heap} {f : Addr} {fd : FuncData}
theorem ok_firstBad (F : Fun K "first_bad" "first_bad" sFirstBad f fd) (T : Free mg) (h1 : Has P w K mg base "is_list" 1 ["value", "least", "most"] spIsList) (h2 : Has P w K mg base "is_in" 2 ["value", "least", "most"] spIsIn) :
    FnOk P w K mg base CX0 3 f fd ["value", "many", "low", "high"] spFirstBad := by
  obtain ⟨f1, fd1, g1, k1, b1, G1⟩ := h1.ex
  obtain ⟨f2, fd2, g2, k2, b2, G2⟩ := h2.ex
  refine F.ok scFirstBad (fun vs H Q E h => ?_) (fun cdv A outer s H vs Q E hr h => ?_)
  · obtain ⟨a, ns, m, lo, hi, rfl, _⟩ := h
    rfl
  · obtain ⟨a, ns, m, lo, hi, rfl, ha, hm, hb, q⟩ := h
    have hr1 : Room 1 _ := hr.mono (by decide)
    refine ⟨_, pss_cons (ps_if (pt_not (pt_val (pe_call G1 hr1 (by rfl) g1 k1 b1 .nil pass0 (pa_cons (pv 0) (pa_cons (pv 1) (pa_cons (pv 1) pa_nil)))))) (pss_one (ps_ret pe_non)) pss_nil)
      (pss_cons (ps_for PassesOwn.never rfl (pi_enumT (by rfl) T.enumerate (pa_cons (pv 0) pa_nil)) (pg_tup rfl (pgs_cons (pg_name (i := 4) scFirstBad.nd rfl (.inl rfl)) (pgs_cons (pg_name (i := 5) scFirstBad.nd rfl (.inl rfl)) pgs_nil)))
        (pss_one (ps_if (pt_not (pt_val (pe_call G2 hr (by rfl) g2 k2 b2 .nil pass0 (pa_cons (pv 5) (pa_cons (pv 2) (pa_cons (pv 3) pa_nil)))))) (pss_one (ps_ret (pv 4))) pss_nil)))
      (pss_one (ps_ret (pe_un un_neg pe_int)))), ?_⟩
    refine ⟨_, rfl, _, rfl, _, rfl, a, ns.map V.int, m, m, rfl, ha, by rw [List.length_map]; omega, by rw [List.length_map]; omega, true, rfl, iteF ?_⟩
    refine ⟨_, rfl, a, ns.map V.int, rfl, SqT.of ha, for_it walk_N (fun i σ H' => ∃ v4 v5, σ = [some (.ref a), some (.int m), some (.int lo), some (.int hi), v4, v5] ∧ Same H H')
      ⟨none, none, rfl, Same.refl H⟩ (fun i σ H' _ ⟨_, _, _, s1⟩ => SqT.of (s1 _ _ ha)) ?_ ?_⟩
    · rintro i v σ H1 H2 hi' ⟨v4, v5, rfl, s1⟩ ⟨t, x, y, rfl, ht, rfl, rfl, hy⟩
      obtain ⟨n, hn, rfl, _⟩ := int_at hy
      obtain ⟨l1, l2⟩ := hb n (List.mem_of_getElem? hn)
      refine ⟨t, _, rfl, SqT.of upd_same, rfl, _, _, rfl, _, _, rfl, rfl, ?_⟩
      exact ⟨_, rfl, _, rfl, _, rfl, n, lo, hi, rfl, l1, l2, true, rfl, iteF ⟨_, _, rfl, s1.trans (same_upd ht)⟩⟩
    · rintro σ H1 ⟨v4, v5, rfl, s1⟩
      exact ⟨1, rfl, q H1 s1⟩
/-- the three looks are alike: the index of the first bad item is -1 -/
theorem ok_needTimes (F : Fun K "need_times" "need_times" sNeedTimes f fd) (T : Free mg) (h1 : Has P w K mg base "is_list" 1 ["value", "least", "most"] spIsList) (h2 : Has P w K mg base "first_bad" 3 ["value", "many", "low", "high"] spFirstBad)
    (c1 : ∃ t, mg "MOST_JOBS" = some (.int 10 t)) (c2 : ∃ t, mg "MOST_TIME" = some (.int 60 t)) : FnOk P w K mg base CX0 4 f fd ["times"] spNeedTimes := by
  obtain ⟨f1, fd1, g1, k1, b1, G1⟩ := h1.ex
  obtain ⟨f2, fd2, g2, k2, b2, G2⟩ := h2.ex
  obtain ⟨t1, c1⟩ := c1
  obtain ⟨t2, c2⟩ := c2
  refine F.ok scNeedTimes (fun vs H Q E h => ?_) (fun cdv A outer s H vs Q E hr h => ?_)
  · obtain ⟨a, ns, rfl, _⟩ := h
    rfl
  · obtain ⟨a, ns, rfl, ha, l1, l2, hb, q⟩ := h
    have hr1 : Room 1 _ := hr.mono (by decide)
    refine ⟨_, pss_cons (ps_if (pt_not (pt_val (pe_call G1 hr1 (by rfl) g1 k1 b1 .nil pass0 (pa_cons (pv 0) (pa_cons pe_int (pa_cons (pe_glob (v := .int 10) (by rfl) c1 ⟨_, rfl⟩) pa_nil)))))) (pss_one ps_never) pss_nil)
      (pss_cons (ps_set (i := 1) scNeedTimes.nd rfl (.inl rfl) (pe_call G2 hr (by rfl) g2 k2 b2 .nil pass0 (pa_cons (pv 0) (pa_cons (pe_callB call_len (by rfl) T.len PySem.boot_len (pa_cons (pv 0) pa_nil)) (pa_cons pe_int (pa_cons (pe_glob (v := .int 60) (by rfl) c2 ⟨_, rfl⟩) pa_nil))))))
      (pss_one (ps_if (pt_cmpR op_ne (pv 1) (pe_un un_neg pe_int) (nomark _)) (pss_one ps_never) pss_nil))), ?_⟩
    refine ⟨_, rfl, a, ns.map V.int, 1, 10, rfl, ha, by rw [List.length_map]; omega, by rw [List.length_map]; omega, true, rfl, iteF ?_⟩
    refine ⟨_, rfl, ⟨_, rfl, _, (ns.map V.int).length, rfl, .inr ⟨_, SqT.of ha, rfl⟩, a, ns, _, 1, 60, rfl, ha, by rw [List.length_map], hb, fun H1 s1 => ?_⟩⟩
    exact ⟨_, rfl, 1, rfl, rfl, _, rfl, iteF (q H1 s1)⟩
theorem ok_needWeights (F : Fun K "need_weights" "need_weights" sNeedWeights f fd) (h2 : Has P w K mg base "first_bad" 3 ["value", "many", "low", "high"] spFirstBad)
    (c2 : ∃ t, mg "MOST_WEIGHT" = some (.int 60 t)) : FnOk P w K mg base CX0 4 f fd ["weights", "many"] spNeedWeights := by
  obtain ⟨f2, fd2, g2, k2, b2, G2⟩ := h2.ex
  obtain ⟨t2, c2⟩ := c2
  refine F.ok scNeedWeights (fun vs H Q E h => ?_) (fun cdv A outer s H vs Q E hr h => ?_)
  · obtain ⟨a, ns, m, rfl, _⟩ := h
    rfl
  · obtain ⟨a, ns, m, rfl, ha, hm, hb, q⟩ := h
    refine ⟨_, pss_cons (ps_set (i := 2) scNeedWeights.nd rfl (.inl rfl) (pe_call G2 hr (by rfl) g2 k2 b2 .nil pass0 (pa_cons (pv 0) (pa_cons (pv 1) (pa_cons pe_int (pa_cons (pe_glob (v := .int 60) (by rfl) c2 ⟨_, rfl⟩) pa_nil))))))
      (pss_one (ps_if (pt_cmpR op_ne (pv 2) (pe_un un_neg pe_int) (nomark _)) (pss_one ps_never) pss_nil)), ?_⟩
    refine ⟨_, rfl, _, rfl, a, ns, _, 0, 60, rfl, ha, hm, hb, fun H1 s1 => ?_⟩
    exact ⟨_, rfl, 1, rfl, rfl, _, rfl, iteF (q H1 s1)⟩
theorem ok_needDues (F : Fun K "need_dues" "need_dues" sNeedDues f fd) (h2 : Has P w K mg base "first_bad" 3 ["value", "many", "low", "high"] spFirstBad)
    (c2 : ∃ t, mg "MOST_DAY" = some (.int 600 t)) : FnOk P w K mg base CX0 4 f fd ["dues", "many"] spNeedDues := by
  obtain ⟨f2, fd2, g2, k2, b2, G2⟩ := h2.ex
  obtain ⟨t2, c2⟩ := c2
  refine F.ok scNeedDues (fun vs H Q E h => ?_) (fun cdv A outer s H vs Q E hr h => ?_)
  · obtain ⟨a, ns, m, rfl, _⟩ := h
    rfl
  · obtain ⟨a, ns, m, rfl, ha, hm, hb, q⟩ := h
    refine ⟨_, pss_cons (ps_set (i := 2) scNeedDues.nd rfl (.inl rfl) (pe_call G2 hr (by rfl) g2 k2 b2 .nil pass0 (pa_cons (pv 0) (pa_cons (pv 1) (pa_cons pe_int (pa_cons (pe_glob (v := .int 600) (by rfl) c2 ⟨_, rfl⟩) pa_nil))))))
      (pss_one (ps_if (pt_cmpR op_ne (pv 2) (pe_un un_neg pe_int) (nomark _)) (pss_one ps_never) pss_nil)), ?_⟩
    refine ⟨_, rfl, _, rfl, a, ns, _, 0, 600, rfl, ha, hm, hb, fun H1 s1 => ?_⟩
    exact ⟨_, rfl, 1, rfl, rfl, _, rfl, iteF (q H1 s1)⟩
end
end Sh
set_option Elab.async false
set_option linter.all false
set_option maxRecDepth 100000
set_option maxHeartbeats 4000000
/-! set(t) of a tuple of ints, len of a set -/
namespace Sh
open PySem PySem.Spec PyProof.Rows L2
theorem int_sub_len : ∀ {A B : List Int}, A.Nodup → (∀ x ∈ A, x ∈ B) → A.length ≤ B.length
  | [], _, _, _ => Nat.zero_le _
  | a :: A, B, hn, h => by
    have hn' := List.nodup_cons.mp hn
    have hm := h a List.mem_cons_self
    have p := (List.perm_cons_erase hm).length_eq
    have ih := int_sub_len (A := A) (B := B.erase a) hn'.2 fun x hx => by
      have hxa : x ≠ a := fun e => hn'.1 (e ▸ hx)
      exact (List.mem_erase_of_ne hxa).mpr (h x (List.mem_cons_of_mem a hx))
    rw [List.length_cons] at p ⊢
    omega
section
variable {X : Cx}
def rSetT (K : PySem.W.Frag) (w : World) : List V → Hp → VK → Prop := fun vs H Q => ∃ (a : Addr) (ns : List Int), vs = [.ref a] ∧ SqT K H a (ns.map V.int) ∧ ns.length ≤ 1000 ∧
  ∀ (p : Addr) (c : Nat), H p = none → c ≤ ns.length → (ns.Nodup → c = ns.length) → Q (.ref p) (upd H p (SetO w p (fun j => decide (j ∈ ns)) c))
theorem cr_setT (hc : X.calm = true) : CallR X (.type "set") (rSetT X.K X.w) := by
  intro pins s σ H vs us Q I r h
  obtain ⟨a, ns, rfl, ha, hl, q⟩ := h
  obtain rfl := Vals.ref1 r
  obtain ⟨its, rv, ht, _⟩ := I.tuple ha
  refine call_set_tupI ns (I.ok.hd hc) ht (by simpa using rv.ints) (by unfold scanBound; omega) fun h' tk c R hcn kp => ?_
  have R' := R
  obtain ⟨o, es, ep, t, ho, _, _, _, hnd, hS, _, _, hsz, _⟩ := R'
  refine ⟨.ref _, _, I.laid (t' := tk) kp (Nat.le_refl _) (setO_new R), rfl, q _ c (I.hok.fresh (Nat.le_refl _)) hcn fun hn => ?_⟩
  have h1 := int_sub_len (A := ns) (B := es.toList.map keyOf) hn fun x hx => (hS x).mp (decide_eq_true hx)
  rw [List.length_map] at h1
  have h2 : es.toList.length = c := hsz
  omega
def rLenS (w : World) : List V → Hp → VK → Prop := fun vs H Q => ∃ (a : Addr) (S : Int → Bool) (n : Nat), vs = [.ref a] ∧ H a = some (SetO w a S n) ∧ n ≤ 1000 ∧ Q (.int (n : Nat)) H
theorem cr_lenSet : CallR X (.builtin "len") (rLenS X.w) := by
  intro pins s σ H vs us Q I r h
  obtain ⟨a, S, n, rfl, ha, hn, q⟩ := h
  obtain rfl := Vals.ref1 r
  obtain ⟨o, es, ep, t, ho, hex, hd, _, _, _, _, hf, hsz, _⟩ := setO_get I ha
  exact call_len_set ho hex hd hf (by omega) ⟨.int (n : Nat), H, I.tok _, ⟨_, by rw [hsz]⟩, q⟩
end
end Sh
set_option Elab.async false
set_option linter.all false
set_option maxRecDepth 100000
set_option maxHeartbeats 4000000
/-! jobs.py: is_order, need_order; singles.py: need_weighed, need_due -/
namespace Sh
open PySem PySem.Spec PyProof.Rows L2
abbrev sIsOrder : Stmt := topS 19
abbrev sNeedOrder : Stmt := topS 20
abbrev sNeedWeighed : Stmt := topS 23
abbrev sNeedDue : Stmt := topS 24
theorem scIsOrder : FnScope ["value", "many", "job"] ["value", "many"] (defScope sIsOrder) := ⟨rfl, rfl, rfl, by decide +kernel, rfl, by decide +kernel, by decide +kernel⟩
theorem scNeedOrder : FnScope ["order", "many"] ["order", "many"] (defScope sNeedOrder) := ⟨rfl, rfl, rfl, by decide +kernel, rfl, by decide +kernel, by decide +kernel⟩
theorem scNeedWeighed : FnScope ["times", "weights"] ["times", "weights"] (defScope sNeedWeighed) := ⟨rfl, rfl, rfl, by decide +kernel, rfl, by decide +kernel, by decide +kernel⟩
theorem scNeedDue : FnScope ["times", "dues"] ["times", "dues"] (defScope sNeedDue) := ⟨rfl, rfl, rfl, by decide +kernel, rfl, by decide +kernel, by decide +kernel⟩
def spIsOrder : Sp := fun vs H Q _ => ∃ (a : Addr) (js : List Nat) (n : Nat), vs = [.ref a, .int (n : Nat)] ∧ TupJ H a js ∧ js.Perm (List.range n) ∧ n ≤ 10 ∧ ∀ H', Same H H' → Q (.bl true) H'
def spNeedOrder : Sp := fun vs H Q _ => ∃ (a : Addr) (js : List Nat) (n : Nat), vs = [.ref a, .int (n : Nat)] ∧ TupJ H a js ∧ js.Perm (List.range n) ∧ n ≤ 10 ∧ ∀ H', Same H H' → Q .non H'
def spNeedWeighed : Sp := fun vs H Q _ => ∃ (a b : Addr) (ts ws : List Int), vs = [.ref a, .ref b] ∧ TupI H a ts ∧ TupI H b ws ∧ 1 ≤ ts.length ∧ ts.length ≤ 10 ∧ ws.length = ts.length ∧ (∀ n ∈ ts, 1 ≤ n ∧ n ≤ 60) ∧ (∀ n ∈ ws, 0 ≤ n ∧ n ≤ 60) ∧ ∀ H', Same H H' → Q .non H'
def spNeedDue : Sp := fun vs H Q _ => ∃ (a b : Addr) (ts ds : List Int), vs = [.ref a, .ref b] ∧ TupI H a ts ∧ TupI H b ds ∧ 1 ≤ ts.length ∧ ts.length ≤ 10 ∧ ds.length = ts.length ∧ (∀ n ∈ ts, 1 ≤ n ∧ n ≤ 60) ∧ (∀ n ∈ ds, 0 ≤ n ∧ n ≤ 600) ∧ ∀ H', Same H H' → Q .non H'
theorem jobs_eq (js : List Nat) : jobs js = (js.map fun j => ((j : Nat) : Int)).map V.int := by
  rw [List.map_map]
  rfl
theorem cast_nodup : ∀ {js : List Nat}, js.Nodup → (js.map fun j => ((j : Nat) : Int)).Nodup
  | [], _ => List.nodup_nil
  | j :: js, h => by
    have h' := List.nodup_cons.mp h
    rw [List.map_cons]
    refine List.nodup_cons.mpr ⟨fun hm => ?_, cast_nodup h'.2⟩
    obtain ⟨x, hx, e⟩ := List.mem_map.mp hm
    have e2 : x = j := by omega
    exact h'.1 (e2 ▸ hx)
section
variable {P : Program} {w : World} {K : PySem.W.Frag} {mg : Str → Option Value} {base : Heap} {f : Addr} {fd : FuncData}
theorem ok_isOrder (F : Fun K "is_order" "is_order" sIsOrder f fd) (T : Free mg) (h1 : Has P w K mg base "is_list" 1 ["value", "least", "most"] spIsList) (h2 : Has P w K mg base "is_in" 2 ["value", "least", "most"] spIsIn) :
    FnOk P w K mg base CX0 3 f fd ["value", "many"] spIsOrder := by
  obtain ⟨f1, fd1, g1, k1, b1, G1⟩ := h1.ex
  obtain ⟨f2, fd2, g2, k2, b2, G2⟩ := h2.ex
  refine F.ok scIsOrder (fun vs H Q E h => ?_) (fun cdv A outer s H vs Q E hr h => ?_)
  · obtain ⟨a, js, n, rfl, _⟩ := h
    rfl
  · obtain ⟨a, js, n, rfl, ha, hp, hn, q⟩ := h
    have hr1 : Room 1 _ := hr.mono (by decide)
    have hlen : js.length = n := by rw [hp.length_eq, List.length_range]
    refine ⟨_, pss_one (ps_ret (pe_and (pe_call G1 hr1 (by rfl) g1 k1 b1 .nil pass0 (pa_cons (pv 0) (pa_cons (pv 1) (pa_cons (pv 1) pa_nil))))
      (pe_and (pe_callB (cr_all rfl) (by rfl) T.all (by decide +kernel) (pa_cons (pe_lc (own := [("job", 2)]) (g := gName 2) (by rfl) scIsOrder.nd (pi_tup (pv 0)) (blkOk_by (own := [("job", 2)]) (N := ["value", "many", "job"]) (sc := defScope sIsOrder) (by decide +kernel))
        (fun _ _ _ _ _ => pg_name (i := 2) scIsOrder.nd rfl (.inl rfl)) (fun _ _ _ _ _ => pts_nil) (fun _ _ _ _ _ => pe_call G2 hr (by rfl) g2 k2 b2 .nil pass0 (pa_cons (pv 2) (pa_cons pe_int (pa_cons (pe_op op_sub (pv 1) pe_int) pa_nil))))) pa_nil))
      (pe_one (pe_cmpR op_eq (pe_callB cr_lenSet (by rfl) T.len PySem.boot_len (pa_cons (pe_callTy (cr_setT rfl) (by rfl) T.set (by decide +kernel) (pa_cons (pv 0) pa_nil)) pa_nil)) (pv 1) (nomark _)))))), ?_⟩
    refine ⟨_, rfl, _, rfl, _, rfl, a, jobs js, (n : Nat), (n : Nat), rfl, ha, by rw [List.length_map, hlen]; exact Int.le_refl _, by rw [List.length_map, hlen]; exact Int.le_refl _, true, rfl, iteT ?_⟩
    refine ⟨_, rfl, a, rfl, ⟨_, SqT.of ha⟩, fun D hD => lc_tup (K := K) (a := a) (xs := jobs js) (fun i H' => Same H H' ∧ H' D = some (.lst ((List.replicate i true).map V.bl)))
      ⟨same_upd hD, upd_same⟩ (fun i H' _ ⟨s1, _⟩ => SqT.of (s1 _ _ ha)) ?_ ?_⟩
    · rintro i x H1 hx ⟨s1, hD1⟩
      obtain ⟨j, hj, rfl, hi⟩ := job_at hx
      have hjn : j < n := List.mem_range.mp (hp.mem_iff.mp (List.mem_of_getElem? hj))
      refine ⟨rfl, ?_⟩
      refine ⟨_, rfl, _, rfl, _, _, rfl, rfl, (j : Nat), 0, (n : Int) - 1, rfl, by omega, by omega, ?_⟩
      refine ⟨_, hD1, ?_, fun b o e => ?_, ?_⟩
      · rw [List.length_map, List.length_replicate]
        exact small1000 (by omega)
      · rw [upd_ne (ne_of_none e hD)]
        exact s1 _ _ e
      · rw [upd_same, List.replicate_succ', List.map_append]
        rfl
    · rintro H1 ⟨s1, hD1⟩
      refine ⟨D, List.replicate (jobs js).length true, rfl, SqL.of hD1, true, ?_, iteT ?_⟩
      · exact congrArg V.bl (by simp)
      refine ⟨_, rfl, a, js.map (fun j => ((j : Nat) : Int)), rfl, SqT.of (by rw [← jobs_eq]; exact s1 _ _ ha), by rw [List.length_map]; omega, fun p c hp0 hc1 hc2 => ?_⟩
      have hc3 := hc2 (cast_nodup (hp.nodup_iff.mpr List.nodup_range))
      rw [List.length_map] at hc3
      refine ⟨p, _, c, rfl, upd_same, by omega, _, rfl, rfl, ?_⟩
      exact qT (q _ (s1.trans (same_upd hp0))) (decide_eq_true (congrArg V.int (by omega)))
theorem ok_needOrder (F : Fun K "need_order" "need_order" sNeedOrder f fd) (h1 : Has P w K mg base "is_order" 3 ["value", "many"] spIsOrder) : FnOk P w K mg base CX0 4 f fd ["order", "many"] spNeedOrder := by
  obtain ⟨f1, fd1, g1, k1, b1, G1⟩ := h1.ex
  refine F.ok scNeedOrder (fun vs H Q E h => ?_) (fun cdv A outer s H vs Q E hr h => ?_)
  · obtain ⟨a, js, n, rfl, _⟩ := h
    rfl
  · obtain ⟨a, js, n, rfl, ha, hp, hn, q⟩ := h
    refine ⟨_, pss_one (ps_if (pt_not (pt_val (pe_call G1 hr (by rfl) g1 k1 b1 .nil pass0 (pa_cons (pv 0) (pa_cons (pv 1) pa_nil))))) (pss_one ps_never) pss_nil), ?_⟩
    exact ⟨_, rfl, _, rfl, a, js, n, rfl, ha, hp, hn, fun H1 s1 => ⟨true, rfl, iteF (q H1 s1)⟩⟩
theorem ok_needWeighed (F : Fun K "need_weighed" "need_weighed" sNeedWeighed f fd) (T : Free mg) (h1 : Has P w K mg base "need_times" 4 ["times"] spNeedTimes) (h2 : Has P w K mg base "need_weights" 4 ["weights", "many"] spNeedWeights) :
    FnOk P w K mg base CX0 5 f fd ["times", "weights"] spNeedWeighed := by
  obtain ⟨f1, fd1, g1, k1, b1, G1⟩ := h1.ex
  obtain ⟨f2, fd2, g2, k2, b2, G2⟩ := h2.ex
  refine F.ok scNeedWeighed (fun vs H Q E h => ?_) (fun cdv A outer s H vs Q E hr h => ?_)
  · obtain ⟨a, b, ts, ws, rfl, _⟩ := h
    rfl
  · obtain ⟨a, b, ts, ws, rfl, ha, hb, l1, l2, l3, q1, q2, q⟩ := h
    refine ⟨_, pss_cons (ps_expr (pe_call G1 hr (by rfl) g1 k1 b1 .nil pass0 (pa_cons (pv 0) pa_nil)))
      (pss_one (ps_expr (pe_call G2 hr (by rfl) g2 k2 b2 .nil pass0 (pa_cons (pv 1) (pa_cons (pe_callB call_len (by rfl) T.len PySem.boot_len (pa_cons (pv 0) pa_nil)) pa_nil))))), ?_⟩
    refine ⟨_, rfl, a, ts, rfl, ha, l1, l2, q1, fun H1 s1 => ?_⟩
    refine ⟨_, rfl, _, rfl, _, (ts.map V.int).length, rfl, .inr ⟨_, SqT.of (s1 _ _ ha), rfl⟩, b, ws, _, rfl, s1 _ _ hb, by rw [List.length_map, l3], q2, fun H2 s2 => ?_⟩
    exact q H2 (s1.trans s2)
theorem ok_needDue (F : Fun K "need_due" "need_due" sNeedDue f fd) (T : Free mg) (h1 : Has P w K mg base "need_times" 4 ["times"] spNeedTimes) (h2 : Has P w K mg base "need_dues" 4 ["dues", "many"] spNeedDues) :
    FnOk P w K mg base CX0 5 f fd ["times", "dues"] spNeedDue := by
  obtain ⟨f1, fd1, g1, k1, b1, G1⟩ := h1.ex
  obtain ⟨f2, fd2, g2, k2, b2, G2⟩ := h2.ex
  refine F.ok scNeedDue (fun vs H Q E h => ?_) (fun cdv A outer s H vs Q E hr h => ?_)
  · obtain ⟨a, b, ts, ws, rfl, _⟩ := h
    rfl
  · obtain ⟨a, b, ts, ws, rfl, ha, hb, l1, l2, l3, q1, q2, q⟩ := h
    refine ⟨_, pss_cons (ps_expr (pe_call G1 hr (by rfl) g1 k1 b1 .nil pass0 (pa_cons (pv 0) pa_nil)))
      (pss_one (ps_expr (pe_call G2 hr (by rfl) g2 k2 b2 .nil pass0 (pa_cons (pv 1) (pa_cons (pe_callB call_len (by rfl) T.len PySem.boot_len (pa_cons (pv 0) pa_nil)) pa_nil))))), ?_⟩
    refine ⟨_, rfl, a, ts, rfl, ha, l1, l2, q1, fun H1 s1 => ?_⟩
    refine ⟨_, rfl, _, rfl, _, (ts.map V.int).length, rfl, .inr ⟨_, SqT.of (s1 _ _ ha), rfl⟩, b, ws, _, rfl, s1 _ _ hb, by rw [List.length_map, l3], q2, fun H2 s2 => ?_⟩
    exact q H2 (s1.trans s2)
end
end Sh
set_option Elab.async false
set_option linter.all false
set_option maxRecDepth 100000
set_option maxHeartbeats 4000000
/-! singles.py: ends_in; the law's _law_ends -/
namespace Sh
open PySem PySem.Spec PyProof.Rows L2
def partE (T : Nat → Int) (n : Nat) (pre : List Nat) : List Int := (List.range n).map fun i => if i ∈ pre then Mth.endAt T pre i else 0
def endsL (T : Nat → Int) (n : Nat) (o : List Nat) : List Int := (List.range n).map fun i => Mth.endAt T o i
theorem partE_len (T : Nat → Int) (n : Nat) (pre : List Nat) : (partE T n pre).length = n := by
  unfold partE
  rw [List.length_map, List.length_range]
theorem endsL_len (T : Nat → Int) (n : Nat) (o : List Nat) : (endsL T n o).length = n := by
  unfold endsL
  rw [List.length_map, List.length_range]
theorem endsL_get {T : Nat → Int} {n : Nat} {o : List Nat} {i : Nat} (hi : i < n) : (endsL T n o)[i]? = some (Mth.endAt T o i) := by
  unfold endsL
  rw [List.getElem?_map, List.getElem?_range hi]
  rfl
theorem partE_nil (T : Nat → Int) (n : Nat) : partE T n [] = List.replicate n 0 := by
  unfold partE
  refine List.ext_getElem (by simp) fun i h1 h2 => ?_
  simp
theorem partE_get (T : Nat → Int) (n : Nat) (pre : List Nat) (i : Nat) : (partE T n pre)[i]? = if i < n then some (if i ∈ pre then Mth.endAt T pre i else 0) else none := by
  unfold partE
  rw [List.getElem?_map]
  by_cases h : i < n
  · rw [List.getElem?_range h, if_pos h]
    rfl
  · rw [if_neg h, List.getElem?_eq_none (by rw [List.length_range]; omega)]
    rfl
theorem partE_snoc {T : Nat → Int} {n : Nat} {pre : List Nat} {j : Nat} (hj : j ∉ pre) : partE T n (pre ++ [j]) = (partE T n pre).set j (Mth.sumT T pre + T j) := by
  refine List.ext_getElem? fun i => ?_
  rw [List.getElem?_set, partE_get, partE_get, partE_len]
  by_cases e : j = i
  · subst e
    rw [if_pos rfl, if_pos (List.mem_append_right _ (List.mem_singleton.mpr rfl)), Mth.endAt_append_r T pre [j] j hj, Mth.endAt_self]
  · rw [if_neg e]
    by_cases h : i ∈ pre
    · rw [if_pos (List.mem_append_left _ h), if_pos h, Mth.endAt_append T pre [j] i h]
    · have hz : ¬ i ∈ pre ++ [j] := fun z => by
        rcases List.mem_append.mp z with z | z
        · exact h z
        · exact e (List.mem_singleton.mp z).symm
      rw [if_neg h, if_neg hz]
theorem partE_full {T : Nat → Int} {n : Nat} {o : List Nat} (h : ∀ i, i < n → i ∈ o) : partE T n o = endsL T n o := by
  unfold partE endsL
  refine List.map_congr_left fun i hi => ?_
  rw [if_pos (h i (List.mem_range.mp hi))]
theorem flat_zero : ∀ n : Nat, (List.replicate n [V.int 0]).flatten = (List.replicate n (0 : Int)).map V.int
  | 0 => rfl
  | n + 1 => by rw [List.replicate_succ, List.flatten_cons, flat_zero n, List.replicate_succ, List.map_cons]; rfl
theorem take_snoc {o : List Nat} {i j : Nat} (h : o[i]? = some j) : o.take (i + 1) = o.take i ++ [j] := by
  rw [List.take_add_one, h]
  rfl
theorem not_in_take {o : List Nat} (hn : o.Nodup) {i j : Nat} (h : o[i]? = some j) : j ∉ o.take i := by
  have h1 : (o.take (i + 1)).Nodup := hn.sublist (List.take_sublist _ _)
  rw [take_snoc h] at h1
  exact (Mth.snoc_nd h1).2
theorem dof_at {ts : List Int} {j : Nat} (h : j < ts.length) : (ts.map V.int)[j]? = some (.int (Dof ts j)) := by
  rw [List.getElem?_map, List.getElem?_eq_getElem h]
  show some (V.int ts[j]) = some (V.int (ts.getD j 0))
  rw [List.getD_eq_getElem?_getD, List.getElem?_eq_getElem h]
  rfl
theorem filt_yes {p : Nat → Bool} {i : Nat} (h : p i = true) : (List.range (i + 1)).filter p = (List.range i).filter p ++ [i] := by
  rw [List.range_succ, List.filter_append, List.filter_cons, if_pos h, List.filter_nil]
theorem filt_no {p : Nat → Bool} {i : Nat} (h : ¬ p i = true) : (List.range (i + 1)).filter p = (List.range i).filter p := by
  rw [List.range_succ, List.filter_append, List.filter_cons, if_neg h, List.filter_nil, List.append_nil]
theorem filt_len {p : Nat → Bool} {i : Nat} : ((List.range i).filter p).length ≤ i := by
  have h := List.length_filter_le p (List.range i)
  rw [List.length_range] at h
  exact h
theorem jobs_snoc (l : List Nat) (i : Nat) : jobs (l ++ [i]) = jobs l ++ [V.int (i : Nat)] := by
  unfold jobs
  rw [List.map_append]
  rfl
abbrev sEndsIn : Stmt := topS 22
abbrev sLawEnds : Stmt := topS 40
theorem scEndsIn : FnScope ["times", "order", "found", "day", "job"] ["times", "order"] (defScope sEndsIn) := ⟨rfl, rfl, rfl, by decide +kernel, rfl, by decide +kernel, by decide +kernel⟩
theorem scLawEnds : FnScope ["_law_times", "_law_order_here", "_law_found", "_law_day", "_law_job"] ["_law_times", "_law_order_here"] (defScope sLawEnds) := ⟨rfl, rfl, rfl, by decide +kernel, rfl, by decide +kernel, by decide +kernel⟩
def spEndsIn : Sp := fun vs H Q _ => ∃ (a b : Addr) (ts : List Int) (o : List Nat), vs = [.ref a, .ref b] ∧ TupI H a ts ∧ TupJ H b o ∧ o.Perm (List.range ts.length) ∧ ts.length ≤ 10 ∧
  ∀ (H' : Hp) (p : Addr), Same H H' → H p = none → H' p = some (.lst ((endsL (Dof ts) ts.length o).map V.int)) → Q (.ref p) H'
section
variable {P : Program} {w : World} {K : PySem.W.Frag} {mg : Str → Option Value} {base : Heap} {f : Addr} {fd : FuncData}
/-- the loop's word: σ is read off at the def's own places -/
structure EndW (H H' : Hp) (p : Addr) (ts : List Int) (o : List Nat) (i : Nat) : Prop where
  same : Same H H'
  at_ : H' p = some (.lst ((partE (Dof ts) ts.length (o.take i)).map V.int))
theorem endW_step {H H1 : Hp} {p : Addr} {ts : List Int} {o : List Nat} {i j : Nat} (hn : o.Nodup) (hp : H p = none) (W : EndW H H1 p ts o i) (hj : o[i]? = some j) :
    EndW H (upd H1 p (.lst (((partE (Dof ts) ts.length (o.take i)).map V.int).set j (.int (Mth.sumT (Dof ts) (o.take i) + Dof ts j))))) p ts o (i + 1) := by
  refine ⟨fun b x e => ?_, ?_⟩
  · rw [upd_ne (ne_of_none e hp)]
    exact W.same _ _ e
  · rw [upd_same, take_snoc hj, partE_snoc (not_in_take hn hj), List.map_set]
theorem sum_step {T : Nat → Int} {o : List Nat} {i j : Nat} (hj : o[i]? = some j) : Mth.sumT T (o.take i) + T j = Mth.sumT T (o.take (i + 1)) := by
  rw [take_snoc hj, Mth.sumT_append, Mth.sumT_one]
theorem ok_endsIn (F : Fun K "ends_in" "ends_in" sEndsIn f fd) (T : Free mg) : FnOk P w K mg base CX0 1 f fd ["times", "order"] spEndsIn := by
  refine F.ok scEndsIn (fun vs H Q E h => ?_) (fun cdv A outer s H vs Q E hr h => ?_)
  · obtain ⟨a, b, ts, o, rfl, _⟩ := h
    rfl
  · obtain ⟨a, b, ts, o, rfl, ha, hb, hp, hl, q⟩ := h
    have hn : o.Nodup := hp.nodup_iff.mpr List.nodup_range
    refine ⟨_, pss_cons (ps_par (i := 2) (j := 3) (by rfl) scEndsIn.nd rfl rfl (by decide) rfl rfl (pa_cons (pe_op op_rep (pe_lst (pa_cons pe_int pa_nil)) (pe_callB call_len (by rfl) T.len PySem.boot_len (pa_cons (pv 0) pa_nil))) (pa_cons pe_int pa_nil)) (by rfl))
      (pss_cons (ps_for PassesOwn.never rfl (pi_tup (pv 1)) (pg_name (i := 4) scEndsIn.nd rfl (.inl rfl))
        (pss_cons (ps_aug (i := 3) scEndsIn.nd rfl (.inl rfl) (pe_ix ix_tup (pv 0) (pv 4) (fun _ _ => rfl)) ip_add)
        (pss_one (ps_asg (pv 3) (pg_sub (pv 2) (pv 4) set_list)))))
      (pss_one (ps_ret (pv 2)))), ?_⟩
    refine ⟨by show 1 ≤ sizeLine; decide, fun l0 nl0 => ?_⟩
    have s0 := same_upd (o := .lst [V.int 0]) nl0
    refine ⟨_, rfl, _, (ts.map V.int).length, rfl, .inr ⟨_, SqT.of (s0 _ _ ha), rfl⟩, l0, _, _, rfl, rfl, upd_same, by omega, by rw [List.length_map]; omega, ?_, fun p np => ?_⟩
    · rw [List.length_map]
      show 1 * ts.length ≤ sizeLine
      have := small1000 (n := ts.length) (by omega)
      omega
    have s1 : ∀ z : HO, Same H (upd (upd H l0 (.lst [V.int 0])) p z) := fun z => s0.trans (same_upd np)
    have hpn : H p = none := s0.free np
    refine ⟨_, _, rfl, ?_⟩
    refine ⟨_, rfl, b, rfl, ⟨_, SqT.of (s1 _ _ _ hb)⟩, for_tup (K := K) (a := b) (xs := jobs o) (fun i σ H' => ∃ v4, σ = [some (.ref a), some (.ref b), some (.ref p), some (.int (Mth.sumT (Dof ts) (o.take i))), v4] ∧ EndW H H' p ts o i)
      ⟨none, rfl, s1 _, ?_⟩ (fun i σ H' _ ⟨_, _, W⟩ => SqT.of (W.same _ _ hb)) ?_ ?_⟩
    · rw [upd_same, List.length_map]
      show some (HO.lst (List.replicate ts.length [V.int 0]).flatten) = _
      rw [flat_zero, List.take_zero, partE_nil]
    · rintro i x σ H1 hx ⟨v4, rfl, W⟩
      obtain ⟨j, hj, rfl, _⟩ := job_at hx
      have hjn : j < ts.length := List.mem_range.mp (hp.mem_iff.mp (List.mem_of_getElem? hj))
      refine ⟨_, rfl, _, rfl, _, rfl, a, _, _, _, rfl, rfl, SqT.of (W.same _ _ ha), atI_nat (dof_at hjn), _, _, rfl, rfl, ?_⟩
      refine ⟨_, rfl, _, rfl, _, rfl, p, _, _, j, rfl, rfl, W.at_, Evl.ixN_nat (by rw [List.length_map, partE_len]; exact hjn), ?_⟩
      refine ⟨some (.int (j : Nat)), ?_, endW_step hn hpn W hj⟩
      rw [← sum_step hj]
      rfl
    · rintro σ H1 ⟨v4, rfl, W⟩
      refine ⟨_, rfl, q H1 p W.same hpn ?_⟩
      have h1 := W.at_
      rw [List.length_map, List.take_length, partE_full fun i hi => hp.mem_iff.mpr (List.mem_range.mpr hi)] at h1
      exact h1
theorem ok_lawEnds (F : Fun K "_law_ends" "_law_ends" sLawEnds f fd) (T : Free mg) : FnOk P w K mg base CX0 1 f fd ["_law_times", "_law_order_here"] spEndsIn := by
  refine F.ok scLawEnds (fun vs H Q E h => ?_) (fun cdv A outer s H vs Q E hr h => ?_)
  · obtain ⟨a, b, ts, o, rfl, _⟩ := h
    rfl
  · obtain ⟨a, b, ts, o, rfl, ha, hb, hp, hl, q⟩ := h
    have hn : o.Nodup := hp.nodup_iff.mpr List.nodup_range
    refine ⟨_, pss_cons (ps_par (i := 2) (j := 3) (by rfl) scLawEnds.nd rfl rfl (by decide) rfl rfl (pa_cons (pe_op op_rep (pe_lst (pa_cons pe_int pa_nil)) (pe_callB call_len (by rfl) T.len PySem.boot_len (pa_cons (pv 0) pa_nil))) (pa_cons pe_int pa_nil)) (by rfl))
      (pss_cons (ps_for PassesOwn.never rfl (pi_tup (pv 1)) (pg_name (i := 4) scLawEnds.nd rfl (.inl rfl))
        (pss_cons (ps_set (i := 3) scLawEnds.nd rfl (.inl rfl) (pe_op op_add (pv 3) (pe_ix ix_tup (pv 0) (pv 4) (fun _ _ => rfl))))
        (pss_one (ps_asg (pv 3) (pg_sub (pv 2) (pv 4) set_list)))))
      (pss_one (ps_ret (pv 2)))), ?_⟩
    refine ⟨by show 1 ≤ sizeLine; decide, fun l0 nl0 => ?_⟩
    have s0 := same_upd (o := .lst [V.int 0]) nl0
    refine ⟨_, rfl, _, (ts.map V.int).length, rfl, .inr ⟨_, SqT.of (s0 _ _ ha), rfl⟩, l0, _, _, rfl, rfl, upd_same, by omega, by rw [List.length_map]; omega, ?_, fun p np => ?_⟩
    · rw [List.length_map]
      show 1 * ts.length ≤ sizeLine
      have := small1000 (n := ts.length) (by omega)
      omega
    have s1 : ∀ z : HO, Same H (upd (upd H l0 (.lst [V.int 0])) p z) := fun z => s0.trans (same_upd np)
    have hpn : H p = none := s0.free np
    refine ⟨_, _, rfl, ?_⟩
    refine ⟨_, rfl, b, rfl, ⟨_, SqT.of (s1 _ _ _ hb)⟩, for_tup (K := K) (a := b) (xs := jobs o) (fun i σ H' => ∃ v4, σ = [some (.ref a), some (.ref b), some (.ref p), some (.int (Mth.sumT (Dof ts) (o.take i))), v4] ∧ EndW H H' p ts o i)
      ⟨none, rfl, s1 _, ?_⟩ (fun i σ H' _ ⟨_, _, W⟩ => SqT.of (W.same _ _ hb)) ?_ ?_⟩
    · rw [upd_same, List.length_map]
      show some (HO.lst (List.replicate ts.length [V.int 0]).flatten) = _
      rw [flat_zero, List.take_zero, partE_nil]
    · rintro i x σ H1 hx ⟨v4, rfl, W⟩
      obtain ⟨j, hj, rfl, _⟩ := job_at hx
      have hjn : j < ts.length := List.mem_range.mp (hp.mem_iff.mp (List.mem_of_getElem? hj))
      refine ⟨_, rfl, _, rfl, _, rfl, a, _, _, _, rfl, rfl, SqT.of (W.same _ _ ha), atI_nat (dof_at hjn), _, _, rfl, rfl, ?_⟩
      refine ⟨_, rfl, _, rfl, _, rfl, p, _, _, j, rfl, rfl, W.at_, Evl.ixN_nat (by rw [List.length_map, partE_len]; exact hjn), ?_⟩
      refine ⟨some (.int (j : Nat)), ?_, endW_step hn hpn W hj⟩
      rw [← sum_step hj]
      rfl
    · rintro σ H1 ⟨v4, rfl, W⟩
      refine ⟨_, rfl, q H1 p W.same hpn ?_⟩
      have h1 := W.at_
      rw [List.length_map, List.take_length, partE_full fun i hi => hp.mem_iff.mpr (List.mem_range.mpr hi)] at h1
      exact h1
end
end Sh
set_option Elab.async false
set_option linter.all false
set_option maxRecDepth 100000
set_option maxHeartbeats 4000000
/-! lateness_in, lateness, late_jobs; the law's _law_late -/
namespace Sh
open PySem PySem.Spec PyProof.Rows L2
/-- all lateness, by the jobs' numbers -/
def lats (T D : Nat → Int) (n : Nat) (o : List Nat) : List Int := (List.range n).map fun i => Mth.endAt T o i - D i
theorem lats_len (T D : Nat → Int) (n : Nat) (o : List Nat) : (lats T D n o).length = n := by
  unfold lats
  rw [List.length_map, List.length_range]
theorem lats_get {T D : Nat → Int} {n : Nat} {o : List Nat} {i : Nat} (hi : i < n) : (lats T D n o)[i]? = some (Mth.endAt T o i - D i) := by
  unfold lats
  rw [List.getElem?_map, List.getElem?_range hi]
  rfl
def IsMax (m : Int) (l : List Int) : Prop := m ∈ l ∧ ∀ x ∈ l, x ≤ m
theorem IsMax.uniq {m k : Int} {l : List Int} (a : IsMax m l) (b : IsMax k l) : m = k := Int.le_antisymm (b.2 m a.1) (a.2 k b.1)
theorem take_map_snoc {l : List Int} {i : Nat} {x : Int} (h : l[i]? = some x) : (l.take i).map V.int ++ [V.int x] = (l.take (i + 1)).map V.int := by
  rw [List.take_add_one, h, List.map_append]
  rfl
abbrev sLatenessIn : Stmt := topS 25
abbrev sLateness : Stmt := topS 26
abbrev sLateJobs : Stmt := topS 29
abbrev sLawLate : Stmt := topS 41
theorem scLatenessIn : FnScope ["times", "dues", "order", "end", "due"] ["times", "dues", "order"] (defScope sLatenessIn) := ⟨rfl, rfl, rfl, by decide +kernel, rfl, by decide +kernel, by decide +kernel⟩
theorem scLateness : FnScope ["times", "dues", "order"] ["times", "dues", "order"] (defScope sLateness) := ⟨rfl, rfl, rfl, by decide +kernel, rfl, by decide +kernel, by decide +kernel⟩
theorem scLateJobs : FnScope ["times", "dues", "order", "job", "end"] ["times", "dues", "order"] (defScope sLateJobs) := ⟨rfl, rfl, rfl, by decide +kernel, rfl, by decide +kernel, by decide +kernel⟩
theorem scLawLate : FnScope ["_law_times", "_law_dues", "_law_order_here", "_law_days", "_law_at"] ["_law_times", "_law_dues", "_law_order_here"] (defScope sLawLate) := ⟨rfl, rfl, rfl, by decide +kernel, rfl, by decide +kernel, by decide +kernel⟩
def spLatenessIn : Sp := fun vs H Q _ => ∃ (a b c : Addr) (ts ds : List Int) (o : List Nat), vs = [.ref a, .ref b, .ref c] ∧ TupI H a ts ∧ TupI H b ds ∧ TupJ H c o ∧ o.Perm (List.range ts.length) ∧ ds.length = ts.length ∧ 1 ≤ ts.length ∧ ts.length ≤ 10 ∧
  ∀ (H' : Hp) (m : Int), Same H H' → IsMax m (lats (Dof ts) (Dof ds) ts.length o) → Q (.int m) H'
def spLateness : Sp := fun vs H Q _ => ∃ (a b c : Addr) (ts ds : List Int) (o : List Nat), vs = [.ref a, .ref b, .ref c] ∧ TupI H a ts ∧ TupI H b ds ∧ TupJ H c o ∧ o.Perm (List.range ts.length) ∧ ds.length = ts.length ∧ 1 ≤ ts.length ∧ ts.length ≤ 10 ∧ (∀ n ∈ ts, 1 ≤ n ∧ n ≤ 60) ∧ (∀ n ∈ ds, 0 ≤ n ∧ n ≤ 600) ∧
  ∀ (H' : Hp) (m : Int), Same H H' → IsMax m (lats (Dof ts) (Dof ds) ts.length o) → Q (.int m) H'
def spLateJobs : Sp := fun vs H Q _ => ∃ (a b c : Addr) (ts ds : List Int) (o : List Nat), vs = [.ref a, .ref b, .ref c] ∧ TupI H a ts ∧ TupI H b ds ∧ TupJ H c o ∧ o.Perm (List.range ts.length) ∧ ds.length = ts.length ∧ 1 ≤ ts.length ∧ ts.length ≤ 10 ∧ (∀ n ∈ ts, 1 ≤ n ∧ n ≤ 60) ∧ (∀ n ∈ ds, 0 ≤ n ∧ n ≤ 600) ∧
  ∀ (H' : Hp) (p : Addr), Same H H' → H p = none → TupJ H' p (Mth.lateL (Dof ts) (Dof ds) ts.length o) → Q (.ref p) H'
section
variable {P : Program} {w : World} {K : PySem.W.Frag} {mg : Str → Option Value} {base : Heap} {f : Addr} {fd : FuncData}
theorem ok_latenessIn (F : Fun K "lateness_in" "lateness_in" sLatenessIn f fd) (T : Free mg) (h1 : Has P w K mg base "ends_in" 1 ["times", "order"] spEndsIn) : FnOk P w K mg base CX0 2 f fd ["times", "dues", "order"] spLatenessIn := by
  obtain ⟨f1, fd1, g1, k1, b1, G1⟩ := h1.ex
  refine F.ok scLatenessIn (fun vs H Q E h => ?_) (fun cdv A outer s H vs Q E hr h => ?_)
  · obtain ⟨a, b, c, ts, ds, o, rfl, _⟩ := h
    rfl
  · obtain ⟨a, b, c, ts, ds, o, rfl, ha, hb, hc, hp, l0, l1, l2, q⟩ := h
    refine ⟨_, pss_one (ps_ret (pe_callB (cr_max rfl) (by rfl) T.max (by decide +kernel) (pa_cons (pe_lc (own := [("end", 3), ("due", 4)]) (g := gTup K 2 (gCons (gName 3) (gCons (gName 4) gNil))) (by rfl) scLatenessIn.nd
        (pi_zipLT (by rfl) T.zip (pa_cons (pe_call G1 hr (by rfl) g1 k1 b1 .nil pass0 (pa_cons (pv 0) (pa_cons (pv 2) pa_nil))) (pa_cons (pv 1) pa_nil)))
        (blkOk_by (own := [("end", 3), ("due", 4)]) (N := ["times", "dues", "order", "end", "due"]) (sc := defScope sLatenessIn) (by decide +kernel))
        (fun _ _ _ _ _ => pg_tup rfl (pgs_cons (pg_name (i := 3) scLatenessIn.nd rfl (.inl rfl)) (pgs_cons (pg_name (i := 4) scLatenessIn.nd rfl (.inl rfl)) pgs_nil))) (fun _ _ _ _ _ => pts_nil) (fun _ _ _ _ _ => pe_op op_sub (pv 3) (pv 4))) pa_nil))), ?_⟩
    refine ⟨_, rfl, _, rfl, a, c, ts, o, rfl, ha, hc, hp, l2, fun H1 p s1 np hp1 => ?_⟩
    have hmin : min ((endsL (Dof ts) ts.length o).map V.int).length (ds.map V.int).length = ts.length := by rw [List.length_map, List.length_map, endsL_len, l0, Nat.min_self]
    refine ⟨_, rfl, p, b, _, _, rfl, SqL.of hp1, SqT.of (s1 _ _ hb), fun D hD => ?_⟩
    rw [hmin]
    refine lc_it walk_N (fun i H' => Same H1 H' ∧ H' D = some (.lst (((lats (Dof ts) (Dof ds) ts.length o).take i).map V.int))) ⟨same_upd hD, upd_same⟩ (fun i H' _ ⟨s2, _⟩ => ⟨SqL.of (s2 _ _ hp1), SqT.of (s2 _ _ (s1 _ _ hb))⟩) ?_ ?_
    · rintro i v H2 H3 hi ⟨s2, hD2⟩ ⟨t, x, y, rfl, ht, rfl, hx, hy⟩
      obtain ⟨e1, he1, rfl, _⟩ := int_at hx
      obtain ⟨d1, hd1, rfl, _⟩ := int_at hy
      rw [endsL_get hi] at he1
      have hd2 := dof_at (ts := ds) (j := i) (by omega)
      rw [hy] at hd2
      cases he1
      cases hd2
      refine ⟨t, _, rfl, SqT.of upd_same, rfl, _, _, rfl, _, _, rfl, rfl, rfl, ?_⟩
      refine ⟨_, rfl, _, rfl, _, _, rfl, rfl, _, by rw [upd_ne (ne_of_none hD2 ht)]; exact hD2, ?_, fun b' o' e => ?_, ?_⟩
      · rw [List.length_map, List.length_take, lats_len]
        exact small1000 (by omega)
      · rw [upd_ne (ne_of_none e hD)]
        exact (s2.trans (same_upd ht)) _ _ e
      · rw [upd_same, take_map_snoc (lats_get hi)]
    · rintro H2 ⟨s2, hD2⟩
      rw [List.take_of_length_le (by rw [lats_len]; exact Nat.le_refl _)] at hD2
      exact ⟨D, _, rfl, SqL.of hD2, by rw [lats_len]; omega, fun m hm hle => q H2 m (s1.trans s2) ⟨hm, hle⟩⟩
theorem ok_lateness (F : Fun K "lateness" "lateness" sLateness f fd) (T : Free mg) (h1 : Has P w K mg base "need_due" 5 ["times", "dues"] spNeedDue) (h2 : Has P w K mg base "need_order" 4 ["order", "many"] spNeedOrder)
    (h3 : Has P w K mg base "lateness_in" 2 ["times", "dues", "order"] spLatenessIn) : FnOk P w K mg base CX0 6 f fd ["times", "dues", "order"] spLateness := by
  obtain ⟨f1, fd1, g1, k1, b1, G1⟩ := h1.ex
  obtain ⟨f2, fd2, g2, k2, b2, G2⟩ := h2.ex
  obtain ⟨f3, fd3, g3, k3, b3, G3⟩ := h3.ex
  refine F.ok scLateness (fun vs H Q E h => ?_) (fun cdv A outer s H vs Q E hr h => ?_)
  · obtain ⟨a, b, c, ts, ds, o, rfl, _⟩ := h
    rfl
  · obtain ⟨a, b, c, ts, ds, o, rfl, ha, hb, hc, hp, l0, l1, l2, q1, q2, q⟩ := h
    refine ⟨_, pss_cons (ps_expr (pe_call G1 hr (by rfl) g1 k1 b1 .nil pass0 (pa_cons (pv 0) (pa_cons (pv 1) pa_nil))))
      (pss_cons (ps_expr (pe_call G2 (hr.mono (by decide)) (by rfl) g2 k2 b2 .nil pass0 (pa_cons (pv 2) (pa_cons (pe_callB call_len (by rfl) T.len PySem.boot_len (pa_cons (pv 0) pa_nil)) pa_nil))))
      (pss_one (ps_ret (pe_call G3 (hr.mono (by decide)) (by rfl) g3 k3 b3 .nil pass0 (pa_cons (pv 0) (pa_cons (pv 1) (pa_cons (pv 2) pa_nil))))))), ?_⟩
    refine ⟨_, rfl, _, rfl, a, b, ts, ds, rfl, ha, hb, l1, l2, l0, q1, q2, fun H1 s1 => ?_⟩
    refine ⟨_, rfl, _, rfl, _, (ts.map V.int).length, rfl, .inr ⟨_, SqT.of (s1 _ _ ha), rfl⟩, c, o, ts.length, by rw [List.length_map]; rfl, s1 _ _ hc, hp, l2, fun H2 s2 => ?_⟩
    have s3 := s1.trans s2
    exact ⟨_, rfl, _, rfl, _, rfl, a, b, c, ts, ds, o, rfl, s3 _ _ ha, s3 _ _ hb, s3 _ _ hc, hp, l0, l1, l2, fun H3 m s4 hm => q H3 m (s3.trans s4) hm⟩
theorem ok_lateJobs (F : Fun K "late_jobs" "late_jobs" sLateJobs f fd) (T : Free mg) (h1 : Has P w K mg base "need_due" 5 ["times", "dues"] spNeedDue) (h2 : Has P w K mg base "need_order" 4 ["order", "many"] spNeedOrder)
    (h3 : Has P w K mg base "ends_in" 1 ["times", "order"] spEndsIn) : FnOk P w K mg base CX0 6 f fd ["times", "dues", "order"] spLateJobs := by
  obtain ⟨f1, fd1, g1, k1, b1, G1⟩ := h1.ex
  obtain ⟨f2, fd2, g2, k2, b2, G2⟩ := h2.ex
  obtain ⟨f3, fd3, g3, k3, b3, G3⟩ := h3.ex
  refine F.ok scLateJobs (fun vs H Q E h => ?_) (fun cdv A outer s H vs Q E hr h => ?_)
  · obtain ⟨a, b, c, ts, ds, o, rfl, _⟩ := h
    rfl
  · obtain ⟨a, b, c, ts, ds, o, rfl, ha, hb, hc, hp, l0, l1, l2, q1, q2, q⟩ := h
    refine ⟨_, pss_cons (ps_expr (pe_call G1 hr (by rfl) g1 k1 b1 .nil pass0 (pa_cons (pv 0) (pa_cons (pv 1) pa_nil))))
      (pss_cons (ps_expr (pe_call G2 (hr.mono (by decide)) (by rfl) g2 k2 b2 .nil pass0 (pa_cons (pv 2) (pa_cons (pe_callB call_len (by rfl) T.len PySem.boot_len (pa_cons (pv 0) pa_nil)) pa_nil))))
      (pss_one (ps_ret (pe_callTy call_tuple_of (by rfl) T.tuple (by decide +kernel) (pa_cons (pe_lc (own := [("job", 3), ("end", 4)]) (g := gTup K 2 (gCons (gName 3) (gCons (gName 4) gNil))) (by rfl) scLateJobs.nd
        (pi_enum (by rfl) T.enumerate (pa_cons (pe_call G3 (hr.mono (by decide)) (by rfl) g3 k3 b3 .nil pass0 (pa_cons (pv 0) (pa_cons (pv 2) pa_nil))) pa_nil))
        (blkOk_by (own := [("job", 3), ("end", 4)]) (N := ["times", "dues", "order", "job", "end"]) (sc := defScope sLateJobs) (by decide +kernel))
        (fun _ _ _ _ _ => pg_tup rfl (pgs_cons (pg_name (i := 3) scLateJobs.nd rfl (.inl rfl)) (pgs_cons (pg_name (i := 4) scLateJobs.nd rfl (.inl rfl)) pgs_nil)))
        (fun _ _ _ _ _ => pts_one (pt_cmpR op_gt (pv 4) (pe_ix (r := rIxT K) ix_tup (pv 1) (pv 3) (fun _ _ => rfl)) (nomark _))) (fun _ _ _ _ _ => pv 3)) pa_nil))))), ?_⟩
    refine ⟨_, rfl, _, rfl, a, b, ts, ds, rfl, ha, hb, l1, l2, l0, q1, q2, fun H1 s1 => ?_⟩
    refine ⟨_, rfl, _, rfl, _, (ts.map V.int).length, rfl, .inr ⟨_, SqT.of (s1 _ _ ha), rfl⟩, c, o, ts.length, by rw [List.length_map]; rfl, s1 _ _ hc, hp, l2, fun H2 s2 => ?_⟩
    have s3 := s1.trans s2
    refine ⟨_, rfl, _, rfl, a, c, ts, o, rfl, s3 _ _ ha, s3 _ _ hc, hp, l2, fun H3 p s4 np hp1 => ?_⟩
    refine ⟨p, _, rfl, SqL.of hp1, fun D hD => lc_it walk_enum (fun i H' => Same H3 H' ∧ H' D = some (.lst (jobs ((List.range i).filter fun k => decide (Dof ds k < Mth.endAt (Dof ts) o k))))) ⟨same_upd hD, upd_same⟩ (fun i H' _ ⟨s5, _⟩ => SqL.of (s5 _ _ hp1)) ?_ ?_⟩
    · rintro i v H4 H5 hi ⟨s5, hD2⟩ ⟨t, x, y, rfl, ht, rfl, hx, hy⟩
      cases hx
      rw [List.length_map, endsL_len] at hi
      obtain ⟨e1, he1, rfl, _⟩ := int_at hy
      rw [endsL_get hi] at he1
      cases he1
      refine ⟨t, _, rfl, SqT.of upd_same, rfl, _, _, rfl, _, _, rfl, rfl, rfl, ?_⟩
      have s6 : Same H3 (upd H4 t (.tup [.int (i : Nat), .int (Mth.endAt (Dof ts) o i)])) := s5.trans (same_upd ht)
      have hD3 : (upd H4 t (.tup [.int (i : Nat), .int (Mth.endAt (Dof ts) o i)])) D = some (.lst (jobs ((List.range i).filter fun k => decide (Dof ds k < Mth.endAt (Dof ts) o k)))) := by
        rw [upd_ne (ne_of_none hD2 ht)]
        exact hD2
      refine ⟨_, rfl, _, rfl, _, rfl, b, _, _, _, rfl, rfl, SqT.of (s6 _ _ (s4 _ _ (s3 _ _ hb))), atI_nat (dof_at (by omega)), _, _, rfl, rfl, _, rfl, ite2 (fun hlt => ?_) fun hlt => ?_⟩
      · refine ⟨_, rfl, _, hD3, ?_, fun b' o' e => ?_, ?_⟩
        · rw [List.length_map]
          exact Nat.lt_of_le_of_lt filt_len (small1000 (by omega))
        · rw [upd_ne (ne_of_none e hD)]
          exact s6 _ _ e
        · rw [upd_same, filt_yes (p := fun k => decide (Dof ds k < Mth.endAt (Dof ts) o k)) hlt, jobs_snoc]
      · refine ⟨s6, ?_⟩
        rw [filt_no (p := fun k => decide (Dof ds k < Mth.endAt (Dof ts) o k)) hlt]
        exact hD3
    · rintro H4 ⟨s5, hD2⟩
      rw [List.length_map, endsL_len] at hD2
      refine ⟨D, _, rfl, .inl ⟨SqL.of hD2, fun t ht => ?_⟩⟩
      have s7 := (s3.trans s4).trans s5
      exact q _ t (s7.trans (same_upd ht)) (s7.free ht) upd_same
theorem ok_lawLate (F : Fun K "_law_late" "_law_late" sLawLate f fd) (T : Free mg) (h1 : Has P w K mg base "_law_ends" 1 ["_law_times", "_law_order_here"] spEndsIn) : FnOk P w K mg base CX0 2 f fd ["_law_times", "_law_dues", "_law_order_here"] spLatenessIn := by
  obtain ⟨f1, fd1, g1, k1, b1, G1⟩ := h1.ex
  refine F.ok scLawLate (fun vs H Q E h => ?_) (fun cdv A outer s H vs Q E hr h => ?_)
  · obtain ⟨a, b, c, ts, ds, o, rfl, _⟩ := h
    rfl
  · obtain ⟨a, b, c, ts, ds, o, rfl, ha, hb, hc, hp, l0, l1, l2, q⟩ := h
    refine ⟨_, pss_cons (ps_set (i := 3) scLawLate.nd rfl (.inr rfl) (pe_call G1 hr (by rfl) g1 k1 b1 .nil pass0 (pa_cons (pv 0) (pa_cons (pv 2) pa_nil))))
      (pss_one (ps_ret (pe_callB (cr_max rfl) (by rfl) T.max (by decide +kernel) (pa_cons (pe_lc (own := [("_law_at", 4)]) (g := gName 4) (by rfl) scLawLate.nd
        (pi_range1 (by rfl) T.range (pa_cons (pe_callB call_len (by rfl) T.len PySem.boot_len (pa_cons (pv 0) pa_nil)) pa_nil))
        (blkOk_by (own := [("_law_at", 4)]) (N := ["_law_times", "_law_dues", "_law_order_here", "_law_days", "_law_at"]) (sc := defScope sLawLate) (by decide +kernel))
        (fun _ _ _ _ _ => pg_name (i := 4) scLawLate.nd rfl (.inl rfl)) (fun _ _ _ _ _ => pts_nil)
        (fun _ _ _ _ _ => pe_op op_sub (pe_ix (r := rIxL K) ix_list (pv 3) (pv 4) (fun _ _ => rfl)) (pe_ix (r := rIxT K) ix_tup (pv 1) (pv 4) (fun _ _ => rfl)))) pa_nil)))), ?_⟩
    refine ⟨_, rfl, _, rfl, a, c, ts, o, rfl, ha, hc, hp, l2, fun H1 p s1 np hp1 => ?_⟩
    refine ⟨_, rfl, _, (ts.map V.int).length, rfl, .inr ⟨_, SqT.of (s1 _ _ ha), rfl⟩, _, rfl, by omega, by rw [List.length_map]; omega, fun D hD => ?_⟩
    have en : (((ts.map V.int).length : Nat) : Int).toNat = ts.length := by rw [List.length_map]; omega
    rw [en]
    refine lc_range (fun i H' => Same H1 H' ∧ H' D = some (.lst (((lats (Dof ts) (Dof ds) ts.length o).take i).map V.int))) ⟨same_upd hD, upd_same⟩ ?_ ?_
    · rintro i H2 hi ⟨s2, hD2⟩
      refine ⟨rfl, ?_⟩
      have ei : (0 : Int) + (i : Int) = (i : Int) := Int.zero_add _
      refine ⟨_, rfl, _, rfl, p, _, _, _, rfl, rfl, SqL.of (s2 _ _ hp1), by rw [ei]; exact atI_nat (xs := (endsL (Dof ts) ts.length o).map V.int) (v := .int (Mth.endAt (Dof ts) o i)) (by rw [List.getElem?_map, endsL_get hi]; rfl), ?_⟩
      refine ⟨_, rfl, _, rfl, b, _, _, _, rfl, rfl, SqT.of (s2 _ _ (s1 _ _ hb)), by rw [ei]; exact atI_nat (dof_at (by omega)), _, _, rfl, rfl, ?_⟩
      refine ⟨_, hD2, ?_, fun b' o' e => ?_, ?_⟩
      · rw [List.length_map, List.length_take, lats_len]
        exact small1000 (by omega)
      · rw [upd_ne (ne_of_none e hD)]
        exact s2 _ _ e
      · rw [upd_same, take_map_snoc (lats_get hi)]
    · rintro H2 ⟨s2, hD2⟩
      rw [List.take_of_length_le (by rw [lats_len]; exact Nat.le_refl _)] at hD2
      exact ⟨D, _, rfl, SqL.of hD2, by rw [lats_len]; omega, fun m hm hle => q H2 m (s1.trans s2) ⟨hm, hle⟩⟩
end
end Sh
set_option Elab.async false
set_option linter.all false
set_option maxRecDepth 100000
set_option maxHeartbeats 4000000
/-! due_order_in (its lambda writes its table of code objects), due_order -/
namespace Sh
open PySem PySem.Spec PyProof.Rows L2
/-- a def of the module whose code object stands at c -/
structure FunC (K : PySem.W.Frag) (x : Str) (st : Stmt) (f : Addr) (fd : FuncData) (c : Addr) : Prop where
  ex : ∃ (oc : Value) (od : Option Addr) (kV doc pm : Value) (an : Option Addr) (ct : Value) (osl : Array (Option Value)),
    fd = PySem.W.fnOf x x (defArgs st) (defBody st) (defScope st) .none kV doc pm an (.ref c) ct ∧ K.lookup f = some ⟨oc, od, .func fd, osl⟩ ∧ PySem.W.codeIn K (.ref c) x = true
  kp : PySem.W.keepIn K (.ref f) = true
theorem FunC.ok {P : Program} {w : World} {K : PySem.W.Frag} {mg : Str → Option Value} {base : Heap} {x : Str} {st : Stmt} {f c : Addr} {fd : FuncData} {N ps : List Str} {k : Nat} {sp : Sp} (F : FunC K x st f fd c) (S : FnScope N ps (defScope st)) (len : ∀ vs H Q E, sp vs H Q E → vs.length = ps.length)
    (hbody : ∀ (A : Around) (outer : List Env) (s : Shared) (H : Hp) (vs : List V) (Q : VK) (E : XK), Room k (A.deeper (envOfC x (defScope st) s.heap.objs.size f (.ref c))) → sp vs H Q E →
      ∃ t, PSs (cxOf CX0 P w K mg base N x (defScope st) f (.ref c) A outer s H E).nox (defBody st) t ∧ t { nx := fun _ H' => Q .non H', rt := Q } (L2.start N vs) H) : FnOk P w K mg base CX0 (k + 1) f fd ps sp := by
  obtain ⟨oc, od, kV, doc, pm, an, ct, osl, e, lk, hcd⟩ := F.ex
  subst e
  refine fn_of lk hcd S len fun A outer s H vs Q E hr hsp => ?_
  obtain ⟨t, h, q⟩ := hbody A outer s H vs Q E hr hsp
  exact ⟨t, h.nox, q⟩
abbrev Tbl := List (Addr × Str)
abbrev Ext := LamX.ExtN
theorem Ext.same {H H' : Hp} (s : Same H H') : Ext H H' := LamX.ExtN.of s
theorem Tabs.same {T : Tbl} {H H' : Hp} (t : LamX.Tabs T H) (s : Same H H') : LamX.Tabs T H' := t.ext s
theorem Ext.lst {H H' : Hp} (e : Ext H H') {a : Addr} {xs : List V} (h : H a = some (.lst xs)) : H' a = some (.lst xs) := e _ _ h fun ps q => by cases q
theorem Ext.tup {H H' : Hp} (e : Ext H H') {a : Addr} {xs : List V} (h : H a = some (.tup xs)) : H' a = some (.tup xs) := e _ _ h fun ps q => by cases q
theorem Ext.frz {H H' : Hp} (e : Ext H H') {a : Addr} {o : Obj} {u : HO} (h : H a = some (.frz o u)) : H' a = some (.frz o u) := e _ _ h fun ps q => by cases q
theorem Ext.seq {K : PySem.W.Frag} {H H' : Hp} (e : Ext H H') {a : Addr} {xs : List V} (h : SqL K H a xs) : SqL K H' a xs := by
  rcases h with (z | ⟨o, z⟩) | z
  · exact .inl (.inl (e.lst z))
  · exact .inl (.inr ⟨o, e.frz z⟩)
  · exact .inr z
theorem rgV_jobs (n : Nat) : rgV 0 (n : Int) = jobs (List.range n) := by
  unfold rgV jobs
  rw [show ((n : Int) - 0).toNat = n by omega]
  refine List.map_congr_left fun i _ => ?_
  rw [Int.zero_add]
abbrev sDueOrderIn : Stmt := topS 27
abbrev sDueOrder : Stmt := topS 28
theorem scDueOrderIn : FnScope ["dues", "jobs"] ["dues", "jobs"] (defScope sDueOrderIn) := ⟨rfl, rfl, rfl, by decide +kernel, rfl, by decide +kernel, by decide +kernel⟩
theorem scDueOrder : FnScope ["times", "dues"] ["times", "dues"] (defScope sDueOrder) := ⟨rfl, rfl, rfl, by decide +kernel, rfl, by decide +kernel, by decide +kernel⟩
abbrev qDue : Str := "due_order_in.<locals>.<lambda>"
def spDueOrderIn (T : Tbl) : Sp := fun vs H Q _ => ∃ (b l : Addr) (ds : List Int) (js : List Nat), vs = [.ref b, .ref l] ∧ TupI H b ds ∧ H l = some (.lst (jobs js)) ∧ (∀ j ∈ js, j < ds.length) ∧ LamX.Tabs T H ∧
  ∀ (H' : Hp) (p : Addr), Ext H H' → LamX.Tabs T H' → TupJ H' p (sortD ds js) → Q (.ref p) H'
def spDueOrder (T : Tbl) : Sp := fun vs H Q _ => ∃ (a b : Addr) (ts ds : List Int), vs = [.ref a, .ref b] ∧ TupI H a ts ∧ TupI H b ds ∧ ds.length = ts.length ∧ 1 ≤ ts.length ∧ ts.length ≤ 10 ∧ (∀ n ∈ ts, 1 ≤ n ∧ n ≤ 60) ∧ (∀ n ∈ ds, 0 ≤ n ∧ n ≤ 600) ∧ LamX.Tabs T H ∧
  ∀ (H' : Hp) (p : Addr), Ext H H' → LamX.Tabs T H' → TupJ H' p (sortD ds (List.range ts.length)) → Q (.ref p) H'
section
variable {P : Program} {w : World} {K : PySem.W.Frag} {mg : Str → Option Value} {base : Heap} {f c tb : Addr} {fd : FuncData} {T : Tbl}
theorem ok_dueOrderIn (F : FunC K "due_order_in" sDueOrderIn f fd c) (Z : Free mg) (TB : LamX.TabB base mg c tb) (hm : (tb, qDue) ∈ T) (hu : ∀ p ∈ T, p.1 = tb → p.2 = qDue) : FnOk P w K mg base CX0 2 f fd ["dues", "jobs"] (spDueOrderIn T) := by
  refine F.ok scDueOrderIn (fun vs H Q E h => ?_) (fun A outer s H vs Q E hr h => ?_)
  · obtain ⟨b, l, ds, js, rfl, _⟩ := h
    rfl
  · obtain ⟨b, l, ds, js, rfl, hb, hl, hj, hT, q⟩ := h
    refine ⟨_, pss_one (ps_ret (pe_callTy call_tuple_of (by rfl) Z.tuple (by decide +kernel) (pa_cons (pe_sortLam (T := T) (c := c) (P := tb) (i := 0) (by rfl) Z.sorted TB rfl hm hu (by rfl) rfl (by decide +kernel) rfl rfl rfl (fun _ _ _ _ _ _ => rfl) rfl rfl hr (by decide +kernel) (by decide +kernel) (by decide +kernel) (pv 1)) pa_nil))), ?_⟩
    refine ⟨_, rfl, l, b, js, ds, rfl, SqL.of hl, rfl, SqT.of hb, hj, hT, fun H2 p eN T2 _ hp => ?_⟩
    refine ⟨p, _, rfl, .inl ⟨SqL.of hp, fun t ht => ?_⟩⟩
    exact q _ t (eN.trans (Ext.same (same_upd ht))) (Tabs.same T2 (same_upd ht)) upd_same
theorem ok_dueOrder (F : Fun K "due_order" "due_order" sDueOrder f fd) (Z : Free mg) (h1 : Has P w K mg base "need_due" 5 ["times", "dues"] spNeedDue) (h2 : Has P w K mg base "due_order_in" 2 ["dues", "jobs"] (spDueOrderIn T)) :
    FnOk P w K mg base CX0 6 f fd ["times", "dues"] (spDueOrder T) := by
  obtain ⟨f1, fd1, g1, k1, b1, G1⟩ := h1.ex
  obtain ⟨f2, fd2, g2, k2, b2, G2⟩ := h2.ex
  refine F.ok scDueOrder (fun vs H Q E h => ?_) (fun cdv A outer s H vs Q E hr h => ?_)
  · obtain ⟨a, b, ts, ds, rfl, _⟩ := h
    rfl
  · obtain ⟨a, b, ts, ds, rfl, ha, hb, l0, l1, l2, q1, q2, hT, q⟩ := h
    refine ⟨_, pss_cons (ps_expr (pe_call G1 hr (by rfl) g1 k1 b1 .nil pass0 (pa_cons (pv 0) (pa_cons (pv 1) pa_nil))))
      (pss_one (ps_ret (pe_call G2 (hr.mono (by decide)) (by rfl) g2 k2 b2 .nil pass0 (pa_cons (pv 1) (pa_cons (pe_listRg rfl (by rfl) Z.list (prg_1 (by rfl) Z.range (pe_callB call_len (by rfl) Z.len PySem.boot_len (pa_cons (pv 0) pa_nil)))) pa_nil))))), ?_⟩
    refine ⟨_, rfl, _, rfl, a, b, ts, ds, rfl, ha, hb, l1, l2, l0, q1, q2, fun H1 s1 => ?_⟩
    refine ⟨_, rfl, _, rfl, _, (ts.map V.int).length, rfl, .inr ⟨_, SqT.of (s1 _ _ ha), rfl⟩, _, rfl, ?_, fun l hl => ?_⟩
    · rw [List.length_map]
      exact ⟨by omega, by omega, by omega, by omega, by omega⟩
    have s2 := s1.trans (same_upd (o := .lst (rgV 0 (((ts.map V.int).length : Nat) : Int))) hl)
    refine ⟨b, l, ds, List.range ts.length, rfl, s2 _ _ hb, ?_, fun j hj => ?_, Tabs.same hT s2, fun H2 p eN T2 hp => q H2 p ((Ext.same s2).trans eN) T2 hp⟩
    · rw [upd_same, List.length_map, rgV_jobs]
    · rw [l0]
      exact List.mem_range.mp hj
end
end Sh
set_option Elab.async false
set_option linter.all false
set_option maxRecDepth 100000
set_option maxHeartbeats 4000000
/-! punctual_in, fewest_late -/
namespace Sh
open PySem PySem.Spec PyProof.Rows L2
theorem sortD_perm (ds : List Int) (js : List Nat) : (sortD ds js).Perm js := List.mergeSort_perm js _
theorem sortD_srt (ds : List Int) (js : List Nat) : Mth.Srt (Dof ds) (sortD ds js) :=
  List.pairwise_mergeSort (le := Mth.ele (Dof ds)) (fun a b c h1 h2 => Mth.ele_trans h1 h2) (fun a b => by rcases Mth.ele_total (D := Dof ds) a b with h | h <;> simp [h]) js
theorem inV_jobs (j : Nat) : ∀ l : List Nat, inV (.int (j : Nat)) (jobs l) = decide (j ∈ l)
  | [] => rfl
  | a :: l => by
    have e : inV (.int (j : Nat)) (jobs (a :: l)) = (eqV (.int (a : Nat)) (.int (j : Nat)) || inV (.int (j : Nat)) (jobs l)) := rfl
    rw [e, inV_jobs j l]
    have e2 : eqV (.int (a : Nat)) (.int (j : Nat)) = decide (a = j) := by
      show ((a : Int) == (j : Int)) = decide (a = j)
      rw [Bool.eq_iff_iff, beq_iff_eq, decide_eq_true_eq]
      omega
    rw [e2, Bool.eq_iff_iff, Bool.or_eq_true, decide_eq_true_eq, decide_eq_true_eq, decide_eq_true_eq, List.mem_cons]
    constructor
    · rintro (h | h)
      · exact .inl h.symm
      · exact .inr h
    · rintro (h | h)
      · exact .inl h.symm
      · exact .inr h
theorem flat_jobs : ∀ l : List Nat, (jobs l).all flatV = true
  | [] => rfl
  | a :: l => by
    have e : (jobs (a :: l)).all flatV = (flatV (.int (a : Nat)) && (jobs l).all flatV) := rfl
    rw [e, flat_jobs l]
    rfl
theorem list_filt_yes {p : Nat → Bool} {l : List Nat} {i j : Nat} (hj : l[i]? = some j) (h : p j = true) : (l.take (i + 1)).filter p = (l.take i).filter p ++ [j] := by
  rw [take_snoc hj, List.filter_append, List.filter_cons, if_pos h, List.filter_nil]
theorem list_filt_no {p : Nat → Bool} {l : List Nat} {i j : Nat} (hj : l[i]? = some j) (h : ¬ p j = true) : (l.take (i + 1)).filter p = (l.take i).filter p := by
  rw [take_snoc hj, List.filter_append, List.filter_cons, if_neg h, List.filter_nil, List.append_nil]
/-- what the entry's heap does not hold -/
def Fresh (H : Hp) (p : Addr) : Prop := ∀ b o, H b = some o → (∀ ps, o ≠ .tbl ps) → b ≠ p
theorem Fresh.of_none {H : Hp} {p : Addr} (h : H p = none) : Fresh H p := fun b o e _ => ne_of_none e h
theorem Fresh.later {H H' : Hp} {p : Addr} (e : Ext H H') (h : H' p = none) : Fresh H p := fun b o z ht => ne_of_none (e _ _ z ht) h
theorem Ext.upd {H H' : Hp} {p : Addr} (o : HO) (e : Ext H H') (f : Fresh H p) : Ext H (upd H' p o) := fun b x z ht => by
  rw [upd_ne (f b x z ht)]
  exact e _ _ z ht
theorem Tabs.upd {T : Tbl} {H : Hp} {p : Addr} {o : HO} {xs : List V} (t : LamX.Tabs T H) (h : H p = some (.lst xs)) : LamX.Tabs T (L2.upd H p o) := fun q hq => by
  obtain ⟨ps, h1, h2, h3⟩ := t q hq
  refine ⟨ps, by rw [upd_ne (ne_of h1 h (fun z => by cases z))]; exact h1, h2, fun pos cv hc => ?_⟩
  obtain ⟨c, e1, e2⟩ := h3 pos cv hc
  refine ⟨c, e1, ?_⟩
  rw [upd_ne (ne_of e2 h (fun z => by unfold LamX.CodeO at z; cases z))]
  exact e2
abbrev sPunctualIn : Stmt := topS 30
abbrev sFewestLate : Stmt := topS 31
theorem scPunctualIn : FnScope ["times", "dues", "kept", "job", "longest", "one"] ["times", "dues"] (defScope sPunctualIn) := ⟨rfl, rfl, rfl, by decide +kernel, rfl, by decide +kernel, by decide +kernel⟩
theorem scFewestLate : FnScope ["times", "dues", "kept", "job"] ["times", "dues"] (defScope sFewestLate) := ⟨rfl, rfl, rfl, by decide +kernel, rfl, by decide +kernel, by decide +kernel⟩
abbrev qPun : Str := "punctual_in.<locals>.<lambda>"
def eOf (ts ds : List Int) : List Nat := sortD ds (List.range ts.length)
theorem eOf_perm (ts ds : List Int) : (eOf ts ds).Perm (List.range ts.length) := sortD_perm _ _
theorem eOf_nd (ts ds : List Int) : (eOf ts ds).Nodup := (eOf_perm ts ds).nodup_iff.mpr List.nodup_range
theorem eOf_lt {ts ds : List Int} {j : Nat} (h : j ∈ eOf ts ds) : j < ts.length := List.mem_range.mp ((eOf_perm ts ds).mem_iff.mp h)
def spPunctualIn (T : Tbl) : Sp := fun vs H Q _ => ∃ (a b : Addr) (ts ds : List Int), vs = [.ref a, .ref b] ∧ TupI H a ts ∧ TupI H b ds ∧ ds.length = ts.length ∧ 1 ≤ ts.length ∧ ts.length ≤ 10 ∧ (∀ n ∈ ts, 1 ≤ n ∧ n ≤ 60) ∧ LamX.Tabs T H ∧
  ∀ (H' : Hp) (p : Addr) (Kk : List Nat), Ext H H' → LamX.Tabs T H' → H' p = some (.lst (jobs Kk)) → Mth.MInv (Dof ts) (Dof ds) (eOf ts ds) Kk → Q (.ref p) H'
def spFewestLate (T : Tbl) : Sp := fun vs H Q _ => ∃ (a b : Addr) (ts ds : List Int), vs = [.ref a, .ref b] ∧ TupI H a ts ∧ TupI H b ds ∧ ds.length = ts.length ∧ 1 ≤ ts.length ∧ ts.length ≤ 10 ∧ (∀ n ∈ ts, 1 ≤ n ∧ n ≤ 60) ∧ (∀ n ∈ ds, 0 ≤ n ∧ n ≤ 600) ∧ LamX.Tabs T H ∧
  ∀ (H' : Hp) (p : Addr) (Kk R : List Nat), Ext H H' → LamX.Tabs T H' → TupJ H' p (Kk ++ R) → Mth.MInv (Dof ts) (Dof ds) (eOf ts ds) Kk → (Kk ++ R).Perm (List.range ts.length) → Q (.ref p) H'
theorem dof_nonneg {ts : List Int} (h : ∀ n ∈ ts, 1 ≤ n ∧ n ≤ 60) {j : Nat} (hj : j < ts.length) : 0 ≤ Dof ts j := by
  have h1 : Dof ts j = ts[j] := by
    show ts.getD j 0 = ts[j]
    rw [List.getD_eq_getElem?_getD, List.getElem?_eq_getElem hj]
    rfl
  rw [h1]
  have := (h _ (List.getElem_mem hj)).1
  omega
/-- the loop's word -/
structure PunW (T : Tbl) (H H' : Hp) (te p : Addr) (ts ds : List Int) (i : Nat) (Kk : List Nat) : Prop where
  ext : Ext H H'
  tabs : LamX.Tabs T H'
  ord : TupJ H' te (eOf ts ds)
  kept : H' p = some (.lst (jobs Kk))
  fresh : Fresh H p
  inv : Mth.MInv (Dof ts) (Dof ds) ((eOf ts ds).take i) Kk
theorem kept_len {ts ds : List Int} {i : Nat} {Kk : List Nat} (M : Mth.MInv (Dof ts) (Dof ds) ((eOf ts ds).take i) Kk) : Kk.length ≤ ts.length := by
  have h1 := M.sub.length_le
  have h2 := (eOf_perm ts ds).length_eq
  rw [List.length_range] at h2
  rw [List.length_take] at h1
  omega
theorem kept_lt {ts ds : List Int} {i : Nat} {Kk : List Nat} (M : Mth.MInv (Dof ts) (Dof ds) ((eOf ts ds).take i) Kk) {k : Nat} (h : k ∈ Kk) : k < ts.length := eOf_lt (List.mem_of_mem_take (M.sub.subset h))
section
variable {P : Program} {w : World} {K : PySem.W.Frag} {mg : Str → Option Value} {base : Heap} {f c tb : Addr} {fd : FuncData} {T : Tbl}
theorem ok_punctualIn (F : FunC K "punctual_in" sPunctualIn f fd c) (Z : Free mg) (TB : LamX.TabB base mg c tb) (hm : (tb, qPun) ∈ T) (hu : ∀ p ∈ T, p.1 = tb → p.2 = qPun) (h1 : Has P w K mg base "due_order_in" 2 ["dues", "jobs"] (spDueOrderIn T)) :
    FnOk P w K mg base CX0 3 f fd ["times", "dues"] (spPunctualIn T) := by
  obtain ⟨f1, fd1, g1, k1, b1, G1⟩ := h1.ex
  refine F.ok scPunctualIn (fun vs H Q E h => ?_) (fun A outer s H vs Q E hr h => ?_)
  · obtain ⟨a, b, ts, ds, rfl, _⟩ := h
    rfl
  · obtain ⟨a, b, ts, ds, rfl, ha, hb, l0, l1, l2, q1, hT, q⟩ := h
    have hr1 : Room 1 _ := hr.mono (by decide)
    refine ⟨_, pss_cons (ps_set (i := 2) scPunctualIn.nd rfl (.inl rfl) (pe_lst pa_nil))
      (pss_cons (ps_for PassesOwn.never rfl (pi_tup (pe_call G1 hr (by rfl) g1 k1 b1 .nil pass0 (pa_cons (pv 1) (pa_cons (pe_listRg rfl (by rfl) Z.list (prg_1 (by rfl) Z.range (pe_callB call_len (by rfl) Z.len PySem.boot_len (pa_cons (pv 0) pa_nil)))) pa_nil)))) (pg_name (i := 3) scPunctualIn.nd rfl (.inl rfl))
        (pss_cons (ps_expr (pe_bm PySem.F.plainAttrs_list PySem.F.slot_list_append PySem.F.type_list_append mt_append (pv 2) (pa_cons (pv 3) pa_nil)))
        (pss_one (ps_if (pt_cmpR op_gt (pe_callB (cr_sum rfl) (by rfl) Z.sum (by decide +kernel) (pa_cons (pe_lc (own := [("one", 5)]) (g := gName 5) (by rfl) scPunctualIn.nd (pi_list (pv 2))
            (blkOk_by (own := [("one", 5)]) (N := ["times", "dues", "kept", "job", "longest", "one"]) (sc := defScope sPunctualIn) (by decide +kernel)) (fun _ _ _ _ _ => pg_name (i := 5) scPunctualIn.nd rfl (.inl rfl)) (fun _ _ _ _ _ => pts_nil)
            (fun _ _ _ _ _ => pe_ix (r := rIxT K) ix_tup (pv 0) (pv 5) (fun _ _ => rfl))) pa_nil)) (pe_ix ix_tup (pv 1) (pv 3) (fun _ _ => rfl)) (nomark _))
          (pss_cons (ps_set (i := 4) scPunctualIn.nd rfl (.inr rfl) (pe_maxLam (T := T) (c := c) (P := tb) (i := 0) (by rfl) Z.max TB rfl hm hu (by rfl) rfl (by decide +kernel) rfl rfl rfl (fun _ _ _ _ _ _ => rfl) rfl rfl hr1 (by decide +kernel) (by decide +kernel) (by decide +kernel) (pv 2)))
          (pss_one (ps_setLc (i := 2) (own := [("one", 5)]) (g := gName 5) (by rfl) scPunctualIn.nd rfl rfl (sw_true rfl rfl rfl (by decide +kernel)) (pi_list (pv 2))
            (blkOk_by (own := [("one", 5)]) (N := ["times", "dues", "kept", "job", "longest", "one"]) (sc := defScope sPunctualIn) (by decide +kernel)) (fun _ _ _ _ _ => pg_name (i := 5) scPunctualIn.nd rfl (.inl rfl))
            (fun _ _ _ _ _ => pts_one (pt_cmpR op_ne (pv 5) (pv 4) (nomark _))) (fun _ _ _ _ _ => pv 5)))) pss_nil))))
      (pss_one (ps_ret (pv 2)))), ?_⟩
    -- kept = []
    refine ⟨Nat.zero_le _, fun p0 np0 => ?_⟩
    have s1 := same_upd (o := .lst []) np0
    -- due_order_in(dues, list(range(len(times))))
    refine ⟨_, rfl, _, rfl, _, (ts.map V.int).length, rfl, .inr ⟨_, SqT.of (s1 _ _ ha), rfl⟩, _, rfl, ?_, fun l hl => ?_⟩
    · rw [List.length_map]
      exact ⟨by omega, by omega, by omega, by omega, by omega⟩
    have s2 := s1.trans (same_upd (o := .lst (rgV 0 (((ts.map V.int).length : Nat) : Int))) hl)
    refine ⟨b, l, ds, List.range ts.length, rfl, s2 _ _ hb, ?_, fun j hj => ?_, Tabs.same hT s2, fun H2 te eN T2 hte => ?_⟩
    · rw [upd_same, List.length_map, rgV_jobs]
    · rw [l0]
      exact List.mem_range.mp hj
    have hp2 : H2 p0 = some (.lst (jobs [])) := eN.lst (by rw [upd_ne (ne_of_none upd_same hl)]; exact upd_same)
    -- the loop
    refine ⟨te, rfl, ⟨_, SqT.of hte⟩, for_tup (K := K) (a := te) (xs := jobs (eOf ts ds)) (fun i σ H' => ∃ v3 v4 v5 p Kk, σ = [some (.ref a), some (.ref b), some (.ref p), v3, v4, v5] ∧ PunW T H H' te p ts ds i Kk)
      ⟨none, none, none, p0, [], rfl, (Ext.same s2).trans eN, T2, hte, hp2, Fresh.of_none np0, Mth.minv_nil _ _⟩ (fun i σ H' _ ⟨_, _, _, _, _, _, W⟩ => SqT.of W.ord) ?_ ?_⟩
    · rintro i x σ H3 hx ⟨v3, v4, v5, p, Kk, rfl, W⟩
      obtain ⟨j, hj, rfl, hi⟩ := job_at hx
      have hjm := List.mem_of_getElem? hj
      have hjt := eOf_lt hjm
      have hkl := kept_len W.inv
      have hK1 : ∀ k ∈ Kk ++ [j], k < ts.length := fun k hk => by
        rcases List.mem_append.mp hk with z | z
        · exact kept_lt W.inv z
        · rw [List.mem_singleton.mp z]; exact hjt
      -- kept.append(job)
      refine ⟨_, rfl, .inl ⟨rfl, _, .inl (.inl W.kept)⟩, _, rfl, p, _, _, rfl, rfl, W.kept, by rw [List.length_map]; exact small1000 (by omega), ?_⟩
      rw [← jobs_snoc]
      have e4 := W.ext.upd (.lst (jobs (Kk ++ [j]))) W.fresh
      have t4 : LamX.Tabs T (upd H3 p (.lst (jobs (Kk ++ [j])))) := Tabs.upd W.tabs W.kept
      have o4 : TupJ (upd H3 p (.lst (jobs (Kk ++ [j])))) te (eOf ts ds) := by
        show upd H3 p _ te = _
        rw [upd_ne (ne_of W.ord W.kept (fun z => by cases z))]
        exact W.ord
      have h4 : upd H3 p (.lst (jobs (Kk ++ [j]))) p = some (.lst (jobs (Kk ++ [j]))) := upd_same
      generalize upd H3 p (.lst (jobs (Kk ++ [j]))) = H4 at e4 t4 o4 h4 ⊢
      -- sum([times[one] for one in kept])
      refine ⟨_, rfl, p, rfl, ⟨_, SqL.of h4⟩, fun D hD => lc_list (K := K) (a := p) (xs := jobs (Kk ++ [j])) (fun k H' => Same H4 H' ∧ H' D = some (.lst ((((Kk ++ [j]).map (Dof ts)).take k).map V.int))) ⟨same_upd hD, upd_same⟩ (fun k H' _ ⟨s5, _⟩ => SqL.of (s5 _ _ h4)) ?_ ?_⟩
      · rintro k x H5 hx5 ⟨s5, hD5⟩
        obtain ⟨z, hz, rfl, hk⟩ := job_at hx5
        have hzt := hK1 z (List.mem_of_getElem? hz)
        refine ⟨rfl, ?_⟩
        refine ⟨_, rfl, _, rfl, a, _, _, _, rfl, rfl, SqT.of (s5 _ _ (e4.tup ha)), atI_nat (dof_at hzt), ?_⟩
        refine ⟨_, hD5, ?_, fun b' o' e => ?_, ?_⟩
        · rw [List.length_map, List.length_take]
          rw [List.length_append] at hk
          exact small1000 (by simp at hk; omega)
        · rw [upd_ne (ne_of_none e hD)]
          exact s5 _ _ e
        · rw [upd_same, take_map_snoc (x := Dof ts z) (by rw [List.getElem?_map, hz]; rfl)]
      · rintro H5 ⟨s5, hD5⟩
        rw [List.length_map, List.take_of_length_le (by rw [List.length_map]; exact Nat.le_refl _)] at hD5
        refine ⟨D, _, rfl, SqL.of hD5, ?_⟩
        have e5 : Ext H H5 := e4.trans (Ext.same s5)
        have t5 : LamX.Tabs T H5 := Tabs.same t4 s5
        have o5 : TupJ H5 te (eOf ts ds) := s5 _ _ o4
        have h5 : H5 p = some (.lst (jobs (Kk ++ [j]))) := s5 _ _ h4
        have hn6 : ((eOf ts ds).take i ++ [j]).Nodup := by rw [← take_snoc hj]; exact (eOf_nd ts ds).sublist (List.take_sublist _ _)
        have hs6 : Mth.Srt (Dof ds) ((eOf ts ds).take i ++ [j]) := by rw [← take_snoc hj]; exact (sortD_srt ds _).sublist (List.take_sublist _ _)
        have hT6 : ∀ k ∈ (eOf ts ds).take i ++ [j], 0 ≤ Dof ts k := fun k hk => by
          refine dof_nonneg q1 ?_
          rw [← take_snoc hj] at hk
          exact eOf_lt (List.mem_of_mem_take hk)
        -- > dues[job]
        refine ⟨_, rfl, _, rfl, b, _, _, _, rfl, rfl, SqT.of (e5.tup hb), atI_nat (dof_at (by omega)), _, _, rfl, rfl, _, rfl, ite2 (fun hgt => ?_) fun hgt => ?_⟩
        · have hgt := of_decide_eq_true hgt
          -- longest = max(kept, key=..)
          refine ⟨_, rfl, p, a, Kk ++ [j], ts, rfl, SqL.of h5, rfl, SqT.of (e5.tup ha), hK1, by simp, t5, fun H6 z eN6 T6 hz hmax => ?_⟩
          have h6 : H6 p = some (.lst (jobs (Kk ++ [j]))) := Ext.lst eN6 h5
          -- kept = [one for one in kept if one != longest]
          refine ⟨_, rfl, p, rfl, ⟨_, SqL.of h6⟩, fun D2 hD2 => lc_list (K := K) (a := p) (xs := jobs (Kk ++ [j])) (fun k H' => Same H6 H' ∧ H' D2 = some (.lst (jobs (((Kk ++ [j]).take k).filter fun y => y != z)))) ⟨same_upd hD2, upd_same⟩ (fun k H' _ ⟨s7, _⟩ => SqL.of (s7 _ _ h6)) ?_ ?_⟩
          · rintro k x H7 hx7 ⟨s7, hD7⟩
            obtain ⟨y, hy, rfl, hk⟩ := job_at hx7
            refine ⟨rfl, ?_⟩
            have ed : decide (V.int ((y : Nat) : Int) = V.int ((z : Nat) : Int)) = decide (y = z) := decide_eq_decide.mpr ⟨fun e => by have := V.int.inj e; omega, fun e => by rw [e]⟩
            refine ⟨_, rfl, _, rfl, rfl, _, rfl, ?_⟩
            rw [ed]
            by_cases hyz : y = z
            · rw [decide_eq_true hyz]
              refine iteF ⟨s7, ?_⟩
              rw [list_filt_no hy (by simpa using hyz)]
              exact hD7
            · rw [decide_eq_false hyz]
              refine iteT ?_
              refine ⟨_, rfl, _, hD7, ?_, fun b' o' e => ?_, ?_⟩
              · rw [List.length_map]
                have h9 := List.length_filter_le (fun y => y != z) ((Kk ++ [j]).take k)
                rw [List.length_take] at h9
                rw [List.length_append] at hk
                exact small1000 (by simp at hk; omega)
              · rw [upd_ne (ne_of_none e hD2)]
                exact s7 _ _ e
              · rw [upd_same, list_filt_yes hy (by simpa using hyz), jobs_snoc]
          · rintro H7 ⟨s7, hD7⟩
            rw [List.length_map, List.take_length] at hD7
            have e7 : Ext H H7 := (e5.trans eN6).trans (Ext.same s7)
            refine ⟨_, _, _, D2, _, rfl, e7, Tabs.same T6 s7, s7 _ _ (Ext.tup eN6 o5), hD7, Fresh.later (e5.trans eN6) hD2, ?_⟩
            rw [take_snoc hj]
            exact Mth.minv_drop W.inv hn6 hs6 hT6 hgt hz hmax
        · have hle : ¬ Dof ds j < ((Kk ++ [j]).map (Dof ts)).sum := fun z => hgt (decide_eq_true z)
          refine ⟨_, _, _, p, Kk ++ [j], rfl, e5, t5, o5, h5, W.fresh, ?_⟩
          rw [take_snoc hj]
          exact Mth.minv_keep W.inv hn6 hs6 hT6 (Int.not_lt.mp hle)
    · rintro σ H3 ⟨v3, v4, v5, p, Kk, rfl, W⟩
      have hM := W.inv
      rw [List.length_map, List.take_length] at hM
      exact ⟨_, rfl, q H3 p Kk W.ext W.tabs W.kept hM⟩
theorem ok_fewestLate (F : Fun K "fewest_late" "fewest_late" sFewestLate f fd) (Z : Free mg) (h1 : Has P w K mg base "need_due" 5 ["times", "dues"] spNeedDue) (h2 : Has P w K mg base "punctual_in" 3 ["times", "dues"] (spPunctualIn T)) :
    FnOk P w K mg base CX0 6 f fd ["times", "dues"] (spFewestLate T) := by
  obtain ⟨f1, fd1, g1, k1, b1, G1⟩ := h1.ex
  obtain ⟨f2, fd2, g2, k2, b2, G2⟩ := h2.ex
  refine F.ok scFewestLate (fun vs H Q E h => ?_) (fun cdv A outer s H vs Q E hr h => ?_)
  · obtain ⟨a, b, ts, ds, rfl, _⟩ := h
    rfl
  · obtain ⟨a, b, ts, ds, rfl, ha, hb, l0, l1, l2, q1, q2, hT, q⟩ := h
    refine ⟨_, pss_cons (ps_expr (pe_call G1 hr (by rfl) g1 k1 b1 .nil pass0 (pa_cons (pv 0) (pa_cons (pv 1) pa_nil))))
      (pss_cons (ps_set (i := 2) scFewestLate.nd rfl (.inr rfl) (pe_call G2 (hr.mono (by decide)) (by rfl) g2 k2 b2 .nil pass0 (pa_cons (pv 0) (pa_cons (pv 1) pa_nil))))
      (pss_one (ps_ret (pe_tup (StX.pa_star (pv 2) (StX.pa_star (pe_lc (own := [("job", 3)]) (g := gName 3) (by rfl) scFewestLate.nd
        (pi_range1 (by rfl) Z.range (pa_cons (pe_callB call_len (by rfl) Z.len PySem.boot_len (pa_cons (pv 0) pa_nil)) pa_nil))
        (blkOk_by (own := [("job", 3)]) (N := ["times", "dues", "kept", "job"]) (sc := defScope sFewestLate) (by decide +kernel)) (fun _ _ _ _ _ => pg_name (i := 3) scFewestLate.nd rfl (.inl rfl))
        (fun _ _ _ _ _ => pts_one (pt_cmpR (r := rIn K true) op_notIn_seq (pv 3) (pv 2) (by rfl))) (fun _ _ _ _ _ => pv 3)) pa_nil)))))), ?_⟩
    refine ⟨_, rfl, _, rfl, a, b, ts, ds, rfl, ha, hb, l1, l2, l0, q1, q2, fun H1 s1 => ?_⟩
    refine ⟨_, rfl, _, rfl, a, b, ts, ds, rfl, s1 _ _ ha, s1 _ _ hb, l0, l1, l2, q1, Tabs.same hT s1, fun H2 p Kk eN T2 hp M => ?_⟩
    have e2 : Ext H H2 := (Ext.same s1).trans eN
    refine ⟨_, rfl, p, _, rfl, .inr (SqL.of hp), ?_⟩
    refine ⟨_, rfl, _, (ts.map V.int).length, rfl, .inr ⟨_, SqT.of (e2.tup ha), rfl⟩, _, rfl, by omega, by rw [List.length_map]; omega, fun D hD => ?_⟩
    have en : (((ts.map V.int).length : Nat) : Int).toNat = ts.length := by rw [List.length_map]; omega
    rw [en]
    refine lc_range (fun i H' => Same H2 H' ∧ H' D = some (.lst (jobs ((List.range i).filter fun k => !decide (k ∈ Kk))))) ⟨same_upd hD, upd_same⟩ ?_ ?_
    · rintro i H3 hi ⟨s3, hD3⟩
      have ei : (0 : Int) + (i : Int) = (i : Int) := Int.zero_add _
      refine ⟨rfl, ?_⟩
      refine ⟨_, rfl, _, rfl, p, _, rfl, .inl (SqL.of (s3 _ _ hp)), rfl, flat_jobs Kk, _, rfl, ?_⟩
      show if (!inV (.int ((0 : Int) + (i : Int))) (jobs Kk)) = true then _ else _
      rw [ei, inV_jobs]
      by_cases hik : (!decide (i ∈ Kk)) = true
      · rw [if_pos hik]
        refine ⟨_, rfl, _, hD3, ?_, fun b' o' e => ?_, ?_⟩
        · rw [List.length_map]
          exact Nat.lt_of_le_of_lt filt_len (small1000 (by omega))
        · rw [upd_ne (ne_of_none e hD)]
          exact s3 _ _ e
        · rw [upd_same, filt_yes (p := fun k => !decide (k ∈ Kk)) hik, jobs_snoc]
      · rw [if_neg hik]
        refine ⟨s3, ?_⟩
        rw [filt_no (p := fun k => !decide (k ∈ Kk)) hik]
        exact hD3
    · rintro H3 ⟨s3, hD3⟩
      refine ⟨D, _, rfl, .inr (SqL.of hD3), ?_⟩
      have hKn : Kk.Nodup := (eOf_nd ts ds).sublist M.sub
      have hperm : (Kk ++ (List.range ts.length).filter fun k => !decide (k ∈ Kk)).Perm (List.range ts.length) := by
        refine Mth.perm_of ?_ List.nodup_range (fun x hx => ?_) fun x hx => ?_
        · rw [List.nodup_append]
          refine ⟨hKn, List.nodup_range.sublist List.filter_sublist, fun x hx y hy e => ?_⟩
          have hy' := (List.mem_filter.mp hy).2
          rw [← e] at hy'
          simp [hx] at hy'
        · rcases List.mem_append.mp hx with z | z
          · exact List.mem_range.mpr (eOf_lt (M.sub.subset z))
          · exact (List.mem_filter.mp z).1
        · by_cases z : x ∈ Kk
          · exact List.mem_append_left _ z
          · exact List.mem_append_right _ (List.mem_filter.mpr ⟨hx, by simp [z]⟩)
      have hl3 := hperm.length_eq
      rw [List.length_range] at hl3
      refine ⟨?_, fun t ht => ?_⟩
      · rw [List.append_nil, ← List.map_append, List.length_map, hl3]
        exact Nat.le_of_lt (small1000 (by omega))
      · refine q _ t Kk _ ((e2.trans (Ext.same s3)).trans (Ext.same (same_upd ht))) (Tabs.same (Tabs.same T2 s3) (same_upd ht)) ?_ M hperm
        show upd H3 t _ t = _
        rw [upd_same, List.append_nil]
        exact congrArg (fun l => some (HO.tup l)) List.map_append.symm
end
end Sh
set_option Elab.async false
set_option linter.all false
set_option maxRecDepth 100000
set_option maxHeartbeats 4000000
/-! sorted of a tuple of ints; rows (a weight and a tuple of jobs): their order, the least of a dict's values -/
namespace Sh
open PySem PySem.Spec PyProof.Rows L2
/-! ### sorted(t) -/
section
variable {prog : Program} {w : World} {A : Around} {E : Value → Shared → Prop} {s : Shared}
theorem collect_tup {l : Addr} {vs : List Value} {Q : List Value → Shared → Prop} (ht : IsTup s.heap l vs.toArray) (hsz : vs.length ≤ sizeLine)
    (h : Q vs { s with heap := (s.heap.push (seqObj "list" #[] 0)).update s.heap.objs.size (Obj.mapSeq (· ++ vs.toArray)) }) : wpAny (model prog w) A (collect (.ref l)) Q E s := by
  obtain ⟨o, ho, hc, n, hd⟩ := id ht
  have new : (s.heap.push (seqObj "list" #[] 0)).get? s.heap.objs.size = some (seqObj "list" #[] 0) := Heap.get?_push_size _ rfl
  have old : (s.heap.push (seqObj "list" #[] 0)).get? l = some o := Heap.get?_push_of_some _ ho
  unfold collect
  refine wpAny_bind (wpAny_runValue (codeAny_builtin entry_proto_collect' ?_))
  show wpAny _ _ (do again (.builtin "list.__iadd__" ⟨[← newList [], Value.ref l], []⟩)) _ _ s
  refine wpAny_bind (wpAny_newList (wpAny_pure ⟨Code.quiet_builtin _ (by decide +kernel), codeAny_builtin entry_list_iadd' ?_⟩))
  show wpAny _ _ (Builtin.List.listExtendWith (Value.ref s.heap.objs.size) (Value.ref l) (Value.ref s.heap.objs.size)) _ _ { s with heap := s.heap.push (seqObj "list" #[] 0) }
  unfold Builtin.List.listExtendWith
  refine wpAny_bind (wpAny_typeOf (T := "tuple") ⟨o, old, hc⟩ ?_)
  rw [if_pos (by simp)]
  refine wpAny_bind (listItems_at old hd ?_)
  refine wpAny_bind (listItems_at (xs := #[]) (n := 0) new rfl ?_)
  rw [if_neg (by simp)]
  refine wpAny_bind (listUpdate_at (xs := #[]) (n := 0) new rfl ?_ (Nat.zero_le _) ?_)
  rotate_left
  · show (#[] ++ vs.toArray).size ≤ sizeLine + 1
    simp only [Array.size_append, List.size_toArray, List.length_nil]
    omega
  refine wpAny_pure (wpAny_bind (wpAny_load (get?_update_seq new _) ?_))
  have e : ((#[] : Array Value) ++ vs.toArray).toList = vs := by simp
  show wpAny _ _ (pure ((#[] : Array Value) ++ vs.toArray).toList) Q E _
  rw [e]
  exact wpAny_pure h
theorem sorted_tup {l : Addr} {vs : List Value} {ns : List Int} {Q : Value → Shared → Prop} (ht : IsTup s.heap l vs.toArray) (hi : IntsAre vs ns) (hz : vs.length ≤ sizeLine)
    (h : ∀ (out : List Value) (ns' : List Int), IntsAre out ns' → ns'.Perm ns → ns'.Pairwise (· ≤ ·) → Q (.ref (s.heap.objs.size + 1)) { s with heap := sortedAll s.heap vs out.toArray }) :
    wpAny (model prog w) A (call (.builtin "sorted") [.ref l]) Q E s := by
  refine Calls.call_function_entry kind_sorted plain_sorted entry_sorted (args_sorted1 _) ?_
  unfold Builtin.«sorted»
  refine wpAny_bind (m := checkCount "sorted" 1 1 _) (wpAny_pure ?_)
  refine wpAny_bind (collect_tup ht hz ?_)
  refine wpAny_bind (wpAny_newList ?_ hz)
  have e1 : ((s.heap.push (seqObj "list" #[] 0)).update s.heap.objs.size (Obj.mapSeq (· ++ vs.toArray))).objs.size = s.heap.objs.size + 1 := by rw [Heap.size_update, size_push']
  have at1 : (PySem.W.copyHeap s.heap vs).get? (s.heap.objs.size + 1) = some (seqObj "list" vs.toArray 0) := PySem.W.copyHeap_at s.heap vs
  show wpAny _ _ _ _ _ { s with heap := PySem.W.copyHeap s.heap vs }
  rw [e1]
  refine wpAny_bind (wpAny_holding (wpAny_call_entry slot_list_sort ⟨_, at1, rfl⟩ entry_list_sort ?_ (args_list_sort _)))
  refine SrtO.list_sort_ord (s := { s with heap := PySem.W.copyHeap s.heap vs }) SrtO.swo_int at1 hz (fun h2 => SrtO.ints_sortable hi h2) fun out h1 h2 => ⟨_, rfl, wpAny_pure ⟨_, rfl, ?_⟩⟩
  obtain ⟨k1, k2, k3⟩ := SrtO.ints_out hi h1 h2
  exact h out _ k1 k2 k3
end
section
variable {X : Cx}
def rSortT (K : PySem.W.Frag) : List V → Hp → VK → Prop := fun vs H Q => ∃ (a : Addr) (ns : List Int), vs = [.ref a] ∧ SqT K H a (ns.map V.int) ∧ ∀ (ns' : List Int) (p : Addr), ns'.Perm ns → ns'.Pairwise (· ≤ ·) → H p = none → Q (.ref p) (upd H p (.lst (ns'.map V.int)))
theorem cr_sortT : CallR X (.builtin "sorted") (rSortT X.K) := by
  intro pins s σ H vs us Q I r h
  obtain ⟨a, ns, rfl, hs, q⟩ := h
  obtain ⟨its, rv, ht, hz⟩ := I.tuple hs
  obtain rfl := Vals.ref1 r
  have hl := rv.length
  refine sorted_tup ht rv.ints (by rw [← hl]; exact hz) fun out ns' k1 k2 k3 => ?_
  obtain ⟨ep, he'⟩ := PyProof.Rows.sortedAll_at s.heap its out.toArray
  refine ⟨.ref _, upd H (s.heap.objs.size + 1) (.lst (ns'.map V.int)), I.laid (t' := s.toks) (fun _ _ => PyProof.Rows.sortedAll_old) (Nat.le_succ _) ⟨?_, out, ep, vals_of_ints k1, he'⟩, rfl, q _ _ k2 k3 (I.hok.fresh (Nat.le_succ _))⟩
  rw [List.length_map, k2.length_eq]
  rw [List.length_map] at hz
  exact hz
end
/-! ### rows -/
abbrev castJ (l : List Nat) : List Int := l.map fun j => ((j : Nat) : Int)
def ltR (p q : Mth.Row) : Bool := PySem.W.DatumOrd.lt (α := Int × PySem.W.Tup Int) (p.1, ⟨castJ p.2⟩) (q.1, ⟨castJ q.2⟩)
theorem ltR_eq (p q : Mth.Row) : ltR p q = if p.1 = q.1 then PySem.W.DatumOrd.lt (α := PySem.W.Tup Int) ⟨castJ p.2⟩ ⟨castJ q.2⟩ else decide (p.1 < q.1) := rfl
theorem ltR_ok : Mth.LtOk ltR := by
  refine ⟨fun p q h => ?_, fun p q h => ?_⟩
  · rw [ltR_eq] at h
    split at h
    · omega
    · have := of_decide_eq_true h
      omega
  · rw [ltR_eq] at h
    split at h
    · omega
    · have := of_decide_eq_false h
      omega
def RowAt (H : Hp) (t : Addr) (r : Mth.Row) : Prop := ∃ k, H t = some (.tup [.int r.1, .ref k]) ∧ TupJ H k r.2
theorem RowAt.ext {H H' : Hp} {t : Addr} {r : Mth.Row} (h : RowAt H t r) (e : Ext H H') : RowAt H' t r := by
  obtain ⟨k, h1, h2⟩ := h
  exact ⟨k, e.tup h1, e.tup h2⟩
theorem RowAt.upd {H : Hp} {t p : Addr} {r : Mth.Row} {o : HO} (h : RowAt H t r) (hp : ∀ xs, H p ≠ some (.tup xs)) : RowAt (L2.upd H p o) t r := by
  obtain ⟨k, h1, h2⟩ := h
  refine ⟨k, ?_, ?_⟩
  · rw [upd_ne (fun e => hp _ (e ▸ h1))]
    exact h1
  · show L2.upd H p o k = _
    rw [upd_ne (fun e => hp _ (e ▸ h2))]
    exact h2
section
variable {X : Cx} {pins : List (Addr × Obj)} {σ : L2.St} {H : Hp} {s : Shared}
theorem holds_row {t : Addr} {r : Mth.Row} (I : Inv X pins σ H s) (h : RowAt H t r) : PySem.W.Holds (α := Int × PySem.W.Tup Int) s.heap (.ref t) (r.1, ⟨castJ r.2⟩) := by
  obtain ⟨k, h1, h2⟩ := h
  obtain ⟨its, rv, ht, _⟩ := I.tuple (SqT.of h1)
  obtain ⟨u1, u2, rfl, ru1, ru2⟩ := vals2 rv
  obtain ⟨t1, rfl⟩ := ru1
  obtain rfl : u2 = Value.ref k := ru2
  have h3 : H k = some (.tup ((castJ r.2).map V.int)) := by
    rw [← jobs_eq]
    exact h2
  obtain ⟨its2, rv2, ht2, _⟩ := I.tuple (SqT.of h3)
  exact PySem.W.holds_pair ht (PySem.W.holds_int _ _) (PySem.W.holds_tup ht2 (PySem.W.HoldAll.of_ints (by simpa using rv2.ints)))
def rLtRow : R2 := fun x y H Q => ∃ (t u : Addr) (p q : Mth.Row), x = .ref t ∧ y = .ref u ∧ RowAt H t p ∧ RowAt H u q ∧ Q (.bl (ltR p q)) H
theorem op_ltRow (hu : X.A.units + 2 < cLine) : OpR X (compareOp .Lt) rLtRow := by
  intro pins s σ H x y v u Q I rx ry h
  obtain ⟨t, z, p, q, rfl, rfl, hp, hq, k⟩ := h
  obtain rfl : v = Value.ref t := rx
  obtain rfl : u = Value.ref z := ry
  exact PySem.W.lt_datum (holds_row I hp) (holds_row I hq) hu ⟨.bl (ltR p q), H, I, rfl, k⟩
end
/-- a dict of rows by the day -/
def RowsAt (H : Hp) (kvs : List (Key × V)) (rows : Mth.Rows) : Prop := Paired (fun (kv : Key × V) (x : Int × Mth.Row) => kv.1 = Sum.inl x.1 ∧ ∃ t, kv.2 = .ref t ∧ RowAt H t x.2) kvs rows
theorem RowsAt.imp {H H' : Hp} (f : ∀ t r, RowAt H t r → RowAt H' t r) {kvs : List (Key × V)} {rows : Mth.Rows} (h : RowsAt H kvs rows) : RowsAt H' kvs rows := Paired.mapP h fun a b ⟨h1, t, h2, h3⟩ => ⟨h1, t, h2, f _ _ h3⟩
theorem RowsAt.look {H : Hp} {k : Int} : ∀ {kvs : List (Key × V)} {rows : Mth.Rows}, RowsAt H kvs rows → match Mth.lookR rows k with
    | none => valV kvs (Sum.inl k : Key) = none
    | some r => ∃ t, valV kvs (Sum.inl k : Key) = some (.ref t) ∧ RowAt H t r
  | [], [], _ => rfl
  | kv :: kvs, x :: rows, .cons ⟨e1, t, e2, e3⟩ hr => by
    have ih := RowsAt.look (k := k) hr
    by_cases hk : x.1 = k
    · have e : Mth.lookR (x :: rows) k = some x.2 := by
        unfold Mth.lookR
        rw [List.find?_cons, show decide (x.1 = k) = true from decide_eq_true hk]
        rfl
      rw [e]
      refine ⟨t, ?_, e3⟩
      rw [valV_pos (e1.trans (congrArg Sum.inl hk)), e2]
    · have e : Mth.lookR (x :: rows) k = Mth.lookR rows k := by
        unfold Mth.lookR
        rw [List.find?_cons, show decide (x.1 = k) = false from decide_eq_false hk]
      have e4 : valV (kv :: kvs) (Sum.inl k : Key) = valV kvs (Sum.inl k : Key) := valV_neg fun z => hk (Sum.inl.inj (e1.symm.trans z))
      rw [e, e4]
      exact ih
theorem paired_append {α β : Type} {R : α → β → Prop} : ∀ {a : List α} {b : List β} {x : α} {y : β}, Paired R a b → R x y → Paired R (a ++ [x]) (b ++ [y])
  | [], [], _, _, .nil, h => .cons h .nil
  | _ :: _, _ :: _, _, _, .cons r t, h => .cons r (paired_append t h)
theorem paired_map {α β : Type} {R : α → β → Prop} {f : α → α} {g : β → β} (h : ∀ x y, R x y → R (f x) (g y)) : ∀ {a : List α} {b : List β}, Paired R a b → Paired R (a.map f) (b.map g)
  | [], [], .nil => .nil
  | _ :: _, _ :: _, .cons r t => .cons (h _ _ r) (paired_map h t)
theorem RowsAt.any {H : Hp} {k : Int} : ∀ {kvs : List (Key × V)} {rows : Mth.Rows}, RowsAt H kvs rows → (kvs.any fun kv => decide (kv.1 = (Sum.inl k : Key))) = rows.any fun x => decide (x.1 = k)
  | [], [], _ => rfl
  | kv :: kvs, x :: rows, .cons ⟨e1, _⟩ hr => by
    rw [List.any_cons, List.any_cons, RowsAt.any hr, e1]
    congr 1
    exact decide_eq_decide.mpr ⟨fun e => Sum.inl.inj e, fun e => congrArg Sum.inl e⟩
theorem RowsAt.put {H : Hp} {k : Int} {t : Addr} {r : Mth.Row} {kvs : List (Key × V)} {rows : Mth.Rows} (h : RowsAt H kvs rows) (ht : RowAt H t r) : RowsAt H (putK kvs (Sum.inl k : Key) (.ref t)) (Mth.putR rows k r) := by
  unfold putK Mth.putR
  rw [h.any]
  split
  · refine paired_map (fun x y hxy => ?_) h
    obtain ⟨e1, t', e2, e3⟩ := hxy
    by_cases hk : y.1 = k
    · rw [if_pos (e1.trans (congrArg Sum.inl hk)), if_pos hk]
      exact ⟨e1, t, rfl, ht⟩
    · rw [if_neg (fun z => hk (Sum.inl.inj (e1.symm.trans z))), if_neg hk]
      exact ⟨e1, t', e2, e3⟩
  · exact paired_append h ⟨rfl, t, rfl, ht⟩
theorem RowsAt.get {H : Hp} : ∀ {kvs : List (Key × V)} {rows : Mth.Rows} {i : Nat} {kv : Key × V}, RowsAt H kvs rows → kvs[i]? = some kv → ∃ x t, rows[i]? = some x ∧ kv = (Sum.inl x.1, .ref t) ∧ RowAt H t x.2
  | [], _, _, _, _, h => by simp at h
  | kv :: kvs, x :: rows, 0, _, .cons ⟨e1, t, e2, e3⟩ _, h => by
    have h := Option.some.inj h
    subst h
    exact ⟨x, t, rfl, Prod.ext e1 e2, e3⟩
  | kv :: kvs, x :: rows, i + 1, _, .cons _ hr, h => RowsAt.get hr (i := i) (by simpa using h)
theorem RowsAt.length {H : Hp} {kvs : List (Key × V)} {rows : Mth.Rows} (h : RowsAt H kvs rows) : kvs.length = rows.length := Paired.length h

theorem paired_get {α β : Type} {R : α → β → Prop} : ∀ {a : List α} {b : List β} {i : Nat} {x : α} {y : β}, Paired R a b → a[i]? = some x → b[i]? = some y → R x y
  | [], _, _, _, _, _, h, _ => by simp at h
  | x' :: a, y' :: b, 0, x, y, .cons r _, h1, h2 => by
    have e1 := Option.some.inj h1
    have e2 := Option.some.inj h2
    subst e1 e2
    exact r
  | x' :: a, y' :: b, i + 1, x, y, .cons _ t, h1, h2 => paired_get (i := i) t (by simpa using h1) (by simpa using h2)
/-! ### min(rows.values()) -/
section
variable {X : Cx} {pins : List (Addr × Obj)} {σ : L2.St} {H : Hp} {s : Shared}
def tMinVals (te : TE) : TE := fun σ H Q => te σ H fun x H1 => ∃ (d : Addr) (kvs : List (Key × V)) (rows : Mth.Rows), x = .ref d ∧ H1 d = some (.dK kvs) ∧ RowsAt H1 kvs rows ∧ rows ≠ [] ∧
  ∀ (t : Addr) (x : Int × Mth.Row), x ∈ rows → (∀ y ∈ rows, x.2.1 ≤ y.2.1) → RowAt H1 t x.2 → Q (.ref t) H1
theorem pe_minVals {e : Expr} {te : TE} {p apos cpos pos : Pos} (hg : Gl X "min") (hmg : X.mg "min" = none) (hr : Room 0 X.A) (he : PE X e te)
    (hbase : attributeBase e "values" X.env (eval e X.env) = eval e X.env := by rfl) (hline : (apos.endLine == cpos.line) = true := by rfl) :
    PE X (.Call (.Name "min" p) [.Call (.Attribute e "values" apos) [] [] cpos] [] pos) (tMinVals te) := by
  refine ⟨fun pins s σ H Q I h => ?_⟩
  refine Call_ (ld_blt (u := .builtin "min") I hg hmg (by decide +kernel) ?_)
  refine PyProof.Rows.callWith_builtin1 (PyProof.Rows.args_cons ?_ rfl) rfl rfl
  refine wpAny_Call_method (T := "dict") (id := "dict.values") hbase rfl hline F.plainAttrs_dict F.slot_dict_values F.type_dict_values (thn (he.run pins s σ H _ I h) fun u s1 ⟨x, H1, I1, rx, d, kvs, rows, ex, hd, hrw, hne, q⟩ => ?_)
  subst ex
  obtain rfl : u = Value.ref d := rx
  obtain ⟨hsz, hsys, vs, kv, hm⟩ := I1.hok d _ hd
  obtain ⟨es, ep, raw, hes, hent⟩ := Heap.DictOf.raw hm
  have hl : kvs.length = vs.length := Paired.length kv
  have hlr := hrw.length
  have hT := raw.typeIs
  refine ⟨hT, ?_, ?_⟩
  · obtain ⟨o, ho, hx, hdt⟩ := raw
    exact hm.mapOf.noDict
  have hu := hr.un
  have fin : wpAny (model X.prog X.w) X.A (call (.builtin "min") [.ref s1.heap.objs.size]) (EP X pins σ Q) X.xe { s1 with heap := s1.heap.push { cls := .type "dict_values", data := .fields #[.ref d] } } := by
    have hdl : d < s1.heap.objs.size := by
      obtain ⟨o, ho, _⟩ := raw
      exact Heap.lt_size ho
    have raw2 : (s1.heap.push { cls := .type "dict_values", data := .fields #[.ref d] }).DictRaw d es ep := raw.at fun o q => Heap.get?_push_of_some _ q
    let N := s1.heap.objs.size
    have hsz2 : (s1.heap.push { cls := .type "dict_values", data := .fields #[.ref d] }).objs.size = s1.heap.objs.size + 1 := size_push' ..
    let dflt : Int × Mth.Row := (0, (0, []))
    let bt : Nat → Nat → Bool := fun i j => ltR (rows.getD i dflt).2 (rows.getD j dflt).2
    have rowi : ∀ (i : Nat) (v : Value), (∃ hi : i < es.size, v = es[i].val) → ∃ t, v = .ref t ∧ i < rows.length ∧ RowAt H1 t (rows.getD i dflt).2 := fun i v hv => by
      obtain ⟨hi, rfl⟩ := hv
      have hi2 : i < kvs.length := by omega
      obtain ⟨x, t, hx, hkv, hra⟩ := hrw.get (List.getElem?_eq_getElem hi2)
      have hxl : i < rows.length := by omega
      have hd2 : rows.getD i dflt = x := by rw [List.getD_eq_getElem?_getD, hx]; rfl
      obtain ⟨kk, vv, hkvv⟩ : ∃ kk vv, vs[i]? = some (kk, vv) := ⟨_, _, List.getElem?_eq_getElem (by omega)⟩
      have h2 := (hent i hi kk vv hkvv).2
      have h3 : RelV (.ref t) vv := by
        have h4 := paired_get kv (List.getElem?_eq_getElem hi2) hkvv
        rw [hkv] at h4
        exact h4.2
      obtain rfl : vv = Value.ref t := h3
      exact ⟨t, h2, hxl, by rw [hd2]; exact hra⟩
    refine call_min_walkH (wpAny_pyIter_values_raw (v := s1.heap.objs.size) (d := d) (es := es) (ep := ep) ⟨_, Heap.get?_push_size _ rfl, rfl, rfl⟩ raw2 ?_)
    have hne2 : d ≠ (s1.heap.push { cls := .type "dict_values", data := .fields #[.ref d] }).objs.size := by rw [hsz2]; exact Nat.ne_of_lt (Nat.lt_succ_of_lt hdl)
    have W := (Walks.rawValues (prog := X.prog) (w := X.w) (A := X.A.in1) (by exact hr.hd) (s1.heap.push { cls := .type "dict_values", data := .fields #[.ref d] }).objs.size d hne2 es ep).toS
    refine ⟨_, _, _, _, _, _, _, s1.heap, bt, rfl, W, ⟨⟨_, Heap.get?_push_size _ rfl, rfl, rfl⟩, raw2.at fun o q => Heap.get?_push_of_some _ q⟩, fun b hb => ?_, ?_, fun b o e hb => ?_, fun b o e => Heap.get?_push_of_some _ (Heap.get?_push_of_some _ e), ?_, fun v s' hP hmv => ?_⟩
    · rw [size_push', hsz2]
      rcases List.mem_cons.mp hb with z | z
      · rw [z, hsz2]; exact Nat.lt_succ_self _
      · rw [List.mem_singleton.mp z]
        exact Nat.lt_succ_of_lt (Nat.lt_succ_of_lt hdl)
    · have := List.length_pos_iff.mpr hne
      omega
    · have hbl := Heap.lt_size e
      rw [List.mem_singleton.mp hb, hsz2] at hbl
      exact absurd hbl (Nat.not_lt.mpr (Nat.le_succ _))
    · intro i j vi vj s4 Q4 E4 hk hi hj hq
      obtain ⟨ti, rfl, _, ri⟩ := rowi i vi hi
      obtain ⟨tj, rfl, _, rj⟩ := rowi j vj hj
      obtain ⟨as1, r1⟩ := (holds_row I1 ri).keeps hk
      obtain ⟨as2, r2⟩ := (holds_row I1 rj).keeps hk
      refine PySem.W.rcLt_alike _ _ X.A.in1 s4 _ _ _ _ r1 r2 (PySem.W.DatumOrd.alike _ _) (PySem.W.DatumOrd.notNone _) ?_ X.prog X.w E4 Q4 (by rw [PySem.W.DatumOrd.lt_eq]; exact hq)
      have h1 := PySem.W.Datum.depth_le (α := Int × PySem.W.Tup Int) ((rows.getD i dflt).2.1, ⟨castJ (rows.getD i dflt).2.2⟩)
      have h2 : PySem.W.Datum.depth (Int × PySem.W.Tup Int) = 2 := rfl
      rw [h2] at h1
      refine Nat.lt_of_le_of_lt (Nat.add_le_add_left (Nat.le_trans (Nat.min_le_left _ _) h1) _) ?_
      show X.A.units + 1 + 2 < cLine
      omega
    · obtain ⟨t, rfl, hbl, hra⟩ := rowi _ v hP
      have top := argBest_top (bt := bt) (f := fun i => - (rows.getD i dflt).2.1) (fun i j z => by
        have := ltR_ok.yes _ _ z
        show - (rows.getD j dflt).2.1 ≤ - (rows.getD i dflt).2.1
        omega) (fun i j z => by
        have := ltR_ok.no _ _ z
        show - (rows.getD i dflt).2.1 ≤ - (rows.getD j dflt).2.1
        omega) (es.size - 1)
      have hgd : rows[argBest bt (es.size - 1)]? = some (rows.getD (argBest bt (es.size - 1)) dflt) := by
        rw [List.getElem?_eq_getElem hbl, List.getD_eq_getElem?_getD, List.getElem?_eq_getElem hbl]
        rfl
      have I2 : Inv X pins σ H1 s' := by
        obtain ⟨hp, g, dr, tk, os⟩ := s'
        have h1 : g = s1.gens := hmv.gens
        have h2 : dr = s1.drawn := hmv.drawn
        have h3 : os = s1.os := hmv.os
        subst h1 h2 h3
        refine I1.kept (t' := tk) (h' := hp) fun b o e => hmv.heap b o (fun hb => ?_) (Heap.get?_push_of_some _ (Heap.get?_push_of_some _ e))
        have hbl := Heap.lt_size e
        rw [List.mem_singleton.mp hb, hsz2] at hbl
        exact absurd hbl (Nat.not_lt.mpr (Nat.le_succ _))
      refine ⟨.ref t, H1, I2, rfl, q t _ (List.mem_of_getElem? hgd) (fun y hy => ?_) hra⟩
      obtain ⟨n, hn1, hn2⟩ := List.getElem_of_mem hy
      have h1 := top.2 n (by omega)
      have h2 : rows.getD n dflt = y := by rw [List.getD_eq_getElem?_getD, List.getElem?_eq_getElem hn1, hn2]; rfl
      have h3 : - (rows.getD n dflt).2.1 ≤ - (rows.getD (argBest bt (es.size - 1)) dflt).2.1 := h1
      rw [h2] at h3
      omega
  show wpAny _ _ (callWith cpos (.builtin "dict.values") [.ref d] [] []) _ X.xe s1
  exact method_meetsIn F.slot_dict_values F.entry_dict_values rfl (PySem.evalArgs_none ⟨rfl, hT, F.args_dict_values_1 _, _, meets_dict_values_raw d hsys, ⟨es, ep, raw⟩, PyProof.Rows.args_nil fin⟩)
end
end Sh
set_option Elab.async false
set_option linter.all false
set_option maxRecDepth 100000
set_option maxHeartbeats 4000000


/-! least_late_weight -/
namespace Sh
open PySem PySem.Spec PyProof.Rows L2
abbrev sLeastLate : Stmt := topS 32
theorem scLeastLate : FnScope ["times", "weights", "dues", "rows", "job", "more", "day", "weight", "kept", "options", "end", "row"] ["times", "weights", "dues"] (defScope sLeastLate) := ⟨rfl, rfl, rfl, by decide +kernel, rfl, by decide +kernel, by decide +kernel⟩
theorem Tabs.updD {T : Tbl} {H : Hp} {p : Addr} {o : HO} {u : List (Key × V)} (t : LamX.Tabs T H) (h : H p = some (.dK u)) : LamX.Tabs T (L2.upd H p o) := fun q hq => by
  obtain ⟨ps, h1, h2, h3⟩ := t q hq
  refine ⟨ps, by rw [upd_ne (ne_of h1 h (fun z => by cases z))]; exact h1, h2, fun pos cv hc => ?_⟩
  obtain ⟨c, e1, e2⟩ := h3 pos cv hc
  refine ⟨c, e1, ?_⟩
  rw [upd_ne (ne_of e2 h (fun z => by unfold LamX.CodeO at z; cases z))]
  exact e2
theorem Tabs.updF {T : Tbl} {H : Hp} {p : Addr} {o : HO} {u : HO} {od : Obj} (t : LamX.Tabs T H) (h : H p = some (.frz od u)) : LamX.Tabs T (L2.upd H p o) := fun q hq => by
  obtain ⟨ps, h1, h2, h3⟩ := t q hq
  refine ⟨ps, by rw [upd_ne (ne_of h1 h (fun z => by cases z))]; exact h1, h2, fun pos cv hc => ?_⟩
  obtain ⟨c, e1, e2⟩ := h3 pos cv hc
  refine ⟨c, e1, ?_⟩
  rw [upd_ne (ne_of e2 h (fun z => by unfold LamX.CodeO at z; cases z))]
  exact e2
theorem upd_self {H : Hp} {p : Addr} {o : HO} (h : H p = some o) : upd H p o = H := by
  funext b
  by_cases e : b = p
  · subst e
    rw [upd_same, h]
  · rw [upd_ne e]
theorem upd_upd {H : Hp} {p : Addr} {o o' : HO} : upd (upd H p o) p o' = upd H p o' := by
  funext b
  by_cases e : b = p
  · subst e
    rw [upd_same, upd_same]
  · rw [upd_ne e, upd_ne e, upd_ne e]
/-- an option: a new day and its row -/
def OptAt (H : Hp) (t : Addr) (x : Int × Mth.Row) : Prop := ∃ k, H t = some (.tup [.int x.1, .ref k]) ∧ RowAt H k x.2
theorem OptAt.ext {H H' : Hp} {t : Addr} {x : Int × Mth.Row} (h : OptAt H t x) (e : Ext H H') : OptAt H' t x := by
  obtain ⟨k, h1, h2⟩ := h
  exact ⟨k, e.tup h1, h2.ext e⟩
theorem OptAt.upd {H : Hp} {t p : Addr} {x : Int × Mth.Row} {o : HO} (h : OptAt H t x) (hp : ∀ xs, H p ≠ some (.tup xs)) : OptAt (L2.upd H p o) t x := by
  obtain ⟨k, h1, h2⟩ := h
  refine ⟨k, ?_, h2.upd hp⟩
  rw [upd_ne (fun e => hp _ (e ▸ h1))]
  exact h1
/-- the list of the options -/
def OptsAt (H : Hp) (l : Addr) (os : Mth.Rows) : Prop := ∃ vs : List V, H l = some (.lst vs) ∧ Paired (fun v x => ∃ t, v = .ref t ∧ OptAt H t x) vs os
theorem take_opt {α : Type} {l : List α} {i : Nat} {x : α} (h : l[i]? = some x) : l.take (i + 1) = l.take i ++ [x] := by
  rw [List.take_add_one, h]
  rfl
theorem stepO_snoc (lt : Mth.Row → Mth.Row → Bool) (m : Mth.Rows) (os : Mth.Rows) (o : Int × Mth.Row) : Mth.stepO lt m (os ++ [o]) = Mth.ups lt (Mth.stepO lt m os) o.1 o.2 := by
  unfold Mth.stepO
  rw [List.foldl_append]
  rfl
theorem foldJ_snoc (lt : Mth.Row → Mth.Row → Bool) (T W D : Nat → Int) (j : Nat) (m rows : Mth.Rows) (x : Int × Mth.Row) : Mth.foldJ lt T W D j m (rows ++ [x]) = Mth.stepO lt (Mth.foldJ lt T W D j m rows) (Mth.opts T W D j x) := by
  unfold Mth.foldJ
  rw [List.foldl_append]
  rfl
theorem un_le {k n : Nat} {A : Around} (h : Room k A) (hn : n ≤ 100) : A.units + n < cLine := by
  have := h.un
  omega
theorem opts_app {H : Hp} {o3 o4 o5 o6 : Addr} {vs0 : List V} {os : Mth.Rows} {l : List Nat} {j : Nat} {e w : Int} (hv0 : H o3 = some (.lst vs0)) (hp0 : Paired (fun v x => ∃ t, v = .ref t ∧ OptAt H t x) vs0 os) (no4 : H o4 = none)
    (no5 : upd H o4 (.tup (jobs l ++ [V.int (j : Nat)])) o5 = none) (no6 : upd (upd H o4 (.tup (jobs l ++ [V.int (j : Nat)]))) o5 (.tup [V.int w, .ref o4]) o6 = none) :
    OptsAt (upd (upd (upd (upd H o4 (.tup (jobs l ++ [V.int (j : Nat)]))) o5 (.tup [V.int w, .ref o4])) o6 (.tup [V.int e, .ref o5])) o3 (.lst (vs0 ++ [.ref o6]))) o3 (os ++ [(e, (w, l ++ [j]))]) := by
  have sc := ((same_upd (o := .tup (jobs l ++ [V.int (j : Nat)])) no4).trans (same_upd (o := .tup [V.int w, .ref o4]) no5)).trans (same_upd (o := .tup [V.int e, .ref o5]) no6)
  have hsc := sc _ _ hv0
  have ntc : ∀ zs, upd (upd (upd H o4 (.tup (jobs l ++ [V.int (j : Nat)]))) o5 (.tup [V.int w, .ref o4])) o6 (.tup [V.int e, .ref o5]) o3 ≠ some (.tup zs) := fun zs e => by rw [hsc] at e; cases e
  refine ⟨_, upd_same, paired_append (Paired.mapP hp0 fun v y ⟨t, e1, e2⟩ => ⟨t, e1, (e2.ext (Ext.same sc)).upd ntc⟩) ⟨o6, rfl, OptAt.upd (⟨o5, upd_same, o4, (same_upd no6) _ _ upd_same, ?_⟩) ntc⟩⟩
  have h4 := (same_upd (o := .tup [V.int e, .ref o5]) no6) _ _ ((same_upd (o := .tup [V.int w, .ref o4]) no5) _ _ (upd_same (o := .tup (jobs l ++ [V.int (j : Nat)]))))
  refine h4.trans ?_
  show some (HO.tup (jobs l ++ [V.int (j : Nat)])) = some (HO.tup (jobs (l ++ [j])))
  rw [jobs_snoc]
theorem nt_dK {H : Hp} {p : Addr} {u : List (Key × V)} (h : H p = some (.dK u)) : ∀ zs, H p ≠ some (.tup zs) := fun zs e => by
  rw [h] at e
  cases e
theorem dget_some {H : Hp} {a : Addr} {kvs : List (Key × V)} {k : Key} {v : V} (e : H a = some (.dK kvs)) (h : valV kvs k = some v) : DGet H a (kV k) (some v) := by
  rw [← h]
  exact DGet.k e
theorem upd_keep {H : Hp} {p t : Addr} {o : HO} {xs : List V} (nt : ∀ zs, H p ≠ some (.tup zs)) (h : H t = some (.tup xs)) : upd H p o t = some (.tup xs) := by
  rw [upd_ne (fun e => nt xs (by rw [← e]; exact h))]
  exact h
theorem look_no {H : Hp} {kvs : List (Key × V)} {M : Mth.Rows} {k : Int} (h : RowsAt H kvs M) (e : Mth.lookR M k = none) : valV kvs (Sum.inl k : Key) = none := by
  have h1 := h.look (k := k)
  rw [e] at h1
  exact h1
theorem look_yes {H : Hp} {kvs : List (Key × V)} {M : Mth.Rows} {k : Int} {r : Mth.Row} (h : RowsAt H kvs M) (e : Mth.lookR M k = some r) : ∃ t, valV kvs (Sum.inl k : Key) = some (.ref t) ∧ RowAt H t r := by
  have h1 := h.look (k := k)
  rw [e] at h1
  exact h1
theorem ups_none {lt : Mth.Row → Mth.Row → Bool} {M : Mth.Rows} {k : Int} {r : Mth.Row} (e : Mth.lookR M k = none) : Mth.ups lt M k r = Mth.putR M k r := by
  unfold Mth.ups
  rw [e]
theorem ups_yes {lt : Mth.Row → Mth.Row → Bool} {M : Mth.Rows} {k : Int} {r q : Mth.Row} (e : Mth.lookR M k = some q) (h : lt r q = true) : Mth.ups lt M k r = Mth.putR M k r := by
  unfold Mth.ups
  rw [e]
  exact if_pos h
theorem ups_no {lt : Mth.Row → Mth.Row → Bool} {M : Mth.Rows} {k : Int} {r q : Mth.Row} (e : Mth.lookR M k = some q) (h : ¬ lt r q = true) : Mth.ups lt M k r = M := by
  unfold Mth.ups
  rw [e]
  exact if_neg h
theorem perm_cast {ns : List Int} {K : List Nat} (h : ns.Perm (castJ K)) : ∃ K' : List Nat, ns = castJ K' ∧ K'.Perm K := by
  refine ⟨ns.map Int.toNat, ?_, ?_⟩
  · show ns = (ns.map Int.toNat).map _
    rw [List.map_map]
    refine (List.map_id ns).symm.trans (List.map_congr_left fun n hn => ?_)
    obtain ⟨k, _, e⟩ := List.mem_map.mp (h.mem_iff.mp hn)
    show n = ((n.toNat : Nat) : Int)
    rw [← e]
    simp
  · have h1 := h.map Int.toNat
    have h2 : (castJ K).map Int.toNat = K := by
      show (K.map _).map _ = K
      rw [List.map_map]
      refine (List.map_congr_left fun n _ => ?_).trans (List.map_id K)
      show ((n : Nat) : Int).toNat = n
      simp
    rw [h2] at h1
    exact h1
theorem castJ_le {K : List Nat} (h : (castJ K).Pairwise (· ≤ ·)) : K.Pairwise (· ≤ ·) := by
  rw [List.pairwise_map] at h
  exact h.imp fun h => Int.ofNat_le.mp h
def spLeastLate (T : Tbl) : Sp := fun vs H Q _ => ∃ (a g b : Addr) (ts ws ds : List Int), vs = [.ref a, .ref g, .ref b] ∧ TupI H a ts ∧ TupI H g ws ∧ TupI H b ds ∧ ws.length = ts.length ∧ ds.length = ts.length ∧ 1 ≤ ts.length ∧ ts.length ≤ 5 ∧
  (∀ n ∈ ts, 1 ≤ n ∧ n ≤ 60) ∧ (∀ n ∈ ws, 0 ≤ n ∧ n ≤ 60) ∧ (∀ n ∈ ds, 0 ≤ n ∧ n ≤ 600) ∧ LamX.Tabs T H ∧
  ∀ (H' : Hp) (p k : Addr) (wt : Int) (Kk K' : List Nat), Ext H H' → LamX.Tabs T H' → H' p = some (.tup [.int wt, .ref k]) → TupJ H' k K' → K'.Perm Kk → K'.Pairwise (· ≤ ·) →
    (∃ (rows : Mth.Rows) (s : Int), Mth.DInv (Dof ts) (Dof ws) (Dof ds) (eOf ts ds) rows ∧ (s, (wt, Kk)) ∈ rows ∧ ∀ x ∈ rows, wt ≤ x.2.1) → Q (.ref p) H'
/-- the word of the loop over the jobs -/
structure DpW (T : Tbl) (H H' : Hp) (te p : Addr) (ts ws ds : List Int) (i : Nat) (kvs : List (Key × V)) (rows : Mth.Rows) : Prop where
  ext : Ext H H'
  tabs : LamX.Tabs T H'
  ord : TupJ H' te (eOf ts ds)
  dict : H' p = some (.dK kvs)
  at_ : RowsAt H' kvs rows
  fresh : Fresh H p
  inv : Mth.DInv (Dof ts) (Dof ws) (Dof ds) ((eOf ts ds).take i) rows
  len : rows.length ≤ 2 ^ i
/-- the word of the loop over the rows -/
structure DqW (T : Tbl) (H H' : Hp) (te p p2 : Addr) (od : Obj) (ts ws ds : List Int) (j k : Nat) (kvs kvs2 : List (Key × V)) (rows : Mth.Rows) : Prop where
  ext : Ext H (upd H' p (.dK kvs))
  tabs : LamX.Tabs T H'
  ord : TupJ H' te (eOf ts ds)
  ta : ∀ (a : Addr) (xs : List V), H a = some (.tup xs) → H' a = some (.tup xs)
  dict : H' p = some (.frz od (.dK kvs))
  at_ : RowsAt H' kvs rows
  more : H' p2 = some (.dK kvs2)
  at2 : RowsAt H' kvs2 (Mth.foldJ ltR (Dof ts) (Dof ws) (Dof ds) j [] (rows.take k))
  fresh : Fresh H p
  fresh2 : Fresh H p2
theorem DqW.same {T : Tbl} {H H' H2 : Hp} {te p p2 : Addr} {od : Obj} {ts ws ds : List Int} {j k : Nat} {kvs kvs2 : List (Key × V)} {rows : Mth.Rows} (W : DqW T H H' te p p2 od ts ws ds j k kvs kvs2 rows) (s : Same H' H2) : DqW T H H2 te p p2 od ts ws ds j k kvs kvs2 rows := by
  refine ⟨fun b o e ht => ?_, Tabs.same W.tabs s, s _ _ W.ord, fun a xs h => s _ _ (W.ta _ _ h), s _ _ W.dict, W.at_.imp fun t r h => h.ext (Ext.same s), s _ _ W.more, W.at2.imp fun t r h => h.ext (Ext.same s), W.fresh, W.fresh2⟩
  have h := W.ext b o e ht
  have hne := W.fresh b o e ht
  rw [upd_ne hne] at h ⊢
  exact s _ _ h
theorem DqW.upd {T : Tbl} {H H' : Hp} {te p p2 q : Addr} {od : Obj} {ts ws ds : List Int} {j k : Nat} {kvs kvs2 : List (Key × V)} {rows : Mth.Rows} {xs ys : List V} (W : DqW T H H' te p p2 od ts ws ds j k kvs kvs2 rows) (hq : H' q = some (.lst xs)) (fq : Fresh H q) : DqW T H (L2.upd H' q (.lst ys)) te p p2 od ts ws ds j k kvs kvs2 rows := by
  have nt : ∀ zs, H' q ≠ some (.tup zs) := fun zs e => by rw [hq] at e; cases e
  have kp : ∀ {b o}, H' b = some o → (∀ zs, o ≠ .lst zs) → L2.upd H' q (.lst ys) b = some o := fun {b o} e n => by
    rw [upd_ne (ne_of e hq (n xs))]
    exact e
  refine ⟨fun b o e ht => ?_, Tabs.upd W.tabs hq, kp W.ord (fun _ z => by cases z), fun a zs h => kp (W.ta _ _ h) (fun _ z => by cases z), kp W.dict (fun _ z => by cases z), W.at_.imp fun t r h => h.upd nt, kp W.more (fun _ z => by cases z), W.at2.imp fun t r h => h.upd nt, W.fresh, W.fresh2⟩
  have h := W.ext b o e ht
  rw [upd_ne (W.fresh b o e ht)] at h ⊢
  rw [upd_ne (fq b o e ht)]
  exact h
@[reducible] def DqW.hp {T : Tbl} {H H' : Hp} {te p p2 : Addr} {od : Obj} {ts ws ds : List Int} {j k : Nat} {kvs kvs2 : List (Key × V)} {rows : Mth.Rows} (_ : DqW T H H' te p p2 od ts ws ds j k kvs kvs2 rows) : Hp := H'
theorem DqW.fr {T : Tbl} {H H' : Hp} {te p p2 q : Addr} {od : Obj} {ts ws ds : List Int} {j k : Nat} {kvs kvs2 : List (Key × V)} {rows : Mth.Rows} (W : DqW T H H' te p p2 od ts ws ds j k kvs kvs2 rows) (hq : H' q = none) : Fresh H q := fun b o e ht => by
  have h := W.ext b o e ht
  rw [upd_ne (W.fresh b o e ht)] at h
  exact ne_of_none h hq
theorem DqW.step {T : Tbl} {H H' : Hp} {te p p2 : Addr} {od : Obj} {ts ws ds : List Int} {j k : Nat} {kvs kvs2 kvs3 : List (Key × V)} {rows : Mth.Rows} {x : Int × Mth.Row} (W : DqW T H H' te p p2 od ts ws ds j k kvs kvs2 rows) (hx : rows[k]? = some x)
    (h3 : RowsAt H' kvs3 (Mth.stepO ltR (Mth.foldJ ltR (Dof ts) (Dof ws) (Dof ds) j [] (rows.take k)) (Mth.opts (Dof ts) (Dof ws) (Dof ds) j x))) : DqW T H (L2.upd H' p2 (.dK kvs3)) te p p2 od ts ws ds j (k + 1) kvs kvs3 rows := by
  have nt : ∀ zs, H' p2 ≠ some (.tup zs) := fun zs e => by rw [W.more] at e; cases e
  have kp : ∀ {b o}, H' b = some o → (∀ zs, o ≠ .dK zs) → L2.upd H' p2 (.dK kvs3) b = some o := fun {b o} e n => by
    rw [upd_ne (ne_of e W.more (n _))]
    exact e
  refine ⟨fun b o e ht => ?_, Tabs.updD W.tabs W.more, kp W.ord (fun _ z => by cases z), fun a zs h => kp (W.ta _ _ h) (fun _ z => by cases z), kp W.dict (fun _ z => by cases z), W.at_.imp fun t r h => h.upd nt, upd_same, ?_, W.fresh, W.fresh2⟩
  · have h := W.ext b o e ht
    rw [upd_ne (W.fresh b o e ht)] at h ⊢
    rw [upd_ne (W.fresh2 b o e ht)]
    exact h
  · rw [take_opt hx, foldJ_snoc]
    exact h3.imp fun t r h => h.upd nt
theorem OptsAt.get {H : Hp} {vs : List V} {os : Mth.Rows} {i : Nat} {v : V} (h : Paired (fun v x => ∃ t, v = .ref t ∧ OptAt H t x) vs os) (e : vs[i]? = some v) : ∃ t x, os[i]? = some x ∧ v = .ref t ∧ OptAt H t x := by
  have hl : vs.length = os.length := Paired.length h
  have h1 := (List.getElem?_eq_some_iff.mp e).1
  have h2 : os[i]? = some (os[i]'(by omega)) := List.getElem?_eq_getElem (by omega)
  obtain ⟨t, e1, e2⟩ := paired_get h e h2
  exact ⟨t, _, h2, e1, e2⟩
section
variable {P : Program} {w : World} {K : PySem.W.Frag} {mg : Str → Option Value} {base : Heap} {f c tb : Addr} {fd : FuncData} {T : Tbl}
theorem ok_leastLate (F : Fun K "least_late_weight" "least_late_weight" sLeastLate f fd) (Z : Free mg) (h1 : Has P w K mg base "need_weighed" 5 ["times", "weights"] spNeedWeighed) (h2 : Has P w K mg base "need_dues" 4 ["dues", "many"] spNeedDues)
    (h3 : Has P w K mg base "due_order_in" 2 ["dues", "jobs"] (spDueOrderIn T)) :
    FnOk P w K mg base CX0 6 f fd ["times", "weights", "dues"] (spLeastLate T) := by
  obtain ⟨f1, fd1, g1, k1, b1, G1⟩ := h1.ex
  obtain ⟨f2, fd2, g2, k2, b2, G2⟩ := h2.ex
  obtain ⟨f3, fd3, g3, k3, b3, G3⟩ := h3.ex
  refine F.ok scLeastLate (fun vs H Q E h => ?_) (fun cdv A outer s H vs Q E hr h => ?_)
  · obtain ⟨a, g, b, ts, ws, ds, rfl, _⟩ := h
    rfl
  · obtain ⟨a, g, b, ts, ws, ds, rfl, ha, hg, hb, l0, l1, l2, l3, q1, q2, q3, hT, q⟩ := h
    have hr0 : Room 0 _ := hr.mono (by decide)
    refine ⟨_, pss_cons (ps_expr (pe_call G1 hr (by rfl) g1 k1 b1 .nil pass0 (pa_cons (pv 0) (pa_cons (pv 1) pa_nil))))
      (pss_cons (ps_expr (pe_call G2 (hr.mono (by decide)) (by rfl) g2 k2 b2 .nil pass0 (pa_cons (pv 2) (pa_cons (pe_callB call_len (by rfl) Z.len PySem.boot_len (pa_cons (pv 0) pa_nil)) pa_nil))))
      (pss_cons (ps_set (i := 3) scLeastLate.nd rfl (.inl rfl) (pe_disp (pps_cons pe_int (pe_tup (pa_cons pe_int (pa_cons (pe_tup pa_nil) pa_nil))) pps_nil) (by rfl) (by rfl) (fun z => by cases z) (by decide)))
      (pss_cons (ps_for PassesOwn.never rfl (pi_tup (pe_call G3 (hr.mono (by decide)) (by rfl) g3 k3 b3 .nil pass0 (pa_cons (pv 2) (pa_cons (pe_listRg rfl (by rfl) Z.list (prg_1 (by rfl) Z.range (pe_callB call_len (by rfl) Z.len PySem.boot_len (pa_cons (pv 0) pa_nil)))) pa_nil)))) (pg_name (i := 4) scLeastLate.nd rfl (.inl rfl))
        (pss_cons (ps_set (i := 5) scLeastLate.nd rfl (.inl rfl) pe_dnewK)
        (pss_cons (ps_lock (ps_for PassesOwn.never rfl (pi_items (pv 3)) (pg_tup rfl (pgs_cons (pg_name (i := 6) scLeastLate.nd rfl (.inl rfl)) (pgs_cons (pg_tup rfl (pgs_cons (pg_name (i := 7) scLeastLate.nd rfl (.inl rfl)) (pgs_cons (pg_name (i := 8) scLeastLate.nd rfl (.inl rfl)) pgs_nil))) pgs_nil)))
          (pss_cons (ps_set (i := 9) scLeastLate.nd rfl (.inl rfl) (pe_lst (pa_cons (pe_tup (pa_cons (pv 6) (pa_cons (pe_tup (pa_cons (pe_op op_add (pv 7) (pe_ix ix_tup (pv 1) (pv 4) (fun _ _ => rfl))) (pa_cons (pv 8) pa_nil))) pa_nil))) pa_nil)))
          (pss_cons (ps_if (pt_cmpR op_le (pe_op op_add (pv 6) (pe_ix ix_tup (pv 0) (pv 4) (fun _ _ => rfl))) (pe_ix ix_tup (pv 2) (pv 4) (fun _ _ => rfl)) (nomark _))
            (pss_one (ps_expr (pe_bm PySem.F.plainAttrs_list PySem.F.slot_list_append PySem.F.type_list_append mt_append (pv 9) (pa_cons (pe_tup (pa_cons (pe_op op_add (pv 6) (pe_ix ix_tup (pv 0) (pv 4) (fun _ _ => rfl))) (pa_cons (pe_tup (pa_cons (pv 7) (pa_cons (pe_tup (StX.pa_star (pv 8) (pa_cons (pv 4) pa_nil))) pa_nil))) pa_nil))) pa_nil)))) pss_nil)
          (pss_one (ps_for PassesOwn.never rfl (pi_list (pv 9)) (pg_tup rfl (pgs_cons (pg_name (i := 10) scLeastLate.nd rfl (.inl rfl)) (pgs_cons (pg_name (i := 11) scLeastLate.nd rfl (.inl rfl)) pgs_nil)))
            (pss_one (ps_if (PW.pt (pw_or (pt_cmp (pc_dnotin (un_le hr0 (by decide)) (pv 10) (pv 5))) (pw_or1 (pt_cmpR (op_ltRow (un_le hr0 (by decide))) (pv 11) (pe_dget (un_le hr0 (by decide)) (pv 5) (pv 10) (fun _ _ => rfl)) (nomark _)))))
              (pss_one (ps_dput (un_le hr0 (by decide)) (pv 5) (pv 10) (pv 11) rfl)) pss_nil))))))))
        (pss_one (ps_set (i := 3) scLeastLate.nd rfl (.inl rfl) (pv 5))))))
      (pss_cons (ps_asg (pe_minVals (by rfl) Z.min hr0 (pv 3)) (pg_tup rfl (pgs_cons (pg_name (i := 7) scLeastLate.nd rfl (.inl rfl)) (pgs_cons (pg_name (i := 8) scLeastLate.nd rfl (.inl rfl)) pgs_nil))))
      (pss_one (ps_ret (pe_tup (pa_cons (pv 7) (pa_cons (pe_callTy call_tuple_of (by rfl) Z.tuple (by decide +kernel) (pa_cons (pe_callB cr_sortT (by rfl) Z.sorted (by decide +kernel) (pa_cons (pv 8) pa_nil)) pa_nil)) pa_nil))))))))), ?_⟩
    -- the checks
    refine ⟨_, rfl, _, rfl, a, g, ts, ws, rfl, ha, hg, l2, by omega, l0, q1, q2, fun H1 s1 => ?_⟩
    refine ⟨_, rfl, _, rfl, _, (ts.map V.int).length, rfl, .inr ⟨_, SqT.of (s1 _ _ ha), rfl⟩, b, ds, _, rfl, s1 _ _ hb, by rw [List.length_map]; omega, q3, fun H2 s2 => ?_⟩
    -- rows = {0: (0, ())}
    refine fun p0 np0 => ⟨Nat.zero_le _, fun e0 ne0 => ⟨by show 2 ≤ sizeLine; decide, fun e1 ne1 => ?_⟩⟩
    have sx : Same H H2 := s1.trans s2
    have np0H : H p0 = none := sx.free np0
    have e0p : e0 ≠ p0 := (ne_of_none upd_same ne0).symm
    have e1p : e1 ≠ p0 := (ne_of_none (by rw [upd_ne e0p.symm]; exact upd_same) ne1).symm
    refine ⟨?_, [(Sum.inl 0, .ref e1)], rfl, by show 1 ≤ 15; decide, ?_⟩
    · rw [upd_ne e1p.symm, upd_ne e0p.symm, upd_same]
    have em : mergeK [] [((Sum.inl 0 : Key), V.ref e1)] = [((Sum.inl 0 : Key), V.ref e1)] := rfl
    rw [em]
    have s3 : ∀ o, Same H (upd (upd (upd (upd H2 p0 (.dK [])) e0 (.tup [])) e1 (.tup [.int 0, .ref e0])) p0 o) := fun o b x e => by
      have z := sx _ _ e
      rw [upd_ne (ne_of_none z np0)]
      exact (same_upd (o := .tup [V.int 0, V.ref e0]) ne1) _ _ ((same_upd (o := .tup []) ne0) _ _ ((same_upd (o := .dK []) np0) _ _ z))
    have r3 : ∀ o, RowAt (upd (upd (upd (upd H2 p0 (.dK [])) e0 (.tup [])) e1 (.tup [.int 0, .ref e0])) p0 o) e1 (0, []) := fun o => by
      refine ⟨e0, ?_, ?_⟩
      · rw [upd_ne e1p, upd_same]
      · show upd _ _ _ e0 = _
        rw [upd_ne e0p, upd_ne (ne_of_none upd_same ne1), upd_same]
        rfl
    have d3 : ∀ o, (upd (upd (upd (upd H2 p0 (.dK [])) e0 (.tup [])) e1 (.tup [.int 0, .ref e0])) p0 o) p0 = some o := fun o => upd_same
    have s3 := s3 (.dK [((Sum.inl 0 : Key), V.ref e1)])
    have r3 := r3 (.dK [((Sum.inl 0 : Key), V.ref e1)])
    have d3 := d3 (.dK [((Sum.inl 0 : Key), V.ref e1)])
    generalize (upd (upd (upd (upd H2 p0 (.dK [])) e0 (.tup [])) e1 (.tup [.int 0, .ref e0])) p0 (.dK [((Sum.inl 0 : Key), V.ref e1)])) = H3 at s3 r3 d3 ⊢
    -- due_order_in(dues, list(range(len(times))))
    refine ⟨_, rfl, _, rfl, _, (ts.map V.int).length, rfl, .inr ⟨_, SqT.of (s3 _ _ ha), rfl⟩, _, rfl, ?_, fun l hl => ?_⟩
    · rw [List.length_map]
      exact ⟨by omega, by omega, by omega, by omega, by omega⟩
    have s4 := s3.trans (same_upd (o := .lst (rgV 0 (((ts.map V.int).length : Nat) : Int))) hl)
    refine ⟨b, l, ds, List.range ts.length, rfl, s4 _ _ hb, ?_, fun j hj => ?_, Tabs.same hT s4, fun H5 te eN T5 hte => ?_⟩
    · rw [upd_same, List.length_map, rgV_jobs]
    · rw [l1]
      exact List.mem_range.mp hj
    have e34 : Ext H3 H5 := (Ext.same (same_upd hl)).trans eN
    have hp5 : H5 p0 = some (.dK [((Sum.inl 0 : Key), V.ref e1)]) := e34 _ _ d3 (fun ps z => by cases z)
    -- the loop over the jobs
    refine ⟨te, rfl, ⟨_, SqT.of hte⟩, for_tup (K := K) (a := te) (xs := jobs (eOf ts ds)) (fun i σ H' => ∃ v4 v5 v6 v7 v8 v9 v10 v11 p kvs rows, σ = [some (.ref a), some (.ref g), some (.ref b), some (.ref p), v4, v5, v6, v7, v8, v9, v10, v11] ∧ DpW T H H' te p ts ws ds i kvs rows)
      ⟨none, none, none, none, none, none, none, none, p0, _, [(0, (0, []))], rfl, (Ext.same s4).trans eN, T5, hte, hp5, .cons ⟨rfl, e1, rfl, r3.ext e34⟩ .nil, Fresh.of_none np0H, Mth.dinv_nil _ _ _, Nat.le_refl _⟩ (fun i σ H' _ ⟨_, _, _, _, _, _, _, _, _, _, _, _, W⟩ => SqT.of W.ord) ?_ ?_⟩
    · rintro i x σ H6 hx ⟨v4, v5, v6, v7, v8, v9, v10, v11, p, kvs, rows, rfl, W⟩
      obtain ⟨j, hj, rfl, hi⟩ := job_at hx
      have hjm := List.mem_of_getElem? hj
      have hjt := eOf_lt hjm
      -- more = {}
      refine fun p2 np2 => ?_
      have s7 := same_upd (o := .dK []) np2
      -- rows.items()
      refine ⟨p, .dK kvs, s7 _ _ W.dict, trivial, fun od => ?_⟩
      have e7 : Ext H (upd H6 p2 (.dK [])) := W.ext.upd _ (Fresh.later W.ext np2)
      have hp7 : upd H6 p2 (.dK []) p = some (.dK kvs) := s7 _ _ W.dict
      have nt7 : ∀ zs, upd H6 p2 (.dK []) p ≠ some (.tup zs) := fun zs e => by rw [hp7] at e; cases e
      have np : p2 ≠ p := (ne_of_none W.dict np2).symm
      refine ⟨_, rfl, p, od, kvs, rfl, upd_same, for_it walk_items (fun k σ H' => ∃ v6 v7 v8 v9 v10 v11 kvs2, σ = [some (.ref a), some (.ref g), some (.ref b), some (.ref p), some (.int (j : Nat)), some (.ref p2), v6, v7, v8, v9, v10, v11] ∧ DqW T H H' te p p2 od ts ws ds j k kvs kvs2 rows)
        ⟨v6, v7, v8, v9, v10, v11, [], rfl, ?_, Tabs.updD (Tabs.same W.tabs s7) hp7, ?_, fun a zs h => ?_, upd_same, (W.at_.imp fun t r h => h.ext (Ext.same s7)).imp fun t r h => h.upd nt7, ?_, .nil, W.fresh, Fresh.later W.ext np2⟩ (fun k σ H' _ ⟨_, _, _, _, _, _, _, _, W⟩ => W.dict) ?_ ?_⟩
      · rw [upd_upd, upd_self hp7]
        exact e7
      · show upd _ _ _ te = _
        have h := s7 _ _ W.ord
        rw [upd_ne (fun z => nt7 _ (z ▸ h))]
        exact h
      · have h := s7 _ _ (W.ext.tup h)
        rw [upd_ne (fun z => nt7 _ (z ▸ h))]
        exact h
      · rw [upd_ne np, upd_same]
      · rintro k x σ H8 H9 hk ⟨v6, v7, v8, v9, v10, v11, kvs2, rfl, W8⟩ ⟨pt, y1, y2, rfl, hpt, rfl, hy1, hy2⟩
        obtain ⟨kv, hkv, rfl⟩ := Option.map_eq_some_iff.mp hy1
        obtain ⟨kv', hkv', rfl⟩ := Option.map_eq_some_iff.mp hy2
        obtain rfl : kv = kv' := Option.some.inj (hkv.symm.trans hkv')
        obtain ⟨x0, t0, hx0, rfl, kk, hr1, hr2⟩ := W8.at_.get hkv
        have s9 := same_upd (o := .tup [kV (Sum.inl x0.1), .ref t0]) hpt
        have W9 := W8.same s9
        have hr1 := s9 _ _ hr1
        have hr2 := s9 _ _ hr2
        have hl9 : k < rows.length := by
          have := W8.at_.length
          omega
        have hl2 : rows.length ≤ 32 := by
          have h1 := W.len
          have h2 := (eOf_perm ts ds).length_eq
          rw [List.length_range] at h2
          have h3 : 2 ^ i ≤ 2 ^ 5 := Nat.pow_le_pow_right (by decide) (by omega)
          omega
        refine ⟨pt, _, rfl, SqT.of upd_same, rfl, _, _, rfl, _, _, rfl, t0, _, rfl, SqT.of hr1, rfl, _, _, rfl, _, _, rfl, rfl, rfl, ?_⟩
        generalize upd H8 pt (.tup [kV (Sum.inl x0.1), .ref t0]) = H9 at W9 hr1 hr2 ⊢
        -- options = [..]
        refine ⟨_, rfl, _, rfl, _, rfl, _, rfl, g, _, _, _, rfl, rfl, SqT.of (W9.ta _ _ hg), atI_nat (dof_at (by omega)), _, _, rfl, rfl, _, rfl, by show 2 ≤ sizeLine; decide, fun o1 no1 => ⟨by show 2 ≤ sizeLine; decide, fun o2 no2 => ⟨by show 1 ≤ sizeLine; decide, fun o3 no3 => ?_⟩⟩⟩
        have sa := (same_upd (o := .tup [V.int (x0.2.1 + Dof ws j), .ref kk]) no1).trans (same_upd (o := .tup [V.int x0.1, .ref o1]) no2)
        have W10 := (W9.same sa).same (same_upd (o := .lst [V.ref o2]) no3)
        have f10 := (W9.same sa).fr no3
        have sb := sa.trans (same_upd (o := .lst [V.ref o2]) no3)
        have hr3 := sb _ _ hr2
        have O10 : OptsAt (upd (upd (upd H9 o1 (.tup [V.int (x0.2.1 + Dof ws j), .ref kk])) o2 (.tup [V.int x0.1, .ref o1])) o3 (.lst [V.ref o2])) o3 [(x0.1, (x0.2.1 + Dof ws j, x0.2.2))] := by
          refine ⟨_, upd_same, .cons ⟨o2, rfl, o1, ?_, kk, ?_, hr3⟩ .nil⟩
          · exact (same_upd no3) _ _ upd_same
          · exact (same_upd no3) _ _ ((same_upd no2) _ _ upd_same)
        -- if day + times[job] <= dues[job]
        refine ⟨_, rfl, _, rfl, _, rfl, a, _, _, _, rfl, rfl, SqT.of (W10.ta _ _ ha), atI_nat (dof_at hjt), _, _, rfl, rfl, _, rfl, _, rfl, b, _, _, _, rfl, rfl, SqT.of (W10.ta _ _ hb), atI_nat (dof_at (by omega)), _, _, rfl, rfl, _, rfl, ite2 (fun hle => ?_) fun hgt => ?_⟩
        · have hle := of_decide_eq_true hle
          have eo : Mth.opts (Dof ts) (Dof ws) (Dof ds) j x0 = [(x0.1, (x0.2.1 + Dof ws j, x0.2.2)), (x0.1 + Dof ts j, (x0.2.1, x0.2.2 ++ [j]))] := by
            unfold Mth.opts
            rw [if_pos hle]
          obtain ⟨vs0, hv0, hp0⟩ := O10
          -- options.append(..)
          refine ⟨_, rfl, .inl ⟨rfl, _, .inl (.inl hv0)⟩, _, rfl, _, rfl, _, rfl, a, _, _, _, rfl, rfl, SqT.of (W10.ta _ _ ha), atI_nat (dof_at hjt), _, _, rfl, rfl, _, rfl, _, rfl, kk, _, rfl, .inl (SqT.of hr3), _, rfl, ?_, fun o4 no4 => ⟨by show 2 ≤ sizeLine; decide, fun o5 no5 => ⟨by show 2 ≤ sizeLine; decide, fun o6 no6 => ⟨o3, _, _, rfl, rfl, (((same_upd no4).trans (same_upd no5)).trans (same_upd no6)) _ _ hv0, ?_, ?_⟩⟩⟩⟩
          · have h1 := (W.inv.good x0 (List.mem_of_getElem? hx0)).1.length_le
            have h2 := (eOf_perm ts ds).length_eq
            rw [List.length_range] at h2
            rw [List.length_take] at h1
            show (jobs x0.2.2 ++ [V.int (j : Nat)]).length ≤ sizeLine
            rw [List.length_append, List.length_map]
            exact Nat.le_of_lt (small1000 (by show _ + 1 ≤ 1000; omega))
          · have := Paired.length hp0
            rw [this]
            exact small1000 (by show 1 ≤ 1000; decide)
          have sc := ((same_upd (o := .tup (jobs x0.2.2 ++ [V.int (j : Nat)])) no4).trans (same_upd (o := .tup [V.int x0.2.1, .ref o4]) no5)).trans (same_upd (o := .tup [V.int (x0.1 + Dof ts j), .ref o5]) no6)
          have W11 := (W10.same sc).upd (ys := vs0 ++ [.ref o6]) (sc _ _ hv0) f10
          have O11 := opts_app (e := x0.1 + Dof ts j) hv0 hp0 no4 no5 no6
          change OptsAt _ _ [(x0.1, (x0.2.1 + Dof ws j, x0.2.2)), (x0.1 + Dof ts j, (x0.2.1, x0.2.2 ++ [j]))] at O11
          rw [← eo] at O11
          obtain ⟨vs1, hv1, hp1⟩ := O11
          have hn1 := W11.more
          have no3 : o3 ≠ p2 := ne_of hv1 hn1 (fun z => by cases z)
          have nt1 := nt_dK hn1
          have hpl := Paired.length hp1
          have hol := Mth.opts_len (Dof ts) (Dof ws) (Dof ds) j x0
          have hM := Mth.foldJ_all (lt := ltR) (T := Dof ts) (W := Dof ws) (D := Dof ds) (j := j) ltR_ok (rows.take k) [] List.nodup_nil
          refine ⟨_, rfl, o3, rfl, ⟨_, SqL.of hv1⟩, for_list (K := K) (a := o3) (xs := vs1) (fun m σ H' => ∃ v10 v11 kvs3, σ = [some (.ref a), some (.ref g), some (.ref b), some (.ref p), some (.int (j : Nat)), some (.ref p2), some (.int x0.1), some (.int x0.2.1), some (.ref kk), some (.ref o3), v10, v11] ∧
              H' = upd W11.hp p2 (.dK kvs3) ∧ RowsAt W11.hp kvs3 (Mth.stepO ltR (Mth.foldJ ltR (Dof ts) (Dof ws) (Dof ds) j [] (rows.take k)) ((Mth.opts (Dof ts) (Dof ws) (Dof ds) j x0).take m)))
            ⟨v10, v11, kvs2, rfl, (upd_self hn1).symm, W11.at2⟩ (fun m σ H' _ ⟨_, _, _, _, e, _⟩ => by
              rw [e]
              refine SqL.of ?_
              rw [upd_ne no3]
              exact hv1) ?_ ?_⟩
          · rintro m x σ H' hx1 ⟨v10, v11, kvs3, rfl, rfl, h3⟩
            obtain ⟨t, y, hy, rfl, kq, e1, e2⟩ := OptsAt.get hp1 hx1
            have ht1 := upd_keep (o := .dK kvs3) nt1 e1
            refine ⟨t, _, rfl, SqT.of ht1, rfl, _, _, rfl, _, _, rfl, rfl, ?_⟩
            -- end not in more or row < more[end]
            have hle3 : kvs3.length ≤ 1000 := by
              have h4 := h3.length
              have h5 := (Mth.stepO_all (lt := ltR) ltR_ok ((Mth.opts (Dof ts) (Dof ws) (Dof ds) j x0).take m) _ hM.1).2.2.2
              have h6 := hM.2.2.2
              rw [List.length_nil] at h6
              rw [List.length_take] at h5 h6
              omega
            have hst : Mth.stepO ltR (Mth.foldJ ltR (Dof ts) (Dof ws) (Dof ds) j [] (rows.take k)) ((Mth.opts (Dof ts) (Dof ws) (Dof ds) j x0).take (m + 1)) = Mth.ups ltR (Mth.stepO ltR (Mth.foldJ ltR (Dof ts) (Dof ws) (Dof ds) j [] (rows.take k)) ((Mth.opts (Dof ts) (Dof ws) (Dof ds) j x0).take m)) y.1 y.2 := by
              rw [take_opt hy, stepO_snoc]
            refine ⟨_, rfl, _, rfl, p2, _, rfl, DGet.k (k := Sum.inl y.1) upd_same, _, rfl, ?_⟩
            cases hq : Mth.lookR (Mth.stepO ltR (Mth.foldJ ltR (Dof ts) (Dof ws) (Dof ds) j [] (rows.take k)) ((Mth.opts (Dof ts) (Dof ws) (Dof ds) j x0).take m)) y.1 with
            | none =>
              rw [look_no h3 hq]
              refine iteT (iteT ?_)
              refine ⟨_, rfl, _, rfl, _, rfl, p2, _, rfl, DPut.k (k := Sum.inl y.1) upd_same (small1000 hle3), ?_⟩
              refine ⟨_, _, _, rfl, upd_upd, ?_⟩
              rw [hst, ups_none hq]
              exact h3.put e2
            | some r =>
              obtain ⟨tr, hv3, hr3⟩ := look_yes h3 hq
              rw [hv3]
              refine iteF ?_
              refine ⟨_, rfl, _, rfl, _, rfl, p2, _, rfl, dget_some (k := Sum.inl y.1) upd_same hv3, kq, tr, y.2, r, rfl, rfl, e2.upd nt1, hr3.upd nt1, _, rfl, ?_⟩
              · refine ite2 (fun hlt => ?_) fun hnlt => ?_
                · refine ⟨_, rfl, _, rfl, _, rfl, p2, _, rfl, DPut.k (k := Sum.inl y.1) upd_same (small1000 hle3), ?_⟩
                  refine ⟨_, _, _, rfl, upd_upd, ?_⟩
                  have hst2 := hst.trans (ups_yes hq hlt)
                  rw [hst2]
                  exact h3.put e2
                · refine ⟨_, _, _, rfl, rfl, ?_⟩
                  have hst2 := hst.trans (ups_no hq hnlt)
                  rw [hst2]
                  exact h3
          · rintro σ H' ⟨v10, v11, kvs3, rfl, rfl, h3⟩
            rw [hpl, List.take_length] at h3
            exact ⟨_, _, _, _, _, _, kvs3, rfl, W11.step hx0 h3⟩
        · have eo : Mth.opts (Dof ts) (Dof ws) (Dof ds) j x0 = [(x0.1, (x0.2.1 + Dof ws j, x0.2.2))] := by
            unfold Mth.opts
            rw [if_neg (fun z => hgt (decide_eq_true z))]
          rw [← eo] at O10
          have O11 := O10
          have W11 := W10
          obtain ⟨vs1, hv1, hp1⟩ := O11
          have hn1 := W11.more
          have no3 : o3 ≠ p2 := ne_of hv1 hn1 (fun z => by cases z)
          have nt1 := nt_dK hn1
          have hpl := Paired.length hp1
          have hol := Mth.opts_len (Dof ts) (Dof ws) (Dof ds) j x0
          have hM := Mth.foldJ_all (lt := ltR) (T := Dof ts) (W := Dof ws) (D := Dof ds) (j := j) ltR_ok (rows.take k) [] List.nodup_nil
          refine ⟨_, rfl, o3, rfl, ⟨_, SqL.of hv1⟩, for_list (K := K) (a := o3) (xs := vs1) (fun m σ H' => ∃ v10 v11 kvs3, σ = [some (.ref a), some (.ref g), some (.ref b), some (.ref p), some (.int (j : Nat)), some (.ref p2), some (.int x0.1), some (.int x0.2.1), some (.ref kk), some (.ref o3), v10, v11] ∧
              H' = upd W11.hp p2 (.dK kvs3) ∧ RowsAt W11.hp kvs3 (Mth.stepO ltR (Mth.foldJ ltR (Dof ts) (Dof ws) (Dof ds) j [] (rows.take k)) ((Mth.opts (Dof ts) (Dof ws) (Dof ds) j x0).take m)))
            ⟨v10, v11, kvs2, rfl, (upd_self hn1).symm, W11.at2⟩ (fun m σ H' _ ⟨_, _, _, _, e, _⟩ => by
              rw [e]
              refine SqL.of ?_
              rw [upd_ne no3]
              exact hv1) ?_ ?_⟩
          · rintro m x σ H' hx1 ⟨v10, v11, kvs3, rfl, rfl, h3⟩
            obtain ⟨t, y, hy, rfl, kq, e1, e2⟩ := OptsAt.get hp1 hx1
            have ht1 := upd_keep (o := .dK kvs3) nt1 e1
            refine ⟨t, _, rfl, SqT.of ht1, rfl, _, _, rfl, _, _, rfl, rfl, ?_⟩
            -- end not in more or row < more[end]
            have hle3 : kvs3.length ≤ 1000 := by
              have h4 := h3.length
              have h5 := (Mth.stepO_all (lt := ltR) ltR_ok ((Mth.opts (Dof ts) (Dof ws) (Dof ds) j x0).take m) _ hM.1).2.2.2
              have h6 := hM.2.2.2
              rw [List.length_nil] at h6
              rw [List.length_take] at h5 h6
              omega
            have hst : Mth.stepO ltR (Mth.foldJ ltR (Dof ts) (Dof ws) (Dof ds) j [] (rows.take k)) ((Mth.opts (Dof ts) (Dof ws) (Dof ds) j x0).take (m + 1)) = Mth.ups ltR (Mth.stepO ltR (Mth.foldJ ltR (Dof ts) (Dof ws) (Dof ds) j [] (rows.take k)) ((Mth.opts (Dof ts) (Dof ws) (Dof ds) j x0).take m)) y.1 y.2 := by
              rw [take_opt hy, stepO_snoc]
            refine ⟨_, rfl, _, rfl, p2, _, rfl, DGet.k (k := Sum.inl y.1) upd_same, _, rfl, ?_⟩
            cases hq : Mth.lookR (Mth.stepO ltR (Mth.foldJ ltR (Dof ts) (Dof ws) (Dof ds) j [] (rows.take k)) ((Mth.opts (Dof ts) (Dof ws) (Dof ds) j x0).take m)) y.1 with
            | none =>
              rw [look_no h3 hq]
              refine iteT (iteT ?_)
              refine ⟨_, rfl, _, rfl, _, rfl, p2, _, rfl, DPut.k (k := Sum.inl y.1) upd_same (small1000 hle3), ?_⟩
              refine ⟨_, _, _, rfl, upd_upd, ?_⟩
              rw [hst, ups_none hq]
              exact h3.put e2
            | some r =>
              obtain ⟨tr, hv3, hr3⟩ := look_yes h3 hq
              rw [hv3]
              refine iteF ?_
              refine ⟨_, rfl, _, rfl, _, rfl, p2, _, rfl, dget_some (k := Sum.inl y.1) upd_same hv3, kq, tr, y.2, r, rfl, rfl, e2.upd nt1, hr3.upd nt1, _, rfl, ?_⟩
              · refine ite2 (fun hlt => ?_) fun hnlt => ?_
                · refine ⟨_, rfl, _, rfl, _, rfl, p2, _, rfl, DPut.k (k := Sum.inl y.1) upd_same (small1000 hle3), ?_⟩
                  refine ⟨_, _, _, rfl, upd_upd, ?_⟩
                  have hst2 := hst.trans (ups_yes hq hlt)
                  rw [hst2]
                  exact h3.put e2
                · refine ⟨_, _, _, rfl, rfl, ?_⟩
                  have hst2 := hst.trans (ups_no hq hnlt)
                  rw [hst2]
                  exact h3
          · rintro σ H' ⟨v10, v11, kvs3, rfl, rfl, h3⟩
            rw [hpl, List.take_length] at h3
            exact ⟨_, _, _, _, _, _, kvs3, rfl, W11.step hx0 h3⟩
      · rintro σ H8 ⟨v6, v7, v8, v9, v10, v11, kvs2, rfl, W8⟩
        have hl8 := W8.at_.length
        have h8 := W8.at2
        rw [hl8, List.take_length, ← Mth.stepJ_eq] at h8
        have ntp : ∀ zs, H8 p ≠ some (.tup zs) := fun zs e => by rw [W8.dict] at e; cases e
        have n8 : p2 ≠ p := fun z => by
          have h := W8.more
          rw [z, W8.dict] at h
          cases h
        refine ⟨W8.dict, ?_⟩
        refine ⟨_, rfl, _, _, _, _, _, _, _, _, p2, kvs2, Mth.stepJ ltR (Dof ts) (Dof ws) (Dof ds) rows j, rfl, W8.ext, Tabs.updF W8.tabs W8.dict, ?_, ?_, h8.imp fun t r h => h.upd ntp, W8.fresh2, ?_, ?_⟩
        · show upd _ _ _ te = _
          rw [upd_ne (fun z => ntp _ (z ▸ W8.ord))]
          exact W8.ord
        · rw [upd_ne n8]
          exact W8.more
        · rw [take_snoc hj]
          exact Mth.dinv_step ltR_ok W.inv (by rw [← take_snoc hj]; exact (eOf_nd ts ds).sublist (List.take_sublist _ _))
        · have h9 := (Mth.foldJ_all (lt := ltR) (T := Dof ts) (W := Dof ws) (D := Dof ds) (j := j) ltR_ok rows [] List.nodup_nil).2.2.2
          have h10 := W.len
          rw [Mth.stepJ_eq, Nat.pow_succ]
          rw [List.length_nil] at h9
          omega
    · rintro σ H6 ⟨v4, v5, v6, v7, v8, v9, v10, v11, p, kvs, rows, rfl, W⟩
      have hI := W.inv
      rw [List.length_map, List.take_length] at hI
      have hne : rows ≠ [] := fun z => by
        obtain ⟨x, hx, _⟩ := hI.best [] (List.nil_sublist _) (fun i hi => nomatch hi)
        rw [z] at hx
        cases hx
      -- weight, kept = min(rows.values())
      refine ⟨_, rfl, p, kvs, rows, rfl, W.dict, W.at_, hne, fun t x hx hmin ⟨k, ht, hk⟩ => ?_⟩
      refine ⟨t, _, rfl, SqT.of ht, rfl, _, _, rfl, _, _, rfl, rfl, ?_⟩
      -- return (weight, tuple(sorted(kept)))
      have hk2 : H6 k = some (.tup ((castJ x.2.2).map V.int)) := by
        rw [← jobs_eq]
        exact hk
      refine ⟨_, rfl, _, rfl, k, _, rfl, SqT.of hk2, fun ns p8 hp8 hs8 np8 => ?_⟩
      obtain ⟨K', rfl, hK'⟩ := perm_cast hp8
      refine ⟨p8, _, rfl, .inl ⟨SqL.of upd_same, fun p9 np9 => ?_⟩⟩
      have s8 : Same H6 (upd (upd H6 p8 (.lst ((castJ K').map V.int))) p9 (.tup ((castJ K').map V.int))) := (same_upd np8).trans (same_upd np9)
      refine ⟨by show 2 ≤ sizeLine; decide, fun p10 np10 => ?_⟩
      have s9 := s8.trans (same_upd (o := .tup [V.int x.2.1, V.ref p9]) np10)
      refine q _ p10 p9 x.2.1 x.2.2 K' (W.ext.trans (Ext.same s9)) (Tabs.same W.tabs s9) upd_same ?_ hK' (castJ_le hs8) ⟨rows, x.1, hI, hx, hmin⟩
      show upd _ _ _ p9 = _
      rw [upd_ne (ne_of_none upd_same np10), upd_same, jobs_eq]
end
end Sh
set_option Elab.async false
set_option linter.all false
set_option maxRecDepth 100000
set_option maxHeartbeats 4000000
/-! sum of a tuple, != of lists of ints; the law's row of state -/
namespace Sh
open PySem PySem.Spec PyProof.Rows L2
section
variable {X : Cx}
def rSumT (K : PySem.W.Frag) : List V → Hp → VK → Prop := fun vs H Q => ∃ (a : Addr) (ns : List Int), vs = [.ref a] ∧ SqT K H a (ns.map V.int) ∧ Q (.int ns.sum) H
theorem cr_sumT (hc : X.calm = true) : CallR X (.builtin "sum") (rSumT X.K) := by
  intro pins s σ H vs us Q I r h
  obtain ⟨a, ns, rfl, hs, q⟩ := h
  obtain ⟨its, rv, ht, _⟩ := I.tuple hs
  rw [Vals.ref1 r]
  have hi := rv.ints
  obtain ⟨xs, e⟩ := hi.allInts.items
  have hn : numsOf (intItems xs).toList = ns := by rw [← e]; exact hi.numsOf
  rw [nums_intItems] at hn
  have ht2 : s.heap.IsTuple a its.toArray := ht
  rw [e] at ht2
  refine PySem.W.ktm_sumG (I.ok.hd hc) ht2 fun h' tk t' hk => ?_
  rw [preSum_eq, List.take_of_length_le (by simp), hn]
  exact ⟨.int _, H, I.kept hk, ⟨_, rfl⟩, q⟩
def rNeL (K : PySem.W.Frag) : R2 := fun x y H Q => ∃ (a b : Addr) (ns ms : List Int), x = .ref a ∧ y = .ref b ∧ SqL K H a (ns.map V.int) ∧ SqL K H b (ms.map V.int) ∧ Q (.bl (decide (ns ≠ ms))) H
theorem op_neL (hu : X.A.units + 1 < cLine) : OpR X (compareOp .NotEq) (rNeL X.K) := by
  intro pins s σ H x y v u Q I rx ry h
  obtain ⟨a, b, ns, ms, rfl, rfl, ha, hb, q⟩ := h
  obtain rfl : v = Value.ref a := rx
  obtain rfl : u = Value.ref b := ry
  obtain ⟨its, rv, hl, _⟩ := I.list ha
  obtain ⟨its2, rv2, hl2, _⟩ := I.list hb
  exact PySem.W.ne_datum (x := ns) (y := ms) (PySem.W.holds_list hl.isList (PySem.W.HoldAll.of_ints (by simpa using rv.ints))) (PySem.W.holds_list hl2.isList (PySem.W.HoldAll.of_ints (by simpa using rv2.ints))) hu ⟨.bl _, H, I, rfl, q⟩
def rEqLn (K : PySem.W.Frag) : R2 := fun x y H Q => ∃ (a b : Addr) (ns ms : List Int), x = .ref a ∧ y = .ref b ∧ SqL K H a (ns.map V.int) ∧ SqL K H b (ms.map V.int) ∧ Q (.bl (decide (ns = ms))) H
theorem op_eqLn (hu : X.A.units + 1 < cLine) : OpR X (compareOp .Eq) (rEqLn X.K) := by
  intro pins s σ H x y v u Q I rx ry h
  obtain ⟨a, b, ns, ms, rfl, rfl, ha, hb, q⟩ := h
  obtain rfl : v = Value.ref a := rx
  obtain rfl : u = Value.ref b := ry
  obtain ⟨its, rv, hl, _⟩ := I.list ha
  obtain ⟨its2, rv2, hl2, _⟩ := I.list hb
  exact PySem.W.eq_datum (x := ns) (y := ms) (PySem.W.holds_list hl.isList (PySem.W.HoldAll.of_ints (by simpa using rv.ints))) (PySem.W.holds_list hl2.isList (PySem.W.HoldAll.of_ints (by simpa using rv2.ints))) hu ⟨.bl _, H, I, rfl, q⟩
end
/-- all but one stays -/
def Exc (r : Addr) (H H' : Hp) : Prop := ∀ b o, b ≠ r → H b = some o → H' b = some o
theorem Exc.refl (r : Addr) (H : Hp) : Exc r H H := fun _ _ _ h => h
theorem Exc.trans {r : Addr} {H H1 H2 : Hp} (a : Exc r H H1) (b : Exc r H1 H2) : Exc r H H2 := fun c o n h => b c o n (a c o n h)
theorem Exc.same {r : Addr} {H H1 : Hp} (s : Same H H1) : Exc r H H1 := fun c o _ h => s c o h
theorem Exc.upd {r : Addr} {H : Hp} {o : HO} : Exc r H (L2.upd H r o) := fun c x n h => by
  rw [upd_ne n]
  exact h
/-- the row of state: script, place, seed, rest -/
def RowL (sa : Addr) (H : Hp) (r : Addr) : Prop := ∃ (idx seed rest : Int), H r = some (.lst [.ref sa, .int idx, .int seed, .int rest]) ∧ 0 ≤ idx ∧ 0 ≤ seed
def RowO (K : PySem.W.Frag) (sa : Addr) (H : Hp) (r : Addr) : Prop := RowL sa H r ∧ ∃ ns : List Int, SqL K H sa (ns.map V.int)
theorem RowL.put {sa : Addr} {H : Hp} {r : Addr} {idx seed rest : Int} (h1 : 0 ≤ idx) (h2 : 0 ≤ seed) : RowL sa (upd H r (.lst [.ref sa, .int idx, .int seed, .int rest])) r :=
  ⟨idx, seed, rest, upd_same, h1, h2⟩
theorem RowL.ne {sa : Addr} {H : Hp} {r a : Addr} {o : HO} (h : RowL sa H r) (ha : H a = some o) (n : ∀ z zs, o ≠ .lst (.ref z :: zs)) : a ≠ r := by
  obtain ⟨idx, seed, rest, h1, _⟩ := h
  exact ne_of ha h1 (n _ _)
theorem RowL.neI {sa : Addr} {H : Hp} {r a : Addr} {ns : List Int} (h : RowL sa H r) (ha : H a = some (.lst (ns.map V.int))) : a ≠ r := h.ne ha fun z zs q => by
  cases ns with
  | nil => cases q
  | cons x xs => cases q
theorem RowL.neF {sa : Addr} {H : Hp} {r a : Addr} (h : RowL sa H r) (ha : H a = none) : r ≠ a := by
  obtain ⟨idx, seed, rest, h1, _⟩ := h
  exact ne_of_none h1 ha
theorem RowL.at_ {sa : Addr} {H H' : Hp} {r : Addr} (h : RowL sa H r) (e : H' r = H r) : RowL sa H' r := by
  obtain ⟨idx, seed, rest, h1, h2⟩ := h
  exact ⟨idx, seed, rest, e.trans h1, h2⟩
theorem RowL.same {sa : Addr} {H H' : Hp} {r : Addr} (h : RowL sa H r) (s : Same H H') : RowL sa H' r := by
  obtain ⟨idx, seed, rest, h1, h2⟩ := h
  exact ⟨idx, seed, rest, s _ _ h1, h2⟩
theorem RowL.ext {sa : Addr} {H H' : Hp} {r : Addr} (h : RowL sa H r) (s : Ext H H') : RowL sa H' r := by
  obtain ⟨idx, seed, rest, h1, h2⟩ := h
  exact ⟨idx, seed, rest, s.lst h1, h2⟩
theorem RowL.upd {sa : Addr} {H : Hp} {r a : Addr} {o : HO} (h : RowL sa H r) (n : a ≠ r) : RowL sa (L2.upd H a o) r := h.at_ (upd_ne n.symm)
theorem RowL.sq {K : PySem.W.Frag} {sa : Addr} {H H' : Hp} {r : Addr} {ns : List Int} (h0 : RowL sa H r) (h1 : SqL K H sa (ns.map V.int)) (e : Exc r H H') : SqL K H' sa (ns.map V.int) := by
  rcases h1 with (h | ⟨o, h⟩) | h
  · exact .inl (.inl (e _ _ (h0.neI h) h))
  · exact .inl (.inr ⟨o, e _ _ (h0.ne h (fun z zs q => by cases q)) h⟩)
  · exact .inr h
theorem RowO.exc {K : PySem.W.Frag} {sa : Addr} {H H' : Hp} {r : Addr} (h : RowO K sa H r) (e : Exc r H H') (l : RowL sa H' r) : RowO K sa H' r := by
  obtain ⟨h0, ns, h1⟩ := h
  exact ⟨l, ns, h0.sq h1 e⟩
theorem RowL.tup {sa : Addr} {H H' : Hp} {r a : Addr} {xs : List V} (h : RowL sa H r) (e : Exc r H H') (ha : H a = some (.tup xs)) : H' a = some (.tup xs) := e _ _ (h.ne ha (fun z zs q => by cases q)) ha
theorem RowL.tabs {sa : Addr} {H H' : Hp} {r : Addr} {T : Tbl} (h : RowL sa H r) (e : Exc r H H') (t : LamX.Tabs T H) : LamX.Tabs T H' := fun q hq => by
  obtain ⟨ps, h1, h2, h3⟩ := t q hq
  refine ⟨ps, e _ _ (h.ne h1 (fun z zs q => by cases q)) h1, h2, fun pos cv hc => ?_⟩
  obtain ⟨c, e1, e2⟩ := h3 pos cv hc
  exact ⟨c, e1, e _ _ (h.ne e2 (fun z zs q => by unfold LamX.CodeO at q; cases q)) e2⟩
/-- one more new place may change, too -/
theorem Exc.updN {r D : Addr} {H H' : Hp} {o : HO} (e : Exc r H H') (hD : H D = none) : Exc r H (L2.upd H' D o) := fun b x n h => by
  rw [upd_ne (ne_of_none h hD)]
  exact e _ _ n h
end Sh
set_option Elab.async false
set_option linter.all false
set_option maxRecDepth 100000
set_option maxHeartbeats 4000000
/-! the law's helpers: _law_taken, _law_pick -/
namespace Sh
open PySem PySem.Spec PyProof.Rows L2
abbrev sTaken : Stmt := topS 34
abbrev sPick : Stmt := topS 35
theorem scTaken : FnScope ["_law_row", "_law_many", "_law_found", "_law_cell"] ["_law_row", "_law_many"] (defScope sTaken) := ⟨rfl, rfl, rfl, by decide +kernel, rfl, by decide +kernel, by decide +kernel⟩
theorem scPick : FnScope ["_law_row", "_law_things"] ["_law_row", "_law_things"] (defScope sPick) := ⟨rfl, rfl, rfl, by decide +kernel, rfl, by decide +kernel, by decide +kernel⟩
def spTaken (K : PySem.W.Frag) (sa : Addr) : Sp := fun vs H Q _ => ∃ (r : Addr) (m : Int), vs = [.ref r, .int m] ∧ RowO K sa H r ∧ 0 < m ∧ m < 1073741824 ∧ ∀ (H' : Hp) (z : Int), Exc r H H' → RowL sa H' r → 0 ≤ z → z < m → Q (.int z) H'
def spPick (K : PySem.W.Frag) (sa : Addr) : Sp := fun vs H Q _ => ∃ (r l : Addr) (xs : List Int), vs = [.ref r, .ref l] ∧ RowO K sa H r ∧ H l = some (.lst (xs.map V.int)) ∧ 0 < xs.length ∧ xs.length ≤ 1000 ∧ ∀ (H' : Hp) (z : Int), Exc r H H' → RowL sa H' r → z ∈ xs → Q (.int z) H'
section
variable {P : Program} {w : World} {K : PySem.W.Frag} {mg : Str → Option Value} {base : Heap} {f : Addr} {fd : FuncData} {sa : Addr}
theorem ok_taken (F : Fun K "_law_taken" "_law_taken" sTaken f fd) (Z : Free mg) : FnOk P w K mg base CX0 1 f fd ["_law_row", "_law_many"] (spTaken K sa) := by
  refine F.ok scTaken (fun vs H Q E h => ?_) (fun cdv A outer s H vs Q E hr h => ?_)
  · obtain ⟨r, m, rfl, _⟩ := h
    rfl
  · obtain ⟨r, m, rfl, ⟨⟨idx, seed, rest, hR, h0, h1⟩, ns, hS⟩, m0, m1, q⟩ := h
    have ix3 : ∀ {a b c d : V}, atI [a, b, c, d] (3 : Int) = some d := rfl
    have ix2 : ∀ {a b c d : V}, atI [a, b, c, d] (2 : Int) = some c := rfl
    have ix1 : ∀ {a b c d : V}, atI [a, b, c, d] (1 : Int) = some b := rfl
    have ix0 : ∀ {a b c d : V}, atI [a, b, c, d] (0 : Int) = some a := rfl
    refine ⟨_, pss_cons (ps_if (pt_cmpR op_gt (pe_ix ix_list (pv 0) pe_int (fun _ _ => rfl)) pe_int (nomark _))
        (pss_cons (ps_set (i := 2) scTaken.nd rfl (.inl rfl) (pe_op op_mod (pe_callTy call_int1 (by rfl) Z.int (by decide +kernel) (pa_cons (pe_ix ix_list (pv 0) pe_int (fun _ _ => rfl)) pa_nil)) (pv 1)))
        (pss_cons (ps_asg (pe_op op_fdiv (pe_ix ix_list (pv 0) pe_int (fun _ _ => rfl)) (pv 1)) (pg_sub (pv 0) pe_int set_list))
        (pss_one (ps_ret (pv 2))))) pss_nil)
      (pss_cons (ps_asg (pe_op op_add (pe_ix ix_list (pv 0) pe_int (fun _ _ => rfl)) pe_int) (pg_sub (pv 0) pe_int set_list))
      (pss_cons (ps_if (pt_cmpR op_gt (pe_ix ix_list (pv 0) pe_int (fun _ _ => rfl)) (pe_callB call_len (by rfl) Z.len PySem.boot_len (pa_cons (pe_ix ix_list (pv 0) pe_int (fun _ _ => rfl)) pa_nil)) (nomark _))
        (pss_cons (ps_asg (pe_op op_mod (pe_callTy call_int1 (by rfl) Z.int (by decide +kernel) (pa_cons (pe_op op_add (pe_op op_mul (pe_ix ix_list (pv 0) pe_int (fun _ _ => rfl)) pe_int) pe_int) pa_nil)) pe_int) (pg_sub (pv 0) pe_int set_list))
        (pss_one (ps_ret (pe_op op_mod (pe_callTy call_int1 (by rfl) Z.int (by decide +kernel) (pa_cons (pe_op op_fdiv (pe_ix ix_list (pv 0) pe_int (fun _ _ => rfl)) pe_int) pa_nil)) (pv 1))))) pss_nil)
      (pss_cons (ps_set (i := 3) scTaken.nd rfl (.inl rfl) (pe_ix ix_list (pe_ix ix_list (pv 0) pe_int (fun _ _ => rfl)) (pe_op op_sub (pe_ix ix_list (pv 0) pe_int (fun _ _ => rfl)) pe_int) (fun _ _ => rfl)))
      (pss_cons (ps_asg (pe_op op_mod (pe_callTy call_int1 (by rfl) Z.int (by decide +kernel) (pa_cons (pe_op op_add (pe_op op_add (pe_op op_mul (pe_ix ix_list (pv 0) pe_int (fun _ _ => rfl)) pe_int) (pv 3)) pe_int) pa_nil)) pe_int) (pg_sub (pv 0) pe_int set_list))
      (pss_cons (ps_if (pt_cmpR op_ge (pv 3) (pe_op op_pow pe_int pe_int) (nomark _))
        (pss_one (ps_asg (pe_op op_fdiv (pv 3) (pv 1)) (pg_sub (pv 0) pe_int set_list))) pss_nil)
      (pss_one (ps_ret (pe_op op_mod (pe_callTy call_int1 (by rfl) Z.int (by decide +kernel) (pa_cons (pv 3) pa_nil)) (pv 1))))))))), ?_⟩
    have nn : ∀ x : Int, 0 ≤ x % m ∧ x % m < m := fun x => ⟨Int.emod_nonneg _ (by omega), Int.emod_lt_of_pos _ m0⟩
    have sd : ∀ x : Int, 0 ≤ x % 2147483647 := fun x => Int.emod_nonneg _ (by decide)
    have cm : ∀ x : Int, CMul x 48271 := fun x => .inr ⟨by decide, by decide⟩
    refine ⟨_, rfl, r, _, _, _, rfl, rfl, SqL.of hR, ix3, _, _, rfl, rfl, _, rfl, ite2 (fun _ => ?_) fun _ => ?_⟩
    · refine ⟨_, rfl, r, _, _, _, rfl, rfl, SqL.of hR, ix3, .inl ⟨_, rfl, _, rfl, _, _, rfl, rfl, m0, ?_⟩⟩
      refine ⟨_, rfl, r, _, _, _, rfl, rfl, SqL.of hR, ix3, _, rfl, _, _, rfl, rfl, ⟨m0, m1⟩, _, rfl, r, _, 3, 3, rfl, rfl, hR, rfl, ?_⟩
      exact ⟨_, rfl, q _ _ Exc.upd (RowL.put h0 h1) (nn _).1 (nn _).2⟩
    · -- row[1] = row[1] + 1
      refine ⟨_, rfl, r, _, _, _, rfl, rfl, SqL.of hR, ix1, _, _, rfl, rfl, _, rfl, r, _, 1, 1, rfl, rfl, hR, rfl, ?_⟩
      have hS1 := RowL.sq ⟨idx, seed, rest, hR, h0, h1⟩ hS (Exc.upd (o := .lst [.ref sa, .int (idx + 1), .int seed, .int rest]))
      have hR1 : upd H r (.lst [.ref sa, .int (idx + 1), .int seed, .int rest]) r = some (.lst [.ref sa, .int (idx + 1), .int seed, .int rest]) := upd_same
      have e1 : Exc r H (upd H r (.lst [.ref sa, .int (idx + 1), .int seed, .int rest])) := Exc.upd
      refine ⟨_, rfl, r, _, _, _, rfl, rfl, SqL.of hR1, ix1, _, rfl, r, _, _, _, rfl, rfl, SqL.of hR1, ix0, _, (ns.map V.int).length, rfl, .inl ⟨_, hS1, rfl⟩, _, _, rfl, rfl, _, rfl, ite2 (fun _ => ?_) fun hle => ?_⟩
      · refine ⟨_, rfl, r, _, _, _, rfl, rfl, SqL.of hR1, ix2, _, _, rfl, rfl, cm _, _, _, rfl, rfl, .inl ⟨_, rfl, _, _, rfl, rfl, by show (0 : Int) < 2147483647; decide, _, rfl, r, _, 2, 2, rfl, rfl, hR1, rfl, ?_⟩⟩
        refine ⟨_, rfl, r, _, _, _, rfl, rfl, SqL.of upd_same, ix2, _, _, rfl, rfl, ⟨by decide, by decide⟩, .inl ⟨_, rfl, _, rfl, _, _, rfl, rfl, m0, ?_⟩⟩
        exact q _ _ (e1.trans Exc.upd) (RowL.put (by omega) (sd _)) (nn _).1 (nn _).2
      · have hle : ¬ (((ns.map V.int).length : Nat) : Int) < idx + 1 := fun z => hle (decide_eq_true z)
        rw [List.length_map] at hle
        have hi : idx.toNat < ns.length := by omega
        have hat : atI (ns.map V.int) (idx + 1 - 1) = some (.int (ns[idx.toNat])) := by
          rw [show idx + 1 - 1 = ((idx.toNat : Nat) : Int) by omega]
          refine atI_nat ?_
          rw [List.getElem?_map, List.getElem?_eq_getElem hi]
          rfl
        refine ⟨_, rfl, r, _, _, _, rfl, rfl, SqL.of hR1, ix0, _, rfl, r, _, _, _, rfl, rfl, SqL.of hR1, ix1, _, _, rfl, rfl, sa, _, _, _, rfl, rfl, hS1, hat, ?_⟩
        refine ⟨_, rfl, r, _, _, _, rfl, rfl, SqL.of hR1, ix2, _, _, rfl, rfl, cm _, _, rfl, _, _, rfl, rfl, _, _, rfl, rfl, .inl ⟨_, rfl, _, _, rfl, rfl, by show (0 : Int) < 2147483647; decide, _, rfl, r, _, 2, 2, rfl, rfl, hR1, rfl, ?_⟩⟩

        refine ⟨_, rfl, _, _, rfl, rfl, ⟨by decide, by decide, by decide⟩, _, _, rfl, rfl, _, rfl, ite2 (fun _ => ?_) fun _ => ?_⟩
        · refine ⟨_, rfl, _, rfl, _, _, rfl, rfl, ⟨m0, m1⟩, _, rfl, r, _, 3, 3, rfl, rfl, upd_same, rfl, ?_⟩
          refine ⟨_, rfl, .inl ⟨_, rfl, _, rfl, _, _, rfl, rfl, m0, ?_⟩⟩
          exact q _ _ ((e1.trans Exc.upd).trans Exc.upd) (RowL.put (by omega) (sd _)) (nn _).1 (nn _).2
        · refine ⟨_, rfl, .inl ⟨_, rfl, _, rfl, _, _, rfl, rfl, m0, ?_⟩⟩
          exact q _ _ (e1.trans Exc.upd) (RowL.put (by omega) (sd _)) (nn _).1 (nn _).2
theorem ok_pick (F : Fun K "_law_pick" "_law_pick" sPick f fd) (Z : Free mg) (h1 : Has P w K mg base "_law_taken" 1 ["_law_row", "_law_many"] (spTaken K sa)) : FnOk P w K mg base CX0 2 f fd ["_law_row", "_law_things"] (spPick K sa) := by
  obtain ⟨f1, fd1, g1, k1, b1, G1⟩ := h1.ex
  refine F.ok scPick (fun vs H Q E h => ?_) (fun cdv A outer s H vs Q E hr h => ?_)
  · obtain ⟨r, l, xs, rfl, _⟩ := h
    rfl
  · obtain ⟨r, l, xs, rfl, hR, hl, n0, n1, q⟩ := h
    refine ⟨_, pss_one (ps_ret (pe_ix ix_list (pv 1) (pe_call G1 hr (by rfl) g1 k1 b1 .nil pass0 (pa_cons (pv 0) (pa_cons (pe_callB call_len (by rfl) Z.len PySem.boot_len (pa_cons (pv 1) pa_nil)) pa_nil))) (fun _ _ => rfl))), ?_⟩
    refine ⟨_, rfl, _, rfl, _, rfl, _, (xs.map V.int).length, rfl, .inl ⟨_, SqL.of hl, rfl⟩, r, _, rfl, hR, by rw [List.length_map]; omega, by rw [List.length_map]; omega, fun H' z e hR' z0 z1 => ?_⟩
    rw [List.length_map] at z1
    have hz : z.toNat < xs.length := by omega
    have hl' := e _ _ (hR.1.neI hl) hl
    have e2 : ((z.toNat : Nat) : Int) = z := by omega
    have hat : atI (xs.map V.int) ((z.toNat : Nat) : Int) = some (.int (xs[z.toNat])) := atI_nat (by
      rw [List.getElem?_map, List.getElem?_eq_getElem hz]
      rfl)
    rw [e2] at hat
    exact ⟨l, _, _, _, rfl, rfl, SqL.of hl', hat, q _ _ e hR' (List.getElem_mem hz)⟩
end
end Sh
set_option Elab.async false
set_option linter.all false
set_option maxRecDepth 100000
set_option maxHeartbeats 4000000
/-! the law's helpers: _law_jobs -/
namespace Sh
open PySem PySem.Spec PyProof.Rows L2
abbrev sJobs : Stmt := topS 37
theorem scJobs : FnScope ["_law_row", "_law_most", "_law_time", "_law_many", "_law_top", "_law_wide", "_law_times", "_law_at", "_law_weights", "_law_last", "_law_dues"] ["_law_row", "_law_most", "_law_time"] (defScope sJobs) := ⟨rfl, rfl, rfl, by decide +kernel, rfl, by decide +kernel, by decide +kernel⟩
def spJobs (K : PySem.W.Frag) (sa : Addr) : Sp := fun vs H Q _ => ∃ (r : Addr), vs = [.ref r, .int 5, .int 9] ∧ RowO K sa H r ∧
  ∀ (H' : Hp) (p a g b : Addr) (ts ws ds : List Int), Exc r H H' → RowL sa H' r → H' p = some (.tup [.ref a, .ref g, .ref b]) → TupI H' a ts → TupI H' g ws → TupI H' b ds → ws.length = ts.length → ds.length = ts.length → 1 ≤ ts.length → ts.length ≤ 5 →
    (∀ n ∈ ts, 1 ≤ n ∧ n ≤ 60) → (∀ n ∈ ws, 0 ≤ n ∧ n ≤ 60) → (∀ n ∈ ds, 0 ≤ n ∧ n ≤ 600) → Q (.ref p) H'
/-- draws so far: the list at D -/
structure DrawW (sa : Addr) (H : Hp) (r D : Addr) (lo hi : Int) (i : Nat) (H' : Hp) (zs : List Int) : Prop where
  exc : Exc r H H'
  row : RowL sa H' r
  len : zs.length = i
  bnd : ∀ z ∈ zs, lo ≤ z ∧ z ≤ hi
  at_ : H' D = some (.lst (zs.map V.int))
theorem DrawW.zero {sa : Addr} {H : Hp} {r D : Addr} {lo hi : Int} (h : RowL sa H r) (hD : H D = none) : DrawW sa H r D lo hi 0 (upd H D (.lst [])) [] :=
  ⟨(Exc.refl r H).updN hD, h.same (same_upd hD), rfl, (fun z hz => nomatch hz), upd_same⟩
theorem DrawW.step {sa : Addr} {H H3 H4 : Hp} {r D : Addr} {lo hi z : Int} {i : Nat} {zs : List Int} (W : DrawW sa H r D lo hi i H3 zs) (hD : H D = none) (e : Exc r H3 H4) (l : RowL sa H4 r) (h1 : lo ≤ z) (h2 : z ≤ hi) :
    H4 D = some (.lst (zs.map V.int)) ∧ DrawW sa H r D lo hi (i + 1) (upd H4 D (.lst (zs.map V.int ++ [.int z]))) (zs ++ [z]) := by
  have n := W.row.neI W.at_
  refine ⟨e _ _ n W.at_, ⟨(W.exc.trans e).updN hD, l.upd n, ?_, fun y hy => ?_, ?_⟩⟩
  · rw [List.length_append, W.len]
    rfl
  · rcases List.mem_append.mp hy with h | h
    · exact W.bnd _ h
    · rw [List.mem_singleton.mp h]
      exact ⟨h1, h2⟩
  · rw [upd_same, List.map_append]
    rfl
theorem sum_bnd {lo hi : Int} : ∀ {zs : List Int}, (∀ z ∈ zs, lo ≤ z ∧ z ≤ hi) → (zs.length : Int) * lo ≤ zs.sum ∧ zs.sum ≤ (zs.length : Int) * hi
  | [], _ => by simp
  | z :: zs, h => by
    have h1 := h z List.mem_cons_self
    have h2 := sum_bnd (zs := zs) fun y hy => h y (List.mem_cons_of_mem z hy)
    rw [List.sum_cons, List.length_cons, Int.natCast_add, Int.add_mul, Int.add_mul]
    simp only [Int.natCast_one, Int.one_mul]
    omega
section
variable {P : Program} {w : World} {K : PySem.W.Frag} {mg : Str → Option Value} {base : Heap} {f : Addr} {fd : FuncData} {sa : Addr}
theorem ok_jobs (F : Fun K "_law_jobs" "_law_jobs" sJobs f fd) (Z : Free mg) (h1 : Has P w K mg base "_law_taken" 1 ["_law_row", "_law_many"] (spTaken K sa)) (h2 : Has P w K mg base "_law_pick" 2 ["_law_row", "_law_things"] (spPick K sa)) :
    FnOk P w K mg base CX0 3 f fd ["_law_row", "_law_most", "_law_time"] (spJobs K sa) := by
  obtain ⟨f1, fd1, g1, k1, b1, G1⟩ := h1.ex
  obtain ⟨f2, fd2, g2, k2, b2, G2⟩ := h2.ex
  refine F.ok scJobs (fun vs H Q E h => ?_) (fun cdv A outer s H vs Q E hr h => ?_)
  · obtain ⟨r, rfl, _⟩ := h
    rfl
  · obtain ⟨r, rfl, hR, q⟩ := h
    have hr1 : Room 1 _ := hr.mono (by decide)
    refine ⟨_, pss_cons (ps_asg (pe_tup (pa_cons (pe_op op_add pe_int (pe_call G1 hr1 (by rfl) g1 k1 b1 .nil pass0 (pa_cons (pv 0) (pa_cons (pv 1) pa_nil))))
          (pa_cons (pe_call G2 hr (by rfl) g2 k2 b2 .nil pass0 (pa_cons (pv 0) (pa_cons (pe_lst (pa_cons pe_int (pa_cons (pv 2) pa_nil))) pa_nil)))
          (pa_cons (pe_call G2 hr (by rfl) g2 k2 b2 .nil pass0 (pa_cons (pv 0) (pa_cons (pe_lst (pa_cons pe_int (pa_cons pe_int (pa_cons pe_int pa_nil)))) pa_nil))) pa_nil))))
          (pg_tup rfl (pgs_cons (pg_name (i := 3) scJobs.nd rfl (.inl rfl)) (pgs_cons (pg_name (i := 4) scJobs.nd rfl (.inr rfl)) (pgs_cons (pg_name (i := 5) scJobs.nd rfl (.inr rfl)) pgs_nil)))))
      (pss_cons (ps_set (i := 6) scJobs.nd rfl (.inl rfl) (pe_callTy call_tuple_of (by rfl) Z.tuple (by decide +kernel) (pa_cons (pe_lc (own := [("_law_at", 7)]) (g := gName 7) (by rfl) scJobs.nd (pi_range1 (by rfl) Z.range (pa_cons (pv 3) pa_nil))
        (blkOk_by (own := [("_law_at", 7)]) (N := ["_law_row", "_law_most", "_law_time", "_law_many", "_law_top", "_law_wide", "_law_times", "_law_at", "_law_weights", "_law_last", "_law_dues"]) (sc := defScope sJobs) (by decide +kernel))
        (fun _ _ _ _ _ => pg_name (i := 7) scJobs.nd rfl (.inl rfl)) (fun _ _ _ _ _ => pts_nil) (fun _ _ _ _ _ => pe_op op_add pe_int (pe_call G1 hr1 (by rfl) g1 k1 b1 .nil pass0 (pa_cons (pv 0) (pa_cons (pv 4) pa_nil))))) pa_nil)))
      (pss_cons (ps_set (i := 8) scJobs.nd rfl (.inl rfl) (pe_callTy call_tuple_of (by rfl) Z.tuple (by decide +kernel) (pa_cons (pe_lc (own := [("_law_at", 7)]) (g := gName 7) (by rfl) scJobs.nd (pi_range1 (by rfl) Z.range (pa_cons (pv 3) pa_nil))
        (blkOk_by (own := [("_law_at", 7)]) (N := ["_law_row", "_law_most", "_law_time", "_law_many", "_law_top", "_law_wide", "_law_times", "_law_at", "_law_weights", "_law_last", "_law_dues"]) (sc := defScope sJobs) (by decide +kernel))
        (fun _ _ _ _ _ => pg_name (i := 7) scJobs.nd rfl (.inl rfl)) (fun _ _ _ _ _ => pts_nil) (fun _ _ _ _ _ => pe_call G1 hr1 (by rfl) g1 k1 b1 .nil pass0 (pa_cons (pv 0) (pa_cons (pe_op op_add (pv 5) pe_int) pa_nil)))) pa_nil)))
      (pss_cons (ps_set (i := 9) scJobs.nd rfl (.inr rfl) (pe_op op_add (pe_callB (cr_sumT rfl) (by rfl) Z.sum (by decide +kernel) (pa_cons (pv 6) pa_nil)) pe_int))
      (pss_cons (ps_set (i := 10) scJobs.nd rfl (.inl rfl) (pe_callTy call_tuple_of (by rfl) Z.tuple (by decide +kernel) (pa_cons (pe_lc (own := [("_law_at", 7)]) (g := gName 7) (by rfl) scJobs.nd (pi_range1 (by rfl) Z.range (pa_cons (pv 3) pa_nil))
        (blkOk_by (own := [("_law_at", 7)]) (N := ["_law_row", "_law_most", "_law_time", "_law_many", "_law_top", "_law_wide", "_law_times", "_law_at", "_law_weights", "_law_last", "_law_dues"]) (sc := defScope sJobs) (by decide +kernel))
        (fun _ _ _ _ _ => pg_name (i := 7) scJobs.nd rfl (.inl rfl)) (fun _ _ _ _ _ => pts_nil) (fun _ _ _ _ _ => pe_call G1 hr1 (by rfl) g1 k1 b1 .nil pass0 (pa_cons (pv 0) (pa_cons (pv 9) pa_nil)))) pa_nil)))
      (pss_one (ps_ret (pe_tup (pa_cons (pv 6) (pa_cons (pv 8) (pa_cons (pv 10) pa_nil)))))))))), ?_⟩
    -- the three numbers
    refine ⟨_, rfl, _, rfl, r, 5, rfl, hR, by decide, by decide, fun H1 m e1 l1 m0 m1 => ?_⟩
    have hR1 := hR.exc e1 l1
    refine ⟨_, _, rfl, rfl, _, rfl, _, rfl, by show 2 ≤ sizeLine; decide, fun o1 no1 => ?_⟩
    refine ⟨r, o1, [2, 9], rfl, hR1.exc (Exc.same (same_upd no1)) (l1.same (same_upd no1)), upd_same, by decide, by decide, fun H2 top e2 l2 ht => ?_⟩
    have e2 : Exc r H H2 := e1.trans ((Exc.same (same_upd no1)).trans e2)
    refine ⟨_, rfl, by show 3 ≤ sizeLine; decide, fun o2 no2 => ?_⟩
    refine ⟨r, o2, [1, 3, 9], rfl, (hR.exc e2 l2).exc (Exc.same (same_upd no2)) (l2.same (same_upd no2)), upd_same, by decide, by decide, fun H3 wide e3 l3 hw => ?_⟩
    have e3 : Exc r H H3 := e2.trans ((Exc.same (same_upd no2)).trans e3)
    refine ⟨by show 3 ≤ sizeLine; decide, fun o3 no3 => ?_⟩
    have e4 := e3.trans (Exc.same (same_upd (o := .tup [V.int (1 + m), V.int top, V.int wide]) no3))
    have l4 := l3.same (same_upd (o := .tup [V.int (1 + m), V.int top, V.int wide]) no3)
    refine ⟨o3, _, rfl, SqT.of upd_same, rfl, _, _, rfl, _, _, rfl, _, _, rfl, rfl, ?_⟩
    have htop : 0 < top ∧ top ≤ 9 := by
      simp only [List.mem_cons, List.not_mem_nil, or_false] at ht
      omega
    have hwide : 0 < wide ∧ wide ≤ 9 := by
      simp only [List.mem_cons, List.not_mem_nil, or_false] at hw
      omega
    -- the times
    refine ⟨_, rfl, _, rfl, by omega, by omega, fun D hD => lc_range (fun i H' => ∃ zs, DrawW sa (upd H3 o3 (.tup [V.int (1 + m), V.int top, V.int wide])) r D 1 9 i H' zs) ⟨[], DrawW.zero l4 hD⟩ ?_ ?_⟩
    · rintro i H5 hi ⟨zs, W⟩
      refine ⟨rfl, ?_⟩
      refine ⟨_, rfl, _, rfl, r, top, rfl, (hR.exc e4 l4).exc W.exc W.row, by omega, by omega, fun H6 z e6 l6 z0 z1 => ⟨_, _, rfl, rfl, ?_⟩⟩
      obtain ⟨hd, W'⟩ := W.step hD e6 l6 (z := 1 + z) (by omega) (by omega)
      refine ⟨_, hd, ?_, _, W'⟩
      rw [List.length_map, W.len]
      exact small1000 (by omega)
    rintro H5 ⟨ts, Wt⟩
    have hlt := Wt.len
    refine ⟨D, _, rfl, .inl ⟨SqL.of Wt.at_, fun a na => ?_⟩⟩
    have e7 := (e4.trans Wt.exc).trans (Exc.same (same_upd (o := .tup (ts.map V.int)) na))
    have l7 := Wt.row.same (same_upd (o := .tup (ts.map V.int)) na)
    have a7 : TupI (upd H5 a (.tup (ts.map V.int))) a ts := upd_same
    generalize upd H5 a (.tup (ts.map V.int)) = H7 at e7 l7 a7 ⊢
    -- the weights
    refine ⟨_, rfl, _, rfl, by omega, by omega, fun D2 hD2 => lc_range (fun i H' => ∃ zs, DrawW sa H7 r D2 0 9 i H' zs) ⟨[], DrawW.zero l7 hD2⟩ ?_ ?_⟩
    · rintro i H8 hi ⟨zs, W⟩
      refine ⟨rfl, ?_⟩
      refine ⟨_, rfl, _, rfl, _, _, rfl, rfl, r, _, rfl, (hR.exc e7 l7).exc W.exc W.row, by omega, by omega, fun H9 z e9 l9 z0 z1 => ?_⟩
      obtain ⟨hd, W'⟩ := W.step hD2 e9 l9 (z := z) (by omega) (by omega)
      refine ⟨_, hd, ?_, _, W'⟩
      rw [List.length_map, W.len]
      exact small1000 (by omega)
    rintro H8 ⟨ws, Ww⟩
    have hlw := Ww.len
    refine ⟨D2, _, rfl, .inl ⟨SqL.of Ww.at_, fun g ng => ?_⟩⟩
    have e10 := Ww.exc.trans (Exc.same (same_upd (o := .tup (ws.map V.int)) ng))
    have l10 := Ww.row.same (same_upd (o := .tup (ws.map V.int)) ng)
    have g10 : TupI (upd H8 g (.tup (ws.map V.int))) g ws := upd_same
    generalize upd H8 g (.tup (ws.map V.int)) = H10 at e10 l10 g10 ⊢
    have a10 := l7.tup e10 a7
    have e10 := e7.trans e10
    -- last = sum(times) + 2
    have hsum := sum_bnd Wt.bnd
    refine ⟨_, rfl, a, ts, rfl, SqT.of a10, _, _, rfl, rfl, ?_⟩
    -- the due days
    refine ⟨_, rfl, _, rfl, by omega, by omega, fun D3 hD3 => lc_range (fun i H' => ∃ zs, DrawW sa H10 r D3 0 600 i H' zs) ⟨[], DrawW.zero l10 hD3⟩ ?_ ?_⟩
    · rintro i H8 hi ⟨zs, W⟩
      refine ⟨rfl, ?_⟩
      refine ⟨_, rfl, _, rfl, r, _, rfl, (hR.exc e10 l10).exc W.exc W.row, by omega, by omega, fun H9 z e9 l9 z0 z1 => ?_⟩
      obtain ⟨hd, W'⟩ := W.step hD3 e9 l9 (z := z) (by omega) (by omega)
      refine ⟨_, hd, ?_, _, W'⟩
      rw [List.length_map, W.len]
      exact small1000 (by omega)
    rintro H11 ⟨ds, Wd⟩
    have hld := Wd.len
    refine ⟨D3, _, rfl, .inl ⟨SqL.of Wd.at_, fun b nb => ?_⟩⟩
    have e12 := Wd.exc.trans (Exc.same (same_upd (o := .tup (ds.map V.int)) nb))
    have l12 := Wd.row.same (same_upd (o := .tup (ds.map V.int)) nb)
    have b12 : TupI (upd H11 b (.tup (ds.map V.int))) b ds := upd_same
    generalize upd H11 b (.tup (ds.map V.int)) = H12 at e12 l12 b12 ⊢
    have a12 := l10.tup e12 a10
    have g12 := l10.tup e12 g10
    have e12 := e10.trans e12
    refine ⟨_, rfl, _, rfl, _, rfl, by show 3 ≤ sizeLine; decide, fun p np => ?_⟩
    have sp := same_upd (o := .tup [V.ref a, V.ref g, V.ref b]) np
    exact q _ p a g b ts ws ds (e12.trans (Exc.same sp)) (l12.same sp) upd_same (sp _ _ a12) (sp _ _ g12) (sp _ _ b12) (by omega) (by omega) (by omega) (by omega) (fun n hn => by have := Wt.bnd n hn; omega) (fun n hn => by have := Ww.bnd n hn; omega) (fun n hn => by have := Wd.bnd n hn; omega)
end
end Sh
set_option Elab.async false
set_option linter.all false
set_option maxRecDepth 100000
set_option maxHeartbeats 4000000
/-! the law's helpers: _law_order, _law_orders -/
namespace Sh
open PySem PySem.Spec PyProof.Rows L2
abbrev sOrder : Stmt := topS 38
abbrev sOrders : Stmt := topS 39
theorem scOrder : FnScope ["_law_row", "_law_many", "_law_left", "_law_found", "_law_turn"] ["_law_row", "_law_many"] (defScope sOrder) := ⟨rfl, rfl, rfl, by decide +kernel, rfl, by decide +kernel, by decide +kernel⟩
theorem scOrders : FnScope ["_law_many", "_law_pairs", "_law_found", "_law_turn", "_law_longer", "_law_part", "_law_job", "_law_pair"] ["_law_many", "_law_pairs"] (defScope sOrders) := ⟨rfl, rfl, rfl, by decide +kernel, rfl, by decide +kernel, by decide +kernel⟩
def spOrder (K : PySem.W.Frag) (sa : Addr) : Sp := fun vs H Q _ => ∃ (r : Addr) (n : Nat), vs = [.ref r, .int (n : Nat)] ∧ RowO K sa H r ∧ n ≤ 10 ∧
  ∀ (H' : Hp) (p : Addr) (o : List Nat), Exc r H H' → RowL sa H' r → TupJ H' p o → o.Perm (List.range n) → Q (.ref p) H'
theorem erase_perm {L : List Nat} : ∀ {k : Nat} {y : Nat}, L[k]? = some y → L.Perm (y :: L.eraseIdx k) := by
  induction L with
  | nil => intro k y h; simp at h
  | cons a L ih =>
    intro k y h
    cases k with
    | zero =>
      have e : a = y := Option.some.inj h
      rw [e]
      exact List.Perm.refl _
    | succ k =>
      have h2 : L[k]? = some y := by simpa using h
      exact ((ih h2).cons a).trans (List.Perm.swap y a _)
theorem jobs_erase : ∀ (L : List Nat) (k : Nat), (jobs L).eraseIdx k = jobs (L.eraseIdx k)
  | [], _ => rfl
  | a :: L, 0 => rfl
  | a :: L, k + 1 => by
    show V.int (a : Nat) :: (jobs L).eraseIdx k = V.int (a : Nat) :: jobs (L.eraseIdx k)
    rw [jobs_erase L k]
theorem neJ {sa : Addr} {H : Hp} {r a : Addr} {js : List Nat} (h : RowL sa H r) (ha : H a = some (.lst (jobs js))) : a ≠ r := h.neI (ns := js.map fun j => ((j : Nat) : Int)) (by rw [← jobs_eq]; exact ha)
structure OrdW (sa : Addr) (H : Hp) (r l d : Addr) (n i : Nat) (H' : Hp) (L O : List Nat) : Prop where
  exc : Exc r H H'
  row : RowL sa H' r
  left : H' l = some (.lst (jobs L))
  found : H' d = some (.lst (jobs O))
  len : O.length = i
  perm : (O ++ L).Perm (List.range n)
section
variable {P : Program} {w : World} {K : PySem.W.Frag} {mg : Str → Option Value} {base : Heap} {f : Addr} {fd : FuncData} {sa : Addr}
theorem ok_order (F : Fun K "_law_order" "_law_order" sOrder f fd) (Z : Free mg) (h1 : Has P w K mg base "_law_taken" 1 ["_law_row", "_law_many"] (spTaken K sa)) :
    FnOk P w K mg base CX0 2 f fd ["_law_row", "_law_many"] (spOrder K sa) := by
  obtain ⟨f1, fd1, g1, k1, b1, G1⟩ := h1.ex
  refine F.ok scOrder (fun vs H Q E h => ?_) (fun cdv A outer s H vs Q E hr h => ?_)
  · obtain ⟨r, n, rfl, _⟩ := h
    rfl
  · obtain ⟨r, n, rfl, hR, hn, q⟩ := h
    refine ⟨_, pss_cons (ps_par (i := 2) (j := 3) (by rfl) scOrder.nd rfl rfl (by decide) rfl rfl (pa_cons (pe_listRg rfl (by rfl) Z.list (prg_1 (by rfl) Z.range (pv 1))) (pa_cons (pe_lst pa_nil) pa_nil)) (by rfl))
      (pss_cons (ps_for PassesOwn.never rfl (pi_range1 (by rfl) Z.range (pa_cons (pv 1) pa_nil)) (pg_name (i := 4) scOrder.nd rfl (.inl rfl))
        (pss_one (ps_expr (pe_bm PySem.F.plainAttrs_list PySem.F.slot_list_append PySem.F.type_list_append mt_append (pv 3)
          (pa_cons (pe_bm PySem.F.plainAttrs_list PySem.F.slot_list_pop PySem.F.type_list_pop mt_popAt (pv 2) (pa_cons (pe_call G1 hr (by rfl) g1 k1 b1 .nil pass0 (pa_cons (pv 0) (pa_cons (pe_callB call_len (by rfl) Z.len PySem.boot_len (pa_cons (pv 2) pa_nil)) pa_nil))) pa_nil)) pa_nil)))))
      (pss_one (ps_ret (pe_callTy call_tuple_of (by rfl) Z.tuple (by decide +kernel) (pa_cons (pv 3) pa_nil))))), ?_⟩
    refine ⟨_, rfl, _, rfl, ?_, fun l nl => ?_⟩
    · exact ⟨by omega, by omega, by omega, by omega, by omega⟩
    rw [rgV_jobs]
    refine ⟨Nat.zero_le _, fun d nd => ?_⟩
    have s1 := same_upd (o := .lst (jobs (List.range n))) nl
    have hd0 : H d = none := s1.free nd
    have hld : l ≠ d := fun e => by
      rw [e, upd_same] at nd
      cases nd
    have l1 := (hR.1.same s1).same (same_upd (o := .lst []) nd)
    refine ⟨_, _, rfl, ?_⟩
    refine ⟨_, rfl, _, rfl, by omega, by omega, for_range (fun i σ H' => ∃ v4 L O, σ = [some (.ref r), some (.int (n : Nat)), some (.ref l), some (.ref d), v4] ∧ OrdW sa H r l d n i H' L O)
      ⟨none, List.range n, [], rfl, Exc.same (s1.trans (same_upd nd)), l1, by rw [upd_ne hld]; exact upd_same, upd_same, rfl, List.Perm.refl _⟩ ?_ ?_⟩
    · rintro i σ H1 hi ⟨v4, L, O, rfl, W⟩
      have hi : i < n := by omega
      have hpl := W.perm.length_eq
      rw [List.length_append, List.length_range, W.len] at hpl
      -- _law_taken(row, len(left))
      refine ⟨_, rfl, .inl ⟨rfl, _, .inl (.inl W.found)⟩, _, rfl, .inl ⟨rfl, _, .inl (.inl W.left)⟩, _, rfl, _, rfl, _, (jobs L).length, rfl, .inl ⟨_, SqL.of W.left, rfl⟩, r, _, rfl, hR.exc W.exc W.row, by rw [List.length_map]; omega, by rw [List.length_map]; omega, fun H2 z e2 l2 z0 z1 => ?_⟩
      rw [List.length_map] at z1
      have hl2 := e2 _ _ (neJ W.row W.left) W.left
      have hd2 := e2 _ _ (neJ W.row W.found) W.found
      have hz : z.toNat < L.length := by omega
      have hy : L[z.toNat]? = some (L[z.toNat]) := List.getElem?_eq_getElem hz
      have hyj : (jobs L)[z.toNat]? = some (.int ((L[z.toNat] : Nat) : Int)) := by
        rw [List.getElem?_map, hy]
        rfl
      have ez : ((z.toNat : Nat) : Int) = z := by omega
      have hix : seqIndex? z (jobs L).length = some z.toNat := by
        have h := (ixN_seq (Evl.ixN_nat (n := (jobs L).length) (j := z.toNat) (by rw [List.length_map]; exact hz))).1
        rw [ez] at h
        exact h
      refine ⟨l, _, z, z.toNat, _, rfl, rfl, hl2, by omega, by omega, hix, hyj, ?_⟩
      have hl3 : upd H2 l (.lst ((jobs L).eraseIdx z.toNat)) l = some (.lst (jobs (L.eraseIdx z.toNat))) := by
        rw [upd_same, jobs_erase]
      have hd3 : upd H2 l (.lst ((jobs L).eraseIdx z.toNat)) d = some (.lst (jobs O)) := by
        rw [upd_ne hld.symm]
        exact hd2
      refine ⟨d, _, _, rfl, rfl, hd3, by rw [List.length_map, W.len]; exact small1000 (by omega), ?_⟩
      have hnl := (e2 _ _ (neJ W.row W.left) W.left)
      have hrl : l ≠ r := neJ l2 hl2
      have hrd : d ≠ r := neJ l2 hd2
      refine ⟨_, L.eraseIdx z.toNat, O ++ [L[z.toNat]], rfl, ((W.exc.trans e2).updN nl).updN hd0, (l2.upd hrl).upd hrd, ?_, ?_, ?_, ?_⟩
      · rw [upd_ne hld]
        exact hl3
      · rw [upd_same, jobs_snoc]
      · rw [List.length_append, W.len]
        rfl
      · refine List.Perm.trans ?_ W.perm
        rw [List.append_assoc]
        exact List.Perm.append_left O (erase_perm hy).symm
    · rintro σ H1 ⟨v4, L, O, rfl, W⟩
      have hpl := W.perm.length_eq
      rw [List.length_append, List.length_range, W.len] at hpl
      have hL : L = [] := List.length_eq_zero_iff.mp (by omega)
      have hp := W.perm
      rw [hL, List.append_nil] at hp
      refine ⟨_, rfl, d, _, rfl, .inl ⟨SqL.of W.found, fun p np => ?_⟩⟩
      exact q _ p O (W.exc.trans (Exc.same (same_upd np))) (W.row.same (same_upd np)) upd_same hp
end
/-- a list of orders, each a tuple -/
def PJ (H : Hp) (v : V) (o : List Nat) : Prop := ∃ t, v = .ref t ∧ TupJ H t o
def OrdsAt (H : Hp) (p : Addr) (os : List (List Nat)) : Prop := ∃ vs : List V, H p = some (.lst vs) ∧ Paired (PJ H) vs os
theorem OrdsAt.same {H H' : Hp} {p : Addr} {os : List (List Nat)} (h : OrdsAt H p os) (s : Same H H') : OrdsAt H' p os := by
  obtain ⟨vs, h1, h2⟩ := h
  exact ⟨vs, s _ _ h1, Paired.mapP h2 fun v o ⟨t, e1, e2⟩ => ⟨t, e1, s _ _ e2⟩⟩
theorem OrdsAt.updN {H : Hp} {p q : Addr} {os : List (List Nat)} {xs : List V} {o' : HO} (h : OrdsAt H p os) (hq : H q = some (.lst xs)) (n : p ≠ q) : OrdsAt (L2.upd H q o') p os := by
  obtain ⟨vs, h1, h2⟩ := h
  refine ⟨vs, ?_, Paired.mapP h2 fun v o ⟨t, e1, e2⟩ => ⟨t, e1, ?_⟩⟩
  · rw [upd_ne n]
    exact h1
  · show L2.upd H q o' t = _
    rw [upd_ne (ne_of e2 hq (fun z => by cases z))]
    exact e2
theorem OrdsAt.snoc {H : Hp} {q t : Addr} {os : List (List Nat)} {o : List Nat} {xs : List V} (h1 : H q = some (.lst xs)) (h2 : Paired (PJ H) xs os) (ht : TupJ H t o) : OrdsAt (L2.upd H q (.lst (xs ++ [.ref t]))) q (os ++ [o]) := by
  have keep : ∀ {u : Addr} {o : List Nat}, TupJ H u o → TupJ (L2.upd H q (.lst (xs ++ [.ref t]))) u o := fun {u o} e => by
    show L2.upd H q _ u = _
    rw [upd_ne (ne_of e h1 (fun z => by cases z))]
    exact e
  exact ⟨_, upd_same, paired_append (Paired.mapP h2 fun v o ⟨t, e1, e2⟩ => ⟨t, e1, keep e2⟩) ⟨t, rfl, keep ht⟩⟩
theorem ords_len (n : Nat) : ∀ k, (Mth.ords n k).length ≤ n ^ k
  | 0 => Nat.le_refl _
  | k + 1 => by
    show ((Mth.ords n k).flatMap fun p => ((List.range n).filter fun j => decide (j ∉ p)).map fun j => p ++ [j]).length ≤ _
    have key : ∀ l : List (List Nat), (l.flatMap fun p => ((List.range n).filter fun j => decide (j ∉ p)).map fun j => p ++ [j]).length ≤ l.length * n := by
      intro l
      induction l with
      | nil => simp
      | cons a l ih =>
        rw [List.flatMap_cons, List.length_append, List.length_map, List.length_cons, Nat.add_mul]
        have := List.length_filter_le (fun j => decide (j ∉ a)) (List.range n)
        rw [List.length_range] at this
        omega
    have h1 := key (Mth.ords n k)
    have h2 := Nat.mul_le_mul_right n (ords_len n k)
    rw [Nat.pow_succ]
    omega
/-- what one order grows to, by the jobs below j -/
def grow (n : Nat) (p : List Nat) : List (List Nat) := ((List.range n).filter fun j => decide (j ∉ p)).map fun j => p ++ [j]
theorem ords_succ (n k : Nat) : Mth.ords n (k + 1) = (Mth.ords n k).flatMap (grow n) := rfl
theorem grow_yes {p : List Nat} {j : Nat} (h : j ∉ p) : grow (j + 1) p = grow j p ++ [p ++ [j]] := by
  unfold grow
  rw [filt_yes (p := fun j => decide (j ∉ p)) (decide_eq_true h), List.map_append]
  rfl
theorem grow_no {p : List Nat} {j : Nat} (h : j ∈ p) : grow (j + 1) p = grow j p := by
  unfold grow
  rw [filt_no (p := fun j => decide (j ∉ p)) (fun z => of_decide_eq_true z h)]
theorem grow_len (n : Nat) (p : List Nat) : (grow n p).length ≤ n := by
  unfold grow
  rw [List.length_map]
  exact filt_len
theorem flat_snoc {l : List (List Nat)} {i : Nat} {p : List Nat} {f : List Nat → List (List Nat)} (h : l[i]? = some p) : (l.take (i + 1)).flatMap f = (l.take i).flatMap f ++ f p := by
  rw [List.take_add_one, h]
  simp
theorem flat_len {n : Nat} : ∀ l : List (List Nat), (l.flatMap (grow n)).length ≤ l.length * n
  | [] => by simp
  | a :: l => by
    rw [List.flatMap_cons, List.length_append, List.length_cons, Nat.add_mul]
    have h1 := flat_len (n := n) l
    have h2 := grow_len n a
    omega
structure OrW (H H' : Hp) (p q : Addr) (vs : List V) (os gs : List (List Nat)) : Prop where
  same : Same H H'
  found : H' p = some (.lst vs)
  fpair : Paired (PJ H') vs os
  long : OrdsAt H' q gs
theorem OrW.ext {H H1 H2 : Hp} {p q : Addr} {vs : List V} {os gs : List (List Nat)} (W : OrW H H1 p q vs os gs) (s : Same H1 H2) : OrW H H2 p q vs os gs := by
  refine ⟨W.same.trans s, s _ _ W.found, ?_, W.long.same s⟩
  have h := OrdsAt.same ⟨vs, W.found, W.fpair⟩ s
  obtain ⟨vs', h1, h2⟩ := h
  rw [s _ _ W.found] at h1
  cases Option.some.inj h1
  exact h2
theorem OrW.snoc {H H1 : Hp} {p q t : Addr} {vs ws : List V} {os gs : List (List Nat)} {o : List Nat} (W : OrW H H1 p q vs os gs) (hq : H q = none) (n : p ≠ q) (h1 : H1 q = some (.lst ws)) (ht : TupJ H1 t o) : OrW H (upd H1 q (.lst (ws ++ [.ref t]))) p q vs os (gs ++ [o]) := by
  have h := OrdsAt.updN (o' := .lst (ws ++ [.ref t])) ⟨vs, W.found, W.fpair⟩ h1 n
  obtain ⟨vs', e1, e2⟩ := h
  have e3 : upd H1 q (.lst (ws ++ [.ref t])) p = some (.lst vs) := by
    rw [upd_ne n]
    exact W.found
  rw [e3] at e1
  cases Option.some.inj e1
  obtain ⟨ws', f1, f2⟩ := W.long
  rw [h1] at f1
  cases Option.some.inj f1
  refine ⟨fun b x e => ?_, e3, e2, OrdsAt.snoc h1 f2 ht⟩
  rw [upd_ne (ne_of_none e hq)]
  exact W.same _ _ e
def spOrders : Sp := fun vs H Q _ => ∃ (n : Nat) (e : Addr), vs = [.int (n : Nat), .ref e] ∧ H e = some (.tup []) ∧ n ≤ 5 ∧
  ∀ (H' : Hp) (p : Addr), Same H H' → OrdsAt H' p (Mth.ords n n) → Q (.ref p) H'
section
variable {P : Program} {w : World} {K : PySem.W.Frag} {mg : Str → Option Value} {base : Heap} {f : Addr} {fd : FuncData} {sa : Addr}
theorem ok_orders (F : Fun K "_law_orders" "_law_orders" sOrders f fd) (Z : Free mg) : FnOk P w K mg base CX0 1 f fd ["_law_many", "_law_pairs"] spOrders := by
  refine F.ok scOrders (fun vs H Q E h => ?_) (fun cdv A outer s H vs Q E hr h => ?_)
  · obtain ⟨n, e, rfl, _⟩ := h
    rfl
  · obtain ⟨n, e, rfl, he, hn, q⟩ := h
    refine ⟨_, pss_cons (ps_set (i := 2) scOrders.nd rfl (.inl rfl) (pe_lst (pa_cons (pe_tup pa_nil) pa_nil)))
      (pss_cons (ps_for PassesOwn.never rfl (pi_range1 (by rfl) Z.range (pa_cons (pv 0) pa_nil)) (pg_name (i := 3) scOrders.nd rfl (.inl rfl))
        (pss_cons (ps_set (i := 4) scOrders.nd rfl (.inl rfl) (pe_lst pa_nil))
        (pss_cons (ps_for PassesOwn.never rfl (pi_list (pv 2)) (pg_name (i := 5) scOrders.nd rfl (.inr rfl))
          (pss_one (ps_for PassesOwn.never rfl (pi_range1 (by rfl) Z.range (pa_cons (pv 0) pa_nil)) (pg_name (i := 6) scOrders.nd rfl (.inr rfl))
            (pss_one (ps_if (PW.pt (pw_and (pt_cmpR (r := rIn K true) op_notIn_seq (pv 6) (pv 5) (by rfl)) (pw_and1 (pt_cmpR (r := rEqLn K) (op_eqLn (un_le hr (by decide)))
                (pe_lc (own := [("_law_pair", 7)]) (g := gName 7) (by rfl) scOrders.nd (pi_tup (pv 1))
                  (blkOk_by (own := [("_law_pair", 7)]) (N := ["_law_many", "_law_pairs", "_law_found", "_law_turn", "_law_longer", "_law_part", "_law_job", "_law_pair"]) (sc := defScope sOrders) (by decide +kernel))
                  (fun _ _ _ _ _ => pg_name (i := 7) scOrders.nd rfl (.inl rfl))
                  (fun _ _ _ _ _ => pts_one (PW.pt (pw_and (pt_cmpR op_eq (pe_ix (r := rIxT K) ix_tup (pv 7) pe_int (fun _ _ => rfl)) (pv 6) (nomark _)) (pw_and1 (pt_cmpR (r := rIn K true) op_notIn_seq (pe_ix (r := rIxT K) ix_tup (pv 7) pe_int (fun _ _ => rfl)) (pv 5) (by rfl))))))
                  (fun _ _ _ _ _ => pv 7)) (pe_lst pa_nil) (nomark _)))))
              (pss_one (ps_expr (pe_bm PySem.F.plainAttrs_list PySem.F.slot_list_append PySem.F.type_list_append mt_append (pv 4) (pa_cons (pe_op (r := rCatA K) op_catA (pv 5) (pe_tup (pa_cons (pv 6) pa_nil))) pa_nil)))) pss_nil)))))
        (pss_one (ps_set (i := 2) scOrders.nd rfl (.inl rfl) (pv 4))))))
      (pss_one (ps_ret (pv 2)))), ?_⟩
    -- found = [()]
    refine ⟨Nat.zero_le _, fun t0 nt0 => ⟨by show 1 ≤ sizeLine; decide, fun p0 np0 => ?_⟩⟩
    have sA := (same_upd (o := .tup []) nt0).trans (same_upd (o := .lst [V.ref t0]) np0)
    have O0 : OrdsAt (upd (upd H t0 (.tup [])) p0 (.lst [.ref t0])) p0 (Mth.ords n 0) := ⟨_, upd_same, .cons ⟨t0, rfl, (same_upd np0) _ _ upd_same⟩ .nil⟩
    have hp0 : H p0 = none := (same_upd nt0).free np0
    refine ⟨_, rfl, _, rfl, by omega, by omega, for_range (fun k σ H' => ∃ v3 v4 v5 v6 v7 p, σ = [some (.int (n : Nat)), some (.ref e), some (.ref p), v3, v4, v5, v6, v7] ∧ Same H H' ∧ H p = none ∧ OrdsAt H' p (Mth.ords n k)) ⟨none, none, none, none, none, p0, rfl, sA, hp0, O0⟩ ?_ ?_⟩
    · rintro k σ H1 hk ⟨v3, v4, v5, v6, v7, p, rfl, s1, hp, vs, hv, hvp⟩
      have hk : k < n := by omega
      have hpow : n ^ k ≤ 625 := Nat.le_trans (Nat.pow_le_pow_left hn k) (Nat.le_trans (Nat.pow_le_pow_right (by decide) (show k ≤ 4 by omega)) (by decide))
      have hol := ords_len n k
      -- longer = []
      refine ⟨Nat.zero_le _, fun q0 nq => ?_⟩
      have hq0 : H q0 = none := s1.free nq
      have hpq : p ≠ q0 := ne_of_none hv nq
      have W0 : OrW H (upd H1 q0 (.lst [])) p q0 vs (Mth.ords n k) (((Mth.ords n k).take 0).flatMap (grow n)) := by
        have s2 := same_upd (o := .lst []) nq
        obtain ⟨vs', e1, e2⟩ := OrdsAt.same ⟨vs, hv, hvp⟩ s2
        rw [s2 _ _ hv] at e1
        cases Option.some.inj e1
        exact ⟨s1.trans s2, s2 _ _ hv, e2, [], upd_same, .nil⟩
      refine ⟨_, rfl, p, rfl, ⟨_, SqL.of W0.found⟩, for_list (K := K) (a := p) (xs := vs) (fun i σ H' => ∃ v3 v5 v6 v7, σ = [some (.int (n : Nat)), some (.ref e), some (.ref p), v3, some (.ref q0), v5, v6, v7] ∧ OrW H H' p q0 vs (Mth.ords n k) (((Mth.ords n k).take i).flatMap (grow n)))
        ⟨_, _, _, _, rfl, W0⟩ (fun i σ H' _ ⟨_, _, _, _, _, W⟩ => SqL.of W.found) ?_ ?_⟩
      · rintro i x σ H2 hx ⟨v3, v5, v6, v7, rfl, W⟩
        have hlen := Paired.length W.fpair
        have hi := (List.getElem?_eq_some_iff.mp hx).1
        obtain ⟨o, ho⟩ : ∃ o, (Mth.ords n k)[i]? = some o := ⟨_, List.getElem?_eq_getElem (by omega)⟩
        obtain ⟨t, rfl, ht⟩ := paired_get W.fpair hx ho
        refine ⟨_, rfl, _, rfl, by omega, by omega, for_range (fun j σ H' => ∃ v6 v7, σ = [some (.int (n : Nat)), some (.ref e), some (.ref p), v3, some (.ref q0), some (.ref t), v6, v7] ∧ TupJ H' t o ∧ OrW H H' p q0 vs (Mth.ords n k) (((Mth.ords n k).take i).flatMap (grow n) ++ grow j o))
          ⟨v6, v7, rfl, ht, by
            show OrW H H2 p q0 vs _ (_ ++ [])
            rw [List.append_nil]
            exact W⟩ ?_ ?_⟩
        · rintro j σ H3 hj ⟨v6, v7, rfl, ht3, W3⟩
          have hj : j < n := by omega
          have ei : (0 : Int) + (j : Int) = (j : Int) := Int.zero_add _
          refine ⟨_, rfl, _, rfl, t, _, rfl, .inr (SqT.of ht3), rfl, flat_jobs o, _, rfl, ?_⟩
          show if (!inV (.int ((0 : Int) + (j : Int))) (jobs o)) = true then _ else _
          rw [ei, inV_jobs]
          by_cases hjo : j ∈ o
          · rw [decide_eq_true hjo]
            refine iteF (iteF ?_)
            refine ⟨_, _, rfl, ht3, ?_⟩
            rw [grow_no hjo]
            exact W3
          · rw [decide_eq_false hjo]
            refine iteT ?_
            have he3 : H3 e = some (.tup []) := W3.same _ _ he
            refine ⟨_, rfl, e, rfl, ⟨_, SqT.of he3⟩, fun D hD => lc_tup (K := K) (a := e) (xs := []) (fun i H' => H' = upd H3 D (.lst [])) rfl (fun i H' _ z => by
              rw [z]
              exact SqT.of ((same_upd hD) _ _ he3)) (fun i x H' hx => by simp at hx) ?_⟩
            rintro H4 rfl
            refine ⟨Nat.zero_le _, fun D2 hD2 => ?_⟩
            have s5 := (same_upd (o := .lst []) hD).trans (same_upd (o := .lst []) hD2)
            refine ⟨D, D2, [], [], rfl, rfl, SqL.of ((same_upd hD2) _ _ upd_same), SqL.of upd_same, _, rfl, ?_⟩
            refine iteT ?_
            have W5 := W3.ext s5
            have ht5 : TupJ _ t o := s5 _ _ ht3
            generalize upd (upd H3 D (.lst [])) D2 (.lst []) = H5 at W5 ht5 ⊢
            obtain ⟨ws, hw, hwp⟩ := W5.long
            have hwl : ws.length ≤ 4000 := by
              have h1 := Paired.length hwp
              have h2 := flat_len (n := n) ((Mth.ords n k).take i)
              have h3 := grow_len j o
              have h4 : ((Mth.ords n k).take i).length ≤ 625 := by
                rw [List.length_take]
                omega
              have h5 : ((Mth.ords n k).take i).length * n ≤ 625 * 5 := Nat.mul_le_mul h4 hn
              rw [List.length_append] at h1
              omega
            have hsz : ws.length < sizeLine := Nat.lt_of_le_of_lt hwl (by decide)
            have hoj : o.length = k := (Mth.ords_mem.mp (List.mem_of_getElem? ho)).2.2
            refine ⟨_, rfl, .inl ⟨rfl, _, .inl (.inl hw)⟩, _, rfl, _, rfl, by show 1 ≤ sizeLine; decide, fun b nb => ?_⟩
            have s6 := same_upd (o := .tup [V.int (j : Nat)]) nb
            have W6 := W5.ext s6
            refine ⟨t, b, jobs o, [.int (j : Nat)], rfl, rfl, SqT.of (s6 _ _ ht5), SqT.of upd_same, ?_, fun hz => ?_, (fun _ hz => by cases hz), fun _ _ u nu => ?_⟩
            · rw [List.length_map]
              show o.length + 1 ≤ sizeLine
              have := small1000 (n := o.length + 1) (by omega)
              omega
            · refine ⟨q0, _, _, rfl, rfl, s6 _ _ hw, hsz, ?_⟩
              refine ⟨_, _, rfl, ?_, ?_⟩
              · show upd _ _ _ t = _
                rw [upd_ne (ne_of (s6 _ _ ht5) (s6 _ _ hw) (fun z => by cases z))]
                exact s6 _ _ ht5
              · rw [grow_yes hjo, ← List.append_assoc]
                refine W6.snoc hq0 hpq (s6 _ _ hw) ?_
                have ho0 : o = [] := List.map_eq_nil_iff.mp hz
                show upd _ _ _ b = _
                rw [upd_same, ho0]
                rfl
            · have s7 := same_upd (o := .tup (jobs o ++ [V.int (j : Nat)])) nu
              have W7 := W6.ext s7
              refine ⟨q0, _, _, rfl, rfl, s7 _ _ (s6 _ _ hw), hsz, ?_⟩
              refine ⟨_, _, rfl, ?_, ?_⟩
              · show upd _ _ _ t = _
                rw [upd_ne (ne_of (s7 _ _ (s6 _ _ ht5)) (s7 _ _ (s6 _ _ hw)) (fun z => by cases z))]
                exact s7 _ _ (s6 _ _ ht5)
              · rw [grow_yes hjo, ← List.append_assoc]
                refine W7.snoc hq0 hpq (s7 _ _ (s6 _ _ hw)) ?_
                show upd _ _ _ u = _
                rw [upd_same, jobs_snoc]
        · rintro σ H3 ⟨v6, v7, rfl, ht3, W3⟩
          refine ⟨_, _, _, _, rfl, ?_⟩
          rw [flat_snoc ho]
          have e1 : (((n : Nat) : Int)).toNat = n := by omega
          exact W3
      · rintro σ H2 ⟨v3, v5, v6, v7, rfl, W⟩
        have hlen := Paired.length W.fpair
        have hg := W.long
        rw [hlen, List.take_length, ← ords_succ] at hg
        exact ⟨_, rfl, _, _, _, _, _, q0, rfl, W.same, hq0, hg⟩
    · rintro σ H1 ⟨v3, v4, v5, v6, v7, p, rfl, s1, hp, O1⟩
      exact ⟨_, rfl, q H1 p s1 O1⟩
end
end Sh
set_option Elab.async false
set_option linter.all false
set_option maxRecDepth 100000
set_option maxHeartbeats 4000000
/-! the law's helpers: _law_alike, of equal ints and of equal tuples of ints -/
namespace Sh
open PySem PySem.Spec PyProof.Rows L2
abbrev sAlike : Stmt := topS 36
theorem scAlike : FnScope ["_law_found", "_law_due", "_law_k"] ["_law_found", "_law_due"] (defScope sAlike) := ⟨rfl, rfl, rfl, by decide +kernel, rfl, by decide +kernel, by decide +kernel⟩
def spNever : Sp := fun _ _ _ _ => False
def spAlikeI : Sp := fun vs H Q _ => ∃ n : Int, vs = [.int n, .int n] ∧ ∀ H', Same H H' → Q (.bl true) H'
def spAlikeT : Sp := fun vs H Q _ => ∃ (a b : Addr) (js : List Nat), vs = [.ref a, .ref b] ∧ TupJ H a js ∧ TupJ H b js ∧ js.length ≤ 10 ∧ ∀ H', Same H H' → Q (.bl true) H'
section
variable {P : Program} {w : World} {K : PySem.W.Frag} {mg : Str → Option Value} {base : Heap} {f : Addr} {fd : FuncData}
theorem ok_never : FnOk P w K mg base CX0 0 f fd ["_law_found", "_law_due"] spNever := ⟨fun _ _ _ _ h => h.elim, fun _ _ _ _ _ _ _ _ _ _ _ _ _ h => h.elim⟩
theorem ok_alikeI (F : Fun K "_law_alike" "_law_alike" sAlike f fd) (Z : Free mg) (h1 : Has P w K mg base "_law_alike" 0 ["_law_found", "_law_due"] spNever) : FnOk P w K mg base CX0 1 f fd ["_law_found", "_law_due"] spAlikeI := by
  obtain ⟨f1, fd1, g1, k1, b1, G1⟩ := h1.ex
  refine F.ok scAlike (fun vs H Q E h => ?_) (fun cdv A outer s H vs Q E hr h => ?_)
  · obtain ⟨n, rfl, _⟩ := h
    rfl
  · obtain ⟨n, rfl, q⟩ := h
    refine ⟨_, pss_cons (ps_if (pt_val (pe_callB call_isiT (by rfl) Z.isinstance (by decide +kernel) (pa_cons (pv 1) (pa_cons (pe_tup (pa_cons (pe_bltn (v := .ty "tuple") (u := .type "tuple") (by rfl) Z.tuple (by decide +kernel) rfl) (pa_cons (pe_bltn (v := .ty "list") (u := .type "list") (by rfl) Z.list (by decide +kernel) rfl) pa_nil))) pa_nil))))
        (pss_cons (ps_if (PW.pt (pw_or (pt_not (pt_val (pe_callB call_isiT (by rfl) Z.isinstance (by decide +kernel) (pa_cons (pv 0) (pa_cons (pe_tup (pa_cons (pe_bltn (v := .ty "tuple") (u := .type "tuple") (by rfl) Z.tuple (by decide +kernel) rfl) (pa_cons (pe_bltn (v := .ty "list") (u := .type "list") (by rfl) Z.list (by decide +kernel) rfl) pa_nil))) pa_nil))))) (pw_or1 (pt_cmpR op_ne (pe_callB call_isi (by rfl) Z.isinstance (by decide +kernel) (pa_cons (pv 0) (pa_cons (pe_bltn (v := .ty "list") (u := .type "list") (by rfl) Z.list (by decide +kernel) rfl) pa_nil))) (pe_callB call_isi (by rfl) Z.isinstance (by decide +kernel) (pa_cons (pv 1) (pa_cons (pe_bltn (v := .ty "list") (u := .type "list") (by rfl) Z.list (by decide +kernel) rfl) pa_nil))) (nomark _))))) (pss_one (ps_ret pe_bl)) pss_nil)
        (pss_cons (ps_if (pt_cmpR op_ne (pe_callB call_len (by rfl) Z.len PySem.boot_len (pa_cons (pv 0) pa_nil)) (pe_callB call_len (by rfl) Z.len PySem.boot_len (pa_cons (pv 1) pa_nil)) (nomark _)) (pss_one (ps_ret pe_bl)) pss_nil)
        (pss_one (ps_ret (pe_cmpR (r := rEqLn K) (op_eqLn (un_le hr (by decide)))
          (pe_lc (own := [("_law_k", 2)]) (g := gName 2) (by rfl) scAlike.nd (pi_range1 (by rfl) Z.range (pa_cons (pe_callB call_len (by rfl) Z.len PySem.boot_len (pa_cons (pv 1) pa_nil)) pa_nil))
            (blkOk_by (own := [("_law_k", 2)]) (N := ["_law_found", "_law_due", "_law_k"]) (sc := defScope sAlike) (by decide +kernel)) (fun _ _ _ _ _ => pg_name (i := 2) scAlike.nd rfl (.inl rfl))
            (fun _ _ _ _ _ => pts_one (pt_not (pt_val (pe_call G1 (hr.mono (by decide)) (by rfl) g1 k1 b1 .nil pass0 (pa_cons (pe_ix (r := rIxT K) ix_tup (pv 0) (pv 2) (fun _ _ => rfl)) (pa_cons (pe_ix (r := rIxT K) ix_tup (pv 1) (pv 2) (fun _ _ => rfl)) pa_nil))))))
            (fun _ _ _ _ _ => pv 2)) (pe_lst pa_nil) (nomark _)))))) pss_nil)
      (pss_cons (ps_if (PW.pt (pw_or (pt_cmpR op_isN (pv 1) pe_non (nomark _)) (pw_or1 (pt_val (pe_callB call_isi (by rfl) Z.isinstance (by decide +kernel) (pa_cons (pv 1) (pa_cons (pe_bltn (v := .ty "str") (u := .type "str") (by rfl) Z.str (by decide +kernel) rfl) pa_nil)))))))
        (pss_one (ps_ret (pe_and (pe_cmpR op_eq (pv 0) (pv 1) (nomark _)) (pe_one (pe_cmpR op_eq (pe_callB call_isi (by rfl) Z.isinstance (by decide +kernel) (pa_cons (pv 0) (pa_cons (pe_bltn (v := .ty "str") (u := .type "str") (by rfl) Z.str (by decide +kernel) rfl) pa_nil))) (pe_callB call_isi (by rfl) Z.isinstance (by decide +kernel) (pa_cons (pv 1) (pa_cons (pe_bltn (v := .ty "str") (u := .type "str") (by rfl) Z.str (by decide +kernel) rfl) pa_nil))) (nomark _)))))) pss_nil)
      (pss_one (ps_ret (pe_and (pe_callB call_isi (by rfl) Z.isinstance (by decide +kernel) (pa_cons (pv 0) (pa_cons (pe_bltn (v := .ty "int") (u := .type "int") (by rfl) Z.int (by decide +kernel) rfl) pa_nil))) (pe_and (pe_cmpR op_eq (pe_callB call_isi (by rfl) Z.isinstance (by decide +kernel) (pa_cons (pv 0) (pa_cons (pe_bltn (v := .ty "bool") (u := .type "bool") (by rfl) Z.bool (by decide +kernel) rfl) pa_nil))) (pe_callB call_isi (by rfl) Z.isinstance (by decide +kernel) (pa_cons (pv 1) (pa_cons (pe_bltn (v := .ty "bool") (u := .type "bool") (by rfl) Z.bool (by decide +kernel) rfl) pa_nil))) (nomark _)) (pe_one (pe_cmpR op_eq (pv 0) (pv 1) (nomark _)))))))), ?_⟩
    refine ⟨_, rfl, by show 2 ≤ sizeLine; decide, fun t nt => ?_⟩
    refine ⟨_, t, _, .type "int", [.type "tuple", .type "list"], false, rfl, upd_same, .cons (.ty _) (.cons (.ty _) .nil), .base (.int n), kitAny_cons (b := false) (kit_ty (by decide +kernel)) (fun _ => kitAny_cons (b := false) (kit_ty (by decide +kernel)) (fun _ => kitAny_nil) (fun z => by cases z)) (fun z => by cases z), _, rfl, iteF ?_⟩
    refine ⟨_, rfl, rfl, _, rfl, ite2 (fun z => by have := of_decide_eq_true z; cases this) fun _ => ?_⟩
    refine ⟨_, rfl, _, _, .type "int", .type "str", false, rfl, .ty _, .base (.int n), kit_ty (by decide +kernel), _, rfl, iteF ?_⟩
    refine ⟨_, rfl, _, _, .type "int", .type "int", true, rfl, .ty _, .base (.int n), kit_ty (by decide +kernel), true, rfl, iteT ?_⟩
    refine ⟨_, rfl, _, _, .type "int", .type "bool", false, rfl, .ty _, .base (.int n), kit_ty (by decide +kernel), _, rfl, _, _, .type "int", .type "bool", false, rfl, .ty _, .base (.int n), kit_ty (by decide +kernel), rfl, true, rfl, iteT ?_⟩
    exact ⟨_, rfl, _, rfl, rfl, qT (q _ (same_upd nt)) (decide_eq_true rfl)⟩
theorem ok_alikeT (F : Fun K "_law_alike" "_law_alike" sAlike f fd) (Z : Free mg) (h1 : Has P w K mg base "_law_alike" 1 ["_law_found", "_law_due"] spAlikeI) : FnOk P w K mg base CX0 2 f fd ["_law_found", "_law_due"] spAlikeT := by
  obtain ⟨f1, fd1, g1, k1, b1, G1⟩ := h1.ex
  refine F.ok scAlike (fun vs H Q E h => ?_) (fun cdv A outer s H vs Q E hr h => ?_)
  · obtain ⟨a, b, js, rfl, _⟩ := h
    rfl
  · obtain ⟨a, b, js, rfl, ha, hb, hl, q⟩ := h
    refine ⟨_, pss_cons (ps_if (pt_val (pe_callB call_isiT (by rfl) Z.isinstance (by decide +kernel) (pa_cons (pv 1) (pa_cons (pe_tup (pa_cons (pe_bltn (v := .ty "tuple") (u := .type "tuple") (by rfl) Z.tuple (by decide +kernel) rfl) (pa_cons (pe_bltn (v := .ty "list") (u := .type "list") (by rfl) Z.list (by decide +kernel) rfl) pa_nil))) pa_nil))))
        (pss_cons (ps_if (PW.pt (pw_or (pt_not (pt_val (pe_callB call_isiT (by rfl) Z.isinstance (by decide +kernel) (pa_cons (pv 0) (pa_cons (pe_tup (pa_cons (pe_bltn (v := .ty "tuple") (u := .type "tuple") (by rfl) Z.tuple (by decide +kernel) rfl) (pa_cons (pe_bltn (v := .ty "list") (u := .type "list") (by rfl) Z.list (by decide +kernel) rfl) pa_nil))) pa_nil))))) (pw_or1 (pt_cmpR op_ne (pe_callB call_isi (by rfl) Z.isinstance (by decide +kernel) (pa_cons (pv 0) (pa_cons (pe_bltn (v := .ty "list") (u := .type "list") (by rfl) Z.list (by decide +kernel) rfl) pa_nil))) (pe_callB call_isi (by rfl) Z.isinstance (by decide +kernel) (pa_cons (pv 1) (pa_cons (pe_bltn (v := .ty "list") (u := .type "list") (by rfl) Z.list (by decide +kernel) rfl) pa_nil))) (nomark _))))) (pss_one (ps_ret pe_bl)) pss_nil)
        (pss_cons (ps_if (pt_cmpR op_ne (pe_callB call_len (by rfl) Z.len PySem.boot_len (pa_cons (pv 0) pa_nil)) (pe_callB call_len (by rfl) Z.len PySem.boot_len (pa_cons (pv 1) pa_nil)) (nomark _)) (pss_one (ps_ret pe_bl)) pss_nil)
        (pss_one (ps_ret (pe_cmpR (r := rEqLn K) (op_eqLn (un_le hr (by decide)))
          (pe_lc (own := [("_law_k", 2)]) (g := gName 2) (by rfl) scAlike.nd (pi_range1 (by rfl) Z.range (pa_cons (pe_callB call_len (by rfl) Z.len PySem.boot_len (pa_cons (pv 1) pa_nil)) pa_nil))
            (blkOk_by (own := [("_law_k", 2)]) (N := ["_law_found", "_law_due", "_law_k"]) (sc := defScope sAlike) (by decide +kernel)) (fun _ _ _ _ _ => pg_name (i := 2) scAlike.nd rfl (.inl rfl))
            (fun _ _ _ _ _ => pts_one (pt_not (pt_val (pe_call G1 (hr.mono (by decide)) (by rfl) g1 k1 b1 .nil pass0 (pa_cons (pe_ix (r := rIxT K) ix_tup (pv 0) (pv 2) (fun _ _ => rfl)) (pa_cons (pe_ix (r := rIxT K) ix_tup (pv 1) (pv 2) (fun _ _ => rfl)) pa_nil))))))
            (fun _ _ _ _ _ => pv 2)) (pe_lst pa_nil) (nomark _)))))) pss_nil)
      (pss_cons (ps_if (PW.pt (pw_or (pt_cmpR op_isN (pv 1) pe_non (nomark _)) (pw_or1 (pt_val (pe_callB call_isi (by rfl) Z.isinstance (by decide +kernel) (pa_cons (pv 1) (pa_cons (pe_bltn (v := .ty "str") (u := .type "str") (by rfl) Z.str (by decide +kernel) rfl) pa_nil)))))))
        (pss_one (ps_ret (pe_and (pe_cmpR op_eq (pv 0) (pv 1) (nomark _)) (pe_one (pe_cmpR op_eq (pe_callB call_isi (by rfl) Z.isinstance (by decide +kernel) (pa_cons (pv 0) (pa_cons (pe_bltn (v := .ty "str") (u := .type "str") (by rfl) Z.str (by decide +kernel) rfl) pa_nil))) (pe_callB call_isi (by rfl) Z.isinstance (by decide +kernel) (pa_cons (pv 1) (pa_cons (pe_bltn (v := .ty "str") (u := .type "str") (by rfl) Z.str (by decide +kernel) rfl) pa_nil))) (nomark _)))))) pss_nil)
      (pss_one (ps_ret (pe_and (pe_callB call_isi (by rfl) Z.isinstance (by decide +kernel) (pa_cons (pv 0) (pa_cons (pe_bltn (v := .ty "int") (u := .type "int") (by rfl) Z.int (by decide +kernel) rfl) pa_nil))) (pe_and (pe_cmpR op_eq (pe_callB call_isi (by rfl) Z.isinstance (by decide +kernel) (pa_cons (pv 0) (pa_cons (pe_bltn (v := .ty "bool") (u := .type "bool") (by rfl) Z.bool (by decide +kernel) rfl) pa_nil))) (pe_callB call_isi (by rfl) Z.isinstance (by decide +kernel) (pa_cons (pv 1) (pa_cons (pe_bltn (v := .ty "bool") (u := .type "bool") (by rfl) Z.bool (by decide +kernel) rfl) pa_nil))) (nomark _)) (pe_one (pe_cmpR op_eq (pv 0) (pv 1) (nomark _)))))))), ?_⟩
    refine ⟨_, rfl, by show 2 ≤ sizeLine; decide, fun t nt => ?_⟩
    have s1 := same_upd (o := .tup [V.ty "tuple", V.ty "list"]) nt
    have isT : PySem.W.kitAny K (.type "tuple") [.type "tuple", .type "list"] = some true := kitAny_cons (b := true) (kit_ty (by decide +kernel)) (fun z => by cases z) (fun _ => rfl)
    refine ⟨_, t, _, .type "tuple", [.type "tuple", .type "list"], true, rfl, upd_same, .cons (.ty _) (.cons (.ty _) .nil), .base (.tup (s1 _ _ hb)), isT, _, rfl, iteT ?_⟩
    refine ⟨_, rfl, by show 2 ≤ sizeLine; decide, fun t2 nt2 => ?_⟩
    have s2 := s1.trans (same_upd (o := .tup [V.ty "tuple", V.ty "list"]) nt2)
    refine ⟨_, t2, _, .type "tuple", [.type "tuple", .type "list"], true, rfl, upd_same, .cons (.ty _) (.cons (.ty _) .nil), .base (.tup (s2 _ _ ha)), isT, _, rfl, iteF ?_⟩
    have ha := s2 _ _ ha
    have hb := s2 _ _ hb
    generalize upd (upd H t (.tup [V.ty "tuple", V.ty "list"])) t2 (.tup [V.ty "tuple", V.ty "list"]) = H2 at s2 ha hb ⊢
    refine ⟨_, rfl, _, _, .type "tuple", .type "list", false, rfl, .ty _, .base (.tup ha), kit_ty (by decide +kernel), _, rfl, _, _, .type "tuple", .type "list", false, rfl, .ty _, .base (.tup hb), kit_ty (by decide +kernel), rfl, _, rfl, ite2 (fun z => by simp at z) fun _ => ?_⟩
    refine ⟨_, rfl, _, (jobs js).length, rfl, .inr ⟨_, SqT.of ha, rfl⟩, _, rfl, _, (jobs js).length, rfl, .inr ⟨_, SqT.of hb, rfl⟩, rfl, _, rfl, ite2 (fun z => by simp at z) fun _ => ?_⟩
    refine ⟨_, rfl, _, (jobs js).length, rfl, .inr ⟨_, SqT.of hb, rfl⟩, _, rfl, by omega, by rw [List.length_map]; omega, fun D hD => lc_range (fun i H' => Same H2 H' ∧ H' D = some (.lst [])) ⟨same_upd hD, upd_same⟩ ?_ ?_⟩
    · rintro i H3 hi ⟨s3, hD3⟩
      have hi : i < js.length := by
        rw [List.length_map] at hi
        omega
      have ei : (0 : Int) + (i : Int) = (i : Int) := Int.zero_add _
      have hat : atI (jobs js) ((0 : Int) + (i : Int)) = some (.int ((js[i] : Nat) : Int)) := by
        rw [ei]
        refine atI_nat ?_
        rw [List.getElem?_map, List.getElem?_eq_getElem hi]
        rfl
      refine ⟨rfl, ?_⟩
      refine ⟨_, rfl, _, rfl, a, _, _, _, rfl, rfl, SqT.of (s3 _ _ ha), hat, _, rfl, _, rfl, b, _, _, _, rfl, rfl, SqT.of (s3 _ _ hb), hat, _, rfl, fun H4 s4 => ⟨_, rfl, iteF ?_⟩⟩
      exact ⟨s3.trans s4, s4 _ _ hD3⟩
    · rintro H3 ⟨s3, hD3⟩
      refine ⟨Nat.zero_le _, fun D2 hD2 => ⟨D, D2, [], [], rfl, rfl, SqL.of ((same_upd hD2) _ _ hD3), SqL.of upd_same, qT (q _ ((s2.trans s3).trans (same_upd hD2))) (decide_eq_true rfl)⟩⟩
end
end Sh
set_option Elab.async false
set_option linter.all false
set_option maxRecDepth 100000
set_option maxHeartbeats 4000000
/-! what the law's lists say; the words of its loops -/
namespace Sh
open PySem PySem.Spec PyProof.Rows L2
theorem sorted_uniq : ∀ {a b : List Int}, a.Perm b → a.Pairwise (· ≤ ·) → b.Pairwise (· ≤ ·) → a = b
  | [], b, h, _, _ => by
    have := h.length_eq
    exact (List.length_eq_zero_iff.mp this.symm).symm
  | x :: a, b, h, ha, hb => by
    cases b with
    | nil => exact absurd h.length_eq (by simp)
    | cons y b =>
      have ha' := List.pairwise_cons.mp ha
      have hb' := List.pairwise_cons.mp hb
      have h1 : x = y := by
        have hx : x ∈ y :: b := h.mem_iff.mp List.mem_cons_self
        have hy : y ∈ x :: a := h.mem_iff.mpr List.mem_cons_self
        rcases List.mem_cons.mp hx with e | e
        · exact e
        · rcases List.mem_cons.mp hy with e2 | e2
          · exact e2.symm
          · exact Int.le_antisymm (ha'.1 _ e2) (hb'.1 _ e)
      subst h1
      rw [sorted_uniq h.cons_inv ha'.2 hb'.2]
theorem castJ_range_le (n : Nat) : (castJ (List.range n)).Pairwise (· ≤ ·) := by
  rw [List.pairwise_map]
  exact List.pairwise_lt_range.imp fun h => by omega
theorem castJ_perm {a b : List Nat} (h : a.Perm b) : (castJ a).Perm (castJ b) := h.map _
theorem sorted_range {n : Nat} {ns : List Int} {o : List Nat} (h : ns.Perm (castJ o)) (hs : ns.Pairwise (· ≤ ·)) (ho : o.Perm (List.range n)) : ns = castJ (List.range n) :=
  sorted_uniq (h.trans (castJ_perm ho)) hs (castJ_range_le n)
theorem int_perm_of {A B : List Int} : A.Nodup → B.Nodup → (∀ x, x ∈ A ↔ x ∈ B) → A.Perm B := by
  induction A generalizing B with
  | nil =>
    intro _ _ h
    cases B with
    | nil => exact List.Perm.refl _
    | cons b B => exact absurd ((h b).mpr List.mem_cons_self) (by simp)
  | cons a A ih =>
    intro hA hB h
    have hA' := List.nodup_cons.mp hA
    have hm : a ∈ B := (h a).mp List.mem_cons_self
    have p := List.perm_cons_erase hm
    have hB' := List.nodup_cons.mp (p.nodup_iff.mp hB)
    refine (List.Perm.cons a (ih hA'.2 hB'.2 fun x => ?_)).trans p.symm
    constructor
    · intro hx
      have hxa : x ≠ a := fun e => hA'.1 (e ▸ hx)
      exact (List.mem_erase_of_ne hxa).mpr ((h x).mp (List.mem_cons_of_mem a hx))
    · intro hx
      have hxa : x ≠ a := fun e => hB'.1 (e ▸ hx)
      rcases List.mem_cons.mp ((h x).mpr (List.mem_of_mem_erase hx)) with e | e
      · exact absurd e hxa
      · exact e
theorem sorted_set {ns : List Int} {K : List Nat} (h1 : ns.Pairwise (· < ·)) (h2 : ∀ k : Int, k ∈ ns ↔ decide (k ∈ castJ K) = true) (hs : K.Pairwise (· ≤ ·)) (hn : K.Nodup) : castJ K = ns := by
  refine (sorted_uniq (int_perm_of ?_ (cast_nodup hn) fun x => (h2 x).trans decide_eq_true_iff) (h1.imp fun h => by omega) ?_).symm
  · exact h1.imp fun h e => by omega
  · show (K.map _).Pairwise _
    rw [List.pairwise_map]
    exact hs.imp fun h => by omega
theorem lats_mem {T D : Nat → Int} {n : Nat} {o : List Nat} {x : Int} : x ∈ lats T D n o ↔ ∃ i, i < n ∧ x = Mth.endAt T o i - D i := by
  unfold lats
  rw [List.mem_map]
  constructor
  · rintro ⟨i, hi, e⟩
    exact ⟨i, List.mem_range.mp hi, e.symm⟩
  · rintro ⟨i, hi, e⟩
    exact ⟨i, List.mem_range.mpr hi, e.symm⟩
theorem least_late {T D : Nat → Int} {n : Nat} {e o : List Nat} {m k : Int} (hpe : e.Perm (List.range n)) (hs : Mth.Srt D e) (hT : ∀ i ∈ e, 0 ≤ T i) (hm : IsMax m (lats T D n e)) (hk : IsMax k (lats T D n o)) (hp : o.Perm (List.range n)) : m ≤ k := by
  obtain ⟨j, hj, rfl⟩ := lats_mem.mp hm.1
  obtain ⟨i, hi, h⟩ := Mth.edd_le (hp.trans hpe.symm) (hpe.nodup_iff.mpr List.nodup_range) hs hT (hpe.mem_iff.mpr (List.mem_range.mpr hj))
  exact Int.le_trans h (hk.2 _ (lats_mem.mpr ⟨i, List.mem_range.mp (hpe.mem_iff.mp hi), rfl⟩))
/-- in due order, what can be on time is on time -/
theorem feas_run {T D : Nat → Int} {e K L : List Nat} (hs : Mth.Srt D e) (hn : e.Nodup) (hK : K.Sublist e) (hend : ∀ i ∈ K, Mth.endAt T K i ≤ D i) (hp : L.Perm K) (hL : Mth.Srt D L) {i j : Nat} (hj : L[i]? = some j) : Mth.sumT T (L.take (i + 1)) ≤ D j := by
  have hKn := hn.sublist hK
  have hLn : L.Nodup := hp.nodup_iff.mpr hKn
  have f := Mth.feas_perm hp.symm ((Mth.feas_ends hKn (hs.sublist hK)).mpr hend)
  have h := (Mth.feas_ends hLn hL).mp f j (List.mem_of_getElem? hj)
  have e1 : L = L.take (i + 1) ++ L.drop (i + 1) := (List.take_append_drop _ _).symm
  have h1 := not_in_take hLn hj
  rw [e1, Mth.endAt_append T _ _ j (by rw [take_snoc hj]; exact List.mem_append_right _ (List.mem_singleton.mpr rfl)), take_snoc hj, Mth.endAt_append_r T _ _ j h1, Mth.endAt_self] at h
  rw [take_snoc hj, Mth.sumT_append, Mth.sumT_one]
  exact h
abbrev fewL (T D : Nat → Int) (n : Nat) (os : List (List Nat)) : List Int := os.map fun o => ((Mth.lateL T D n o).length : Int)
abbrev lightL (T W D : Nat → Int) (n : Nat) (os : List (List Nat)) : List Int := os.map fun o => Mth.sumT W (Mth.lateL T D n o)
/-- the word of the loop over the orders -/
structure LoopW (T : Tbl) (H1 Hx : Hp) (po la fe li : Addr) (vs : List V) (ts ws ds : List Int) (i : Nat) (ls : List Int) : Prop where
  ext : Ext H1 Hx
  tabs : LamX.Tabs T Hx
  found : Hx po = some (.lst vs)
  fpair : Paired (PJ Hx) vs (Mth.ords ts.length ts.length)
  h1 : Hx la = some (.lst (ls.map V.int))
  h2 : Hx fe = some (.lst ((fewL (Dof ts) (Dof ds) ts.length ((Mth.ords ts.length ts.length).take i)).map V.int))
  h3 : Hx li = some (.lst ((lightL (Dof ts) (Dof ws) (Dof ds) ts.length ((Mth.ords ts.length ts.length).take i)).map V.int))
  lp : Paired (fun m o => IsMax m (lats (Dof ts) (Dof ds) ts.length o)) ls ((Mth.ords ts.length ts.length).take i)
def Exc3 (a b c : Addr) (H H' : Hp) : Prop := ∀ x o, x ≠ a → x ≠ b → x ≠ c → H x = some o → H' x = some o
theorem LoopW.step {T : Tbl} {H1 Hx H' : Hp} {po la fe li : Addr} {vs : List V} {ts ws ds : List Int} {i : Nat} {ls ls' : List Int} (W : LoopW T H1 Hx po la fe li vs ts ws ds i ls) (e : Exc3 la fe li Hx H') (n1 : H1 la = none) (n2 : H1 fe = none) (n3 : H1 li = none)
    (p1 : po ≠ la) (p2 : po ≠ fe) (p3 : po ≠ li) (h1 : H' la = some (.lst (ls'.map V.int))) (h2 : H' fe = some (.lst ((fewL (Dof ts) (Dof ds) ts.length ((Mth.ords ts.length ts.length).take (i + 1))).map V.int)))
    (h3 : H' li = some (.lst ((lightL (Dof ts) (Dof ws) (Dof ds) ts.length ((Mth.ords ts.length ts.length).take (i + 1))).map V.int))) (lp : Paired (fun m o => IsMax m (lats (Dof ts) (Dof ds) ts.length o)) ls' ((Mth.ords ts.length ts.length).take (i + 1))) :
    LoopW T H1 H' po la fe li vs ts ws ds (i + 1) ls' := by
  have kp : ∀ x o, Hx x = some o → (∀ xs, o ≠ .lst xs) → H' x = some o := fun x o h n => e x o (ne_of h W.h1 (n _)) (ne_of h W.h2 (n _)) (ne_of h W.h3 (n _)) h
  refine ⟨fun x o h ht => e x o (ne_of_none h n1) (ne_of_none h n2) (ne_of_none h n3) (W.ext x o h ht), fun q hq => ?_, e _ _ p1 p2 p3 W.found, Paired.mapP W.fpair fun v o ⟨t, e1, e2⟩ => ⟨t, e1, kp _ _ e2 (fun xs z => by cases z)⟩, h1, h2, h3, lp⟩
  obtain ⟨ps, f1, f2, f3⟩ := W.tabs q hq
  refine ⟨ps, kp _ _ f1 (fun xs z => by cases z), f2, fun pos cv hc => ?_⟩
  obtain ⟨c, e1, e2⟩ := f3 pos cv hc
  exact ⟨c, e1, kp _ _ e2 (fun xs z => by unfold LamX.CodeO at z; cases z)⟩
/-- the three least values are those of the three answers -/
theorem min_late {T D : Nat → Int} {n : Nat} {e : List Nat} {m k : Int} {ls : List Int} (hpe : e.Perm (List.range n)) (hs : Mth.Srt D e) (hT : ∀ i ∈ e, 0 ≤ T i) (lp : Paired (fun m o => IsMax m (lats T D n o)) ls (Mth.ords n n)) (hm : IsMax m (lats T D n e)) (hk : k ∈ ls) (hl : ∀ y ∈ ls, k ≤ y) : m = k := by
  have hle := Paired.length lp
  refine Int.le_antisymm ?_ ?_
  · obtain ⟨i, hi, ei⟩ := List.getElem_of_mem hk
    have h1 := paired_get lp (List.getElem?_eq_getElem hi) (List.getElem?_eq_getElem (show i < (Mth.ords n n).length by omega))
    rw [ei] at h1
    exact least_late hpe hs hT hm h1 (Mth.ords_perm.mp (List.getElem_mem _))
  · obtain ⟨i, hi, ei⟩ := List.getElem_of_mem (Mth.ords_perm.mpr hpe)
    have h1 := paired_get lp (List.getElem?_eq_getElem (show i < ls.length by omega)) (List.getElem?_eq_getElem hi)
    rw [ei] at h1
    have h2 := hl _ (List.getElem_mem (show i < ls.length by omega))
    rw [h1.uniq hm] at h2
    exact h2
theorem min_few {T D : Nat → Int} {n : Nat} {e K R : List Nat} {k : Int} (hpe : e.Perm (List.range n)) (hs : Mth.Srt D e) (hT : ∀ i ∈ e, 0 ≤ T i) (M : Mth.MInv T D e K) (hpR : (K ++ R).Perm (List.range n)) (hk : k ∈ fewL T D n (Mth.ords n n)) (hl : ∀ y ∈ fewL T D n (Mth.ords n n), k ≤ y) : ((Mth.lateL T D n (K ++ R)).length : Int) = k := by
  refine Int.le_antisymm ?_ (hl _ (List.mem_map.mpr ⟨_, Mth.ords_perm.mpr hpR, rfl⟩))
  obtain ⟨o, ho, e⟩ := List.mem_map.mp hk
  have h := Mth.moore_least hpe hs hT M hpR (Mth.ords_perm.mp ho)
  omega
theorem min_light {T W D : Nat → Int} {n : Nat} {e K : List Nat} {rows : Mth.Rows} {s wt k : Int} (hpe : e.Perm (List.range n)) (hs : Mth.Srt D e) (hT : ∀ i ∈ e, 0 ≤ T i) (hW : ∀ i ∈ e, 0 ≤ W i) (I : Mth.DInv T W D e rows) (hx : (s, (wt, K)) ∈ rows) (hmin : ∀ x ∈ rows, wt ≤ x.2.1)
    (hk : k ∈ lightL T W D n (Mth.ords n n)) (hl : ∀ y ∈ lightL T W D n (Mth.ords n n), k ≤ y) : wt = k := by
  have hne : e.Nodup := hpe.nodup_iff.mpr List.nodup_range
  obtain ⟨g1, g2, g3, g4⟩ := I.good _ hx
  refine Int.le_antisymm ?_ ?_
  · obtain ⟨o, ho, e1⟩ := List.mem_map.mp hk
    have h := Mth.dp_least (r := (wt, K)) I hpe hs hT hmin (Mth.ords_perm.mp ho)
    have h' : wt ≤ Mth.sumT W (Mth.lateL T D n o) := h
    omega
  · have hKn := hne.sublist g1
    have hp : (K ++ e.filter fun x => !decide (x ∈ K)).Perm (List.range n) := by
      refine Mth.perm_of ?_ List.nodup_range (fun x hx => ?_) fun x hx => ?_
      · rw [List.nodup_append]
        refine ⟨hKn, hne.sublist List.filter_sublist, fun x hx y hy e => ?_⟩
        have hy' := (List.mem_filter.mp hy).2
        rw [← e] at hy'
        simp [hx] at hy'
      · rcases List.mem_append.mp hx with z | z
        · exact hpe.mem_iff.mp (g1.subset z)
        · exact hpe.mem_iff.mp (List.mem_filter.mp z).1
      · by_cases z : x ∈ K
        · exact List.mem_append_left _ z
        · exact List.mem_append_right _ (List.mem_filter.mpr ⟨hpe.mem_iff.mpr hx, by simp [z]⟩)
    have h1 := Mth.dp_has (D := D) (K := K) (R := e.filter fun x => !decide (x ∈ K)) hpe g2 hW
    have h2 := hl _ (List.mem_map.mpr ⟨_, Mth.ords_perm.mpr hp, rfl⟩)
    have h3 : wt = Mth.sumT W (Mth.out e K) := g4
    omega
theorem out_sum {W : Nat → Int} {n : Nat} {e K K' : List Nat} (hpe : e.Perm (List.range n)) (hK : K'.Perm K) : (((List.range n).filter fun k => !decide (k ∈ K')).map W).sum = Mth.sumT W (Mth.out e K) := by
  show Mth.sumT W _ = _
  unfold Mth.out
  have e1 : ((List.range n).filter fun k => !decide (k ∈ K')) = (List.range n).filter fun i => decide (i ∉ K) := by
    refine Mth.filter_cong fun i _ => ?_
    rw [decide_not, decide_eq_decide.mpr hK.mem_iff]
  rw [e1]
  exact (Mth.sumT_perm (hpe.filter _)).symm
/-! ### pairs (due, job) -/
def pairK (H : Hp) (v : V) : Int × Int := match v with
  | .ref t => match H t with
    | some (.tup [.int a, .int b]) => (a, b)
    | _ => (0, 0)
  | _ => (0, 0)
theorem pairK_at {H : Hp} {t : Addr} {a b : Int} (h : H t = some (.tup [.int a, .int b])) : pairK H (.ref t) = (a, b) := by
  unfold pairK
  simp only [h]
def PD (H : Hp) (ds : List Int) (v : V) (j : Nat) : Prop := ∃ t, v = .ref t ∧ H t = some (.tup [.int (Dof ds j), .int (j : Nat)])
theorem paired_imp_rel {α β : Type} {R : α → β → Prop} {P : α → α → Prop} {Q : β → β → Prop} (h : ∀ x y a b, R x a → R y b → P x y → Q a b) : ∀ {l : List α} {m : List β}, Paired R l m → l.Pairwise P → m.Pairwise Q
  | [], [], .nil, _ => List.Pairwise.nil
  | x :: l, a :: m, .cons r t, p => by
    have p' := List.pairwise_cons.mp p
    refine List.pairwise_cons.mpr ⟨fun b hb => ?_, paired_imp_rel h t p'.2⟩
    obtain ⟨i, hi, e⟩ := List.getElem_of_mem hb
    have hl := Paired.length t
    have h1 : l[i]? = some (l[i]'(by omega)) := List.getElem?_eq_getElem (by omega)
    have h2 := paired_get t h1 (List.getElem?_eq_getElem hi)
    rw [e] at h2
    exact h _ _ _ _ r h2 (p'.1 _ (List.getElem_mem _))
theorem pd_at {H : Hp} {ds : List Int} {v : V} {j : Nat} (h : PD H ds v j) : pairK H v = (Dof ds j, ((j : Nat) : Int)) := by
  obtain ⟨t, rfl, e⟩ := h
  exact pairK_at e
theorem pd_srt {H : Hp} {ds : List Int} {ys : List V} {L : List Nat} (p : Paired (PD H ds) ys L) (h : SrtO.Srtd (ltP (pairK H)) ys) : Mth.Srt (Dof ds) L := by
  refine paired_imp_rel (P := fun x y => ltP (pairK H) y x = false) (fun x y a b r1 r2 hxy => ?_) p h
  have h1 := SrtO.lexB_no.mp hxy
  rw [pd_at r1, pd_at r2] at h1
  exact Mth.ele_iff.mpr (by
    have h2 : ¬ (Dof ds b < Dof ds a ∨ Dof ds b = Dof ds a ∧ ((b : Nat) : Int) < ((a : Nat) : Int)) := h1
    omega)
theorem paired_perm {α β : Type} {R : α → β → Prop} : ∀ {ys xs : List α} {b : List β}, ys.Perm xs → Paired R xs b → ∃ c, c.Perm b ∧ Paired R ys c := by
  intro ys xs b h
  induction h generalizing b with
  | nil => intro p; exact ⟨b, List.Perm.refl _, p⟩
  | cons x h ih =>
    intro p
    cases p with
    | cons r t =>
      obtain ⟨c, h1, h2⟩ := ih t
      exact ⟨_, h1.cons _, .cons r h2⟩
  | swap x y l =>
    intro p
    cases p with
    | cons r t =>
      cases t with
      | cons r2 t2 => exact ⟨_, List.Perm.swap _ _ _, .cons r2 (.cons r t2)⟩
  | trans h1 h2 ih1 ih2 =>
    intro p
    obtain ⟨c, e1, e2⟩ := ih2 p
    obtain ⟨d, f1, f2⟩ := ih1 e2
    exact ⟨d, f1.trans e1, f2⟩
end Sh
set_option Elab.async false
set_option linter.all false
set_option maxRecDepth 100000
set_option maxHeartbeats 4000000
/-! the law -/
namespace Sh
open PySem PySem.Spec PyProof.Rows L2
abbrev sLaw : Stmt := topS 42
abbrev nLaw : List Str := ["_law_script", "_law_row", "_law_times", "_law_weights", "_law_dues", "_law_many", "_law_late_here", "_law_few", "_law_light", "_law_order_here", "_law_ends_here", "_law_some", "_law_best", "_law_weight", "_law_kept", "_law_day", "_law_job", "_law_due", "_law_at"]
theorem scLaw : FnScope nLaw ["_law_script"] (defScope sLaw) := ⟨rfl, rfl, rfl, by decide +kernel, rfl, by decide +kernel, by decide +kernel⟩
def spLaw (K : PySem.W.Frag) (T : Tbl) (sa : Addr) : Sp := fun vs H Q _ => vs = [.ref sa] ∧ (∃ ns : List Int, SqL K H sa (ns.map V.int)) ∧ LamX.Tabs T H ∧ ∀ H', Q (.bl true) H'
section
variable {P : Program} {w : World} {K : PySem.W.Frag} {mg : Str → Option Value} {base : Heap} {f : Addr} {fd : FuncData} {sa : Addr} {T : Tbl}
theorem ok_law (F : Fun K "law" "law" sLaw f fd) (Z : Free mg) (h1 : Has P w K mg base "_law_jobs" 3 ["_law_row", "_law_most", "_law_time"] (spJobs K sa)) (h2 : Has P w K mg base "_law_orders" 1 ["_law_many", "_law_pairs"] spOrders)
    (h3 : Has P w K mg base "_law_ends" 1 ["_law_times", "_law_order_here"] spEndsIn) (h4 : Has P w K mg base "_law_late" 2 ["_law_times", "_law_dues", "_law_order_here"] spLatenessIn)
    (h5 : Has P w K mg base "due_order" 6 ["times", "dues"] (spDueOrder T)) (h6 : Has P w K mg base "lateness" 6 ["times", "dues", "order"] spLateness) (h7 : Has P w K mg base "fewest_late" 6 ["times", "dues"] (spFewestLate T))
    (h8 : Has P w K mg base "late_jobs" 6 ["times", "dues", "order"] spLateJobs) (h9 : Has P w K mg base "least_late_weight" 6 ["times", "weights", "dues"] (spLeastLate T)) (h10 : Has P w K mg base "_law_order" 2 ["_law_row", "_law_many"] (spOrder K sa))
    (h11 : Has P w K mg base "_law_alike" 2 ["_law_found", "_law_due"] spAlikeT) (h12 : Has P w K mg base "_law_alike" 1 ["_law_found", "_law_due"] spAlikeI) :
    FnOk P w K mg base CX0 7 f fd ["_law_script"] (spLaw K T sa) := by
  obtain ⟨f1, fd1, g1, k1, b1, G1⟩ := h1.ex
  obtain ⟨f2, fd2, g2, k2, b2, G2⟩ := h2.ex
  obtain ⟨f3, fd3, g3, k3, b3, G3⟩ := h3.ex
  obtain ⟨f4, fd4, g4, k4, b4, G4⟩ := h4.ex
  obtain ⟨f5, fd5, g5, k5, b5, G5⟩ := h5.ex
  obtain ⟨f6, fd6, g6, k6, b6, G6⟩ := h6.ex
  obtain ⟨f7, fd7, g7, k7, b7, G7⟩ := h7.ex
  obtain ⟨f8, fd8, g8, k8, b8, G8⟩ := h8.ex
  obtain ⟨f9, fd9, g9, k9, b9, G9⟩ := h9.ex
  obtain ⟨f10, fd10, g10, k10, b10, G10⟩ := h10.ex
  obtain ⟨f11, fd11, g11, k11, b11, G11⟩ := h11.ex
  obtain ⟨f12, fd12, g12, k12, b12, G12⟩ := h12.ex
  refine F.ok scLaw (fun vs H Q E h => ?_) (fun cdv A outer s H vs Q E hr h => ?_)
  · obtain ⟨rfl, _⟩ := h
    rfl
  · obtain ⟨rfl, hS, hT, q⟩ := h
    have hr1 : Room 1 _ := hr.mono (by decide)
    have hr2 : Room 2 _ := hr.mono (by decide)
    have hr3 : Room 3 _ := hr.mono (by decide)
    have nd := scLaw.nd
    refine ⟨_, pss_cons (ps_set (i := 1) nd rfl (.inl rfl) (pe_lst (pa_cons (pv 0) (pa_cons pe_int (pa_cons pe_int (pa_cons pe_int pa_nil))))))
      (pss_cons (ps_asg (pe_call G1 hr3 (by rfl) g1 k1 b1 .nil pass0 (pa_cons (pv 1) (pa_cons pe_int (pa_cons pe_int pa_nil)))) (pg_tup rfl (pgs_cons (pg_name (i := 2) nd rfl (.inl rfl)) (pgs_cons (pg_name (i := 3) nd rfl (.inr rfl)) (pgs_cons (pg_name (i := 4) nd rfl (.inr rfl)) pgs_nil)))))
      (pss_cons (ps_asg (pe_tup (pa_cons (pe_callB call_len (by rfl) Z.len PySem.boot_len (pa_cons (pv 2) pa_nil)) (pa_cons (pe_lst pa_nil) (pa_cons (pe_lst pa_nil) (pa_cons (pe_lst pa_nil) pa_nil)))))
        (pg_tup rfl (pgs_cons (pg_name (i := 5) nd rfl (.inl rfl)) (pgs_cons (pg_name (i := 6) nd rfl (.inl rfl)) (pgs_cons (pg_name (i := 7) nd rfl (.inl rfl)) (pgs_cons (pg_name (i := 8) nd rfl (.inl rfl)) pgs_nil))))))
      (pss_cons (ps_for PassesOwn.never rfl (pi_list (pe_call G2 hr1 (by rfl) g2 k2 b2 .nil pass0 (pa_cons (pv 5) (pa_cons (pe_tup pa_nil) pa_nil)))) (pg_name (i := 9) nd rfl (.inl rfl))
        (pss_cons (ps_set (i := 10) nd rfl (.inr rfl) (pe_call G3 hr1 (by rfl) g3 k3 b3 .nil pass0 (pa_cons (pv 2) (pa_cons (pv 9) pa_nil))))
        (pss_cons (ps_setLc (i := 11) (own := [("_law_at", 18)]) (g := gName 18) (by rfl) nd rfl rfl (sw_true rfl rfl rfl (by decide +kernel)) (pi_range1 (by rfl) Z.range (pa_cons (pv 5) pa_nil))
          (blkOk_by (own := [("_law_at", 18)]) (N := nLaw) (sc := defScope sLaw) (by decide +kernel)) (fun _ _ _ _ _ => pg_name (i := 18) nd rfl (.inl rfl))
          (fun _ _ _ _ _ => pts_one (pt_cmpR op_gt (pe_ix (r := rIxL K) ix_list (pv 10) (pv 18) (fun _ _ => rfl)) (pe_ix (r := rIxT K) ix_tup (pv 4) (pv 18) (fun _ _ => rfl)) (nomark _))) (fun _ _ _ _ _ => pv 18))
        (pss_cons (ps_expr (pe_bm PySem.F.plainAttrs_list PySem.F.slot_list_append PySem.F.type_list_append mt_append (pv 6) (pa_cons (pe_call G4 hr2 (by rfl) g4 k4 b4 .nil pass0 (pa_cons (pv 2) (pa_cons (pv 4) (pa_cons (pv 9) pa_nil)))) pa_nil)))
        (pss_cons (ps_expr (pe_bm PySem.F.plainAttrs_list PySem.F.slot_list_append PySem.F.type_list_append mt_append (pv 7) (pa_cons (pe_callB call_len (by rfl) Z.len PySem.boot_len (pa_cons (pv 11) pa_nil)) pa_nil)))
        (pss_one (ps_expr (pe_bm PySem.F.plainAttrs_list PySem.F.slot_list_append PySem.F.type_list_append mt_append (pv 8) (pa_cons (pe_callB (cr_sum rfl) (by rfl) Z.sum (by decide +kernel) (pa_cons
          (pe_lc (own := [("_law_at", 18)]) (g := gName 18) (by rfl) nd (pi_list (pv 11)) (blkOk_by (own := [("_law_at", 18)]) (N := nLaw) (sc := defScope sLaw) (by decide +kernel)) (fun _ _ _ _ _ => pg_name (i := 18) nd rfl (.inl rfl))
            (fun _ _ _ _ _ => pts_nil) (fun _ _ _ _ _ => pe_ix (r := rIxT K) ix_tup (pv 3) (pv 18) (fun _ _ => rfl))) pa_nil)) pa_nil)))))))))
      (pss_cons (ps_set (i := 12) nd rfl (.inl rfl) (pe_call G5 hr (by rfl) g5 k5 b5 .nil pass0 (pa_cons (pv 2) (pa_cons (pv 4) pa_nil))))
      (pss_cons (ps_if (PW.pt (pw_or (pt_cmpR op_ne (pe_call G6 hr (by rfl) g6 k6 b6 .nil pass0 (pa_cons (pv 2) (pa_cons (pv 4) (pa_cons (pv 12) pa_nil)))) (pe_callB (cr_min rfl) (by rfl) Z.min (by decide +kernel) (pa_cons (pv 6) pa_nil)) (nomark _))
          (pw_or1 (pt_cmpR (op_neL (un_le hr (by decide))) (pe_callB cr_sortT (by rfl) Z.sorted (by decide +kernel) (pa_cons (pv 12) pa_nil)) (pe_listRg rfl (by rfl) Z.list (prg_1 (by rfl) Z.range (pv 5))) (nomark _))))) (pss_one (ps_ret pe_bl)) pss_nil)
      (pss_cons (ps_set (i := 12) nd rfl (.inl rfl) (pe_call G7 hr (by rfl) g7 k7 b7 .nil pass0 (pa_cons (pv 2) (pa_cons (pv 4) pa_nil))))
      (pss_cons (ps_if (PW.pt (pw_or (pt_cmpR op_ne (pe_callB call_len (by rfl) Z.len PySem.boot_len (pa_cons (pe_call G8 hr (by rfl) g8 k8 b8 .nil pass0 (pa_cons (pv 2) (pa_cons (pv 4) (pa_cons (pv 12) pa_nil)))) pa_nil)) (pe_callB (cr_min rfl) (by rfl) Z.min (by decide +kernel) (pa_cons (pv 7) pa_nil)) (nomark _))
          (pw_or1 (pt_cmpR (op_neL (un_le hr (by decide))) (pe_callB cr_sortT (by rfl) Z.sorted (by decide +kernel) (pa_cons (pv 12) pa_nil)) (pe_listRg rfl (by rfl) Z.list (prg_1 (by rfl) Z.range (pv 5))) (nomark _))))) (pss_one (ps_ret pe_bl)) pss_nil)
      (pss_cons (ps_asg (pe_call G9 hr (by rfl) g9 k9 b9 .nil pass0 (pa_cons (pv 2) (pa_cons (pv 3) (pa_cons (pv 4) pa_nil)))) (pg_tup rfl (pgs_cons (pg_name (i := 13) nd rfl (.inl rfl)) (pgs_cons (pg_name (i := 14) nd rfl (.inr rfl)) pgs_nil))))
      (pss_cons (ps_if (PW.pt (pw_or (pt_cmpR op_ne (pv 13) (pe_callB (cr_min rfl) (by rfl) Z.min (by decide +kernel) (pa_cons (pv 8) pa_nil)) (nomark _))
          (pw_or (pt_cmpR (op_neL (un_le hr (by decide))) (pe_callTy call_list_of (by rfl) Z.list (by decide +kernel) (pa_cons (pv 14) pa_nil)) (pe_callB (cr_sortedSet rfl) (by rfl) Z.sorted (by decide +kernel) (pa_cons (pe_callTy (cr_setT rfl) (by rfl) Z.set (by decide +kernel) (pa_cons (pv 14) pa_nil)) pa_nil)) (nomark _))
          (pw_or1 (pt_cmpR op_ne (pe_callB (cr_sum rfl) (by rfl) Z.sum (by decide +kernel) (pa_cons (pe_lc (own := [("_law_at", 18)]) (g := gName 18) (by rfl) nd (pi_range1 (by rfl) Z.range (pa_cons (pv 5) pa_nil)) (blkOk_by (own := [("_law_at", 18)]) (N := nLaw) (sc := defScope sLaw) (by decide +kernel)) (fun _ _ _ _ _ => pg_name (i := 18) nd rfl (.inl rfl))
            (fun _ _ _ _ _ => pts_one (pt_cmpR (r := rIn K true) op_notIn_seq (pv 18) (pv 14) (by rfl))) (fun _ _ _ _ _ => pe_ix (r := rIxT K) ix_tup (pv 3) (pv 18) (fun _ _ => rfl))) pa_nil)) (pv 13) (nomark _)))))) (pss_one (ps_ret pe_bl)) pss_nil)
      (pss_cons (ps_set (i := 15) nd rfl (.inl rfl) pe_int)
      (pss_cons (ps_for PassesOwn.never rfl (pi_list (pe_callB cr_sortedPO (by rfl) Z.sorted (by decide +kernel) (pa_cons (pe_lc (own := [("_law_job", 16)]) (g := gName 16) (by rfl) nd (pi_tup (pv 14)) (blkOk_by (own := [("_law_job", 16)]) (N := nLaw) (sc := defScope sLaw) (by decide +kernel)) (fun _ _ _ _ _ => pg_name (i := 16) nd rfl (.inl rfl))
            (fun _ _ _ _ _ => pts_nil) (fun _ _ _ _ _ => pe_tup (pa_cons (pe_ix (r := rIxT K) ix_tup (pv 4) (pv 16) (fun _ _ => rfl)) (pa_cons (pv 16) pa_nil)))) pa_nil))) (pg_tup rfl (pgs_cons (pg_name (i := 17) nd rfl (.inl rfl)) (pgs_cons (pg_name (i := 16) nd rfl (.inl rfl)) pgs_nil)))
        (pss_cons (ps_set (i := 15) nd rfl (.inl rfl) (pe_op op_add (pv 15) (pe_ix ix_tup (pv 2) (pv 16) (fun _ _ => rfl))))
        (pss_one (ps_if (pt_cmpR op_gt (pv 15) (pv 17) (nomark _)) (pss_one (ps_ret pe_bl)) pss_nil))))
      (pss_cons (ps_set (i := 9) nd rfl (.inl rfl) (pe_call G10 hr2 (by rfl) g10 k10 b10 .nil pass0 (pa_cons (pv 1) (pa_cons (pv 5) pa_nil))))
      (pss_cons (ps_set (i := 10) nd rfl (.inr rfl) (pe_call G3 hr1 (by rfl) g3 k3 b3 .nil pass0 (pa_cons (pv 2) (pa_cons (pv 9) pa_nil))))
      (pss_cons (ps_if (pt_not (pt_val (pe_call G11 hr2 (by rfl) g11 k11 b11 .nil pass0 (pa_cons (pe_call G8 hr (by rfl) g8 k8 b8 .nil pass0 (pa_cons (pv 2) (pa_cons (pv 4) (pa_cons (pv 9) pa_nil))))
          (pa_cons (pe_callTy call_tuple_of (by rfl) Z.tuple (by decide +kernel) (pa_cons (pe_lc (own := [("_law_at", 18)]) (g := gName 18) (by rfl) nd (pi_range1 (by rfl) Z.range (pa_cons (pv 5) pa_nil))
            (blkOk_by (own := [("_law_at", 18)]) (N := nLaw) (sc := defScope sLaw) (by decide +kernel)) (fun _ _ _ _ _ => pg_name (i := 18) nd rfl (.inl rfl))
            (fun _ _ _ _ _ => pts_one (pt_cmpR op_gt (pe_ix (r := rIxL K) ix_list (pv 10) (pv 18) (fun _ _ => rfl)) (pe_ix (r := rIxT K) ix_tup (pv 4) (pv 18) (fun _ _ => rfl)) (nomark _))) (fun _ _ _ _ _ => pv 18)) pa_nil)) pa_nil))))) (pss_one (ps_ret pe_bl)) pss_nil)
      (pss_one (ps_ret (pe_call G12 hr1 (by rfl) g12 k12 b12 .nil pass0 (pa_cons (pe_call G6 hr (by rfl) g6 k6 b6 .nil pass0 (pa_cons (pv 2) (pa_cons (pv 4) (pa_cons (pv 9) pa_nil)))) (pa_cons (pe_call G4 hr2 (by rfl) g4 k4 b4 .nil pass0 (pa_cons (pv 2) (pa_cons (pv 4) (pa_cons (pv 9) pa_nil)))) pa_nil))))))))))))))))))), ?_⟩
    -- the row of state
    refine ⟨_, rfl, by show 4 ≤ sizeLine; decide, fun r nr => ?_⟩
    have sR := same_upd (o := .lst [V.ref sa, .int 0, .int 3901, .int 0]) nr
    obtain ⟨ns, hS⟩ := hS
    have hR : RowO K sa (upd H r (.lst [V.ref sa, .int 0, .int 3901, .int 0])) r := ⟨⟨0, 3901, 0, upd_same, by decide, by decide⟩, ns, Ext.seq (Ext.same sR) hS⟩
    refine ⟨_, rfl, r, rfl, hR, fun H1 p a g b ts ws ds e1 l1 hp ha hg hb lw ld n1 n5 q1 q2 q3 => ?_⟩
    have T1 : LamX.Tabs T H1 := hR.1.tabs e1 (Tabs.same hT sR)
    have hR1 : RowO K sa H1 r := hR.exc e1 l1
    refine ⟨p, _, rfl, SqT.of hp, rfl, _, _, rfl, _, _, rfl, _, _, rfl, rfl, ?_⟩
    -- len(times), [], [], []
    refine ⟨_, rfl, _, ts.length, rfl, .inr ⟨_, SqT.of ha, (List.length_map ..).symm⟩, Nat.zero_le _, fun la nla => ⟨Nat.zero_le _, fun fe nfe => ⟨Nat.zero_le _, fun li nli => ⟨by show 4 ≤ sizeLine; decide, fun o4 no4 => ?_⟩⟩⟩⟩
    refine ⟨o4, _, rfl, SqT.of upd_same, rfl, _, _, rfl, _, _, rfl, _, _, rfl, _, _, rfl, rfl, ?_⟩
    have s2 := (same_upd (o := .lst []) nla)
    have s3 := s2.trans (same_upd (o := .lst []) nfe)
    have s4 := s3.trans (same_upd (o := .lst []) nli)
    have s5 := s4.trans (same_upd (o := .tup [V.int ((ts.length : Nat) : Int), V.ref la, V.ref fe, V.ref li]) no4)
    have hla0 : H1 la = none := nla
    have hfe0 : H1 fe = none := s2.free nfe
    have hli0 : H1 li = none := s3.free nli
    have n12 : la ≠ fe := ne_of_none upd_same nfe
    have n13 : la ≠ li := ne_of_none ((same_upd nfe) _ _ upd_same) nli
    have n23 : fe ≠ li := ne_of_none upd_same nli
    have a5 : upd (upd (upd (upd H1 la (.lst [])) fe (.lst [])) li (.lst [])) o4 (.tup [V.int ((ts.length : Nat) : Int), V.ref la, V.ref fe, V.ref li]) la = some (.lst []) := (same_upd no4) _ _ ((same_upd nli) _ _ ((same_upd nfe) _ _ upd_same))
    have b5 : upd (upd (upd (upd H1 la (.lst [])) fe (.lst [])) li (.lst [])) o4 (.tup [V.int ((ts.length : Nat) : Int), V.ref la, V.ref fe, V.ref li]) fe = some (.lst []) := (same_upd no4) _ _ ((same_upd nli) _ _ upd_same)
    have c5 : upd (upd (upd (upd H1 la (.lst [])) fe (.lst [])) li (.lst [])) o4 (.tup [V.int ((ts.length : Nat) : Int), V.ref la, V.ref fe, V.ref li]) li = some (.lst []) := (same_upd no4) _ _ upd_same
    generalize upd (upd (upd (upd H1 la (.lst [])) fe (.lst [])) li (.lst [])) o4 (.tup [V.int ((ts.length : Nat) : Int), V.ref la, V.ref fe, V.ref li]) = H5 at s5 a5 b5 c5 ⊢
    -- _law_orders(many, ())
    refine ⟨_, rfl, Nat.zero_le _, fun e ne => ⟨ts.length, e, rfl, upd_same, n5, fun H6 po s6 hO => ?_⟩⟩
    have s7 := (same_upd (o := .tup []) ne).trans s6
    obtain ⟨vs, hv, hvp⟩ := hO
    have hvl := Paired.length hvp
    have hol : 0 < (Mth.ords ts.length ts.length).length := List.length_pos_iff.mpr fun z => by
      have h := Mth.ords_perm.mpr (List.Perm.refl (List.range ts.length))
      rw [z] at h
      cases h
    have hpx : ∀ x, H6 x = some (.lst []) → po ≠ x := fun x hx z => by
      rw [← z, hv] at hx
      have := HO.lst.inj (Option.some.inj hx)
      rw [this] at hvl
      simp at hvl
      omega
    have p1 := hpx _ (s7 _ _ a5)
    have p2 := hpx _ (s7 _ _ b5)
    have p3 := hpx _ (s7 _ _ c5)
    have e16 : Ext H1 H6 := Ext.same (s5.trans s7)
    refine ⟨po, rfl, ⟨_, SqL.of hv⟩, for_list (K := K) (a := po) (xs := vs) (fun i σ H' => ∃ v9 v10 v11 v12 v13 v14 v15 v16 v17 v18 ls, σ = [some (.ref sa), some (.ref r), some (.ref a), some (.ref g), some (.ref b), some (.int ((ts.length : Nat) : Int)), some (.ref la), some (.ref fe), some (.ref li), v9, v10, v11, v12, v13, v14, v15, v16, v17, v18] ∧ LoopW T H1 H' po la fe li vs ts ws ds i ls)
      ⟨none, none, none, none, none, none, none, none, none, none, [], rfl, e16, Tabs.same T1 (s5.trans s7), hv, hvp, s7 _ _ a5, s7 _ _ b5, s7 _ _ c5, .nil⟩ (fun i σ H' _ ⟨_, _, _, _, _, _, _, _, _, _, _, _, W⟩ => SqL.of W.found) ?_ ?_⟩
    · rintro i x σ Hx hx ⟨v9, v10, v11, v12, v13, v14, v15, v16, v17, v18, ls, rfl, W⟩
      have hxl := (List.getElem?_eq_some_iff.mp hx).1
      obtain ⟨o, ho⟩ : ∃ o, (Mth.ords ts.length ts.length)[i]? = some o := ⟨_, List.getElem?_eq_getElem (by omega)⟩
      obtain ⟨t, rfl, ht⟩ := paired_get W.fpair hx ho
      have hop : o.Perm (List.range ts.length) := Mth.ords_perm.mp (List.mem_of_getElem? ho)
      have hax := W.ext.tup ha
      have hgx := W.ext.tup hg
      have hbx := W.ext.tup hb
      have hos : (Mth.ords ts.length ts.length).length ≤ 3125 := Nat.le_trans (ords_len _ _) (Nat.le_trans (Nat.pow_le_pow_left n5 _) (Nat.pow_le_pow_right (by decide) n5))
      have hsz : ∀ k, k ≤ 3125 → k < sizeLine := fun k hk => Nat.lt_of_le_of_lt hk (by decide)
      -- _law_ends
      refine ⟨_, rfl, _, rfl, a, t, ts, o, rfl, hax, ht, hop, by omega, fun Ha pe s20 npe hpe => ?_⟩
      -- the late ones
      refine ⟨_, rfl, _, rfl, by omega, by omega, fun D hD => lc_range (fun k H' => Same Ha H' ∧ H' D = some (.lst (jobs ((List.range k).filter fun i => decide (Dof ds i < Mth.endAt (Dof ts) o i))))) ⟨same_upd hD, upd_same⟩ ?_ ?_⟩
      · rintro k H3 hk ⟨s21, hD3⟩
        have hk : k < ts.length := by omega
        have hat1 : atI ((endsL (Dof ts) ts.length o).map V.int) ((0 : Int) + (k : Int)) = some (.int (Mth.endAt (Dof ts) o k)) := by
          rw [Int.zero_add]
          refine atI_nat ?_
          rw [List.getElem?_map, endsL_get hk]
          rfl
        have hat2 : atI (ds.map V.int) ((0 : Int) + (k : Int)) = some (.int (Dof ds k)) := by
          rw [Int.zero_add]
          exact atI_nat (dof_at (by omega))
        refine ⟨rfl, ?_⟩
        refine ⟨_, rfl, _, rfl, pe, _, _, _, rfl, rfl, SqL.of (s21 _ _ hpe), hat1, _, rfl, _, rfl, b, _, _, _, rfl, rfl, SqT.of (s21 _ _ (s20 _ _ hbx)), hat2, _, _, rfl, rfl, _, rfl, ite2 (fun hlt => ?_) fun hlt => ?_⟩
        · refine ⟨_, rfl, _, hD3, ?_, fun b' o' e => ?_, ?_⟩
          · rw [List.length_map]
            exact Nat.lt_of_le_of_lt filt_len (small1000 (by omega))
          · rw [upd_ne (ne_of_none e hD)]
            exact s21 _ _ e
          · rw [upd_same, Int.zero_add, filt_yes (p := fun i => decide (Dof ds i < Mth.endAt (Dof ts) o i)) hlt, jobs_snoc]
        · refine ⟨s21, ?_⟩
          rw [filt_no (p := fun i => decide (Dof ds i < Mth.endAt (Dof ts) o i)) hlt]
          exact hD3
      rintro Hc ⟨s21, hDc⟩
      have hDc : Hc D = some (.lst (jobs (Mth.lateL (Dof ts) (Dof ds) ts.length o))) := hDc
      have s22 := s20.trans s21
      -- _law_late_here.append(_law_late(..))
      refine ⟨_, rfl, .inl ⟨rfl, _, .inl (.inl (s22 _ _ W.h1))⟩, _, rfl, _, rfl, _, rfl, a, b, t, ts, ds, o, rfl, s22 _ _ hax, s22 _ _ hbx, s22 _ _ ht, hop, ld, n1, by omega, fun Hd m s23 hm => ?_⟩
      have s24 := s22.trans s23
      have hls : ls.length ≤ 3125 := by
        have h1 := Paired.length W.lp
        rw [List.length_take] at h1
        omega
      refine ⟨la, _, _, rfl, rfl, s24 _ _ W.h1, by rw [List.length_map]; exact hsz _ hls, ?_⟩
      have laD : la ≠ D := ne_of_none (s20 _ _ W.h1) hD
      have feD : fe ≠ D := ne_of_none (s20 _ _ W.h2) hD
      have liD : li ≠ D := ne_of_none (s20 _ _ W.h3) hD
      have hDd := s23 _ _ hDc
      have hfe : upd Hd la (.lst (ls.map V.int ++ [.int m])) fe = some (.lst ((fewL (Dof ts) (Dof ds) ts.length ((Mth.ords ts.length ts.length).take i)).map V.int)) := by
        rw [upd_ne n12.symm]
        exact s24 _ _ W.h2
      have hDe : upd Hd la (.lst (ls.map V.int ++ [.int m])) D = some (.lst (jobs (Mth.lateL (Dof ts) (Dof ds) ts.length o))) := by
        rw [upd_ne laD.symm]
        exact hDd
      -- _law_few.append(len(some))
      refine ⟨_, rfl, .inl ⟨rfl, _, .inl (.inl hfe)⟩, _, rfl, _, (Mth.lateL (Dof ts) (Dof ds) ts.length o).length, rfl, .inl ⟨_, SqL.of hDe, (List.length_map ..).symm⟩, fe, _, _, rfl, rfl, hfe, ?_, ?_⟩
      · rw [List.length_map, List.length_map, List.length_take]
        exact hsz _ (by omega)
      have e7 : Exc3 la fe li Hx (upd (upd Hd la (.lst (ls.map V.int ++ [.int m]))) fe (.lst ((fewL (Dof ts) (Dof ds) ts.length ((Mth.ords ts.length ts.length).take i)).map V.int ++ [.int ((Mth.lateL (Dof ts) (Dof ds) ts.length o).length : Nat)]))) := fun x u nx1 nx2 nx3 hxu => by
        rw [upd_ne nx2, upd_ne nx1]
        exact s24 _ _ hxu
      have l7 : upd (upd Hd la (.lst (ls.map V.int ++ [.int m]))) fe (.lst ((fewL (Dof ts) (Dof ds) ts.length ((Mth.ords ts.length ts.length).take i)).map V.int ++ [.int ((Mth.lateL (Dof ts) (Dof ds) ts.length o).length : Nat)])) la = some (.lst ((ls ++ [m]).map V.int)) := by
        rw [upd_ne n12, upd_same, List.map_append]
        rfl
      have f7 : upd (upd Hd la (.lst (ls.map V.int ++ [.int m]))) fe (.lst ((fewL (Dof ts) (Dof ds) ts.length ((Mth.ords ts.length ts.length).take i)).map V.int ++ [.int ((Mth.lateL (Dof ts) (Dof ds) ts.length o).length : Nat)])) fe = some (.lst ((fewL (Dof ts) (Dof ds) ts.length ((Mth.ords ts.length ts.length).take (i + 1))).map V.int)) := by
        rw [upd_same, take_opt ho]
        simp only [fewL, List.map_append, List.map_cons, List.map_nil]
      have i7 : upd (upd Hd la (.lst (ls.map V.int ++ [.int m]))) fe (.lst ((fewL (Dof ts) (Dof ds) ts.length ((Mth.ords ts.length ts.length).take i)).map V.int ++ [.int ((Mth.lateL (Dof ts) (Dof ds) ts.length o).length : Nat)])) li = some (.lst ((lightL (Dof ts) (Dof ws) (Dof ds) ts.length ((Mth.ords ts.length ts.length).take i)).map V.int)) := by
        rw [upd_ne n23.symm, upd_ne n13.symm]
        exact s24 _ _ W.h3
      have D7 : upd (upd Hd la (.lst (ls.map V.int ++ [.int m]))) fe (.lst ((fewL (Dof ts) (Dof ds) ts.length ((Mth.ords ts.length ts.length).take i)).map V.int ++ [.int ((Mth.lateL (Dof ts) (Dof ds) ts.length o).length : Nat)])) D = some (.lst (jobs (Mth.lateL (Dof ts) (Dof ds) ts.length o))) := by
        rw [upd_ne feD.symm]
        exact hDe
      have g7 : upd (upd Hd la (.lst (ls.map V.int ++ [.int m]))) fe (.lst ((fewL (Dof ts) (Dof ds) ts.length ((Mth.ords ts.length ts.length).take i)).map V.int ++ [.int ((Mth.lateL (Dof ts) (Dof ds) ts.length o).length : Nat)])) g = some (.tup (ws.map V.int)) := by
        refine e7 _ _ (ne_of_none hg hla0) (ne_of_none hg hfe0) (ne_of_none hg hli0) hgx
      generalize upd (upd Hd la (.lst (ls.map V.int ++ [.int m]))) fe (.lst ((fewL (Dof ts) (Dof ds) ts.length ((Mth.ords ts.length ts.length).take i)).map V.int ++ [.int ((Mth.lateL (Dof ts) (Dof ds) ts.length o).length : Nat)])) = Hf at e7 l7 f7 i7 D7 g7 ⊢
      -- _law_light.append(sum(..))
      refine ⟨_, rfl, .inl ⟨rfl, _, .inl (.inl i7)⟩, _, rfl, D, rfl, ⟨_, SqL.of D7⟩, fun D2 hD2 => lc_list (K := K) (a := D) (xs := jobs (Mth.lateL (Dof ts) (Dof ds) ts.length o)) (fun k H' => Same Hf H' ∧ H' D2 = some (.lst ((((Mth.lateL (Dof ts) (Dof ds) ts.length o).map (Dof ws)).take k).map V.int))) ⟨same_upd hD2, upd_same⟩ (fun k H' _ ⟨s8, _⟩ => SqL.of (s8 _ _ D7)) ?_ ?_⟩
      · rintro k x H3 hx3 ⟨s8, hD3⟩
        obtain ⟨z, hz, rfl, hk⟩ := job_at hx3
        have hzt : z < ts.length := List.mem_range.mp (List.mem_filter.mp (List.mem_of_getElem? hz)).1
        refine ⟨rfl, ?_⟩
        refine ⟨_, rfl, _, rfl, g, _, _, _, rfl, rfl, SqT.of (s8 _ _ g7), atI_nat (dof_at (by omega)), ?_⟩
        refine ⟨_, hD3, ?_, fun b' o' e => ?_, ?_⟩
        · rw [List.length_map, List.length_take, List.length_map]
          have h1 : (Mth.lateL (Dof ts) (Dof ds) ts.length o).length ≤ ts.length := filt_len
          exact small1000 (by omega)
        · rw [upd_ne (ne_of_none e hD2)]
          exact s8 _ _ e
        · rw [upd_same, take_map_snoc (x := Dof ws z) (by rw [List.getElem?_map, hz]; rfl)]
      rintro H9 ⟨s8, hD9⟩
      rw [List.length_map, List.take_of_length_le (by rw [List.length_map]; exact Nat.le_refl _)] at hD9
      refine ⟨D2, _, rfl, SqL.of hD9, li, _, _, rfl, rfl, s8 _ _ i7, ?_, ?_⟩
      · rw [List.length_map, List.length_map, List.length_take]
        exact hsz _ (by omega)
      refine ⟨_, _, _, _, _, _, _, _, _, _, ls ++ [m], rfl, W.step (fun x u nx1 nx2 nx3 hxu => ?_) hla0 hfe0 hli0 p1 p2 p3 ?_ ?_ ?_ ?_⟩
      · rw [upd_ne nx3]
        exact s8 _ _ (e7 x u nx1 nx2 nx3 hxu)
      · rw [upd_ne n13]
        exact s8 _ _ l7
      · rw [upd_ne n23]
        exact s8 _ _ f7
      · rw [upd_same, take_opt ho]
        simp only [lightL, List.map_append, List.map_cons, List.map_nil]
        rfl
      · rw [take_opt ho]
        exact paired_append W.lp hm
    · rintro σ Hx ⟨v9, v10, v11, v12, v13, v14, v15, v16, v17, v18, ls, rfl, W⟩
      rw [hvl] at W
      have hf := W.h2
      have hi := W.h3
      have hlp := W.lp
      rw [List.take_length] at hf hi hlp
      have hel := eOf_perm ts ds
      have hes : Mth.Srt (Dof ds) (eOf ts ds) := sortD_srt ds _
      have heT : ∀ i ∈ eOf ts ds, 0 ≤ Dof ts i := fun i hi => dof_nonneg q1 (eOf_lt hi)
      have heW : ∀ i ∈ eOf ts ds, 0 ≤ Dof ws i := fun i hi => by
        have h1 := eOf_lt hi
        have h2 : Dof ws i = ws[i]'(by omega) := by
          show ws.getD i 0 = _
          rw [List.getD_eq_getElem?_getD, List.getElem?_eq_getElem (by omega)]
          rfl
        rw [h2]
        exact (q2 _ (List.getElem_mem _)).1
      have hax := W.ext.tup ha
      have hgx := W.ext.tup hg
      have hbx := W.ext.tup hb
      have hll := Paired.length hlp
      have h5 : ts.length ≤ 10 := by omega
      -- due_order
      refine ⟨_, rfl, _, rfl, a, b, ts, ds, rfl, hax, hbx, ld, n1, h5, q1, q3, W.tabs, fun H2 pb e2 T2 hpb => ?_⟩
      have hpb : TupJ H2 pb (eOf ts ds) := hpb
      -- lateness(..) != min(..)
      refine ⟨_, rfl, _, rfl, _, rfl, a, b, pb, ts, ds, eOf ts ds, rfl, Ext.tup e2 hax, Ext.tup e2 hbx, hpb, hel, ld, n1, h5, q1, q3, fun H3 m s23 hm => ?_⟩
      refine ⟨_, rfl, la, ls, rfl, SqL.of (s23 _ _ (Ext.lst e2 W.h1)), by omega, fun k hk hmin => ⟨rfl, _, rfl, ite2 (fun z => ?_) fun _ => ?_⟩⟩
      · rw [min_late hel hes heT hlp hm hk hmin] at z
        simp at z
      have hpb3 : H3 pb = some (.tup ((castJ (eOf ts ds)).map V.int)) := by
        rw [← jobs_eq]
        exact s23 _ _ hpb
      refine ⟨_, rfl, pb, _, rfl, SqT.of hpb3, fun ns1 p7 hp7 hs7 np7 => ⟨_, rfl, _, rfl, ?_, fun l7 nl7 => ?_⟩⟩
      · exact ⟨by omega, by omega, by omega, by omega, by omega⟩
      refine ⟨p7, l7, ns1, castJ (List.range ts.length), rfl, rfl, SqL.of ((same_upd nl7) _ _ upd_same), SqL.of (by rw [upd_same, rgV_jobs, jobs_eq]), _, rfl, ite2 (fun z => absurd (sorted_range hp7 hs7 hel) (of_decide_eq_true z)) fun _ => ?_⟩
      have e3 : Ext Hx (upd (upd H3 p7 (.lst (ns1.map V.int))) l7 (.lst (rgV 0 ((ts.length : Nat) : Int)))) := (e2.trans (Ext.same s23)).trans (Ext.same ((same_upd np7).trans (same_upd nl7)))
      have T3 := Tabs.same T2 (s23.trans ((same_upd (o := .lst (ns1.map V.int)) np7).trans (same_upd (o := .lst (rgV 0 ((ts.length : Nat) : Int))) nl7)))
      generalize upd (upd H3 p7 (.lst (ns1.map V.int))) l7 (.lst (rgV 0 ((ts.length : Nat) : Int))) = H4 at e3 T3 ⊢
      -- fewest_late
      refine ⟨_, rfl, _, rfl, a, b, ts, ds, rfl, Ext.tup e3 hax, Ext.tup e3 hbx, ld, n1, h5, q1, q3, T3, fun H5 pc Kk R e5 T5 hpc hM hpR => ?_⟩
      have e5 : Ext Hx H5 := e3.trans e5
      refine ⟨_, rfl, _, rfl, _, rfl, a, b, pc, ts, ds, Kk ++ R, rfl, Ext.tup e5 hax, Ext.tup e5 hbx, hpc, hpR, ld, n1, h5, q1, q3, fun H6 pl s6 npl hpl => ?_⟩
      have e6 : Ext Hx H6 := e5.trans (Ext.same s6)
      refine ⟨_, (Mth.lateL (Dof ts) (Dof ds) ts.length (Kk ++ R)).length, rfl, .inr ⟨_, SqT.of hpl, (List.length_map ..).symm⟩, ?_⟩
      refine ⟨_, rfl, fe, _, rfl, SqL.of (Ext.lst e6 hf), by rw [List.length_map]; omega, fun k2 hk2 hmin2 => ⟨rfl, _, rfl, ite2 (fun z => ?_) fun _ => ?_⟩⟩
      · rw [min_few hel hes heT hM hpR hk2 hmin2] at z
        simp at z
      have hpc6 : H6 pc = some (.tup ((castJ (Kk ++ R)).map V.int)) := by
        rw [← jobs_eq]
        exact s6 _ _ hpc
      refine ⟨_, rfl, pc, _, rfl, SqT.of hpc6, fun ns2 p8 hp8 hs8 np8 => ⟨_, rfl, _, rfl, ?_, fun l8 nl8 => ?_⟩⟩
      · exact ⟨by omega, by omega, by omega, by omega, by omega⟩
      refine ⟨p8, l8, ns2, castJ (List.range ts.length), rfl, rfl, SqL.of ((same_upd nl8) _ _ upd_same), SqL.of (by rw [upd_same, rgV_jobs, jobs_eq]), _, rfl, ite2 (fun z => absurd (sorted_range hp8 hs8 hpR) (of_decide_eq_true z)) fun _ => ?_⟩
      have e8 : Ext Hx (upd (upd H6 p8 (.lst (ns2.map V.int))) l8 (.lst (rgV 0 ((ts.length : Nat) : Int)))) := e6.trans (Ext.same ((same_upd np8).trans (same_upd nl8)))
      have T8 := Tabs.same T5 (s6.trans ((same_upd (o := .lst (ns2.map V.int)) np8).trans (same_upd (o := .lst (rgV 0 ((ts.length : Nat) : Int))) nl8)))
      generalize upd (upd H6 p8 (.lst (ns2.map V.int))) l8 (.lst (rgV 0 ((ts.length : Nat) : Int))) = H8 at e8 T8 ⊢
      -- least_late_weight
      refine ⟨_, rfl, _, rfl, _, rfl, a, g, b, ts, ws, ds, rfl, Ext.tup e8 hax, Ext.tup e8 hgx, Ext.tup e8 hbx, lw, ld, n1, n5, q1, q2, q3, T8, fun H9 pw pk wt Kk2 K' e9 T9 hpw hpk hK' hs' hrows => ?_⟩
      obtain ⟨rows, s0, hI, hxr, hrmin⟩ := hrows
      have e9 : Ext Hx H9 := e8.trans e9
      refine ⟨pw, _, rfl, SqT.of hpw, rfl, _, _, rfl, _, _, rfl, rfl, ?_⟩
      obtain ⟨gs1, gs2, gs3, gs4⟩ := hI.good _ hxr
      have gs1 : Kk2.Sublist (eOf ts ds) := gs1
      have gs2 : ∀ i ∈ Kk2, Mth.endAt (Dof ts) Kk2 i ≤ Dof ds i := gs2
      have hKn : Kk2.Nodup := (eOf_nd ts ds).sublist gs1
      have hKn' : K'.Nodup := hK'.nodup_iff.mpr hKn
      have hKl : K'.length ≤ ts.length := by
        have h1 := hK'.length_eq
        have h2 := gs1.length_le
        have h3 := hel.length_eq
        rw [List.length_range] at h3
        omega
      have hKt : ∀ j ∈ K', j < ts.length := fun j hj => eOf_lt (gs1.subset (hK'.mem_iff.mp hj))
      -- weight != min(..)
      refine ⟨_, rfl, _, rfl, li, _, rfl, SqL.of (Ext.lst e9 hi), by rw [List.length_map]; omega, fun k3 hk3 hmin3 => ⟨rfl, _, rfl, ite2 (fun z => ?_) fun _ => ?_⟩⟩
      · rw [min_light hel hes heT heW hI hxr hrmin hk3 hmin3] at z
        simp at z
      -- list(kept) != sorted(set(kept))
      have hpkI : H9 pk = some (.tup ((castJ K').map V.int)) := by
        rw [← jobs_eq]
        exact hpk
      refine ⟨_, rfl, pk, jobs K', rfl, .inr (SqT.of hpk), fun l9 nl9 => ?_⟩
      have s10 := same_upd (o := .lst (jobs K')) nl9
      refine ⟨_, rfl, pk, castJ K', rfl, SqT.of (s10 _ _ hpkI), by rw [List.length_map]; omega, fun ps c nps hc hcn => ?_⟩
      refine ⟨ps, _, c, rfl, upd_same, by rw [List.length_map] at hc; omega, fun ns3 p9 hlt hmem hlen np9 => ?_⟩
      have s11 := s10.trans ((same_upd (o := SetO _ ps (fun j => decide (j ∈ castJ K')) c) nps).trans (same_upd (o := .lst (ns3.map V.int)) np9))
      refine ⟨l9, p9, castJ K', ns3, rfl, rfl, SqL.of (by rw [← jobs_eq]; exact (same_upd np9) _ _ ((same_upd nps) _ _ upd_same)), SqL.of upd_same, _, rfl, ite2 (fun z => absurd (sorted_set hlt hmem hs' hKn') (of_decide_eq_true z)) fun _ => ?_⟩
      have e11 : Ext Hx _ := e9.trans (Ext.same s11)
      have hpk11 := s11 _ _ hpk
      generalize upd (upd (upd H9 l9 (.lst (jobs K'))) ps _) p9 (.lst (ns3.map V.int)) = H11 at e11 hpk11 ⊢
      -- the sum of the weights of those left out
      refine ⟨_, rfl, _, rfl, by omega, by omega, fun D hD => lc_range (fun k H' => Same H11 H' ∧ H' D = some (.lst ((((List.range k).filter fun i => !decide (i ∈ K')).map (Dof ws)).map V.int))) ⟨same_upd hD, upd_same⟩ ?_ ?_⟩
      · rintro k H12 hk ⟨s12, hD12⟩
        have hk : k < ts.length := by omega
        have ei : (0 : Int) + (k : Int) = (k : Int) := Int.zero_add _
        have hat : atI (ws.map V.int) ((0 : Int) + (k : Int)) = some (.int (Dof ws k)) := by
          rw [ei]
          exact atI_nat (dof_at (by omega))
        refine ⟨rfl, ?_⟩
        refine ⟨_, rfl, _, rfl, pk, _, rfl, .inr (SqT.of (s12 _ _ hpk11)), rfl, flat_jobs K', _, rfl, ?_⟩
        have hin : inV (.int ((0 : Int) + (k : Int))) (jobs K') = decide (k ∈ K') := by rw [ei, inV_jobs]
        show if (!inV (.int ((0 : Int) + (k : Int))) (jobs K')) = true then _ else _
        rw [hin]
        refine ite2 (fun hik => ?_) fun hik => ?_
        · refine ⟨_, rfl, _, rfl, g, _, _, _, rfl, rfl, SqT.of (s12 _ _ (Ext.tup e11 hgx)), hat, ?_⟩
          refine ⟨_, hD12, ?_, fun b' o' e => ?_, ?_⟩
          · rw [List.length_map, List.length_map]
            exact Nat.lt_of_le_of_lt filt_len (small1000 (by omega))
          · rw [upd_ne (ne_of_none e hD)]
            exact s12 _ _ e
          · rw [upd_same, filt_yes (p := fun i => !decide (i ∈ K')) hik, List.map_append, List.map_append]
            rfl
        · refine ⟨s12, ?_⟩
          rw [filt_no (p := fun i => !decide (i ∈ K')) hik]
          exact hD12
      rintro H12 ⟨s12, hD12⟩
      have hD12 : H12 D = some (.lst ((((List.range ts.length).filter fun i => !decide (i ∈ K')).map (Dof ws)).map V.int)) := hD12
      refine ⟨D, _, rfl, SqL.of hD12, _, rfl, rfl, _, rfl, ite2 (fun z => ?_) fun _ => ?_⟩
      · have h1 : (((List.range ts.length).filter fun i => !decide (i ∈ K')).map (Dof ws)).sum = wt := (out_sum (W := Dof ws) hel hK').trans gs4.symm
        rw [h1] at z
        simp at z
      have e12 : Ext Hx H12 := e11.trans (Ext.same s12)
      have hpk12 := s12 _ _ hpk11
      -- the kept ones by their due days
      refine ⟨_, rfl, pk, rfl, ⟨_, SqT.of hpk12⟩, fun D3 hD3 => lc_tup (K := K) (a := pk) (xs := jobs K') (fun k H' => Same H12 H' ∧ ∃ zs, H' D3 = some (.lst zs) ∧ Paired (PD H' ds) zs (K'.take k)) ⟨same_upd hD3, [], upd_same, .nil⟩ (fun k H' _ ⟨s13, _⟩ => SqT.of (s13 _ _ hpk12)) ?_ ?_⟩
      · rintro k x H13 hx ⟨s13, zs, hz1, hz2⟩
        obtain ⟨j, hj, rfl, hk⟩ := job_at hx
        have hjt := hKt j (List.mem_of_getElem? hj)
        refine ⟨rfl, ?_⟩
        refine ⟨_, rfl, _, rfl, b, _, _, _, rfl, rfl, SqT.of (s13 _ _ (Ext.tup e12 hbx)), atI_nat (dof_at (by omega)), _, rfl, by show 2 ≤ sizeLine; decide, fun t nt => ?_⟩
        have s14 := same_upd (o := .tup [V.int (Dof ds j), V.int (j : Nat)]) nt
        refine ⟨zs, s14 _ _ hz1, ?_, fun b' o' e => ?_, zs ++ [.ref t], upd_same, ?_⟩
        · have h1 := Paired.length hz2
          rw [List.length_take] at h1
          exact small1000 (by omega)
        · rw [upd_ne (ne_of_none e hD3)]
          exact s14 _ _ (s13 _ _ e)
        · rw [take_opt hj]
          have nl : ∀ zs', upd H13 t (.tup [V.int (Dof ds j), V.int (j : Nat)]) D3 ≠ some (HO.tup zs') := fun zs' e => by
            rw [s14 _ _ hz1] at e
            cases e
          refine paired_append (Paired.mapP hz2 fun v y ⟨u, e1, e2⟩ => ⟨u, e1, ?_⟩) ⟨t, rfl, ?_⟩
          · exact upd_keep nl (s14 _ _ e2)
          · exact upd_keep nl upd_same
      rintro H13 ⟨s13, zs, hz1, hz2⟩
      rw [List.length_map, List.take_length] at hz2
      have e13 : Ext Hx H13 := e12.trans (Ext.same s13)
      refine ⟨D3, zs, pairK H13, rfl, SqL.of hz1, fun x hx => ?_, fun ys p10 hsrt hstb np10 => ?_⟩
      · obtain ⟨i, hi, e⟩ := List.getElem_of_mem hx
        have hl := Paired.length hz2
        have h1 := paired_get hz2 (List.getElem?_eq_getElem hi) (List.getElem?_eq_getElem (show i < K'.length by omega))
        rw [e] at h1
        have h2 := pd_at h1
        obtain ⟨t, rfl, h3⟩ := h1
        rw [h2]
        exact ⟨t, rfl, h3⟩
      obtain ⟨L, hLp, hLy⟩ := paired_perm hstb.perm hz2
      have hLs := pd_srt hLy hsrt
      have s15 := same_upd (o := .lst ys) np10
      have hyl := Paired.length hLy
      refine ⟨p10, rfl, ⟨_, SqL.of upd_same⟩, for_list (K := K) (a := p10) (xs := ys) (fun i σ H' => H' = upd H13 p10 (.lst ys) ∧ ∃ v9 v10 v11 v12 v16 v17 v18, σ = [some (.ref sa), some (.ref r), some (.ref a), some (.ref g), some (.ref b), some (.int ((ts.length : Nat) : Int)), some (.ref la), some (.ref fe), some (.ref li), v9, v10, v11, v12, some (.int wt), some (.ref pk), some (.int (Mth.sumT (Dof ts) (L.take i))), v16, v17, v18])
        ⟨rfl, _, _, _, _, _, _, _, rfl⟩ (fun i σ H' _ ⟨z, _⟩ => by
          rw [z]
          exact SqL.of upd_same) ?_ ?_⟩
      · rintro i x σ H14 hx ⟨rfl, v9, v10, v11, v12, v16, v17, v18, rfl⟩
        have hxi := (List.getElem?_eq_some_iff.mp hx).1
        obtain ⟨j, hj⟩ : ∃ j, L[i]? = some j := ⟨_, List.getElem?_eq_getElem (by omega)⟩
        obtain ⟨t, rfl, ht⟩ := paired_get hLy hx hj
        have hjt := hKt j (hLp.mem_iff.mp (List.mem_of_getElem? hj))
        refine ⟨t, _, rfl, SqT.of (s15 _ _ ht), rfl, _, _, rfl, _, _, rfl, rfl, ?_⟩
        refine ⟨_, rfl, _, rfl, _, rfl, a, _, _, _, rfl, rfl, SqT.of (s15 _ _ (Ext.tup e13 hax)), atI_nat (dof_at hjt), _, _, rfl, rfl, ?_⟩
        have hrun := feas_run (T := Dof ts) hes (eOf_nd ts ds) gs1 gs2 (hLp.trans hK') hLs hj
        rw [← sum_step hj] at hrun
        refine ⟨_, rfl, _, rfl, _, _, rfl, rfl, _, rfl, ite2 (fun z => absurd (of_decide_eq_true z) (by omega)) fun _ => ?_⟩
        refine ⟨rfl, v9, v10, v11, v12, some (.int ((j : Nat) : Int)), some (.int (Dof ds j)), v18, ?_⟩
        rw [← sum_step hj]
        rfl
      · rintro σ H14 ⟨rfl, v9, v10, v11, v12, v16, v17, v18, rfl⟩
        have e15 : Ext Hx (upd H13 p10 (.lst ys)) := e13.trans (Ext.same s15)
        generalize upd H13 p10 (.lst ys) = H15 at e15 ⊢
        have e15b : Ext H1 H15 := W.ext.trans e15
        have hR15 : RowO K sa H15 r := ⟨hR1.1.ext e15b, hR1.2.elim fun ns h => ⟨ns, Ext.seq e15b h⟩⟩
        -- _law_order
        refine ⟨_, rfl, _, rfl, r, ts.length, rfl, hR15, h5, fun H16 pq o e16 l16 ho hop => ?_⟩
        have ha16 := hR15.1.tup e16 (Ext.tup e15 hax)
        have hb16 := hR15.1.tup e16 (Ext.tup e15 hbx)
        -- _law_ends
        refine ⟨_, rfl, _, rfl, a, pq, ts, o, rfl, ha16, ho, hop, h5, fun H17 pe s17 npe hpe => ?_⟩
        -- _law_alike(late_jobs(..), tuple(..))
        refine ⟨_, rfl, _, rfl, _, rfl, a, b, pq, ts, ds, o, rfl, s17 _ _ ha16, s17 _ _ hb16, s17 _ _ ho, hop, ld, n1, h5, q1, q3, fun H18 pj s18 npj hpj => ?_⟩
        have s19 := s17.trans s18
        have hpe18 := s18 _ _ hpe
        refine ⟨_, rfl, _, rfl, by omega, by omega, fun D hD => lc_range (fun k H' => Same H18 H' ∧ H' D = some (.lst (jobs ((List.range k).filter fun i => decide (Dof ds i < Mth.endAt (Dof ts) o i))))) ⟨same_upd hD, upd_same⟩ ?_ ?_⟩
        · rintro k H3 hk ⟨s21, hD3⟩
          have hk : k < ts.length := by omega
          have hat1 : atI ((endsL (Dof ts) ts.length o).map V.int) ((0 : Int) + (k : Int)) = some (.int (Mth.endAt (Dof ts) o k)) := by
            rw [Int.zero_add]
            refine atI_nat ?_
            rw [List.getElem?_map, endsL_get hk]
            rfl
          have hat2 : atI (ds.map V.int) ((0 : Int) + (k : Int)) = some (.int (Dof ds k)) := by
            rw [Int.zero_add]
            exact atI_nat (dof_at (by omega))
          refine ⟨rfl, ?_⟩
          refine ⟨_, rfl, _, rfl, pe, _, _, _, rfl, rfl, SqL.of (s21 _ _ hpe18), hat1, _, rfl, _, rfl, b, _, _, _, rfl, rfl, SqT.of (s21 _ _ (s19 _ _ hb16)), hat2, _, _, rfl, rfl, _, rfl, ite2 (fun hlt => ?_) fun hlt => ?_⟩
          · refine ⟨_, rfl, _, hD3, ?_, fun b' o' e => ?_, ?_⟩
            · rw [List.length_map]
              exact Nat.lt_of_le_of_lt filt_len (small1000 (by omega))
            · rw [upd_ne (ne_of_none e hD)]
              exact s21 _ _ e
            · rw [upd_same, Int.zero_add, filt_yes (p := fun i => decide (Dof ds i < Mth.endAt (Dof ts) o i)) hlt, jobs_snoc]
          · refine ⟨s21, ?_⟩
            rw [filt_no (p := fun i => decide (Dof ds i < Mth.endAt (Dof ts) o i)) hlt]
            exact hD3
        rintro H19 ⟨s21, hDc⟩
        have hDc : H19 D = some (.lst (jobs (Mth.lateL (Dof ts) (Dof ds) ts.length o))) := hDc
        refine ⟨D, _, rfl, .inl ⟨SqL.of hDc, fun pt npt => ?_⟩⟩
        have s22 := s21.trans (same_upd (o := .tup (jobs (Mth.lateL (Dof ts) (Dof ds) ts.length o))) npt)
        have hlL : (Mth.lateL (Dof ts) (Dof ds) ts.length o).length ≤ 10 := by
          have h1 : (Mth.lateL (Dof ts) (Dof ds) ts.length o).length ≤ ts.length := filt_len
          omega
        refine ⟨pj, pt, _, rfl, s22 _ _ hpj, upd_same, hlL, fun H20 s23 => ⟨_, rfl, iteF ?_⟩⟩
        have s24 := (s19.trans s22).trans s23
        -- _law_alike(lateness(..), _law_late(..))
        refine ⟨_, rfl, _, rfl, _, rfl, a, b, pq, ts, ds, o, rfl, s24 _ _ ha16, s24 _ _ hb16, s24 _ _ ho, hop, ld, n1, h5, q1, q3, fun H21 m1 s25 hm1 => ?_⟩
        have s26 := s24.trans s25
        refine ⟨_, rfl, _, rfl, _, rfl, a, b, pq, ts, ds, o, rfl, s26 _ _ ha16, s26 _ _ hb16, s26 _ _ ho, hop, ld, n1, h5, fun H22 m2 s27 hm2 => ?_⟩
        have em := hm1.uniq hm2
        subst em
        exact ⟨m1, rfl, fun H23 s28 => q H23⟩
end
end Sh
set_option Elab.async false
set_option linter.all false
set_option maxRecDepth 100000
set_option maxHeartbeats 4000000
/-! what the top has written, joined -/
namespace Sh
open PySem PySem.Spec PyProof.Rows L2
theorem fn_exs {P : Program} {w : World} {K : PySem.W.Frag} {mg : Str → Option Value} {base : Heap} {CX : CXT} {k : Nat} {f : Addr} {fd : FuncData} {ps : List Str} {sp : Addr → Sp} (h : ∀ x, FnOk P w K mg base CX k f fd ps (sp x)) : FnOk P w K mg base CX k f fd ps fun vs H Q E => ∃ x, sp x vs H Q E :=
  ⟨fun vs H Q E ⟨x, q⟩ => (h x).len vs H Q E q, fun A outer s H args us vs Q E hr he hb hv ⟨x, q⟩ => (h x).run A outer s H args us vs Q E hr he hb hv q⟩
theorem tab_mk {K : PySem.W.Frag} {x : Str} {f c P : Addr} {oc ec : Value} {od dd : Option Addr} {osl sl : Array (Option Value)} {fd : FuncData} {vs : Array Value} (a : PySem.W.nsIn K mainGlobals x = some (some (.ref f))) (l : K.lookup f = some ⟨oc, od, .func fd, osl⟩) (hc : fd.code = .ref c)
    (xl : K.lookup c = some ⟨ec, dd, .fields vs, sl⟩) (y : vs[11]? = some (.ref P)) : PySem.W.tabIn K x = some (c, P) := by
  unfold PySem.W.tabIn
  simp only [a, l, hc, xl, y]
/-- the end with tables: what is known of the code object and the empty table of each def of the top -/
theorem walk_tabs {l : PySem.W.OpenLaw} {n k : Nat} {q : Program} {loose : List Str} {XP : (Str → Option Value) → Heap → Prop} {YP : World → Heap → Prop} {d : DefRec} {K : Params → PySem.W.Frag} {CX : World → CXT} {x : Str}
    (hn : l.most = some n) (hn2 : n ≤ sizeLine) (hdf : d.params.defaults = []) (hr : Room k callerA) (hY : ∀ (w : World) (h : Heap), YP w h → (K w.params).In h)
    (F : ∀ (w : World) (mg : Str → Option Value) (fa : Addr) (h : Heap), YP w h → (K w.params).In h → h.Ns mainGlobals mg → mg d.name = some (.ref fa) →
      (∀ (y : Str) (e : DefRec) (c P : Addr), (recsOf q).find? (fun e => e.name == y) = some e → PySem.W.tabIn (K w.params) y = some (c, P) → PySem.W.CodeHd h c P ∧ h.get? P = some (PySem.W.tabObj #[])) → LamX.LawAtS l w (K w.params) (CX w) k n x mg fa h)
    (hCX : ∀ (w : World) (H : Hp) (s : Shared) (e : Value) (s' : Shared), CX w [] H s (fun _ _ _ => False) e s' → False) :
    PySem.W.WalkO q loose XP YP l.row.toRowW d [] (fun f vs => PySem.call f vs) := by
  refine Att.attach_callB hn hdf fun w s₀ s₁ mg mb fa o pm cd doc a vs ns G Y ho hd hcd hmg hobj hints hlen hbits hg => ?_
  have KX := hY w _ Y
  obtain ⟨fd, cs, sp, hT, nT, C, hb, hsp, hF⟩ := F w mg fa _ Y KX G.T.g hmg fun y e c P h1 h2 => PySem.W.tab_of G.T KX h1 h2
  exact LamX.law_callTs KX G.T.g G.T.b G.T.builtins G.T.nolimit hg hT nT C G.T.bmain hobj hints (Nat.le_trans hlen hn2) hr hF hb (fun H hH hS => hsp H a ns hlen hbits hH hS) fun H e s' => hCX w H s₁ e s'
theorem all_mk {l : PySem.W.OpenLaw} {w : World} {K : PySem.W.Frag} {h : Heap} {mg : Str → Option Value} {q : Program} {fa f_a f_b f_c f_d f_e f_f f_g f_h f_i f_j f_k f_l f_m f_n f_o f_p f_q f_r f_s f_t f_u f_v f_w f_x f_y f_z f_A f_B f_C c_o P_o c_r P_r : Addr} {e_o e_r : DefRec} {t_MOST_JOBS t_MOST_TIME t_MOST_WEIGHT t_MOST_DAY : Tok} (X : K.In h) (G : h.Ns mainGlobals mg) (hfa : mg "law" = some (.ref fa))
    (TT : ∀ (y : Str) (e : DefRec) (c P : Addr), (recsOf q).find? (fun e => e.name == y) = some e → PySem.W.tabIn K y = some (c, P) → PySem.W.CodeHd h c P ∧ h.get? P = some (PySem.W.tabObj #[]))
    {od_a an_a : Option Addr} {sl_a : Array (Option Value)} {oc_a kV_a dc_a pm_a ct_a cd_a : Value}
    {od_b an_b : Option Addr} {sl_b : Array (Option Value)} {oc_b kV_b dc_b pm_b ct_b cd_b : Value}
    {od_c an_c : Option Addr} {sl_c : Array (Option Value)} {oc_c kV_c dc_c pm_c ct_c cd_c : Value}
    {od_d an_d : Option Addr} {sl_d : Array (Option Value)} {oc_d kV_d dc_d pm_d ct_d cd_d : Value}
    {od_e an_e : Option Addr} {sl_e : Array (Option Value)} {oc_e kV_e dc_e pm_e ct_e cd_e : Value}
    {od_f an_f : Option Addr} {sl_f : Array (Option Value)} {oc_f kV_f dc_f pm_f ct_f cd_f : Value}
    {od_g an_g : Option Addr} {sl_g : Array (Option Value)} {oc_g kV_g dc_g pm_g ct_g cd_g : Value}
    {od_h an_h : Option Addr} {sl_h : Array (Option Value)} {oc_h kV_h dc_h pm_h ct_h cd_h : Value}
    {od_i an_i : Option Addr} {sl_i : Array (Option Value)} {oc_i kV_i dc_i pm_i ct_i cd_i : Value}
    {od_j an_j : Option Addr} {sl_j : Array (Option Value)} {oc_j kV_j dc_j pm_j ct_j cd_j : Value}
    {od_k an_k : Option Addr} {sl_k : Array (Option Value)} {oc_k kV_k dc_k pm_k ct_k cd_k : Value}
    {od_l an_l : Option Addr} {sl_l : Array (Option Value)} {oc_l kV_l dc_l pm_l ct_l cd_l : Value}
    {od_m an_m : Option Addr} {sl_m : Array (Option Value)} {oc_m kV_m dc_m pm_m ct_m cd_m : Value}
    {od_n an_n : Option Addr} {sl_n : Array (Option Value)} {oc_n kV_n dc_n pm_n ct_n cd_n : Value}
    {od_o an_o : Option Addr} {sl_o : Array (Option Value)} {oc_o kV_o dc_o pm_o ct_o : Value}
    {od_p an_p : Option Addr} {sl_p : Array (Option Value)} {oc_p kV_p dc_p pm_p ct_p cd_p : Value}
    {od_q an_q : Option Addr} {sl_q : Array (Option Value)} {oc_q kV_q dc_q pm_q ct_q cd_q : Value}
    {od_r an_r : Option Addr} {sl_r : Array (Option Value)} {oc_r kV_r dc_r pm_r ct_r : Value}
    {od_s an_s : Option Addr} {sl_s : Array (Option Value)} {oc_s kV_s dc_s pm_s ct_s cd_s : Value}
    {od_t an_t : Option Addr} {sl_t : Array (Option Value)} {oc_t kV_t dc_t pm_t ct_t cd_t : Value}
    {od_u an_u : Option Addr} {sl_u : Array (Option Value)} {oc_u kV_u dc_u pm_u ct_u cd_u : Value}
    {od_v an_v : Option Addr} {sl_v : Array (Option Value)} {oc_v kV_v dc_v pm_v ct_v cd_v : Value}
    {od_w an_w : Option Addr} {sl_w : Array (Option Value)} {oc_w kV_w dc_w pm_w ct_w cd_w : Value}
    {od_x an_x : Option Addr} {sl_x : Array (Option Value)} {oc_x kV_x dc_x pm_x ct_x cd_x : Value}
    {od_y an_y : Option Addr} {sl_y : Array (Option Value)} {oc_y kV_y dc_y pm_y ct_y cd_y : Value}
    {od_z an_z : Option Addr} {sl_z : Array (Option Value)} {oc_z kV_z dc_z pm_z ct_z cd_z : Value}
    {od_A an_A : Option Addr} {sl_A : Array (Option Value)} {oc_A kV_A dc_A pm_A ct_A cd_A : Value}
    {od_B an_B : Option Addr} {sl_B : Array (Option Value)} {oc_B kV_B dc_B pm_B ct_B cd_B : Value}
    {od_C an_C : Option Addr} {sl_C : Array (Option Value)} {oc_C kV_C dc_C pm_C ct_C cd_C : Value}
    (a_a : PySem.W.nsIn K mainGlobals "is_integer" = some (some (.ref f_a)))
    (l_a : K.lookup f_a = some ⟨oc_a, od_a, .func (PySem.W.fnOf "is_integer" "is_integer" (defArgs sIsInteger) (defBody sIsInteger) (defScope sIsInteger) .none kV_a dc_a pm_a an_a cd_a ct_a), sl_a⟩)
    (d_a : PySem.W.codeIn K cd_a "is_integer" = true)
    (k_a : PySem.W.keepIn K (.ref f_a) = true)
    (a_b : PySem.W.nsIn K mainGlobals "is_in" = some (some (.ref f_b)))
    (l_b : K.lookup f_b = some ⟨oc_b, od_b, .func (PySem.W.fnOf "is_in" "is_in" (defArgs sIsIn) (defBody sIsIn) (defScope sIsIn) .none kV_b dc_b pm_b an_b cd_b ct_b), sl_b⟩)
    (d_b : PySem.W.codeIn K cd_b "is_in" = true)
    (k_b : PySem.W.keepIn K (.ref f_b) = true)
    (a_c : PySem.W.nsIn K mainGlobals "is_list" = some (some (.ref f_c)))
    (l_c : K.lookup f_c = some ⟨oc_c, od_c, .func (PySem.W.fnOf "is_list" "is_list" (defArgs sIsList) (defBody sIsList) (defScope sIsList) .none kV_c dc_c pm_c an_c cd_c ct_c), sl_c⟩)
    (d_c : PySem.W.codeIn K cd_c "is_list" = true)
    (k_c : PySem.W.keepIn K (.ref f_c) = true)
    (a_d : PySem.W.nsIn K mainGlobals "first_bad" = some (some (.ref f_d)))
    (l_d : K.lookup f_d = some ⟨oc_d, od_d, .func (PySem.W.fnOf "first_bad" "first_bad" (defArgs sFirstBad) (defBody sFirstBad) (defScope sFirstBad) .none kV_d dc_d pm_d an_d cd_d ct_d), sl_d⟩)
    (d_d : PySem.W.codeIn K cd_d "first_bad" = true)
    (k_d : PySem.W.keepIn K (.ref f_d) = true)
    (a_e : PySem.W.nsIn K mainGlobals "need_times" = some (some (.ref f_e)))
    (l_e : K.lookup f_e = some ⟨oc_e, od_e, .func (PySem.W.fnOf "need_times" "need_times" (defArgs sNeedTimes) (defBody sNeedTimes) (defScope sNeedTimes) .none kV_e dc_e pm_e an_e cd_e ct_e), sl_e⟩)
    (d_e : PySem.W.codeIn K cd_e "need_times" = true)
    (k_e : PySem.W.keepIn K (.ref f_e) = true)
    (a_f : PySem.W.nsIn K mainGlobals "need_weights" = some (some (.ref f_f)))
    (l_f : K.lookup f_f = some ⟨oc_f, od_f, .func (PySem.W.fnOf "need_weights" "need_weights" (defArgs sNeedWeights) (defBody sNeedWeights) (defScope sNeedWeights) .none kV_f dc_f pm_f an_f cd_f ct_f), sl_f⟩)
    (d_f : PySem.W.codeIn K cd_f "need_weights" = true)
    (k_f : PySem.W.keepIn K (.ref f_f) = true)
    (a_g : PySem.W.nsIn K mainGlobals "need_dues" = some (some (.ref f_g)))
    (l_g : K.lookup f_g = some ⟨oc_g, od_g, .func (PySem.W.fnOf "need_dues" "need_dues" (defArgs sNeedDues) (defBody sNeedDues) (defScope sNeedDues) .none kV_g dc_g pm_g an_g cd_g ct_g), sl_g⟩)
    (d_g : PySem.W.codeIn K cd_g "need_dues" = true)
    (k_g : PySem.W.keepIn K (.ref f_g) = true)
    (a_h : PySem.W.nsIn K mainGlobals "is_order" = some (some (.ref f_h)))
    (l_h : K.lookup f_h = some ⟨oc_h, od_h, .func (PySem.W.fnOf "is_order" "is_order" (defArgs sIsOrder) (defBody sIsOrder) (defScope sIsOrder) .none kV_h dc_h pm_h an_h cd_h ct_h), sl_h⟩)
    (d_h : PySem.W.codeIn K cd_h "is_order" = true)
    (k_h : PySem.W.keepIn K (.ref f_h) = true)
    (a_i : PySem.W.nsIn K mainGlobals "need_order" = some (some (.ref f_i)))
    (l_i : K.lookup f_i = some ⟨oc_i, od_i, .func (PySem.W.fnOf "need_order" "need_order" (defArgs sNeedOrder) (defBody sNeedOrder) (defScope sNeedOrder) .none kV_i dc_i pm_i an_i cd_i ct_i), sl_i⟩)
    (d_i : PySem.W.codeIn K cd_i "need_order" = true)
    (k_i : PySem.W.keepIn K (.ref f_i) = true)
    (a_j : PySem.W.nsIn K mainGlobals "ends_in" = some (some (.ref f_j)))
    (l_j : K.lookup f_j = some ⟨oc_j, od_j, .func (PySem.W.fnOf "ends_in" "ends_in" (defArgs sEndsIn) (defBody sEndsIn) (defScope sEndsIn) .none kV_j dc_j pm_j an_j cd_j ct_j), sl_j⟩)
    (d_j : PySem.W.codeIn K cd_j "ends_in" = true)
    (k_j : PySem.W.keepIn K (.ref f_j) = true)
    (a_k : PySem.W.nsIn K mainGlobals "need_weighed" = some (some (.ref f_k)))
    (l_k : K.lookup f_k = some ⟨oc_k, od_k, .func (PySem.W.fnOf "need_weighed" "need_weighed" (defArgs sNeedWeighed) (defBody sNeedWeighed) (defScope sNeedWeighed) .none kV_k dc_k pm_k an_k cd_k ct_k), sl_k⟩)
    (d_k : PySem.W.codeIn K cd_k "need_weighed" = true)
    (k_k : PySem.W.keepIn K (.ref f_k) = true)
    (a_l : PySem.W.nsIn K mainGlobals "need_due" = some (some (.ref f_l)))
    (l_l : K.lookup f_l = some ⟨oc_l, od_l, .func (PySem.W.fnOf "need_due" "need_due" (defArgs sNeedDue) (defBody sNeedDue) (defScope sNeedDue) .none kV_l dc_l pm_l an_l cd_l ct_l), sl_l⟩)
    (d_l : PySem.W.codeIn K cd_l "need_due" = true)
    (k_l : PySem.W.keepIn K (.ref f_l) = true)
    (a_m : PySem.W.nsIn K mainGlobals "lateness_in" = some (some (.ref f_m)))
    (l_m : K.lookup f_m = some ⟨oc_m, od_m, .func (PySem.W.fnOf "lateness_in" "lateness_in" (defArgs sLatenessIn) (defBody sLatenessIn) (defScope sLatenessIn) .none kV_m dc_m pm_m an_m cd_m ct_m), sl_m⟩)
    (d_m : PySem.W.codeIn K cd_m "lateness_in" = true)
    (k_m : PySem.W.keepIn K (.ref f_m) = true)
    (a_n : PySem.W.nsIn K mainGlobals "lateness" = some (some (.ref f_n)))
    (l_n : K.lookup f_n = some ⟨oc_n, od_n, .func (PySem.W.fnOf "lateness" "lateness" (defArgs sLateness) (defBody sLateness) (defScope sLateness) .none kV_n dc_n pm_n an_n cd_n ct_n), sl_n⟩)
    (d_n : PySem.W.codeIn K cd_n "lateness" = true)
    (k_n : PySem.W.keepIn K (.ref f_n) = true)
    (a_o : PySem.W.nsIn K mainGlobals "due_order_in" = some (some (.ref f_o)))
    (l_o : K.lookup f_o = some ⟨oc_o, od_o, .func (PySem.W.fnOf "due_order_in" "due_order_in" (defArgs sDueOrderIn) (defBody sDueOrderIn) (defScope sDueOrderIn) .none kV_o dc_o pm_o an_o (.ref c_o) ct_o), sl_o⟩)
    (d_o : PySem.W.codeIn K (.ref c_o) "due_order_in" = true)
    (k_o : PySem.W.keepIn K (.ref f_o) = true)
    (a_p : PySem.W.nsIn K mainGlobals "due_order" = some (some (.ref f_p)))
    (l_p : K.lookup f_p = some ⟨oc_p, od_p, .func (PySem.W.fnOf "due_order" "due_order" (defArgs sDueOrder) (defBody sDueOrder) (defScope sDueOrder) .none kV_p dc_p pm_p an_p cd_p ct_p), sl_p⟩)
    (d_p : PySem.W.codeIn K cd_p "due_order" = true)
    (k_p : PySem.W.keepIn K (.ref f_p) = true)
    (a_q : PySem.W.nsIn K mainGlobals "late_jobs" = some (some (.ref f_q)))
    (l_q : K.lookup f_q = some ⟨oc_q, od_q, .func (PySem.W.fnOf "late_jobs" "late_jobs" (defArgs sLateJobs) (defBody sLateJobs) (defScope sLateJobs) .none kV_q dc_q pm_q an_q cd_q ct_q), sl_q⟩)
    (d_q : PySem.W.codeIn K cd_q "late_jobs" = true)
    (k_q : PySem.W.keepIn K (.ref f_q) = true)
    (a_r : PySem.W.nsIn K mainGlobals "punctual_in" = some (some (.ref f_r)))
    (l_r : K.lookup f_r = some ⟨oc_r, od_r, .func (PySem.W.fnOf "punctual_in" "punctual_in" (defArgs sPunctualIn) (defBody sPunctualIn) (defScope sPunctualIn) .none kV_r dc_r pm_r an_r (.ref c_r) ct_r), sl_r⟩)
    (d_r : PySem.W.codeIn K (.ref c_r) "punctual_in" = true)
    (k_r : PySem.W.keepIn K (.ref f_r) = true)
    (a_s : PySem.W.nsIn K mainGlobals "fewest_late" = some (some (.ref f_s)))
    (l_s : K.lookup f_s = some ⟨oc_s, od_s, .func (PySem.W.fnOf "fewest_late" "fewest_late" (defArgs sFewestLate) (defBody sFewestLate) (defScope sFewestLate) .none kV_s dc_s pm_s an_s cd_s ct_s), sl_s⟩)
    (d_s : PySem.W.codeIn K cd_s "fewest_late" = true)
    (k_s : PySem.W.keepIn K (.ref f_s) = true)
    (a_t : PySem.W.nsIn K mainGlobals "least_late_weight" = some (some (.ref f_t)))
    (l_t : K.lookup f_t = some ⟨oc_t, od_t, .func (PySem.W.fnOf "least_late_weight" "least_late_weight" (defArgs sLeastLate) (defBody sLeastLate) (defScope sLeastLate) .none kV_t dc_t pm_t an_t cd_t ct_t), sl_t⟩)
    (d_t : PySem.W.codeIn K cd_t "least_late_weight" = true)
    (k_t : PySem.W.keepIn K (.ref f_t) = true)
    (a_u : PySem.W.nsIn K mainGlobals "_law_taken" = some (some (.ref f_u)))
    (l_u : K.lookup f_u = some ⟨oc_u, od_u, .func (PySem.W.fnOf "_law_taken" "_law_taken" (defArgs sTaken) (defBody sTaken) (defScope sTaken) .none kV_u dc_u pm_u an_u cd_u ct_u), sl_u⟩)
    (d_u : PySem.W.codeIn K cd_u "_law_taken" = true)
    (k_u : PySem.W.keepIn K (.ref f_u) = true)
    (a_v : PySem.W.nsIn K mainGlobals "_law_pick" = some (some (.ref f_v)))
    (l_v : K.lookup f_v = some ⟨oc_v, od_v, .func (PySem.W.fnOf "_law_pick" "_law_pick" (defArgs sPick) (defBody sPick) (defScope sPick) .none kV_v dc_v pm_v an_v cd_v ct_v), sl_v⟩)
    (d_v : PySem.W.codeIn K cd_v "_law_pick" = true)
    (k_v : PySem.W.keepIn K (.ref f_v) = true)
    (a_w : PySem.W.nsIn K mainGlobals "_law_alike" = some (some (.ref f_w)))
    (l_w : K.lookup f_w = some ⟨oc_w, od_w, .func (PySem.W.fnOf "_law_alike" "_law_alike" (defArgs sAlike) (defBody sAlike) (defScope sAlike) .none kV_w dc_w pm_w an_w cd_w ct_w), sl_w⟩)
    (d_w : PySem.W.codeIn K cd_w "_law_alike" = true)
    (k_w : PySem.W.keepIn K (.ref f_w) = true)
    (a_x : PySem.W.nsIn K mainGlobals "_law_jobs" = some (some (.ref f_x)))
    (l_x : K.lookup f_x = some ⟨oc_x, od_x, .func (PySem.W.fnOf "_law_jobs" "_law_jobs" (defArgs sJobs) (defBody sJobs) (defScope sJobs) .none kV_x dc_x pm_x an_x cd_x ct_x), sl_x⟩)
    (d_x : PySem.W.codeIn K cd_x "_law_jobs" = true)
    (k_x : PySem.W.keepIn K (.ref f_x) = true)
    (a_y : PySem.W.nsIn K mainGlobals "_law_order" = some (some (.ref f_y)))
    (l_y : K.lookup f_y = some ⟨oc_y, od_y, .func (PySem.W.fnOf "_law_order" "_law_order" (defArgs sOrder) (defBody sOrder) (defScope sOrder) .none kV_y dc_y pm_y an_y cd_y ct_y), sl_y⟩)
    (d_y : PySem.W.codeIn K cd_y "_law_order" = true)
    (k_y : PySem.W.keepIn K (.ref f_y) = true)
    (a_z : PySem.W.nsIn K mainGlobals "_law_orders" = some (some (.ref f_z)))
    (l_z : K.lookup f_z = some ⟨oc_z, od_z, .func (PySem.W.fnOf "_law_orders" "_law_orders" (defArgs sOrders) (defBody sOrders) (defScope sOrders) .none kV_z dc_z pm_z an_z cd_z ct_z), sl_z⟩)
    (d_z : PySem.W.codeIn K cd_z "_law_orders" = true)
    (k_z : PySem.W.keepIn K (.ref f_z) = true)
    (a_A : PySem.W.nsIn K mainGlobals "_law_ends" = some (some (.ref f_A)))
    (l_A : K.lookup f_A = some ⟨oc_A, od_A, .func (PySem.W.fnOf "_law_ends" "_law_ends" (defArgs sLawEnds) (defBody sLawEnds) (defScope sLawEnds) .none kV_A dc_A pm_A an_A cd_A ct_A), sl_A⟩)
    (d_A : PySem.W.codeIn K cd_A "_law_ends" = true)
    (k_A : PySem.W.keepIn K (.ref f_A) = true)
    (a_B : PySem.W.nsIn K mainGlobals "_law_late" = some (some (.ref f_B)))
    (l_B : K.lookup f_B = some ⟨oc_B, od_B, .func (PySem.W.fnOf "_law_late" "_law_late" (defArgs sLawLate) (defBody sLawLate) (defScope sLawLate) .none kV_B dc_B pm_B an_B cd_B ct_B), sl_B⟩)
    (d_B : PySem.W.codeIn K cd_B "_law_late" = true)
    (k_B : PySem.W.keepIn K (.ref f_B) = true)
    (a_C : PySem.W.nsIn K mainGlobals "law" = some (some (.ref f_C)))
    (l_C : K.lookup f_C = some ⟨oc_C, od_C, .func (PySem.W.fnOf "law" "law" (defArgs sLaw) (defBody sLaw) (defScope sLaw) .none kV_C dc_C pm_C an_C cd_C ct_C), sl_C⟩)
    (d_C : PySem.W.codeIn K cd_C "law" = true)
    (k_C : PySem.W.keepIn K (.ref f_C) = true)
    (m_MOST_JOBS : PySem.W.nsIn K mainGlobals "MOST_JOBS" = some (some (.int 10 t_MOST_JOBS)))
    (m_MOST_TIME : PySem.W.nsIn K mainGlobals "MOST_TIME" = some (some (.int 60 t_MOST_TIME)))
    (m_MOST_WEIGHT : PySem.W.nsIn K mainGlobals "MOST_WEIGHT" = some (some (.int 60 t_MOST_WEIGHT)))
    (m_MOST_DAY : PySem.W.nsIn K mainGlobals "MOST_DAY" = some (some (.int 600 t_MOST_DAY)))
    (z_isinstance : PySem.W.nsIn K mainGlobals "isinstance" = some none)
    (z_int : PySem.W.nsIn K mainGlobals "int" = some none)
    (z_bool : PySem.W.nsIn K mainGlobals "bool" = some none)
    (z_str : PySem.W.nsIn K mainGlobals "str" = some none)
    (z_tuple : PySem.W.nsIn K mainGlobals "tuple" = some none)
    (z_list : PySem.W.nsIn K mainGlobals "list" = some none)
    (z_set : PySem.W.nsIn K mainGlobals "set" = some none)
    (z_len : PySem.W.nsIn K mainGlobals "len" = some none)
    (z_range : PySem.W.nsIn K mainGlobals "range" = some none)
    (z_enumerate : PySem.W.nsIn K mainGlobals "enumerate" = some none)
    (z_zip : PySem.W.nsIn K mainGlobals "zip" = some none)
    (z_all : PySem.W.nsIn K mainGlobals "all" = some none)
    (z_sum : PySem.W.nsIn K mainGlobals "sum" = some none)
    (z_max : PySem.W.nsIn K mainGlobals "max" = some none)
    (z_min : PySem.W.nsIn K mainGlobals "min" = some none)
    (z_sorted : PySem.W.nsIn K mainGlobals "sorted" = some none)
    {ec_o : Value} {dd_o : Option Addr} {vs_o : Array Value} {sc_o : Array (Option Value)}
    (x_o : K.lookup c_o = some ⟨ec_o, dd_o, .fields vs_o, sc_o⟩)
    (y_o : vs_o[11]? = some (.ref P_o))
    {ec_r : Value} {dd_r : Option Addr} {vs_r : Array Value} {sc_r : Array (Option Value)}
    (x_r : K.lookup c_r = some ⟨ec_r, dd_r, .fields vs_r, sc_r⟩)
    (y_r : vs_r[11]? = some (.ref P_r))
    (r_o : (recsOf q).find? (fun e => e.name == ("due_order_in" : Str)) = some e_o) (r_r : (recsOf q).find? (fun e => e.name == ("punctual_in" : Str)) = some e_r) (n_o : K.lookup P_o = none) (n_r : K.lookup P_r = none) (ne : P_o ≠ P_r) : LamX.LawAtS l w K CX0 7 63 "_law_script" mg fa h := by
  have e := hfa.symm.trans (PySem.W.mg_of X G a_C)
  cases e
  have Z : Free mg := ⟨PySem.W.mg_none_of X G z_isinstance, PySem.W.mg_none_of X G z_int, PySem.W.mg_none_of X G z_bool, PySem.W.mg_none_of X G z_str, PySem.W.mg_none_of X G z_tuple, PySem.W.mg_none_of X G z_list, PySem.W.mg_none_of X G z_set, PySem.W.mg_none_of X G z_len, PySem.W.mg_none_of X G z_range, PySem.W.mg_none_of X G z_enumerate, PySem.W.mg_none_of X G z_zip, PySem.W.mg_none_of X G z_all, PySem.W.mg_none_of X G z_sum, PySem.W.mg_none_of X G z_max, PySem.W.mg_none_of X G z_min, PySem.W.mg_none_of X G z_sorted⟩
  have t_o := tab_mk a_o l_o rfl x_o y_o
  have t_r := tab_mk a_r l_r rfl x_r y_r
  obtain ⟨T1, T2⟩ := TT _ _ _ _ r_o t_o
  obtain ⟨T3, T4⟩ := TT _ _ _ _ r_r t_r
  have hu1 : ∀ p ∈ ([(P_o, qDue), (P_r, qPun)] : Tbl), p.1 = P_o → p.2 = qDue := fun p hp e => by
    rcases List.mem_cons.mp hp with z | z
    · rw [z]
    · rw [List.mem_singleton.mp z] at e
      exact absurd e.symm ne
  have hu2 : ∀ p ∈ ([(P_o, qDue), (P_r, qPun)] : Tbl), p.1 = P_r → p.2 = qPun := fun p hp e => by
    rcases List.mem_cons.mp hp with z | z
    · rw [z] at e
      exact absurd e ne
    · rw [List.mem_singleton.mp z]
  have F_a := fun_mk (st := sIsInteger) l_a d_a k_a
  have b_a := F_a.binds (ps := ["value"]) fun _ _ _ _ _ _ us hl => match us, hl with | [_], _ => rfl
  have F_b := fun_mk (st := sIsIn) l_b d_b k_b
  have b_b := F_b.binds (ps := ["value", "least", "most"]) fun _ _ _ _ _ _ us hl => match us, hl with | [_, _, _], _ => rfl
  have F_c := fun_mk (st := sIsList) l_c d_c k_c
  have b_c := F_c.binds (ps := ["value", "least", "most"]) fun _ _ _ _ _ _ us hl => match us, hl with | [_, _, _], _ => rfl
  have F_d := fun_mk (st := sFirstBad) l_d d_d k_d
  have b_d := F_d.binds (ps := ["value", "many", "low", "high"]) fun _ _ _ _ _ _ us hl => match us, hl with | [_, _, _, _], _ => rfl
  have F_e := fun_mk (st := sNeedTimes) l_e d_e k_e
  have b_e := F_e.binds (ps := ["times"]) fun _ _ _ _ _ _ us hl => match us, hl with | [_], _ => rfl
  have F_f := fun_mk (st := sNeedWeights) l_f d_f k_f
  have b_f := F_f.binds (ps := ["weights", "many"]) fun _ _ _ _ _ _ us hl => match us, hl with | [_, _], _ => rfl
  have F_g := fun_mk (st := sNeedDues) l_g d_g k_g
  have b_g := F_g.binds (ps := ["dues", "many"]) fun _ _ _ _ _ _ us hl => match us, hl with | [_, _], _ => rfl
  have F_h := fun_mk (st := sIsOrder) l_h d_h k_h
  have b_h := F_h.binds (ps := ["value", "many"]) fun _ _ _ _ _ _ us hl => match us, hl with | [_, _], _ => rfl
  have F_i := fun_mk (st := sNeedOrder) l_i d_i k_i
  have b_i := F_i.binds (ps := ["order", "many"]) fun _ _ _ _ _ _ us hl => match us, hl with | [_, _], _ => rfl
  have F_j := fun_mk (st := sEndsIn) l_j d_j k_j
  have b_j := F_j.binds (ps := ["times", "order"]) fun _ _ _ _ _ _ us hl => match us, hl with | [_, _], _ => rfl
  have F_k := fun_mk (st := sNeedWeighed) l_k d_k k_k
  have b_k := F_k.binds (ps := ["times", "weights"]) fun _ _ _ _ _ _ us hl => match us, hl with | [_, _], _ => rfl
  have F_l := fun_mk (st := sNeedDue) l_l d_l k_l
  have b_l := F_l.binds (ps := ["times", "dues"]) fun _ _ _ _ _ _ us hl => match us, hl with | [_, _], _ => rfl
  have F_m := fun_mk (st := sLatenessIn) l_m d_m k_m
  have b_m := F_m.binds (ps := ["times", "dues", "order"]) fun _ _ _ _ _ _ us hl => match us, hl with | [_, _, _], _ => rfl
  have F_n := fun_mk (st := sLateness) l_n d_n k_n
  have b_n := F_n.binds (ps := ["times", "dues", "order"]) fun _ _ _ _ _ _ us hl => match us, hl with | [_, _, _], _ => rfl
  have F_o : FunC K "due_order_in" sDueOrderIn f_o (PySem.W.fnOf "due_order_in" "due_order_in" (defArgs sDueOrderIn) (defBody sDueOrderIn) (defScope sDueOrderIn) .none kV_o dc_o pm_o an_o (.ref c_o) ct_o) c_o := ⟨⟨oc_o, od_o, kV_o, dc_o, pm_o, an_o, ct_o, sl_o, rfl, l_o, d_o⟩, k_o⟩
  have b_o := (fun_mk (st := sDueOrderIn) l_o d_o k_o).binds (ps := ["dues", "jobs"]) fun _ _ _ _ _ _ us hl => match us, hl with | [_, _], _ => rfl
  have F_p := fun_mk (st := sDueOrder) l_p d_p k_p
  have b_p := F_p.binds (ps := ["times", "dues"]) fun _ _ _ _ _ _ us hl => match us, hl with | [_, _], _ => rfl
  have F_q := fun_mk (st := sLateJobs) l_q d_q k_q
  have b_q := F_q.binds (ps := ["times", "dues", "order"]) fun _ _ _ _ _ _ us hl => match us, hl with | [_, _, _], _ => rfl
  have F_r : FunC K "punctual_in" sPunctualIn f_r (PySem.W.fnOf "punctual_in" "punctual_in" (defArgs sPunctualIn) (defBody sPunctualIn) (defScope sPunctualIn) .none kV_r dc_r pm_r an_r (.ref c_r) ct_r) c_r := ⟨⟨oc_r, od_r, kV_r, dc_r, pm_r, an_r, ct_r, sl_r, rfl, l_r, d_r⟩, k_r⟩
  have b_r := (fun_mk (st := sPunctualIn) l_r d_r k_r).binds (ps := ["times", "dues"]) fun _ _ _ _ _ _ us hl => match us, hl with | [_, _], _ => rfl
  have F_s := fun_mk (st := sFewestLate) l_s d_s k_s
  have b_s := F_s.binds (ps := ["times", "dues"]) fun _ _ _ _ _ _ us hl => match us, hl with | [_, _], _ => rfl
  have F_t := fun_mk (st := sLeastLate) l_t d_t k_t
  have b_t := F_t.binds (ps := ["times", "weights", "dues"]) fun _ _ _ _ _ _ us hl => match us, hl with | [_, _, _], _ => rfl
  have F_u := fun_mk (st := sTaken) l_u d_u k_u
  have b_u := F_u.binds (ps := ["_law_row", "_law_many"]) fun _ _ _ _ _ _ us hl => match us, hl with | [_, _], _ => rfl
  have F_v := fun_mk (st := sPick) l_v d_v k_v
  have b_v := F_v.binds (ps := ["_law_row", "_law_things"]) fun _ _ _ _ _ _ us hl => match us, hl with | [_, _], _ => rfl
  have F_w := fun_mk (st := sAlike) l_w d_w k_w
  have b_w := F_w.binds (ps := ["_law_found", "_law_due"]) fun _ _ _ _ _ _ us hl => match us, hl with | [_, _], _ => rfl
  have F_x := fun_mk (st := sJobs) l_x d_x k_x
  have b_x := F_x.binds (ps := ["_law_row", "_law_most", "_law_time"]) fun _ _ _ _ _ _ us hl => match us, hl with | [_, _, _], _ => rfl
  have F_y := fun_mk (st := sOrder) l_y d_y k_y
  have b_y := F_y.binds (ps := ["_law_row", "_law_many"]) fun _ _ _ _ _ _ us hl => match us, hl with | [_, _], _ => rfl
  have F_z := fun_mk (st := sOrders) l_z d_z k_z
  have b_z := F_z.binds (ps := ["_law_many", "_law_pairs"]) fun _ _ _ _ _ _ us hl => match us, hl with | [_, _], _ => rfl
  have F_A := fun_mk (st := sLawEnds) l_A d_A k_A
  have b_A := F_A.binds (ps := ["_law_times", "_law_order_here"]) fun _ _ _ _ _ _ us hl => match us, hl with | [_, _], _ => rfl
  have F_B := fun_mk (st := sLawLate) l_B d_B k_B
  have b_B := F_B.binds (ps := ["_law_times", "_law_dues", "_law_order_here"]) fun _ _ _ _ _ _ us hl => match us, hl with | [_, _, _], _ => rfl
  have F_C := fun_mk (st := sLaw) l_C d_C k_C
  refine ⟨PySem.W.fnOf "law" "law" (defArgs sLaw) (defBody sLaw) (defScope sLaw) .none kV_C dc_C pm_C an_C cd_C ct_C, [(c_o, P_o), (c_r, P_r)], fun vs H Q E => ∃ sa, spLaw K [(P_o, qDue), (P_r, qPun)] sa vs H Q E, fun p hp => ?_, fun p hp => ?_, fun p hp => ?_, fun s v => .of_eq rfl, fun H a ns hl _ hT hS => ⟨a, rfl, ⟨ns, hS⟩, fun p hp => ?_, fun _ => rfl⟩, fun base KX2 G2 TB => fn_exs fun sa => ?_⟩
  · rcases List.mem_cons.mp hp with z | z
    · rw [z]
      exact T2
    · rw [List.mem_singleton.mp z]
      exact T4
  · rcases List.mem_cons.mp hp with z | z
    · rw [z]
      exact n_o
    · rw [List.mem_singleton.mp z]
      exact n_r
  · rcases List.mem_cons.mp hp with z | z
    · rw [z]
      exact T1
    · rw [List.mem_singleton.mp z]
      exact T3
  · have key : ∀ (A : Addr) (q : Str), H A = some (.tbl #[]) → LamX.TabS H A q := fun A q e => ⟨#[], e, trivial, fun pos cv hc => by cases hc⟩
    rcases List.mem_cons.mp hp with z | z
    · rw [z]
      exact key _ _ (hT (c_o, P_o) List.mem_cons_self)
    · rw [List.mem_singleton.mp z]
      exact key _ _ (hT (c_r, P_r) (List.mem_cons_of_mem _ List.mem_cons_self))
  have B_o := TB (c_o, P_o) List.mem_cons_self
  have B_r := TB (c_r, P_r) (List.mem_cons_of_mem _ List.mem_cons_self)
  have mo : (P_o, qDue) ∈ ([(P_o, qDue), (P_r, qPun)] : Tbl) := List.mem_cons_self
  have mr : (P_r, qPun) ∈ ([(P_o, qDue), (P_r, qPun)] : Tbl) := List.mem_cons_of_mem _ List.mem_cons_self
  have H_a : Has l.prog w K mg base "is_integer" 1 ["value"] spIsInteger := ⟨⟨_, _, PySem.W.mg_of X G a_a, k_a, b_a, ok_isInteger F_a Z⟩⟩
  have H_b : Has l.prog w K mg base "is_in" 2 ["value", "least", "most"] spIsIn := ⟨⟨_, _, PySem.W.mg_of X G a_b, k_b, b_b, ok_isIn F_b H_a⟩⟩
  have H_c : Has l.prog w K mg base "is_list" 1 ["value", "least", "most"] spIsList := ⟨⟨_, _, PySem.W.mg_of X G a_c, k_c, b_c, ok_isList F_c Z⟩⟩
  have H_d : Has l.prog w K mg base "first_bad" 3 ["value", "many", "low", "high"] spFirstBad := ⟨⟨_, _, PySem.W.mg_of X G a_d, k_d, b_d, ok_firstBad F_d Z H_c H_b⟩⟩
  have H_e : Has l.prog w K mg base "need_times" 4 ["times"] spNeedTimes := ⟨⟨_, _, PySem.W.mg_of X G a_e, k_e, b_e, ok_needTimes F_e Z H_c H_d ⟨_, PySem.W.mg_of X G m_MOST_JOBS⟩ ⟨_, PySem.W.mg_of X G m_MOST_TIME⟩⟩⟩
  have H_f : Has l.prog w K mg base "need_weights" 4 ["weights", "many"] spNeedWeights := ⟨⟨_, _, PySem.W.mg_of X G a_f, k_f, b_f, ok_needWeights F_f H_d ⟨_, PySem.W.mg_of X G m_MOST_WEIGHT⟩⟩⟩
  have H_g : Has l.prog w K mg base "need_dues" 4 ["dues", "many"] spNeedDues := ⟨⟨_, _, PySem.W.mg_of X G a_g, k_g, b_g, ok_needDues F_g H_d ⟨_, PySem.W.mg_of X G m_MOST_DAY⟩⟩⟩
  have H_h : Has l.prog w K mg base "is_order" 3 ["value", "many"] spIsOrder := ⟨⟨_, _, PySem.W.mg_of X G a_h, k_h, b_h, ok_isOrder F_h Z H_c H_b⟩⟩
  have H_i : Has l.prog w K mg base "need_order" 4 ["order", "many"] spNeedOrder := ⟨⟨_, _, PySem.W.mg_of X G a_i, k_i, b_i, ok_needOrder F_i H_h⟩⟩
  have H_j : Has l.prog w K mg base "ends_in" 1 ["times", "order"] spEndsIn := ⟨⟨_, _, PySem.W.mg_of X G a_j, k_j, b_j, ok_endsIn F_j Z⟩⟩
  have H_k : Has l.prog w K mg base "need_weighed" 5 ["times", "weights"] spNeedWeighed := ⟨⟨_, _, PySem.W.mg_of X G a_k, k_k, b_k, ok_needWeighed F_k Z H_e H_f⟩⟩
  have H_l : Has l.prog w K mg base "need_due" 5 ["times", "dues"] spNeedDue := ⟨⟨_, _, PySem.W.mg_of X G a_l, k_l, b_l, ok_needDue F_l Z H_e H_g⟩⟩
  have H_m : Has l.prog w K mg base "lateness_in" 2 ["times", "dues", "order"] spLatenessIn := ⟨⟨_, _, PySem.W.mg_of X G a_m, k_m, b_m, ok_latenessIn F_m Z H_j⟩⟩
  have H_n : Has l.prog w K mg base "lateness" 6 ["times", "dues", "order"] spLateness := ⟨⟨_, _, PySem.W.mg_of X G a_n, k_n, b_n, ok_lateness F_n Z H_l H_i H_m⟩⟩
  have H_o : Has l.prog w K mg base "due_order_in" 2 ["dues", "jobs"] (spDueOrderIn [(P_o, qDue), (P_r, qPun)]) := ⟨⟨_, _, PySem.W.mg_of X G a_o, k_o, b_o, ok_dueOrderIn F_o Z B_o mo hu1⟩⟩
  have H_p : Has l.prog w K mg base "due_order" 6 ["times", "dues"] (spDueOrder [(P_o, qDue), (P_r, qPun)]) := ⟨⟨_, _, PySem.W.mg_of X G a_p, k_p, b_p, ok_dueOrder F_p Z H_l H_o⟩⟩
  have H_q : Has l.prog w K mg base "late_jobs" 6 ["times", "dues", "order"] spLateJobs := ⟨⟨_, _, PySem.W.mg_of X G a_q, k_q, b_q, ok_lateJobs F_q Z H_l H_i H_j⟩⟩
  have H_r : Has l.prog w K mg base "punctual_in" 3 ["times", "dues"] (spPunctualIn [(P_o, qDue), (P_r, qPun)]) := ⟨⟨_, _, PySem.W.mg_of X G a_r, k_r, b_r, ok_punctualIn F_r Z B_r mr hu2 H_o⟩⟩
  have H_s : Has l.prog w K mg base "fewest_late" 6 ["times", "dues"] (spFewestLate [(P_o, qDue), (P_r, qPun)]) := ⟨⟨_, _, PySem.W.mg_of X G a_s, k_s, b_s, ok_fewestLate F_s Z H_l H_r⟩⟩
  have H_t : Has l.prog w K mg base "least_late_weight" 6 ["times", "weights", "dues"] (spLeastLate [(P_o, qDue), (P_r, qPun)]) := ⟨⟨_, _, PySem.W.mg_of X G a_t, k_t, b_t, ok_leastLate F_t Z H_k H_g H_o⟩⟩
  have H_u : Has l.prog w K mg base "_law_taken" 1 ["_law_row", "_law_many"] (spTaken K sa) := ⟨⟨_, _, PySem.W.mg_of X G a_u, k_u, b_u, ok_taken F_u Z⟩⟩
  have H_v : Has l.prog w K mg base "_law_pick" 2 ["_law_row", "_law_things"] (spPick K sa) := ⟨⟨_, _, PySem.W.mg_of X G a_v, k_v, b_v, ok_pick F_v Z H_u⟩⟩
  have H_w0 : Has l.prog w K mg base "_law_alike" 0 ["_law_found", "_law_due"] spNever := ⟨⟨_, _, PySem.W.mg_of X G a_w, k_w, b_w, ok_never⟩⟩
  have H_w1 : Has l.prog w K mg base "_law_alike" 1 ["_law_found", "_law_due"] spAlikeI := ⟨⟨_, _, PySem.W.mg_of X G a_w, k_w, b_w, ok_alikeI F_w Z H_w0⟩⟩
  have H_w : Has l.prog w K mg base "_law_alike" 2 ["_law_found", "_law_due"] spAlikeT := ⟨⟨_, _, PySem.W.mg_of X G a_w, k_w, b_w, ok_alikeT F_w Z H_w1⟩⟩
  have H_x : Has l.prog w K mg base "_law_jobs" 3 ["_law_row", "_law_most", "_law_time"] (spJobs K sa) := ⟨⟨_, _, PySem.W.mg_of X G a_x, k_x, b_x, ok_jobs F_x Z H_u H_v⟩⟩
  have H_y : Has l.prog w K mg base "_law_order" 2 ["_law_row", "_law_many"] (spOrder K sa) := ⟨⟨_, _, PySem.W.mg_of X G a_y, k_y, b_y, ok_order F_y Z H_u⟩⟩
  have H_z : Has l.prog w K mg base "_law_orders" 1 ["_law_many", "_law_pairs"] spOrders := ⟨⟨_, _, PySem.W.mg_of X G a_z, k_z, b_z, ok_orders F_z Z⟩⟩
  have H_A : Has l.prog w K mg base "_law_ends" 1 ["_law_times", "_law_order_here"] spEndsIn := ⟨⟨_, _, PySem.W.mg_of X G a_A, k_A, b_A, ok_lawEnds F_A Z⟩⟩
  have H_B : Has l.prog w K mg base "_law_late" 2 ["_law_times", "_law_dues", "_law_order_here"] spLatenessIn := ⟨⟨_, _, PySem.W.mg_of X G a_B, k_B, b_B, ok_lawLate F_B Z H_A⟩⟩
  exact ok_law F_C Z H_x H_z H_A H_B H_p H_n H_s H_q H_t H_y H_w H_w1
end Sh
open PySem PySem.W PyProof.Rows
set_option Elab.async false
set_option maxRecDepth 100000
set_option maxHeartbeats 0 in
theorem PySem.Challenge.cw_shoporders_k01_whole_lateness_holds : PySem.Challenge.rw_shoporders_k01_whole_lateness.Holds := by
  w_on; o_law; k_head; (case hw => w_witness2)
  k_fill
  refine Sh.walk_tabs (l := PySem.Challenge.rw_shoporders_k01_whole_lateness) (n := 63) (k := 7) (x := "_law_script") (CX := fun _ => L2.CX0) rfl (by decide) rfl ⟨rfl, by decide, by decide⟩ (fun w h Y => PySem.W.km_in_of Y) ?F (fun _ _ _ _ _ z => z)
  case F =>
    intro w mg fa h Y KX G hmg TT
    refine' Sh.all_mk KX G hmg TT ?a_a ?l_a ?d_a ?k_a ?a_b ?l_b ?d_b ?k_b ?a_c ?l_c ?d_c ?k_c ?a_d ?l_d ?d_d ?k_d ?a_e ?l_e ?d_e ?k_e ?a_f ?l_f ?d_f ?k_f ?a_g ?l_g ?d_g ?k_g ?a_h ?l_h ?d_h ?k_h ?a_i ?l_i ?d_i ?k_i ?a_j ?l_j ?d_j ?k_j ?a_k ?l_k ?d_k ?k_k ?a_l ?l_l ?d_l ?k_l ?a_m ?l_m ?d_m ?k_m ?a_n ?l_n ?d_n ?k_n ?a_o ?l_o ?d_o ?k_o ?a_p ?l_p ?d_p ?k_p ?a_q ?l_q ?d_q ?k_q ?a_r ?l_r ?d_r ?k_r ?a_s ?l_s ?d_s ?k_s ?a_t ?l_t ?d_t ?k_t ?a_u ?l_u ?d_u ?k_u ?a_v ?l_v ?d_v ?k_v ?a_w ?l_w ?d_w ?k_w ?a_x ?l_x ?d_x ?k_x ?a_y ?l_y ?d_y ?k_y ?a_z ?l_z ?d_z ?k_z ?a_A ?l_A ?d_A ?k_A ?a_B ?l_B ?d_B ?k_B ?a_C ?l_C ?d_C ?k_C ?m_MOST_JOBS ?m_MOST_TIME ?m_MOST_WEIGHT ?m_MOST_DAY ?z_isinstance ?z_int ?z_bool ?z_str ?z_tuple ?z_list ?z_set ?z_len ?z_range ?z_enumerate ?z_zip ?z_all ?z_sum ?z_max ?z_min ?z_sorted ?x_o ?y_o ?x_r ?y_r ?r_o ?r_r ?n_o ?n_r ?ne
    (case a_a => k_is); (case l_a => k_is); (case d_a => k_is); (case k_a => k_is); (case a_b => k_is); (case l_b => k_is); (case d_b => k_is); (case k_b => k_is)
    (case a_c => k_is); (case l_c => k_is); (case d_c => k_is); (case k_c => k_is); (case a_d => k_is); (case l_d => k_is); (case d_d => k_is); (case k_d => k_is)
    (case a_e => k_is); (case l_e => k_is); (case d_e => k_is); (case k_e => k_is); (case a_f => k_is); (case l_f => k_is); (case d_f => k_is); (case k_f => k_is)
    (case a_g => k_is); (case l_g => k_is); (case d_g => k_is); (case k_g => k_is); (case a_h => k_is); (case l_h => k_is); (case d_h => k_is); (case k_h => k_is)
    (case a_i => k_is); (case l_i => k_is); (case d_i => k_is); (case k_i => k_is); (case a_j => k_is); (case l_j => k_is); (case d_j => k_is); (case k_j => k_is)
    (case a_k => k_is); (case l_k => k_is); (case d_k => k_is); (case k_k => k_is); (case a_l => k_is); (case l_l => k_is); (case d_l => k_is); (case k_l => k_is)
    (case a_m => k_is); (case l_m => k_is); (case d_m => k_is); (case k_m => k_is); (case a_n => k_is); (case l_n => k_is); (case d_n => k_is); (case k_n => k_is)
    (case a_o => k_is); (case l_o => k_is); (case d_o => k_is); (case k_o => k_is); (case a_p => k_is); (case l_p => k_is); (case d_p => k_is); (case k_p => k_is)
    (case a_q => k_is); (case l_q => k_is); (case d_q => k_is); (case k_q => k_is); (case a_r => k_is); (case l_r => k_is); (case d_r => k_is); (case k_r => k_is)
    (case a_s => k_is); (case l_s => k_is); (case d_s => k_is); (case k_s => k_is); (case a_t => k_is); (case l_t => k_is); (case d_t => k_is); (case k_t => k_is)
    (case a_u => k_is); (case l_u => k_is); (case d_u => k_is); (case k_u => k_is); (case a_v => k_is); (case l_v => k_is); (case d_v => k_is); (case k_v => k_is)
    (case a_w => k_is); (case l_w => k_is); (case d_w => k_is); (case k_w => k_is); (case a_x => k_is); (case l_x => k_is); (case d_x => k_is); (case k_x => k_is)
    (case a_y => k_is); (case l_y => k_is); (case d_y => k_is); (case k_y => k_is); (case a_z => k_is); (case l_z => k_is); (case d_z => k_is); (case k_z => k_is)
    (case a_A => k_is); (case l_A => k_is); (case d_A => k_is); (case k_A => k_is); (case a_B => k_is); (case l_B => k_is); (case d_B => k_is); (case k_B => k_is)
    (case a_C => k_is); (case l_C => k_is); (case d_C => k_is); (case k_C => k_is); (case m_MOST_JOBS => k_is); (case m_MOST_TIME => k_is); (case m_MOST_WEIGHT => k_is); (case m_MOST_DAY => k_is)
    (case z_isinstance => k_is); (case z_int => k_is); (case z_bool => k_is); (case z_str => k_is); (case z_tuple => k_is); (case z_list => k_is); (case z_set => k_is); (case z_len => k_is)
    (case z_range => k_is); (case z_enumerate => k_is); (case z_zip => k_is); (case z_all => k_is); (case z_sum => k_is); (case z_max => k_is); (case z_min => k_is); (case z_sorted => k_is)
    (case x_o => k_is); (case y_o => rfl); (case x_r => k_is); (case y_r => rfl)
    (case r_o => rfl); (case r_r => rfl)
    (case n_o => kernel_rfl); (case n_r => kernel_rfl); (case ne => decide)
