import PyProof.Rows.All
import Wide.All
import OpenK.AllK
import Wide.FinOn
import HandS.ForMost
import HandS.Defaults
import HandS.Codes
import HandS.IsInst
import HandS.Star
import HandS.Property
import HandS.Style
import HandS.Flow
import HandS.Zip
import HandS.Conv
import HandS.Deep
import HandS.Wide
import HandS.WideMore
import HandS.Strs
import HandS.SetKeys
import HandS.DictComp
import HandS.SortInts
import HandS.SortKw
import HandS.Lambda
import HandS.EndTab
import HandS.HeadWalk
import HandS.HeadHook4
import HandS.Head2
import PySem.Challenge.RW_relitgoals_k46_whole_smaller_tellers_are
import KE.GoesMore
import KE.GoesEnum
import KE.GoesNew
import HandS.Walk
import KE.KSortTup
import PyProof.Rows.SortKeyStr
import HandS.SetBool
import HandS.WordsDict
import PyProof.CollectIter
import HandS.TupAny
section
set_option autoImplicit false
namespace Rg
/-! ### sets of lamps: rising lists of codes -/
abbrev Lit := List Nat
def within (a b : Lit) : Bool := a.all fun c => decide (c ∈ b)
theorem within_iff {a b : Lit} : within a b = true ↔ ∀ c ∈ a, c ∈ b := by
  unfold within
  rw [List.all_eq_true]
  exact ⟨fun h c hc => of_decide_eq_true (h c hc), fun h c hc => decide_eq_true (h c hc)⟩
abbrev Ris (l : Lit) : Prop := l.Pairwise (· < ·)
theorem ris_nodup {l : Lit} (h : Ris l) : l.Nodup := h.imp fun q => Nat.ne_of_lt q
theorem ris_ext : ∀ {a b : Lit}, Ris a → Ris b → (∀ c, c ∈ a ↔ c ∈ b) → a = b
  | [], [], _, _, _ => rfl
  | [], y :: b, _, _, h => absurd ((h y).2 List.mem_cons_self) (by simp)
  | x :: a, [], _, _, h => absurd ((h x).1 List.mem_cons_self) (by simp)
  | x :: a, y :: b, ha, hb, h => by
    have ha' := List.pairwise_cons.mp ha
    have hb' := List.pairwise_cons.mp hb
    have e : x = y := by
      have h1 := (h x).1 List.mem_cons_self
      have h2 := (h y).2 List.mem_cons_self
      rcases List.mem_cons.mp h1 with e | h1
      · exact e
      · rcases List.mem_cons.mp h2 with e | h2
        · exact e.symm
        · have := ha'.1 _ h2
          have := hb'.1 _ h1
          omega
    subst e
    refine congrArg (x :: ·) (ris_ext ha'.2 hb'.2 fun c => ?_)
    have hc := h c
    constructor
    · intro q
      rcases List.mem_cons.mp (hc.1 (List.mem_cons_of_mem _ q)) with e | q'
      · have := ha'.1 c q
        omega
      · exact q'
    · intro q
      rcases List.mem_cons.mp (hc.2 (List.mem_cons_of_mem _ q)) with e | q'
      · have := hb'.1 c q
        omega
      · exact q'
theorem sub_mem {a b : Lit} (h : a.Sublist b) : ∀ c ∈ a, c ∈ b := fun _ hc => h.subset hc
theorem ris_sub {a b : Lit} (h : a.Sublist b) (hb : Ris b) : Ris a := hb.sublist h
theorem sub_of : ∀ {a b : Lit}, Ris a → Ris b → (∀ c ∈ a, c ∈ b) → a.Sublist b
  | [], b, _, _, _ => List.nil_sublist b
  | x :: a, [], _, _, h => absurd (h x List.mem_cons_self) (by simp)
  | x :: a, y :: b, ha, hb, h => by
    have ha' := List.pairwise_cons.mp ha
    have hb' := List.pairwise_cons.mp hb
    by_cases e : x = y
    · subst e
      refine List.Sublist.cons_cons x (sub_of ha'.2 hb'.2 fun c hc => ?_)
      rcases List.mem_cons.mp (h c (List.mem_cons_of_mem _ hc)) with e | q
      · have := ha'.1 c hc
        omega
      · exact q
    · refine List.Sublist.cons y (sub_of ha hb'.2 fun c hc => ?_)
      have hx : y < x := by
        rcases List.mem_cons.mp (h x List.mem_cons_self) with q | q
        · exact absurd q e
        · exact hb'.1 x q
      rcases List.mem_cons.mp (h c hc) with q | q
      · subst q
        rcases List.mem_cons.mp hc with q | q
        · exact absurd q.symm e
        · have := ha'.1 c q
          omega
      · exact q
/-- a subset that is no proper one -/
theorem sub_len_eq {a b : Lit} (h : a.Sublist b) (hl : b.length ≤ a.length) : a = b := h.eq_of_length_le hl

/-! ### all subsets, in the order in which the loop makes them -/
def powStep (f : List Lit) (c : Nat) : List Lit := f ++ f.map (· ++ [c])
def pow (l : Lit) : List Lit := l.foldl powStep [[]]
theorem pow_snoc (l : Lit) (c : Nat) : pow (l ++ [c]) = pow l ++ (pow l).map (· ++ [c]) := by
  unfold pow
  rw [List.foldl_append] <;> rfl
theorem mem_pow_aux : ∀ (n : Nat) (l : Lit), l.length = n → ∀ y : Lit, y ∈ pow l ↔ y.Sublist l := by
  intro n
  induction n with
  | zero =>
    intro l hl y
    obtain rfl : l = [] := List.length_eq_zero_iff.mp hl
    simp [pow]
  | succ n ih =>
    intro l hl y
    obtain ⟨l', c, rfl⟩ : ∃ l' c, l = l' ++ [c] := by
      rcases List.eq_nil_or_concat l with e | ⟨l', c, e⟩
      · subst e; simp at hl
      · exact ⟨l', c, by simpa using e⟩
    have hl' : l'.length = n := by simpa using hl
    rw [pow_snoc, List.mem_append, List.mem_map]
    constructor
    · rintro (h | ⟨z, hz, rfl⟩)
      · exact ((ih l' hl' y).1 h).trans (List.sublist_append_left _ _)
      · exact ((ih l' hl' z).1 hz).append (List.Sublist.refl _)
    · intro h
      obtain ⟨y1, y2, rfl, h1, h2⟩ := List.sublist_append_iff.mp h
      have h3 : y2 = [] ∨ y2 = [c] := by
        cases h2 with
        | cons _ h => exact .inl (List.sublist_nil.mp h)
        | cons_cons _ h => exact .inr (by rw [List.sublist_nil.mp h])
      rcases h3 with e | e
      · subst e
        rw [List.append_nil]
        exact .inl ((ih l' hl' y1).2 h1)
      · subst e
        exact .inr ⟨y1, (ih l' hl' y1).2 h1, rfl⟩
theorem mem_pow {l y : Lit} : y ∈ pow l ↔ y.Sublist l := mem_pow_aux _ l rfl y
theorem pow_len : ∀ (n : Nat) (l : Lit), l.length = n → (pow l).length = 2 ^ n := by
  intro n
  induction n with
  | zero =>
    intro l hl
    obtain rfl : l = [] := List.length_eq_zero_iff.mp hl
    rfl
  | succ n ih =>
    intro l hl
    obtain ⟨l', c, rfl⟩ : ∃ l' c, l = l' ++ [c] := by
      rcases List.eq_nil_or_concat l with e | ⟨l', c, e⟩
      · subst e; simp at hl
      · exact ⟨l', c, by simpa using e⟩
    have hl' : l'.length = n := by simpa using hl
    rw [pow_snoc, List.length_append, List.length_map, ih l' hl', Nat.pow_succ]
    omega
theorem pow_nodup : ∀ (n : Nat) (l : Lit), l.length = n → l.Nodup → (pow l).Nodup := by
  intro n
  induction n with
  | zero =>
    intro l hl _
    obtain rfl : l = [] := List.length_eq_zero_iff.mp hl
    simp [pow]
  | succ n ih =>
    intro l hl hn
    obtain ⟨l', c, rfl⟩ : ∃ l' c, l = l' ++ [c] := by
      rcases List.eq_nil_or_concat l with e | ⟨l', c, e⟩
      · subst e; simp at hl
      · exact ⟨l', c, by simpa using e⟩
    have hl' : l'.length = n := by simpa using hl
    have hn' := List.nodup_append.mp hn
    have i := ih l' hl' hn'.1
    rw [pow_snoc]
    refine List.nodup_append.mpr ⟨i, ?_, ?_⟩
    · have : ((pow l').map (· ++ [c])).Pairwise (· ≠ ·) := by
        rw [List.pairwise_map]
        exact i.imp fun h e => h (List.append_cancel_right e)
      exact this
    · intro a ha b hb e
      obtain ⟨z, _, rfl⟩ := List.mem_map.mp hb
      subst e
      have h1 := sub_mem (mem_pow.mp ha) c (by simp)
      exact hn'.2.2 c h1 c (by simp) rfl
/-! ### sorted: a sorted list with a total order that tells apart is the only one -/
section
variable {α : Type}
theorem sorted_unique {le : α → α → Bool} (anti : ∀ a b, le a b = true → le b a = true → a = b) : ∀ {l m : List α}, l.Perm m → l.Pairwise (fun a b => le a b = true) → m.Pairwise (fun a b => le a b = true) → l = m
  | [], m, p, _, _ => (List.Perm.nil_eq p)
  | a :: l, m, p, hl, hm => by
    cases m with
    | nil => exact absurd p.length_eq (by simp)
    | cons b m =>
      have hl' := List.pairwise_cons.mp hl
      have hm' := List.pairwise_cons.mp hm
      have e : a = b := by
        rcases List.mem_cons.mp (p.subset List.mem_cons_self) with e | h1
        · exact e
        · rcases List.mem_cons.mp (p.symm.subset List.mem_cons_self) with e | h2
          · exact e.symm
          · exact anti _ _ (hl'.1 _ h2) (hm'.1 _ h1)
      subst e
      exact congrArg (a :: ·) (sorted_unique anti (List.Perm.cons_inv p) hl'.2 hm'.2)
end
/-- the order of texts -/
def lexB (a b : Lit) : Bool := decide (a ≤ b)
theorem lexB_trans (a b c : Lit) (h1 : lexB a b = true) (h2 : lexB b c = true) : lexB a c = true :=
  decide_eq_true (List.le_trans (of_decide_eq_true h1) (of_decide_eq_true h2))
theorem lexB_total (a b : Lit) : (lexB a b || lexB b a) = true := by
  unfold lexB
  rw [Bool.or_eq_true, decide_eq_true_eq, decide_eq_true_eq]
  exact List.le_total a b
theorem lexB_anti (a b : Lit) (h1 : lexB a b = true) (h2 : lexB b a = true) : a = b := List.le_antisymm (of_decide_eq_true h1) (of_decide_eq_true h2)
/-- smaller sets first -/
def keyB (a b : Lit) : Bool := decide (a.length < b.length) || (decide (a.length = b.length) && lexB a b)
theorem keyB_trans (a b c : Lit) (h1 : keyB a b = true) (h2 : keyB b c = true) : keyB a c = true := by
  unfold keyB at *
  simp only [Bool.or_eq_true, Bool.and_eq_true, decide_eq_true_eq] at *
  rcases h1 with h1 | ⟨h1, q1⟩ <;> rcases h2 with h2 | ⟨h2, q2⟩
  · exact .inl (by omega)
  · exact .inl (by omega)
  · exact .inl (by omega)
  · exact .inr ⟨by omega, lexB_trans _ _ _ q1 q2⟩
theorem keyB_total (a b : Lit) : (keyB a b || keyB b a) = true := by
  have h := lexB_total a b
  unfold keyB
  simp only [Bool.or_eq_true, Bool.and_eq_true, decide_eq_true_eq] at *
  rcases Nat.lt_trichotomy a.length b.length with q | q | q
  · exact .inl (.inl q)
  · rcases h with h | h
    · exact .inl (.inr ⟨q, h⟩)
    · exact .inr (.inr ⟨q.symm, h⟩)
  · exact .inr (.inl q)
theorem keyB_anti (a b : Lit) (h1 : keyB a b = true) (h2 : keyB b a = true) : a = b := by
  unfold keyB at *
  simp only [Bool.or_eq_true, Bool.and_eq_true, decide_eq_true_eq] at *
  rcases h1 with h1 | ⟨h1, q1⟩ <;> rcases h2 with h2 | ⟨h2, q2⟩
  · omega
  · omega
  · omega
  · exact lexB_anti _ _ q1 q2
def setsOf (l : Lit) : List Lit := (pow l).mergeSort keyB
theorem setsOf_unique {l : Lit} {ys : List Lit} (p : ys.Perm (pow l)) (h : ys.Pairwise fun a b => keyB a b = true) : ys = setsOf l :=
  sorted_unique keyB_anti (p.trans (List.mergeSort_perm _ _).symm) h (List.pairwise_mergeSort keyB_trans keyB_total _)
theorem mem_setsOf {l y : Lit} : y ∈ setsOf l ↔ y.Sublist l := ((List.mergeSort_perm _ _).mem_iff).trans mem_pow
theorem setsOf_len (l : Lit) : (setsOf l).length = 2 ^ l.length := by
  unfold setsOf
  rw [List.length_mergeSort, pow_len _ l rfl]
theorem setsOf_nodup {l : Lit} (h : l.Nodup) : (setsOf l).Nodup := (List.mergeSort_perm _ _).nodup_iff.mpr (pow_nodup _ l rfl h)
end Rg

end
section
set_option autoImplicit false
namespace Rg
/-! ### parts of a set, branches of a goal; T: the sets for which the goal holds -/
def unlike (T : List Lit) (X : Lit) : List Lit := (setsOf X).filter fun one => decide (one ∈ T) != decide (X ∈ T)
def keepP (other : List Lit) (one : Lit) : Bool := !(other.any fun two => !decide (one = two) && within one two)
def parts (T : List Lit) (X : Lit) : List Lit := ((unlike T X).filter (keepP (unlike T X))).mergeSort lexB
theorem parts_unique {T : List Lit} {X : Lit} {ys : List Lit} (p : ys.Perm ((unlike T X).filter (keepP (unlike T X)))) (h : ys.Pairwise fun a b => lexB a b = true) : ys = parts T X :=
  sorted_unique lexB_anti (p.trans (List.mergeSort_perm _ _).symm) h (List.pairwise_mergeSort lexB_trans lexB_total _)
theorem mem_unlike {T : List Lit} {X Y : Lit} : Y ∈ unlike T X ↔ Y.Sublist X ∧ (Y ∈ T ↔ ¬ X ∈ T) := by
  unfold unlike
  rw [List.mem_filter, mem_setsOf, bne_iff_ne, ne_eq, decide_eq_decide]
  refine and_congr_right fun _ => ?_
  by_cases h1 : Y ∈ T <;> by_cases h2 : X ∈ T <;> simp [h1, h2]
theorem keepP_iff {o : List Lit} {y : Lit} : keepP o y = true ↔ ∀ z ∈ o, y ≠ z → ¬ within y z = true := by
  unfold keepP
  simp only [Bool.not_eq_true', List.any_eq_false, Bool.and_eq_true, Bool.not_eq_true', decide_eq_false_iff_not, not_and]
theorem mem_parts {T : List Lit} {X Y : Lit} : Y ∈ parts T X ↔ (Y.Sublist X ∧ (Y ∈ T ↔ ¬ X ∈ T)) ∧ ∀ Z, Z.Sublist X → (Z ∈ T ↔ ¬ X ∈ T) → Y ≠ Z → ¬ within Y Z = true := by
  unfold parts
  rw [(List.mergeSort_perm _ _).mem_iff, List.mem_filter, mem_unlike, keepP_iff]
  refine and_congr_right fun _ => ?_
  exact ⟨fun h Z h1 h2 => h Z (mem_unlike.mpr ⟨h1, h2⟩), fun h Z hZ => h Z (mem_unlike.mp hZ).1 (mem_unlike.mp hZ).2⟩
theorem parts_nodup {T : List Lit} {X : Lit} (h : X.Nodup) : (parts T X).Nodup := by
  unfold parts
  refine (List.mergeSort_perm _ _).nodup_iff.mpr ?_
  exact ((setsOf_nodup h).filter _).filter _
theorem parts_sub {T : List Lit} {X Y : Lit} (h : Y ∈ parts T X) : Y.Sublist X := (mem_parts.mp h).1.1
theorem parts_opp {T : List Lit} {X Y : Lit} (h : Y ∈ parts T X) : Y ∈ T ↔ ¬ X ∈ T := (mem_parts.mp h).1.2
theorem parts_ne {T : List Lit} {X Y : Lit} (h : Y ∈ parts T X) : Y ≠ X := fun e => by
  have := parts_opp h
  rw [e] at this
  by_cases q : X ∈ T
  · exact (this.1 q) q
  · exact q (this.2 q)
theorem parts_lt {T : List Lit} {X Y : Lit} (h : Y ∈ parts T X) : Y.length < X.length := by
  have h1 := (parts_sub h).length_le
  rcases Nat.lt_or_ge Y.length X.length with q | q
  · exact q
  · exact absurd ((parts_sub h).eq_of_length_le q) (parts_ne h)
/-- between a part and its set, wider than the part: tells as the set does -/
theorem parts_max {T : List Lit} {X Y Z : Lit} (h : Y ∈ parts T X) (hz : Z.Sublist X) (hne : Y ≠ Z) (hw : within Y Z = true) : Z ∈ T ↔ X ∈ T := by
  have q := (mem_parts.mp h).2 Z hz
  by_cases h1 : Z ∈ T <;> by_cases h2 : X ∈ T
  · exact ⟨fun _ => h2, fun _ => h1⟩
  · exact absurd hw (q ⟨fun _ => h2, fun _ => h1⟩ hne)
  · exact absurd hw (q ⟨fun z => absurd z h1, fun z => absurd h2 z⟩ hne)
  · exact ⟨fun z => absurd z h1, fun z => absurd z h2⟩
/-- two different parts: neither within the other -/
theorem parts_anti {T : List Lit} {X Y Z : Lit} (h : Y ∈ parts T X) (hz : Z ∈ parts T X) (hne : Y ≠ Z) : ¬ within Y Z = true := (mem_parts.mp h).2 Z (parts_sub hz) (parts_opp hz) hne

def brF (T : List Lit) : Nat → Lit → List (List Lit)
  | 0, X => [[X]]
  | n + 1, X => if ((parts T X).flatMap fun p => (brF T n p).map (X :: ·)) = [] then [[X]] else (parts T X).flatMap fun p => (brF T n p).map (X :: ·)
theorem brF_stable {T : List Lit} : ∀ (n m : Nat) (X : Lit), X.length ≤ n → X.length ≤ m → brF T n X = brF T m X
  | 0, 0, _, _, _ => rfl
  | 0, m + 1, X, h, _ => by
    have e : parts T X = [] := List.eq_nil_iff_forall_not_mem.mpr fun Y hY => by
      have := parts_lt hY
      omega
    show [[X]] = if _ then _ else _
    rw [e] <;> rfl
  | n + 1, 0, X, _, h => by
    have e : parts T X = [] := List.eq_nil_iff_forall_not_mem.mpr fun Y hY => by
      have := parts_lt hY
      omega
    show (if _ then _ else _) = [[X]]
    rw [e] <;> rfl
  | n + 1, m + 1, X, h1, h2 => by
    have e : ((parts T X).flatMap fun p => (brF T n p).map (X :: ·)) = (parts T X).flatMap fun p => (brF T m p).map (X :: ·) := by
      rw [List.flatMap_def, List.flatMap_def]
      refine congrArg List.flatten (List.map_congr_left fun p hp => ?_)
      have := parts_lt hp
      rw [brF_stable n m p (by omega) (by omega)]
    show (if _ then _ else _) = (if _ then _ else _)
    rw [e]
def br (T : List Lit) (X : Lit) : List (List Lit) := brF T X.length X
/-- the loop's list -/
def brL (T : List Lit) (X : Lit) : List (List Lit) := (parts T X).flatMap fun p => (br T p).map (X :: ·)
theorem br_eq (T : List Lit) (X : Lit) : br T X = if brL T X = [] then [[X]] else brL T X := by
  have e : brF T X.length X = brF T (X.length + 1) X := brF_stable _ _ _ (Nat.le_refl _) (Nat.le_succ _)
  have e2 : ((parts T X).flatMap fun p => (brF T X.length p).map (X :: ·)) = brL T X := by
    unfold brL br
    rw [List.flatMap_def, List.flatMap_def]
    refine congrArg List.flatten (List.map_congr_left fun p hp => ?_)
    have := parts_lt hp
    rw [brF_stable X.length p.length p (by omega) (by omega)]
  unfold br
  rw [e]
  show (if _ then _ else _) = _
  rw [e2]
theorem br_ne (T : List Lit) (X : Lit) : br T X ≠ [] := by
  rw [br_eq]
  split
  · simp
  · assumption
theorem brL_nil {T : List Lit} {X : Lit} : brL T X = [] ↔ parts T X = [] := by
  constructor
  · intro h
    refine List.eq_nil_iff_forall_not_mem.mpr fun Y hY => ?_
    obtain ⟨b, hb⟩ := List.exists_mem_of_ne_nil _ (br_ne T Y)
    have : (X :: b) ∈ brL T X := List.mem_flatMap.mpr ⟨Y, hY, List.mem_map.mpr ⟨b, hb, rfl⟩⟩
    rw [h] at this
    cases this
  · intro h
    unfold brL
    rw [h] <;> rfl
theorem br_nil {T : List Lit} {X : Lit} (h : parts T X = []) : br T X = [[X]] := by
  rw [br_eq, if_pos (brL_nil.mpr h)]
theorem br_cons {T : List Lit} {X : Lit} (h : parts T X ≠ []) : br T X = brL T X := by
  rw [br_eq, if_neg fun z => h (brL_nil.mp z)]
/-- a branch: its set, and behind it nothing, or a branch of a part -/
theorem mem_br {T : List Lit} {X : Lit} {b : List Lit} (h : b ∈ br T X) : (parts T X = [] ∧ b = [X]) ∨ ∃ Y b', Y ∈ parts T X ∧ b' ∈ br T Y ∧ b = X :: b' := by
  by_cases e : parts T X = []
  · rw [br_nil e] at h
    exact .inl ⟨e, by simpa using h⟩
  · rw [br_cons e] at h
    obtain ⟨Y, hY, hb⟩ := List.mem_flatMap.mp h
    obtain ⟨b', hb', rfl⟩ := List.mem_map.mp hb
    exact .inr ⟨Y, b', hY, hb', rfl⟩
theorem br_of {T : List Lit} {X Y : Lit} {b : List Lit} (hY : Y ∈ parts T X) (hb : b ∈ br T Y) : X :: b ∈ br T X := by
  rw [br_cons (List.ne_nil_of_mem hY)]
  exact List.mem_flatMap.mpr ⟨Y, hY, List.mem_map.mpr ⟨b, hb, rfl⟩⟩
theorem br_head {T : List Lit} {X : Lit} {b : List Lit} (h : b ∈ br T X) : ∃ r, b = X :: r := by
  rcases mem_br h with ⟨_, e⟩ | ⟨Y, b', _, _, e⟩
  · exact ⟨[], e⟩
  · exact ⟨b', e⟩
theorem br_len {T : List Lit} : ∀ (n : Nat) (X : Lit), X.length ≤ n → ∀ b ∈ br T X, b.length ≤ X.length + 1
  | 0, X, hn, b, h => by
    rcases mem_br h with ⟨_, e⟩ | ⟨Y, b', hY, _, e⟩
    · subst e; simp
    · have := parts_lt hY; omega
  | n + 1, X, hn, b, h => by
    rcases mem_br h with ⟨_, e⟩ | ⟨Y, b', hY, hb, e⟩
    · subst e; simp
    · have h1 := parts_lt hY
      have := br_len n Y (by omega) b' hb
      subst e
      simp only [List.length_cons]
      omega
theorem br_sub {T : List Lit} : ∀ (n : Nat) (X : Lit), X.length ≤ n → ∀ b ∈ br T X, ∀ Y ∈ b, Y.Sublist X
  | n, X, hn, b, h, Z, hZ => by
    rcases mem_br h with ⟨_, e⟩ | ⟨Y, b', hY, hb, e⟩
    · subst e
      rw [List.mem_singleton.mp hZ]
      exact List.Sublist.refl _
    · subst e
      rcases List.mem_cons.mp hZ with e | hZ
      · rw [e]
        exact List.Sublist.refl _
      · have h1 := parts_lt hY
        cases n with
        | zero => omega
        | succ n => exact (br_sub n Y (by omega) b' hb Z hZ).trans (parts_sub hY)
/-- the branch that turns off at a depth to another part -/
theorem br_turn {T : List Lit} : ∀ (n : Nat) (X : Lit), X.length ≤ n → ∀ b ∈ br T X, ∀ (k : Nat) (Z : Lit), b[k]? = some Z → k + 1 < b.length →
    (∀ W, b[k + 1]? = some W → W ∈ parts T Z) ∧ ∀ W ∈ parts T Z, ∃ b2 ∈ br T X, b2.take (k + 2) = b.take (k + 1) ++ [W]
  | n, X, hn, b, h, k, Z, hk, hl => by
    rcases mem_br h with ⟨_, e⟩ | ⟨Y, b', hY, hb, e⟩
    · subst e
      simp at hl
    · subst e
      have h1 := parts_lt hY
      cases k with
      | zero =>
        have e : X = Z := by simpa using hk
        subst e
        obtain ⟨r, hr⟩ := br_head hb
        refine ⟨fun W hW => ?_, fun W hW => ?_⟩
        · subst hr
          have : Y = W := by simpa using hW
          rw [← this]
          exact hY
        · obtain ⟨c, hc⟩ := List.exists_mem_of_ne_nil _ (br_ne T W)
          obtain ⟨r2, hr2⟩ := br_head hc
          refine ⟨X :: c, br_of hW hc, ?_⟩
          subst hr2
          simp
      | succ k =>
        cases n with
        | zero => omega
        | succ n =>
          obtain ⟨i1, i2⟩ := br_turn n Y (by omega) b' hb k Z (by simpa using hk) (by simpa using hl)
          refine ⟨fun W hW => i1 W (by simpa using hW), fun W hW => ?_⟩
          obtain ⟨b2, h2, e2⟩ := i2 W hW
          refine ⟨X :: b2, br_of hY h2, ?_⟩
          rw [List.take_succ_cons, e2, List.take_succ_cons, List.cons_append]
end Rg

end
section
set_option autoImplicit false
namespace Rg
/-! ### how many branches there are: at most as many as orders of the lamps -/
/-- all orders of n things out of X -/
def arr : Nat → List Nat → List (List Nat)
  | 0, _ => [[]]
  | n + 1, X => X.flatMap fun c => (arr n (X.erase c)).map (c :: ·)
theorem mem_arr : ∀ (n : Nat) (X p : List Nat), p.length = n → p.Nodup → (∀ c ∈ p, c ∈ X) → p ∈ arr n X
  | 0, X, p, hl, _, _ => by
    rw [List.length_eq_zero_iff.mp hl]
    exact List.mem_singleton.mpr rfl
  | n + 1, X, [], hl, _, _ => by simp at hl
  | n + 1, X, c :: p, hl, hn, hs => by
    have hn' := List.nodup_cons.mp hn
    refine List.mem_flatMap.mpr ⟨c, hs c List.mem_cons_self, List.mem_map.mpr ⟨p, ?_, rfl⟩⟩
    refine mem_arr n _ p (by simpa using hl) hn'.2 fun d hd => ?_
    exact (List.mem_erase_of_ne (by rintro rfl; exact hn'.1 hd)).mpr (hs d (List.mem_cons_of_mem _ hd))
def fac : Nat → Nat
  | 0 => 1
  | n + 1 => (n + 1) * fac n
theorem sum_const {α : Type} (f : α → Nat) (k : Nat) : ∀ l : List α, (∀ x ∈ l, f x = k) → (l.map f).sum = l.length * k
  | [], _ => by simp
  | x :: l, h => by
    rw [List.map_cons, List.sum_cons, h x List.mem_cons_self, sum_const f k l fun y hy => h y (List.mem_cons_of_mem _ hy), List.length_cons, Nat.succ_mul]
    omega
theorem arr_len : ∀ (n : Nat) (X : List Nat), X.length = n → (arr n X).length = fac n
  | 0, _, _ => rfl
  | n + 1, X, h => by
    show (X.flatMap _).length = _
    rw [List.length_flatMap, sum_const _ (fac n) X fun c hc => ?_, h]
    · rfl
    · rw [List.length_map, arr_len n _ (by rw [List.length_erase_of_mem hc, h] <;> rfl)]
theorem len_le_of_subset {α : Type} [DecidableEq α] : ∀ (l m : List α), l.Nodup → (∀ x ∈ l, x ∈ m) → l.length ≤ m.length
  | [], _, _, _ => Nat.zero_le _
  | x :: l, m, hn, hs => by
    have hn' := List.nodup_cons.mp hn
    have h := len_le_of_subset l (m.erase x) hn'.2 fun y hy => (List.mem_erase_of_ne (by rintro rfl; exact hn'.1 hy)).mpr (hs y (List.mem_cons_of_mem _ hy))
    have hx := hs x List.mem_cons_self
    rw [List.length_erase_of_mem hx] at h
    have : 0 < m.length := List.length_pos_of_mem hx
    rw [List.length_cons]
    omega
/-- the order of a branch: the lamps of the end first -/
def ordF : List Lit → Lit → List Nat
  | [], _ => []
  | [X], _ => X
  | X :: Y :: r, Z => ordF (Y :: r) Z ++ X.filter fun c => decide (c ∉ Y)
def ord (b : List Lit) : List Nat := ordF b []
theorem ord_one (X : Lit) : ord [X] = X := rfl
theorem ord_two (X Y : Lit) (r : List Lit) : ord (X :: Y :: r) = ord (Y :: r) ++ X.filter fun c => decide (c ∉ Y) := rfl
theorem ord_props {T : List Lit} : ∀ (n : Nat) (X : Lit), X.length ≤ n → X.Nodup → ∀ b ∈ br T X, (ord b).Nodup ∧ (∀ c, c ∈ ord b ↔ c ∈ X)
  | n, X, hn, nd, b, h => by
    rcases mem_br h with ⟨_, e⟩ | ⟨Y, b', hY, hb, e⟩
    · subst e
      exact ⟨nd, fun c => Iff.rfl⟩
    · subst e
      have h1 := parts_lt hY
      cases n with
      | zero => omega
      | succ n =>
        obtain ⟨i1, i2⟩ := ord_props n Y (by omega) (nd.sublist (parts_sub hY)) b' hb
        obtain ⟨r, rfl⟩ := br_head hb
        rw [ord_two]
        refine ⟨List.nodup_append.mpr ⟨i1, nd.filter _, fun x hx y hy e => ?_⟩, fun c => ?_⟩
        · subst e
          have := (List.mem_filter.mp hy).2
          exact (of_decide_eq_true this) ((i2 x).1 hx)
        · rw [List.mem_append, i2, List.mem_filter, decide_eq_true_eq]
          constructor
          · rintro (h | h)
            · exact sub_mem (parts_sub hY) c h
            · exact h.1
          · intro h
            by_cases q : c ∈ Y
            · exact .inl q
            · exact .inr ⟨h, q⟩
theorem nodup_len_ext {a b : List Nat} (ha : a.Nodup) (hb : b.Nodup) (h : ∀ c, c ∈ a ↔ c ∈ b) : a.length = b.length :=
  Nat.le_antisymm (len_le_of_subset a b ha fun c hc => (h c).1 hc) (len_le_of_subset b a hb fun c hc => (h c).2 hc)
theorem pref_sub {a b x y : List Nat} (e : a ++ x = b ++ y) (hl : a.length ≤ b.length) : ∀ c ∈ a, c ∈ b := by
  intro c hc
  have h : (b ++ y).take a.length = a := by rw [← e]; simp
  rw [List.take_append_of_le_length hl] at h
  rw [← h] at hc
  exact List.mem_of_mem_take hc
theorem ord_inj {T : List Lit} : ∀ (n : Nat) (X : Lit), X.length ≤ n → X.Nodup → ((br T X).map ord).Nodup
  | n, X, hn, nd => by
    by_cases e : parts T X = []
    · rw [br_nil e]
      simp
    · rw [br_cons e]
      cases n with
      | zero =>
        obtain ⟨Y, hY⟩ := List.exists_mem_of_ne_nil _ e
        have := parts_lt hY
        omega
      | succ n =>
        unfold brL
        rw [List.map_flatMap]
        have hnd := parts_nodup (T := T) nd
        have key : ∀ Y ∈ parts T X, ∀ b ∈ br T Y, ord (X :: b) = ord b ++ X.filter fun c => decide (c ∉ Y) := fun Y hY b hb => by
          obtain ⟨r, rfl⟩ := br_head hb
          exact ord_two X Y r
        show List.Pairwise (· ≠ ·) _
        rw [List.pairwise_flatMap]
        refine ⟨fun Y hY => ?_, ?_⟩
        · have i := ord_inj (T := T) n Y (by have := parts_lt hY; omega) (nd.sublist (parts_sub hY))
          have e2 : (List.map ord (List.map (X :: ·) (br T Y))) = ((br T Y).map ord).map (· ++ X.filter fun c => decide (c ∉ Y)) := by
            rw [List.map_map, List.map_map]
            exact List.map_congr_left fun b hb => key Y hY b hb
          rw [e2]
          rw [List.pairwise_map]
          exact List.Pairwise.imp (fun h q => h (List.append_cancel_right q)) i
        · refine hnd.imp_of_mem fun {Y Z} hY hZ hne x hx y hy => ?_
          obtain ⟨b, hb, rfl⟩ := List.mem_map.mp hx
          obtain ⟨b1, hb1, rfl⟩ := List.mem_map.mp hb
          obtain ⟨c, hc, rfl⟩ := List.mem_map.mp hy
          obtain ⟨c1, hc1, rfl⟩ := List.mem_map.mp hc
          rw [key Y hY b1 hb1, key Z hZ c1 hc1]
          intro q
          have p1 := ord_props Y.length Y (Nat.le_refl _) (nd.sublist (parts_sub hY)) b1 hb1
          have p2 := ord_props Z.length Z (Nat.le_refl _) (nd.sublist (parts_sub hZ)) c1 hc1
          rcases Nat.le_total (ord b1).length (ord c1).length with hl | hl
          · exact parts_anti hY hZ hne (within_iff.mpr fun d hd => (p2.2 d).1 (pref_sub q hl d ((p1.2 d).2 hd)))
          · exact parts_anti hZ hY (Ne.symm hne) (within_iff.mpr fun d hd => (p1.2 d).1 (pref_sub q.symm hl d ((p2.2 d).2 hd)))
theorem br_count {T : List Lit} {X : Lit} (nd : X.Nodup) : (br T X).length ≤ fac X.length := by
  have h := len_le_of_subset ((br T X).map ord) (arr X.length X) (ord_inj _ X (Nat.le_refl _) nd) fun p hp => by
    obtain ⟨b, hb, rfl⟩ := List.mem_map.mp hp
    obtain ⟨h1, h2⟩ := ord_props X.length X (Nat.le_refl _) nd b hb
    exact mem_arr _ _ _ (nodup_len_ext h1 nd h2) h1 fun c hc => (h2 c).1 hc
  rw [List.length_map, arr_len _ _ rfl] at h
  exact h
theorem br_count24 {T : List Lit} {X : Lit} (nd : X.Nodup) (h4 : X.length ≤ 4) : (br T X).length ≤ 24 := by
  refine Nat.le_trans (br_count nd) ?_
  have : X.length = 0 ∨ X.length = 1 ∨ X.length = 2 ∨ X.length = 3 ∨ X.length = 4 := by omega
  rcases this with e | e | e | e | e <;> rw [e] <;> decide
end Rg

end
section
set_option autoImplicit false
namespace Rg
/-! ### rows of sets read by steps: nx the room behind, nu the number -/
section
variable (nx nu : Int → Lit → Int)
def run (r : Int) (ds : List Lit) : Int := ds.foldl nx r
def nums : Int → List Lit → List Int
  | _, [] => []
  | r, d :: ds => nu r d :: nums (nx r d) ds
end
theorem run_append {nx : Int → Lit → Int} (r : Int) (a b : List Lit) : run nx r (a ++ b) = run nx (run nx r a) b := List.foldl_append
theorem nums_append {nx nu : Int → Lit → Int} : ∀ (a b : List Lit) (r : Int), nums nx nu r (a ++ b) = nums nx nu r a ++ nums nx nu (run nx r a) b
  | [], _, _ => rfl
  | d :: a, b, r => congrArg (nu r d :: ·) (nums_append a b (nx r d))
theorem nums_len {nx nu : Int → Lit → Int} : ∀ (a : List Lit) (r : Int), (nums nx nu r a).length = a.length
  | [], _ => rfl
  | d :: a, r => by
    show (nums nx nu (nx r d) a).length + 1 = a.length + 1
    rw [nums_len a]
/-- the lamps of a row -/
def un (L : Lit) (ds : List Lit) : Lit := L.filter fun c => ds.any fun d => decide (c ∈ d)
theorem mem_un {L : Lit} {ds : List Lit} {c : Nat} : c ∈ un L ds ↔ c ∈ L ∧ ∃ d ∈ ds, c ∈ d := by
  unfold un
  rw [List.mem_filter, List.any_eq_true]
  simp only [decide_eq_true_eq]
theorem un_ris {L : Lit} {ds : List Lit} (h : Ris L) : Ris (un L ds) := h.filter _
theorem un_sub (L : Lit) (ds : List Lit) : (un L ds).Sublist L := List.filter_sublist
structure IsMax (m : Int) (l : List Int) : Prop where
  mem : m ∈ l
  le : ∀ x ∈ l, x ≤ m
theorem isMax_ex : ∀ l : List Int, l ≠ [] → ∃ m, IsMax m l
  | [], h => absurd rfl h
  | [x], _ => ⟨x, by simp, fun y hy => by rw [List.mem_singleton.mp hy]; exact Int.le_refl _⟩
  | x :: y :: l, _ => by
    obtain ⟨m, h1, h2⟩ := isMax_ex (y :: l) (by simp)
    by_cases q : x ≤ m
    · exact ⟨m, List.mem_cons_of_mem _ h1, fun z hz => (List.mem_cons.mp hz).elim (fun e => e ▸ q) (h2 z)⟩
    · refine ⟨x, List.mem_cons_self, fun z hz => (List.mem_cons.mp hz).elim (fun e => by rw [e]; exact Int.le_refl _) fun hz => ?_⟩
      have := h2 z hz
      omega
theorem IsMax.uniq {m n : Int} {l : List Int} (a : IsMax m l) (b : IsMax n l) : m = n := by
  have := a.le n b.mem
  have := b.le m a.mem
  omega
theorem IsMax.append {m n : Int} {l k : List Int} (a : IsMax m l) (b : IsMax n k) : IsMax (if m ≤ n then n else m) (l ++ k) := by
  by_cases q : m ≤ n
  · rw [if_pos q]
    refine ⟨List.mem_append_right _ b.mem, fun x hx => ?_⟩
    rcases List.mem_append.mp hx with h | h
    · have := a.le x h; omega
    · exact b.le x h
  · rw [if_neg q]
    refine ⟨List.mem_append_left _ a.mem, fun x hx => ?_⟩
    rcases List.mem_append.mp hx with h | h
    · exact a.le x h
    · have := b.le x h; omega
section
variable {nx nu : Int → Lit → Int} {L : Lit} {T : List Lit}
/-- no ring from r is told wrong -/
def Right (nx nu : Int → Lit → Int) (L : Lit) (T : List Lit) (r : Int) : Prop :=
  ∀ ds : List Lit, ds ≠ [] → (∀ d ∈ ds, d.Sublist L) → run nx r ds = r → ∀ m, IsMax m (nums nx nu r ds) → (m % 2 = 0 ↔ un L ds ∈ T)
/-- s is reached from r by sets within X -/
def Rx (nx : Int → Lit → Int) (X : Lit) (r s : Int) : Prop := ∃ ds : List Lit, (∀ d ∈ ds, d.Sublist X) ∧ run nx r ds = s
theorem Rx.refl (X : Lit) (r : Int) : Rx nx X r r := ⟨[], fun _ h => (nomatch h), rfl⟩
theorem Rx.trans {X : Lit} {r s t : Int} (a : Rx nx X r s) (b : Rx nx X s t) : Rx nx X r t := by
  obtain ⟨d1, h1, e1⟩ := a
  obtain ⟨d2, h2, e2⟩ := b
  refine ⟨d1 ++ d2, fun d hd => (List.mem_append.mp hd).elim (h1 d) (h2 d), ?_⟩
  rw [run_append, e1, e2]
theorem Rx.one {X D : Lit} (r : Int) (h : D.Sublist X) : Rx nx X r (nx r D) := ⟨[D], fun d hd => by rw [List.mem_singleton.mp hd]; exact h, rfl⟩
theorem Rx.stay {X : Lit} {S : List Int} (hc : ∀ r ∈ S, ∀ D : Lit, D.Sublist X → nx r D ∈ S) {r s : Int} (hr : r ∈ S) (h : Rx nx X r s) : s ∈ S := by
  obtain ⟨ds, hd, e⟩ := h
  subst e
  induction ds generalizing r with
  | nil => exact hr
  | cons d ds ih => exact ih (hc r hr d (hd d List.mem_cons_self)) fun x hx => hd x (List.mem_cons_of_mem _ hx)
open Classical in
/-- a room that can be come back to -/
theorem recurrent {X : Lit} {S : List Int} (hc : ∀ r ∈ S, ∀ D : Lit, D.Sublist X → nx r D ∈ S) : ∀ (n : Nat) (r : Int), r ∈ S → (S.filter fun x => decide (Rx nx X r x)).length ≤ n →
    ∃ s ∈ S, Rx nx X r s ∧ ∀ t, Rx nx X s t → Rx nx X t s
  | 0, r, hr, h => by
    have : r ∈ S.filter fun x => decide (Rx nx X r x) := List.mem_filter.mpr ⟨hr, decide_eq_true (Rx.refl X r)⟩
    have := List.length_pos_of_mem this
    omega
  | n + 1, r, hr, h => by
    by_cases q : ∀ t, Rx nx X r t → Rx nx X t r
    · exact ⟨r, hr, Rx.refl X r, q⟩
    · obtain ⟨t, ht⟩ := Classical.not_forall.mp q
      obtain ⟨h1, h2⟩ := Classical.not_imp.mp ht
      have htS := Rx.stay hc hr h1
      have lt : (S.filter fun x => decide (Rx nx X t x)).length < (S.filter fun x => decide (Rx nx X r x)).length := by
        have e : (S.filter fun x => decide (Rx nx X t x)) = (S.filter fun x => decide (Rx nx X r x)).filter fun x => decide (Rx nx X t x) := by
          rw [List.filter_filter]
          refine List.filter_congr fun x _ => ?_
          by_cases z : Rx nx X t x
          · simp [z, h1.trans z]
          · simp [z]
        rw [e]
        refine List.length_filter_lt_length_iff_exists.mpr ⟨r, List.mem_filter.mpr ⟨hr, decide_eq_true (Rx.refl X r)⟩, ?_⟩
        simpa using h2
      obtain ⟨s, h3, h4, h5⟩ := recurrent hc n t htS (by omega)
      exact ⟨s, h3, h1.trans h4, h5⟩
/-- a ring through a letter -/
theorem ring_of {X : Lit} {s x : Int} (hs : ∀ t, Rx nx X s t → Rx nx X t s) (hx : Rx nx X s x) : ∃ ds : List Lit, (∀ d ∈ ds, d.Sublist X) ∧ run nx x (X :: ds) = x := by
  have h1 : Rx nx X s (nx x X) := hx.trans (Rx.one x (List.Sublist.refl X))
  obtain ⟨ds, h2, e⟩ := (hs _ h1).trans hx
  exact ⟨ds, h2, e⟩
theorem un_ring {X : Lit} (hL : Ris L) (hX : X.Sublist L) {ds : List Lit} (h : ∀ d ∈ ds, d.Sublist X) : un L (X :: ds) = X := by
  refine ris_ext (un_ris hL) (ris_sub hX hL) fun c => ?_
  rw [mem_un]
  constructor
  · rintro ⟨_, d, hd, hc⟩
    rcases List.mem_cons.mp hd with e | hd
    · rw [← e]; exact hc
    · exact sub_mem (h d hd) c hc
  · intro hc
    exact ⟨sub_mem hX c hc, X, List.mem_cons_self, hc⟩
theorem filter_split {α : Type} (p : α → Bool) : ∀ S : List α, (S.filter p).length + (S.filter fun x => !p x).length = S.length
  | [] => rfl
  | x :: S => by
    have := filter_split p S
    rw [List.filter_cons, List.filter_cons, List.length_cons]
    cases h : p x <;> simp <;> omega
theorem sum_filter {α β : Type} (p : β → α → Bool) : ∀ (ps : List β) (S : List α), ps.Pairwise (fun a b => ∀ x ∈ S, ¬ (p a x = true ∧ p b x = true)) → (ps.map fun a => (S.filter (p a)).length).sum ≤ S.length
  | [], _, _ => Nat.zero_le _
  | a :: ps, S, h => by
    have h' := List.pairwise_cons.mp h
    have i := sum_filter p ps (S.filter fun x => !p a x) (h'.2.imp fun q x hx => q x (List.mem_filter.mp hx).1)
    have e : (ps.map fun b => (S.filter (p b)).length) = ps.map fun b => ((S.filter fun x => !p a x).filter (p b)).length := by
      refine List.map_congr_left fun b hb => ?_
      rw [List.filter_filter]
      refine congrArg List.length (List.filter_congr fun x hx => ?_)
      have := h'.1 b hb x hx
      cases h1 : p a x <;> cases h2 : p b x <;> simp_all
    rw [List.map_cons, List.sum_cons, e]
    have e2 : (S.filter (p a)).length + (S.filter fun x => !p a x).length = S.length := by
      exact filter_split (p a) S
    omega
open Classical in
/-- THE LOWER BOUND: a right teller's rooms -/
theorem rooms_bound (hL : Ris L) : ∀ (n : Nat) (X : Lit), X.length ≤ n → X.Sublist L → ∀ S : List Int, S ≠ [] → (∀ r ∈ S, Right nx nu L T r) → (∀ r ∈ S, ∀ D : Lit, D.Sublist X → nx r D ∈ S) → (br T X).length ≤ S.length
  | n, X, hn, hX, S, hS, hR, hc => by
    by_cases e : parts T X = []
    · rw [br_nil e]
      exact List.length_pos_iff.mpr hS
    · rw [br_cons e]
      have hXr := ris_sub hX hL
      obtain ⟨r0, hr0⟩ := List.exists_mem_of_ne_nil S hS
      have ex : ∀ Y : Lit, ∃ s : Int, Y ∈ parts T X → s ∈ S ∧ ∀ t, Rx nx Y s t → Rx nx Y t s := fun Y => by
        by_cases hY : Y ∈ parts T X
        · obtain ⟨s, h1, _, h3⟩ := recurrent (nx := nx) (X := Y) (S := S) (fun r hr D hD => hc r hr D (hD.trans (parts_sub hY))) _ r0 hr0 (Nat.le_refl _)
          exact ⟨s, fun _ => ⟨h1, h3⟩⟩
        · exact ⟨0, fun z => absurd z hY⟩
      let f : Lit → Int := fun Y => Classical.choose (ex Y)
      have hf : ∀ Y ∈ parts T X, f Y ∈ S ∧ ∀ t, Rx nx Y (f Y) t → Rx nx Y t (f Y) := fun Y => Classical.choose_spec (ex Y)
      have disj : (parts T X).Pairwise fun Y Z => ∀ x ∈ S, ¬ (decide (Rx nx Y (f Y) x) = true ∧ decide (Rx nx Z (f Z) x) = true) := by
        refine (parts_nodup (ris_nodup hXr)).imp_of_mem fun {Y Z} hY hZ hne x hx => ?_
        rintro ⟨a1, a2⟩
        obtain ⟨d1, k1, e1⟩ := ring_of (hf Y hY).2 (of_decide_eq_true a1)
        obtain ⟨d2, k2, e2⟩ := ring_of (hf Z hZ).2 (of_decide_eq_true a2)
        have sY := (parts_sub hY).trans hX
        have sZ := (parts_sub hZ).trans hX
        have l1 : ∀ d ∈ Y :: d1, d.Sublist L := fun d hd => (List.mem_cons.mp hd).elim (fun q => q ▸ sY) fun q => (k1 d q).trans sY
        have l2 : ∀ d ∈ Z :: d2, d.Sublist L := fun d hd => (List.mem_cons.mp hd).elim (fun q => q ▸ sZ) fun q => (k2 d q).trans sZ
        obtain ⟨m1, M1⟩ := isMax_ex (nums nx nu x (Y :: d1)) (by simp [nums])
        obtain ⟨m2, M2⟩ := isMax_ex (nums nx nu x (Z :: d2)) (by simp [nums])
        have R1 := hR x hx _ (by simp) l1 e1 m1 M1
        have R2 := hR x hx _ (by simp) l2 e2 m2 M2
        rw [un_ring hL sY k1] at R1
        rw [un_ring hL sZ k2] at R2
        have M3 := M1.append M2
        rw [show nums nx nu x (Z :: d2) = nums nx nu (run nx x (Y :: d1)) (Z :: d2) by rw [e1], ← nums_append] at M3
        have R3 := hR x hx ((Y :: d1) ++ (Z :: d2)) (by simp) (fun d hd => (List.mem_append.mp hd).elim (l1 d) (l2 d)) (by rw [run_append, e1, e2]) _ M3
        have hW : (un L ((Y :: d1) ++ (Z :: d2))).Sublist X := by
          refine sub_of (un_ris hL) hXr fun c hc => ?_
          obtain ⟨_, d, hd, hcd⟩ := mem_un.mp hc
          rcases List.mem_append.mp hd with q | q
          · rcases List.mem_cons.mp q with q | q
            · exact sub_mem (parts_sub hY) c (q ▸ hcd)
            · exact sub_mem ((k1 d q).trans (parts_sub hY)) c hcd
          · rcases List.mem_cons.mp q with q | q
            · exact sub_mem (parts_sub hZ) c (q ▸ hcd)
            · exact sub_mem ((k2 d q).trans (parts_sub hZ)) c hcd
        have wY : ∀ c ∈ Y, c ∈ un L ((Y :: d1) ++ (Z :: d2)) := fun c hc => mem_un.mpr ⟨sub_mem sY c hc, Y, by simp, hc⟩
        have wZ : ∀ c ∈ Z, c ∈ un L ((Y :: d1) ++ (Z :: d2)) := fun c hc => mem_un.mpr ⟨sub_mem sZ c hc, Z, by simp, hc⟩
        have nY : Y ≠ un L ((Y :: d1) ++ (Z :: d2)) := fun q => parts_anti hZ hY (Ne.symm hne) (within_iff.mpr fun c hc => by rw [q]; exact wZ c hc)
        have big := parts_max hY hW nY (within_iff.mpr wY)
        have oY := parts_opp hY
        have oZ := parts_opp hZ
        rw [big] at R3
        by_cases q : m1 ≤ m2
        · rw [if_pos q] at R3
          by_cases z : X ∈ T
          · exact (oZ.1 (R2.1 (R3.2 z))) z
          · exact z (R3.1 (R2.2 (oZ.2 z)))
        · rw [if_neg q] at R3
          by_cases z : X ∈ T
          · exact (oY.1 (R1.1 (R3.2 z))) z
          · exact z (R3.1 (R1.2 (oY.2 z)))
      have total := sum_filter (fun Y x => decide (Rx nx Y (f Y) x)) (parts T X) S disj
      refine Nat.le_trans ?_ total
      unfold brL
      rw [List.length_flatMap]
      have each : ∀ Y ∈ parts T X, ((br T Y).map (X :: ·)).length ≤ (S.filter fun x => decide (Rx nx Y (f Y) x)).length := fun Y hY => by
        rw [List.length_map]
        have h1 := parts_lt hY
        cases n with
        | zero => omega
        | succ n =>
          refine rooms_bound hL n Y (by omega) ((parts_sub hY).trans hX) _ ?_ (fun r hr => hR r (List.mem_filter.mp hr).1) fun r hr D hD => ?_
          · exact List.ne_nil_of_mem (List.mem_filter.mpr ⟨(hf Y hY).1, decide_eq_true (Rx.refl Y (f Y))⟩)
          · obtain ⟨q1, q2⟩ := List.mem_filter.mp hr
            exact List.mem_filter.mpr ⟨hc r q1 D (hD.trans (parts_sub hY)), decide_eq_true ((of_decide_eq_true q2).trans (Rx.one r hD))⟩
      generalize parts T X = ps at each
      induction ps with
      | nil => exact Nat.zero_le _
      | cons Y ps ih =>
        rw [List.map_cons, List.map_cons, List.sum_cons, List.sum_cons]
        have := each Y List.mem_cons_self
        have := ih fun Z hZ => each Z (List.mem_cons_of_mem _ hZ)
        omega
open Classical in
/-- .. and its numbers -/
theorem numbers_bound (hL : Ris L) : ∀ (n : Nat) (X : Lit), X.length ≤ n → X.Sublist L → ∀ S : List Int, S ≠ [] → (∀ r ∈ S, Right nx nu L T r) → (∀ r ∈ S, ∀ D : Lit, D.Sublist X → nx r D ∈ S) → (∀ r ∈ S, ∀ D : Lit, D.Sublist X → 0 ≤ nu r D) →
    ∀ b ∈ br T X, ∃ r ∈ S, ∃ ds : List Lit, ds ≠ [] ∧ (∀ d ∈ ds, d.Sublist X) ∧ run nx r ds = r ∧ un L ds = X ∧ ∃ m, IsMax m (nums nx nu r ds) ∧ (b.length : Int) ≤ m + 1
  | n, X, hn, hX, S, hS, hR, hc, h0, b, hb => by
    obtain ⟨r0, hr0⟩ := List.exists_mem_of_ne_nil S hS
    obtain ⟨s, hs, _, hrec⟩ := recurrent (nx := nx) (X := X) (S := S) hc _ r0 hr0 (Nat.le_refl _)
    have nn : ∀ (ds : List Lit) (r : Int), r ∈ S → (∀ d ∈ ds, d.Sublist X) → ∀ x ∈ nums nx nu r ds, 0 ≤ x := by
      intro ds
      induction ds with
      | nil => intro _ _ _ x hx; cases hx
      | cons d ds ih =>
        intro r hr hd x hx
        rcases List.mem_cons.mp hx with e | hx
        · rw [e]; exact h0 r hr d (hd d List.mem_cons_self)
        · exact ih _ (hc r hr d (hd d List.mem_cons_self)) (fun y hy => hd y (List.mem_cons_of_mem _ hy)) x hx
    rcases mem_br hb with ⟨_, e⟩ | ⟨Y, b', hY, hb', e⟩
    · subst e
      obtain ⟨ds, k, e⟩ := ring_of hrec (Rx.refl X s)
      have hd : ∀ d ∈ X :: ds, d.Sublist X := fun d hd => (List.mem_cons.mp hd).elim (fun q => q ▸ List.Sublist.refl _) (k d)
      obtain ⟨m, M⟩ := isMax_ex (nums nx nu s (X :: ds)) (by simp [nums])
      refine ⟨s, hs, X :: ds, by simp, hd, e, un_ring hL hX k, m, M, ?_⟩
      have := nn _ s hs hd m M.mem
      simp only [List.length_singleton]
      omega
    · subst e
      have h1 := parts_lt hY
      cases n with
      | zero => omega
      | succ n =>
        have hc' : ∀ r ∈ S.filter (fun x => decide (Rx nx X s x)), ∀ D : Lit, D.Sublist X → nx r D ∈ S.filter (fun x => decide (Rx nx X s x)) := fun r hr D hD => by
          obtain ⟨q1, q2⟩ := List.mem_filter.mp hr
          exact List.mem_filter.mpr ⟨hc r q1 D hD, decide_eq_true ((of_decide_eq_true q2).trans (Rx.one r hD))⟩
        obtain ⟨r, hr, ds, a1, a2, a3, a4, m, M, hm⟩ := numbers_bound hL n Y (by omega) ((parts_sub hY).trans hX) (S.filter fun x => decide (Rx nx X s x))
          (List.ne_nil_of_mem (List.mem_filter.mpr ⟨hs, decide_eq_true (Rx.refl X s)⟩)) (fun r hr => hR r (List.mem_filter.mp hr).1) (fun r hr D hD => hc' r hr D (hD.trans (parts_sub hY)))
          (fun r hr D hD => h0 r (List.mem_filter.mp hr).1 D (hD.trans (parts_sub hY))) b' hb'
        obtain ⟨q1, q2⟩ := List.mem_filter.mp hr
        obtain ⟨cs, k, ec⟩ := ring_of hrec (of_decide_eq_true q2)
        have hcs : ∀ d ∈ X :: cs, d.Sublist X := fun d hd => (List.mem_cons.mp hd).elim (fun q => q ▸ List.Sublist.refl _) (k d)
        have hds : ∀ d ∈ ds, d.Sublist X := fun d hd => (a2 d hd).trans (parts_sub hY)
        obtain ⟨m2, M2⟩ := isMax_ex (nums nx nu r (X :: cs)) (by simp [nums])
        have M3 := M2.append M
        rw [show nums nx nu r ds = nums nx nu (run nx r (X :: cs)) ds by rw [ec], ← nums_append] at M3
        have hall : ∀ d ∈ X :: (cs ++ ds), d.Sublist X := fun d hd => (List.mem_cons.mp hd).elim (fun q => q ▸ List.Sublist.refl _) fun q => (List.mem_append.mp q).elim (k d) (hds d)
        have e1 : un L (X :: (cs ++ ds)) = X := un_ring hL hX fun d hd => (List.mem_append.mp hd).elim (k d) (hds d)
        have e2 : run nx r (X :: (cs ++ ds)) = r := by
          rw [← List.cons_append, run_append, ec, a3]
        refine ⟨r, q1, X :: (cs ++ ds), by simp, hall, e2, e1, _, M3, ?_⟩
        have R1 := hR r q1 ds a1 (fun d hd => (hds d hd).trans hX) a3 m M
        have R2 := hR r q1 (X :: (cs ++ ds)) (by simp) (fun d hd => (hall d hd).trans hX) e2 _ M3
        rw [a4] at R1
        rw [e1] at R2
        have o := parts_opp hY
        rw [List.length_cons]
        by_cases q : m2 ≤ m
        · rw [if_pos q] at R2
          exfalso
          by_cases z : X ∈ T
          · exact (o.1 (R1.1 (R2.2 z))) z
          · exact z (R2.1 (R1.2 (o.2 z)))
        · rw [if_neg q]
          omega
end
end Rg

end
section
set_option autoImplicit false
namespace Rg
/-! ### edges and walks along them -/
structure EdF (α : Type) where
  o : α → Int
  g : α → Int
  n : α → Int
  d : α → Lit
section
variable {α : Type} (o g : α → Int)
/-- a walk from a to b -/
def Ch (E : List α) : Int → List α → Int → Prop
  | a, [], b => a = b
  | a, e :: es, b => e ∈ E ∧ o e = a ∧ Ch E (g e) es b
def Rt (E : List α) (a b : Int) : Prop := ∃ es, Ch o g E a es b
end
section
variable {α : Type} {o g : α → Int} {E E' : List α}
theorem Ch.app : ∀ {es fs : List α} {a b c : Int}, Ch o g E a es b → Ch o g E b fs c → Ch o g E a (es ++ fs) c
  | [], _, _, _, _, h, k => by
    have e : _ = _ := h
    subst e
    exact k
  | _ :: _, _, _, _, _, h, k => ⟨h.1, h.2.1, Ch.app h.2.2 k⟩
theorem Ch.mono (s : ∀ e ∈ E, e ∈ E') : ∀ {es : List α} {a b : Int}, Ch o g E a es b → Ch o g E' a es b
  | [], _, _, h => h
  | _ :: _, _, _, h => ⟨s _ h.1, h.2.1, Ch.mono s h.2.2⟩
theorem Ch.mem : ∀ {es : List α} {a b : Int}, Ch o g E a es b → ∀ e ∈ es, e ∈ E
  | [], _, _, _, _, h => by cases h
  | _ :: _, _, _, h, e, he => (List.mem_cons.mp he).elim (fun q => q ▸ h.1) (Ch.mem h.2.2 e)
theorem Rt.refl (a : Int) : Rt o g E a a := ⟨[], rfl⟩
theorem Rt.trans {a b c : Int} (h : Rt o g E a b) (k : Rt o g E b c) : Rt o g E a c := by
  obtain ⟨es, h⟩ := h
  obtain ⟨fs, k⟩ := k
  exact ⟨_, h.app k⟩
theorem Rt.edge {e : α} (h : e ∈ E) : Rt o g E (o e) (g e) := ⟨[e], h, rfl, rfl⟩
theorem Rt.mono (s : ∀ e ∈ E, e ∈ E') {a b : Int} (h : Rt o g E a b) : Rt o g E' a b := by
  obtain ⟨es, h⟩ := h
  exact ⟨es, h.mono s⟩
/-- a set that holds the start and with each edge's origin its goal holds all that is reached -/
theorem Rt.closed {P : Int → Prop} (hP : ∀ e ∈ E, P (o e) → P (g e)) {a b : Int} (ha : P a) (h : Rt o g E a b) : P b := by
  obtain ⟨es, h⟩ := h
  induction es generalizing a with
  | nil =>
    have e : a = b := h
    exact e ▸ ha
  | cons e es ih =>
    obtain ⟨h1, h2, h3⟩ := h
    exact ih (hP e h1 (h2.symm ▸ ha)) h3
/-- each walk's split at an edge -/
theorem Ch.split : ∀ {es : List α} {a b : Int}, Ch o g E a es b → ∀ e ∈ es, Rt o g E a (o e) ∧ Rt o g E (g e) b
  | [], _, _, _, _, h => by cases h
  | f :: es, a, b, h, e, he => by
    obtain ⟨h1, h2, h3⟩ := h
    rcases List.mem_cons.mp he with q | q
    · subst q
      rw [h2]
      exact ⟨Rt.refl a, _, h3⟩
    · obtain ⟨k1, k2⟩ := Ch.split h3 e q
      exact ⟨h2 ▸ (Rt.edge h1).trans k1, k2⟩
/-- backwards -/
theorem Rt.rev {a b : Int} (h : Rt o g E a b) : Rt g o E b a := by
  obtain ⟨es, h⟩ := h
  induction es generalizing a with
  | nil =>
    have e : a = b := h
    exact e ▸ Rt.refl a
  | cons e es ih =>
    obtain ⟨h1, h2, h3⟩ := h
    have k : Rt g o E (g e) (o e) := Rt.edge (o := g) (g := o) h1
    exact h2 ▸ (ih h3).trans k
/-- x and v lead to one another -/
def Sc (o g : α → Int) (E : List α) (v x : Int) : Prop := Rt o g E v x ∧ Rt o g E x v
/-- P is the part of the edges about v -/
structure PartOf (o g : α → Int) (E : List α) (v : Int) (P : List α) : Prop where
  mem : ∀ e, e ∈ P ↔ e ∈ E ∧ Sc o g E v (o e) ∧ Sc o g E v (g e)
theorem PartOf.walk {v : Int} {P : List α} (h : PartOf o g E v P) : ∀ {es : List α} {a b : Int}, Sc o g E v a → Sc o g E v b → Ch o g E a es b → Ch o g P a es b
  | [], _, _, _, _, k => k
  | e :: es, a, b, ha, hb, k => by
    obtain ⟨k1, k2, k3⟩ := k
    have hg : Sc o g E v (g e) := ⟨ha.1.trans (k2 ▸ Rt.edge k1), Rt.trans ⟨es, k3⟩ hb.2⟩
    exact ⟨(h.mem e).2 ⟨k1, k2.symm ▸ ha, hg⟩, k2, h.walk hg hb k3⟩
theorem PartOf.joined {v : Int} {P : List α} (h : PartOf o g E v P) : ∀ e ∈ P, ∀ f ∈ P, Rt o g P (g e) (o f) := fun e he f hf => by
  obtain ⟨_, _, h1⟩ := (h.mem e).1 he
  obtain ⟨_, h2, _⟩ := (h.mem f).1 hf
  obtain ⟨es, k⟩ := h1.2.trans h2.1
  exact ⟨es, h.walk h1 h2 k⟩
end
section
variable {α : Type} {F : EdF α} {E : List α} {nx nu : Int → Lit → Int}
/-- the edges are steps -/
def Steps (F : EdF α) (nx nu : Int → Lit → Int) (E : List α) : Prop := ∀ e ∈ E, nx (F.o e) (F.d e) = F.g e ∧ nu (F.o e) (F.d e) = F.n e
theorem Ch.row (hS : Steps F nx nu E) : ∀ {es : List α} {a b : Int}, Ch F.o F.g E a es b → run nx a (es.map F.d) = b ∧ nums nx nu a (es.map F.d) = es.map F.n
  | [], _, _, h => ⟨h, rfl⟩
  | e :: es, a, b, h => by
    obtain ⟨h1, h2, h3⟩ := h
    obtain ⟨k1, k2⟩ := hS e h1
    obtain ⟨i1, i2⟩ := Ch.row hS h3
    rw [h2] at k1 k2
    refine ⟨?_, ?_⟩
    · show run nx (nx a (F.d e)) (es.map F.d) = b
      rw [k1]
      exact i1
    · show nu a (F.d e) :: nums nx nu (nx a (F.d e)) (es.map F.d) = _
      rw [k1, k2, i2, List.map_cons]
/-- every step from a room of the edges is an edge -/
def Full (F : EdF α) (L : Lit) (Rm : Int → Prop) (nx nu : Int → Lit → Int) (E : List α) : Prop :=
  ∀ r, Rm r → ∀ D : Lit, D.Sublist L → ∃ e ∈ E, F.o e = r ∧ F.d e = D ∧ F.g e = nx r D ∧ F.n e = nu r D
theorem row_ch {L : Lit} {Rm : Int → Prop} (hF : Full F L Rm nx nu E) (hc : ∀ r, Rm r → ∀ D : Lit, D.Sublist L → Rm (nx r D)) : ∀ (ds : List Lit) (r : Int), Rm r → (∀ d ∈ ds, d.Sublist L) →
    ∃ es, Ch F.o F.g E r es (run nx r ds) ∧ es.map F.d = ds ∧ es.map F.n = nums nx nu r ds
  | [], r, _, _ => ⟨[], rfl, rfl, rfl⟩
  | D :: ds, r, hr, hd => by
    obtain ⟨e, he, e1, e2, e3, e4⟩ := hF r hr D (hd D List.mem_cons_self)
    obtain ⟨es, i1, i2, i3⟩ := row_ch hF hc ds (nx r D) (hc r hr D (hd D List.mem_cons_self)) fun d h => hd d (List.mem_cons_of_mem _ h)
    refine ⟨e :: es, ⟨he, e1, ?_⟩, ?_, ?_⟩
    · rw [e3]
      exact i1
    · rw [List.map_cons, e2, i2]
    · rw [List.map_cons, e4, i3] <;> rfl
/-- the edges within a set, with numbers up to m -/
def subE (F : EdF α) (E : List α) (lit : Lit) (m : Int) : List α := E.filter fun e => within (F.d e) lit && decide (F.n e ≤ m)
theorem mem_subE {lit : Lit} {m : Int} {e : α} : e ∈ subE F E lit m ↔ e ∈ E ∧ (∀ c ∈ F.d e, c ∈ lit) ∧ F.n e ≤ m := by
  unfold subE
  rw [List.mem_filter, Bool.and_eq_true, within_iff, decide_eq_true_eq]
/-- the parts that strong_parts returns -/
structure Parts (o g : α → Int) (E : List α) (ps : List (List α)) : Prop where
  each : ∀ P ∈ ps, P ≠ [] ∧ ∃ v, PartOf o g E v P
  all : ∀ e ∈ E, Rt o g E (g e) (o e) → ∃ P ∈ ps, e ∈ P
/-- what wrong_ring looks for -/
def Hit (F : EdF α) (L lit : Lit) (m : Int) (P : List α) : Prop := un L (P.map F.d) = lit ∧ IsMax m (P.map F.n)
theorem hit_of {L : Lit} (hL : Ris L) {ps : List (List α)} {es : List α} {r m : Int} (hE : ∀ e ∈ E, (F.d e).Sublist L) (hne : es ≠ []) (hch : Ch F.o F.g E r es r) (hm : IsMax m (es.map F.n))
    (hp : Parts F.o F.g (subE F E (un L (es.map F.d)) m) ps) : ∃ P ∈ ps, Hit F L (un L (es.map F.d)) m P := by
  have inS : ∀ e ∈ es, e ∈ subE F E (un L (es.map F.d)) m := fun e he => mem_subE.mpr ⟨hch.mem e he, fun c hc =>
    mem_un.mpr ⟨sub_mem (hE e (hch.mem e he)) c hc, F.d e, List.mem_map.mpr ⟨e, he, rfl⟩, hc⟩, hm.le _ (List.mem_map.mpr ⟨e, he, rfl⟩)⟩
  have hch2 : Ch F.o F.g (subE F E (un L (es.map F.d)) m) r es r := by
    have go : ∀ (fs : List α) (a b : Int), (∀ e ∈ fs, e ∈ subE F E (un L (es.map F.d)) m) → Ch F.o F.g E a fs b → Ch F.o F.g (subE F E (un L (es.map F.d)) m) a fs b := by
      intro fs
      induction fs with
      | nil => intro a b _ h; exact h
      | cons f fs ih => intro a b hs h; exact ⟨hs f List.mem_cons_self, h.2.1, ih _ _ (fun e he => hs e (List.mem_cons_of_mem _ he)) h.2.2⟩
    exact go es r r inS hch
  obtain ⟨e0, h0⟩ := List.exists_mem_of_ne_nil es hne
  have sc : ∀ e ∈ es, Rt F.o F.g (subE F E (un L (es.map F.d)) m) r (F.o e) ∧ Rt F.o F.g (subE F E (un L (es.map F.d)) m) (F.g e) r := hch2.split
  obtain ⟨P, hP, h0P⟩ := hp.all e0 (inS e0 h0) ((sc e0 h0).2.trans (sc e0 h0).1)
  obtain ⟨_, v, pv⟩ := hp.each P hP
  obtain ⟨_, s1, s2⟩ := (pv.mem e0).1 h0P
  have allIn : ∀ e ∈ es, e ∈ P := fun e he => by
    have ed := Rt.edge (o := F.o) (g := F.g) (inS e he)
    refine (pv.mem e).2 ⟨inS e he, ⟨?_, ?_⟩, ?_, ?_⟩
    · exact s2.1.trans ((sc e0 h0).2.trans (sc e he).1)
    · exact ed.trans ((sc e he).2.trans ((sc e0 h0).1.trans s1.2))
    · exact s2.1.trans ((sc e0 h0).2.trans ((sc e he).1.trans ed))
    · exact (sc e he).2.trans ((sc e0 h0).1.trans s1.2)
  refine ⟨P, hP, ris_ext (un_ris hL) (un_ris hL) fun c => ?_, ?_, fun x hx => ?_⟩
  · rw [mem_un]
    constructor
    · rintro ⟨_, d, hd, hc⟩
      obtain ⟨e, he, rfl⟩ := List.mem_map.mp hd
      exact (mem_subE.mp ((pv.mem e).1 he).1).2.1 c hc
    · intro h
      obtain ⟨h1, d, hd, hc⟩ := mem_un.mp h
      obtain ⟨e, he, rfl⟩ := List.mem_map.mp hd
      exact ⟨h1, _, List.mem_map.mpr ⟨e, allIn e he, rfl⟩, hc⟩
  · obtain ⟨e, he, q⟩ := List.mem_map.mp hm.mem
    exact List.mem_map.mpr ⟨e, allIn e he, q⟩
  · obtain ⟨e, he, rfl⟩ := List.mem_map.mp hx
    exact (mem_subE.mp ((pv.mem e).1 he).1).2.2
/-- THE LAW'S HEART: a teller with too few rooms, or too few numbers, and a goal: some set and number of the wrong kind have a part that hits -/
theorem some_hit {L : Lit} {T : List Lit} (hL : Ris L) {rooms : List Int} {Rm : Int → Prop} (hE : ∀ e ∈ E, (F.d e).Sublist L) (hF : Full F L Rm nx nu E) (h0 : Rm 0) (hc : ∀ r, Rm r → ∀ D : Lit, D.Sublist L → Rm (nx r D)) (hrooms : ∀ r, Rm r → r ∈ rooms)
    (hlow : ∀ r, Rm r → ∀ D : Lit, D.Sublist L → 0 ≤ nu r D) {hi : Int} (hhi : ∀ r, Rm r → ∀ D : Lit, D.Sublist L → nu r D < hi)
    (small : rooms.length < (br T L).length ∨ ∃ b ∈ br T L, hi + 1 ≤ (b.length : Int))
    (hp : ∀ (lit : Lit) (m : Int), lit.Sublist L → (∃ e ∈ E, F.n e = m) → ¬ (m % 2 = 0 ↔ lit ∈ T) → ∃ ps, Parts F.o F.g (subE F E lit m) ps ∧ ∀ P ∈ ps, ¬ Hit F L lit m P) : False := by
  have right : ∀ r, Rm r → Right nx nu L T r := fun r hr ds hne hds hrun m hm => by
    refine Classical.byContradiction fun bad => ?_
    obtain ⟨es, k1, k2, k3⟩ := row_ch hF hc ds r hr hds
    rw [hrun] at k1
    rw [← k3] at hm
    rw [← k2] at bad
    have hne2 : es ≠ [] := fun z => hne (by rw [← k2, z] <;> rfl)
    obtain ⟨e, he, q⟩ := List.mem_map.mp hm.mem
    obtain ⟨ps, p1, p2⟩ := hp (un L (es.map F.d)) m (un_sub L _) ⟨e, k1.mem e he, q⟩ bad
    obtain ⟨P, hP, hit⟩ := hit_of hL hE hne2 k1 hm p1
    exact p2 P hP hit
  open Classical in
  have cl : ∀ r ∈ rooms.filter (fun x => decide (Rm x)), ∀ D : Lit, D.Sublist L → nx r D ∈ rooms.filter (fun x => decide (Rm x)) := fun r hr D hD => by
    have q := hc r (of_decide_eq_true (List.mem_filter.mp hr).2) D hD
    exact List.mem_filter.mpr ⟨hrooms _ q, decide_eq_true q⟩
  open Classical in
  have ne : rooms.filter (fun x => decide (Rm x)) ≠ [] := List.ne_nil_of_mem (List.mem_filter.mpr ⟨hrooms 0 h0, decide_eq_true h0⟩)
  open Classical in
  have rt : ∀ r ∈ rooms.filter (fun x => decide (Rm x)), Right nx nu L T r := fun r hr => right r (of_decide_eq_true (List.mem_filter.mp hr).2)
  open Classical in
  rcases small with h | ⟨b, hb, h⟩
  · have h1 := rooms_bound (nx := nx) (nu := nu) hL L.length L (Nat.le_refl _) (List.Sublist.refl L) _ ne rt cl
    have h2 : (rooms.filter fun x => decide (Rm x)).length ≤ rooms.length := List.length_filter_le _ _
    omega
  · obtain ⟨r, hr, ds, a1, a2, a3, a4, m, M, hm⟩ := numbers_bound (nx := nx) (nu := nu) hL L.length L (Nat.le_refl _) (List.Sublist.refl L) _ ne rt cl
      (fun r hr D hD => hlow r (of_decide_eq_true (List.mem_filter.mp hr).2) D hD) b hb
    have lt : ∀ (ds : List Lit) (r : Int), Rm r → (∀ d ∈ ds, d.Sublist L) → ∀ x ∈ nums nx nu r ds, x < hi := by
      intro ds
      induction ds with
      | nil => intro _ _ _ x hx; cases hx
      | cons d ds ih =>
        intro r hr hd x hx
        rcases List.mem_cons.mp hx with e | hx
        · rw [e]; exact hhi r hr d (hd d List.mem_cons_self)
        · exact ih _ (hc r hr d (hd d List.mem_cons_self)) (fun y hy => hd y (List.mem_cons_of_mem _ hy)) x hx
    have := lt ds r (of_decide_eq_true (List.mem_filter.mp hr).2) a2 m M.mem
    omega
end
end Rg

end
section
set_option Elab.async false
set_option linter.all false
set_option maxRecDepth 100000
set_option maxHeartbeats 4000000
namespace Rg
open PySem PySem.Spec PyProof.Rows L2
/-! ### the text by places -/
def top (i : Nat) : Stmt := PySem.Challenge.pw_relitgoals_k46_whole_smaller_tellers_are.main.body.getD i (.Pass ⟨0, 0, 0, 0⟩)
/-- a def of the module behind the top -/
structure Df (K : PySem.W.Frag) (mg : Str → Option Value) (x : Str) (st : Stmt) (f : Addr) (fd : FuncData) : Prop where
  fn : FunD K x x (defArgs st) (defBody st) (defScope st) [] [] f fd
  mgf : mg x = some (.ref f)
/-- the built-ins that the text names -/
structure Bl (mg : Str → Option Value) : Prop where
  len : mg "len" = none
  all : mg "all" = none
  any : mg "any" = none
  zip : mg "zip" = none
  isi : mg "isinstance" = none
  str : mg "str" = none
  int : mg "int" = none
  bool : mg "bool" = none
  tuple : mg "tuple" = none
  list : mg "list" = none
  sorted : mg "sorted" = none
  max : mg "max" = none
  min : mg "min" = none
  abs : mg "abs" = none
  range : mg "range" = none
  enum : mg "enumerate" = none
section
variable {P : Program} {w : World} {K : PySem.W.Frag} {mg : Str → Option Value} {base : Heap}
theorem cal_of {x : Str} {st : Stmt} {f : Addr} {fd : FuncData} {N ps : List Str} {k : Nat} {sp : Sp} (D : Df K mg x st f fd)
    (b : ∀ (kV doc pm : Value) (an : Option Addr) (cdv ct : Value) (us : List Value), us.length = ps.length → bindArgs (PySem.W.fnOf x x (defArgs st) (defBody st) (defScope st) .none kV doc pm an cdv ct) ⟨us, []⟩ = pure (ps.zip us))
    (S : FnScope N ps (defScope st)) (len : ∀ vs H Q E, sp vs H Q E → vs.length = ps.length)
    (hbody : ∀ (cdv : Value) (A : Around) (outer : List Env) (s : Shared) (H : Hp) (vs : List V) (Q : VK) (E : XK), Room k (A.deeper (envOfC x (defScope st) s.heap.objs.size f cdv)) → sp vs H Q E →
      ∃ t, PSs (cxOf C8.CX0 P w K mg base N x (defScope st) f cdv A outer s H E).nox (defBody st) t ∧ t { nx := fun _ H' => Q .non H', rt := Q } (start N vs) H) : C8.Cal P w K mg base (k + 1) x sp [] := by
  refine ⟨f, fd, ps, [], D.fn.ok S len fun cdv A outer s H vs Q E hr hsp => ?_, D.mgf, D.fn.kp, D.fn.bindsN b, .nil⟩
  obtain ⟨t, h, q⟩ := hbody cdv A outer s H vs Q E hr hsp
  exact ⟨t, h.nox, q⟩
end
abbrev tx (l : Lit) : V := .str (SX.S l)
end Rg

end
section
set_option Elab.async false
set_option linter.all false
set_option maxRecDepth 100000
set_option maxHeartbeats 4000000
namespace Rg
open PySem PySem.Spec PyProof.Rows L2
def abc : Lit := [97, 98, 99, 100, 101, 102, 103, 104, 105, 106, 107, 108, 109, 110, 111, 112, 113, 114, 115, 116, 117, 118, 119, 120, 121, 122]
def meth (i j : Nat) : Stmt := (C8.clsBody (top i)).getD j (.Pass ⟨0, 0, 0, 0⟩)
end Rg

end
section
set_option Elab.async false
set_option linter.all false
set_option maxRecDepth 100000
set_option maxHeartbeats 0
namespace Rg
open PySem PySem.Spec PyProof.Rows L2 LamX
def loose0 : List Str := ["__name__", "GoalError", "InvalidLamps", "InvalidSet", "InvalidSentence", "LampsDiffer", "InvalidStep", "LETTERS", "MOST_LAMPS", "is_integer", "is_rising", "is_lamps", "is_set", "need_lamps", "need_same_lamps", "size_and_letters", "sets_of", "union", "is_within", "leaving_edges", "path", "reached", "strong_parts", "ring_through", "lamps_of", "MOST_ROOMS", "MOST_NUMBER", "is_step", "are_steps", "Teller"]
def loose1 : List Str := ["wrong_ring", "wrong_row", "MOST_PARTS", "MOST_SETS", "is_part", "inner", "check_sentence", "holds_for", "Goal", "holds", "_law_bag", "_law_pull", "_law_of", "_law_sets", "_law_within", "_law_union", "_law_rising", "_law_is_set", "_law_lits", "_law_sentence", "_law_holds", "_law_aim", "_law_parts", "_law_branches", "_law_behind", "_law_steps", "_law_tells", "_law_drawn_steps", "_law_wrongly_told", "_law_cut"]
def loose : List Str := loose0 ++ loose1
def hfn0 : List He.DefD := [⟨("is_integer", none), "is_integer", "is_integer", defArgs (top 10), defBody (top 10), defScope (top 10), [], []⟩, ⟨("is_rising", none), "is_rising", "is_rising", defArgs (top 11), defBody (top 11), defScope (top 11), [], []⟩, ⟨("is_lamps", none), "is_lamps", "is_lamps", defArgs (top 12), defBody (top 12), defScope (top 12), [], []⟩, ⟨("is_set", none), "is_set", "is_set", defArgs (top 13), defBody (top 13), defScope (top 13), [], []⟩, ⟨("need_lamps", none), "need_lamps", "need_lamps", defArgs (top 14), defBody (top 14), defScope (top 14), [], []⟩, ⟨("need_same_lamps", none), "need_same_lamps", "need_same_lamps", defArgs (top 15), defBody (top 15), defScope (top 15), [], []⟩, ⟨("size_and_letters", none), "size_and_letters", "size_and_letters", defArgs (top 16), defBody (top 16), defScope (top 16), [], []⟩, ⟨("sets_of", none), "sets_of", "sets_of", defArgs (top 17), defBody (top 17), defScope (top 17), [], []⟩, ⟨("union", none), "union", "union", defArgs (top 18), defBody (top 18), defScope (top 18), [], []⟩, ⟨("is_within", none), "is_within", "is_within", defArgs (top 19), defBody (top 19), defScope (top 19), [], []⟩, ⟨("leaving_edges", none), "leaving_edges", "leaving_edges", defArgs (top 21), defBody (top 21), defScope (top 21), [], []⟩, ⟨("path", none), "path", "path", defArgs (top 22), defBody (top 22), defScope (top 22), [], []⟩, ⟨("reached", none), "reached", "reached", defArgs (top 23), defBody (top 23), defScope (top 23), [], []⟩, ⟨("strong_parts", none), "strong_parts", "strong_parts", defArgs (top 24), defBody (top 24), defScope (top 24), [], []⟩, ⟨("ring_through", none), "ring_through", "ring_through", defArgs (top 25), defBody (top 25), defScope (top 25), [], []⟩, ⟨("lamps_of", none), "lamps_of", "lamps_of", defArgs (top 26), defBody (top 26), defScope (top 26), [], []⟩, ⟨("is_step", none), "is_step", "is_step", defArgs (top 30), defBody (top 30), defScope (top 30), [], []⟩, ⟨("are_steps", none), "are_steps", "are_steps", defArgs (top 31), defBody (top 31), defScope (top 31), [], []⟩, ⟨("wrong_ring", none), "wrong_ring", "wrong_ring", defArgs (top 33), defBody (top 33), defScope (top 33), [], []⟩, ⟨("wrong_row", none), "wrong_row", "wrong_row", defArgs (top 34), defBody (top 34), defScope (top 34), [], []⟩, ⟨("is_part", none), "is_part", "is_part", defArgs (top 38), defBody (top 38), defScope (top 38), [], []⟩, ⟨("inner", none), "inner", "inner", defArgs (top 39), defBody (top 39), defScope (top 39), [], []⟩, ⟨("check_sentence", none), "check_sentence", "check_sentence", defArgs (top 40), defBody (top 40), defScope (top 40), [], []⟩, ⟨("holds_for", none), "holds_for", "holds_for", defArgs (top 41), defBody (top 41), defScope (top 41), [], []⟩, ⟨("holds", none), "holds", "holds", defArgs (top 43), defBody (top 43), defScope (top 43), [], []⟩, ⟨("_law_bag", none), "_law_bag", "_law_bag", defArgs (top 45), defBody (top 45), defScope (top 45), [], []⟩, ⟨("_law_pull", none), "_law_pull", "_law_pull", defArgs (top 46), defBody (top 46), defScope (top 46), [], []⟩, ⟨("_law_of", none), "_law_of", "_law_of", defArgs (top 47), defBody (top 47), defScope (top 47), [], []⟩, ⟨("_law_sets", none), "_law_sets", "_law_sets", defArgs (top 48), defBody (top 48), defScope (top 48), [], []⟩, ⟨("_law_within", none), "_law_within", "_law_within", defArgs (top 49), defBody (top 49), defScope (top 49), [], []⟩]
def hfn1 : List He.DefD := [⟨("_law_union", none), "_law_union", "_law_union", defArgs (top 50), defBody (top 50), defScope (top 50), [], []⟩, ⟨("_law_rising", none), "_law_rising", "_law_rising", defArgs (top 51), defBody (top 51), defScope (top 51), [], []⟩, ⟨("_law_is_set", none), "_law_is_set", "_law_is_set", defArgs (top 52), defBody (top 52), defScope (top 52), [], []⟩, ⟨("_law_lits", none), "_law_lits", "_law_lits", defArgs (top 53), defBody (top 53), defScope (top 53), [], []⟩, ⟨("_law_sentence", none), "_law_sentence", "_law_sentence", defArgs (top 54), defBody (top 54), defScope (top 54), [], []⟩, ⟨("_law_holds", none), "_law_holds", "_law_holds", defArgs (top 55), defBody (top 55), defScope (top 55), [], []⟩, ⟨("_law_aim", none), "_law_aim", "_law_aim", defArgs (top 56), defBody (top 56), defScope (top 56), [], []⟩, ⟨("_law_parts", none), "_law_parts", "_law_parts", defArgs (top 57), defBody (top 57), defScope (top 57), [], []⟩, ⟨("_law_branches", none), "_law_branches", "_law_branches", defArgs (top 58), defBody (top 58), defScope (top 58), [], []⟩, ⟨("_law_behind", none), "_law_behind", "_law_behind", defArgs (top 59), defBody (top 59), defScope (top 59), [], []⟩, ⟨("_law_steps", none), "_law_steps", "_law_steps", defArgs (top 60), defBody (top 60), defScope (top 60), [], []⟩, ⟨("_law_tells", none), "_law_tells", "_law_tells", defArgs (top 61), defBody (top 61), defScope (top 61), [], []⟩, ⟨("_law_drawn_steps", none), "_law_drawn_steps", "_law_drawn_steps", defArgs (top 62), defBody (top 62), defScope (top 62), [], []⟩, ⟨("_law_wrongly_told", none), "_law_wrongly_told", "_law_wrongly_told", defArgs (top 63), defBody (top 63), defScope (top 63), [], []⟩, ⟨("_law_cut", none), "_law_cut", "_law_cut", defArgs (top 64), defBody (top 64), defScope (top 64), [], []⟩, ⟨("law", none), "law", "law", defArgs (top 65), defBody (top 65), defScope (top 65), [], []⟩, ⟨("Teller", some "__init__"), "__init__", "Teller.__init__", defArgs (meth 32 0), defBody (meth 32 0), defScope (meth 32 0), [], []⟩, ⟨("Teller", some "numbers"), "numbers", "Teller.numbers", defArgs (meth 32 4), defBody (meth 32 4), defScope (meth 32 4), [], []⟩, ⟨("Teller", some "edges"), "edges", "Teller.edges", defArgs (meth 32 7), defBody (meth 32 7), defScope (meth 32 7), [], []⟩, ⟨("Goal", some "__init__"), "__init__", "Goal.__init__", defArgs (meth 42 0), defBody (meth 42 0), defScope (meth 42 0), [], []⟩, ⟨("Goal", some "__call__"), "__call__", "Goal.__call__", defArgs (meth 42 5), defBody (meth 42 5), defScope (meth 42 5), [], []⟩]
def hfn : List He.DefD := hfn0 ++ hfn1
def hfa0 : List He.Fa := [.glo "is_integer", .glo "is_rising", .glo "is_lamps", .glo "is_set", .glo "need_lamps", .glo "need_same_lamps", .glo "size_and_letters", .glo "sets_of", .glo "union", .glo "is_within", .glo "leaving_edges", .glo "path", .glo "reached", .glo "strong_parts", .glo "ring_through", .glo "lamps_of", .glo "is_step", .glo "are_steps", .glo "wrong_ring", .glo "wrong_row", .glo "is_part", .glo "inner", .glo "check_sentence", .glo "holds_for", .glo "holds", .glo "_law_bag", .glo "_law_pull", .glo "_law_of", .glo "_law_sets", .glo "_law_within"]
def hfa1 : List He.Fa := [.glo "_law_union", .glo "_law_rising", .glo "_law_is_set", .glo "_law_lits", .glo "_law_sentence", .glo "_law_holds", .glo "_law_aim", .glo "_law_parts", .glo "_law_branches", .glo "_law_behind", .glo "_law_steps", .glo "_law_tells", .glo "_law_drawn_steps", .glo "_law_wrongly_told", .glo "_law_cut", .glo "law", .glo "Goal", .glo "Teller", .free "len", .free "all", .free "any", .free "zip", .free "isinstance", .free "str", .free "int", .free "bool", .free "tuple", .free "list", .free "sorted", .free "max"]
def hfa2 : List He.Fa := [.free "min", .free "abs", .free "range", .free "enumerate", .str "LETTERS" (SX.S abc), .int "MOST_LAMPS" 4, .int "MOST_ROOMS" 40, .int "MOST_NUMBER" 99, .int "MOST_PARTS" 20, .int "MOST_SETS" 16, .cls "Goal", .cls "Teller", .mkr "Goal", .mkr "Teller", .meth "Goal" "__call__", .meth "Teller" "edges", .meth "Teller" "numbers", .noat "Goal" "own_lamps", .noat "Goal" "own_sentence", .noat "Goal" "own_sets", .noat "Teller" "own_lamps", .noat "Teller" "own_steps", .noat "Teller" "own_sets"]
def hfa : List He.Fa := hfa0 ++ hfa1 ++ hfa2
/-- a property whose getter returns a field, by a look -/
def getB (K : PySem.W.Frag) (x f fld qual : Str) : Bool := match PySem.W.findIn K (.ref (He.ga K x)) f with
  | some (some (.ref p)) => He.eqO (PySem.W.specialIn K (.ref p) "__get__") (some (some (.builtin "property.__get__"))) && decide (PySem.W.takesIn K (.ref p) = some true) && (match PySem.W.recIn K p "property" with
    | some (.ref g :: _) => (match K.lookup g with
      | some ⟨_, _, .func fd, _⟩ => PySem.W.codeIn K fd.code qual && decide (fd.qualname = qual) && decide (fd.globals = mainGlobals) && fd.closure.isEmpty && decide (fd.builtins = builtinsNs) && (match fd.defaults with
          | .none => true
          | _ => false) && C8.scC ["self"] ["self"] fd.scope && (match fd.params with
          | ⟨[], [a], none, [], [], none, []⟩ => decide (a.arg = "self")
          | _ => false) && (match fd.body with
          | .stmts [.Return (some (.Attribute (.Name s _) g _)) _] => decide (s = "self") && decide (g = fld)
          | _ => false)
      | _ => false)
    | _ => false)
  | _ => false
def hex (K : PySem.W.Frag) : Bool := getB K "Goal" "lamps" "own_lamps" "Goal.lamps" && getB K "Teller" "lamps" "own_lamps" "Teller.lamps" && PySem.W.fnIn K (He.ma K (He.ga K "Goal") "__call__")
abbrev R : PySem.W.OpenRow := PySem.W.OpenLaw.row PySem.Challenge.rw_relitgoals_k46_whole_smaller_tellers_are
end Rg

end
section
set_option Elab.async false
set_option linter.all false
set_option maxRecDepth 100000
set_option maxHeartbeats 0
namespace Rg
open PySem PySem.Spec PyProof.Rows L2 LamX
abbrev hk : PySem.W.Hook := He.hookX 7 hfa hfn [] [("_law_sets", none)] hex
def ob (s : PySem.W.SharedT) : He.AlX := He.obsX 7 hfa hfn [] [("_law_sets", none)] hex (HandSHeadRun.getT s)
theorem ob_eq (s : PySem.W.SharedT) : ob s = hk.obs s.abs := He.obsX_eq (HandSHeadRun.getT_eq s)
theorem run_eq (w : World) : HandSHeadRun.RunEq R (PySem.W.view R.prog [65]) hk ob 20000 loose w := by
  intro os
  kernel_rfl
end Rg

end
section
set_option Elab.async false
set_option linter.all false
set_option maxRecDepth 100000
set_option maxHeartbeats 4000000
namespace Rg
open PySem PySem.Spec PyProof.Rows L2
/-! ### zip of two texts, walked -/
/-- the signs of both, in new pairs -/
def ItzS (x y : Str) : It :=
  ⟨fun i _ => i < min x.cps.size y.cps.size, fun i H v H' => ∃ T c d, v = .ref T ∧ H T = none ∧ H' = upd H T (.tup [.str ⟨#[c]⟩, .str ⟨#[d]⟩]) ∧ x.cps[i]? = some c ∧ y.cps[i]? = some d, fun i _ => i = min x.cps.size y.cps.size⟩
theorem turn_zipS {P : Program} {w : World} {K : PySem.W.Frag} {elts : List Expr} {kk : Nat} {tpos : Pos} {x y : Str} {t u : Tok} {z TI TO i1 i2 : Addr} (S : ZipSep2 z TI TO i1 i2 [i1] [i2]) :
    Turn P w K (.Tuple elts kk tpos) (ItzS x y) (z :: TI :: TO :: ([i1] ++ [i2])) z
      (fun i h => IsZip h z TI TO .none ∧ IsTupOf2 h TI (.ref i1) (.ref i2) ∧ (∃ a1 a2, IsTupOf2 h TO a1 a2) ∧ h.IsStrIter i1 (strIterType x) x t i ∧ h.IsStrIter i2 (strIterType y) y u i) where
  mem := by simp
  obj := fun i h st b hb => by
    obtain ⟨hz, h1, ⟨a1, a2, h2⟩, ⟨o3, e3, _, d3⟩, ⟨o4, e4, _, d4⟩⟩ := st
    have e' : b = z ∨ b = TI ∨ b = TO ∨ b = i1 ∨ b = i2 := by simpa using hb
    rcases e' with q | q | q | q | q
    · rw [q]; exact ⟨_, hz, fun v q => nomatch q⟩
    · rw [q]; exact ⟨_, h1, fun v q => nomatch q⟩
    · rw [q]; exact ⟨_, h2, fun v q => nomatch q⟩
    · rw [q]; exact ⟨o3, e3, fun v q => by rw [d3] at q; cases q⟩
    · rw [q]; exact ⟨o4, e4, fun v q => by rw [d4] at q; cases q⟩
  keep := fun i h h' st k => by
    obtain ⟨hz, h1, ⟨a1, a2, h2⟩, ⟨o3, e3, r3⟩, ⟨o4, e4, r4⟩⟩ := st
    exact ⟨k z (by simp) _ hz, k TI (by simp) _ h1, ⟨a1, a2, k TO (by simp) _ h2⟩, ⟨o3, k i1 (by simp) _ e3, r3⟩, ⟨o4, k i2 (by simp) _ e4, r4⟩⟩
  item := by
    intro X hP hw hK hc i pins s σ H E I hf st hg
    subst hP hw hK
    have hh := I.ok.hd hc
    have W := GoesN.zip2 (elts := elts) (x1 := kk) (pos := tpos) S (Draws.text (prog := X.prog) (w := X.w) (A := X.A.in1) hh i1 x t) (Draws.text (prog := X.prog) (w := X.w) (A := X.A.in1) hh i2 y u)
    have wrs := W.sub
    refine W.goes i s (fun v s2 => ∃ x' H', Inv X pins σ H' s2 ∧ RelV x' v ∧ (ItzS x y).yld i H x' H' ∧ (IsZip s2.heap z TI TO .none ∧ IsTupOf2 s2.heap TI (.ref i1) (.ref i2) ∧ (∃ a1 a2, IsTupOf2 s2.heap TO a1 a2) ∧ s2.heap.IsStrIter i1 (strIterType x) x t (i + 1) ∧ s2.heap.IsStrIter i2 (strIterType y) y u (i + 1)) ∧
      ∀ b ∈ (z :: TI :: TO :: ([i1] ++ [i2])), H' b = none) E hg st fun v h' tk hY st' hk _ => ?_
    obtain ⟨T, v1, v2, rfl, hT, ⟨c, t1, hc1, rfl⟩, ⟨d, t2, hd1, rfl⟩, hTup⟩ := hY
    have hn := I.hok.fresh hT
    have new : ObjOk X.prog X.w (upd H T (.tup [.str ⟨#[c]⟩, .str ⟨#[d]⟩])) h' T (.tup [.str ⟨#[c]⟩, .str ⟨#[d]⟩]) :=
      ⟨by show 2 ≤ sizeLine; decide, [.str ⟨#[c]⟩ t1, .str ⟨#[d]⟩ t2], .cons ⟨_, rfl⟩ (.cons ⟨_, rfl⟩ .nil), hTup⟩
    have I1 := I.turnedNew (t' := tk) (ch := z :: TI :: TO :: ([i1] ++ [i2])) (fun b o hb q => hk b o (fun hm => hb (wrs b hm)) q) hf hT new
    refine ⟨.ref T, _, I1, rfl, ⟨T, c, d, rfl, hn, rfl, hc1, hd1⟩, st', fun b hb => ?_⟩
    have hlt : b < s.heap.objs.size := by
      obtain ⟨hz, h1, ⟨a1, a2, h2⟩, ⟨o3, e3, _, d3⟩, ⟨o4, e4, _, d4⟩⟩ := st
      have e' : b = z ∨ b = TI ∨ b = TO ∨ b = i1 ∨ b = i2 := by simpa using hb
      rcases e' with q | q | q | q | q
      · rw [q]; exact Heap.lt_size hz
      · rw [q]; exact Heap.lt_size h1
      · rw [q]; exact Heap.lt_size h2
      · rw [q]; exact Heap.lt_size e3
      · rw [q]; exact Heap.lt_size e4
    rw [upd_ne (Nat.ne_of_lt (Nat.lt_of_lt_of_le hlt hT))]
    exact (hf b hb).1
  done := by
    intro X hP hw hK hc i pins s σ H E I hf st hg
    subst hP hw hK
    have hh := I.ok.hd hc
    have W := GoesN.zip2 (elts := elts) (x1 := kk) (pos := tpos) S (Draws.text (prog := X.prog) (w := X.w) (A := X.A.in1) hh i1 x t) (Draws.text (prog := X.prog) (w := X.w) (A := X.A.in1) hh i2 y u)
    have wrs := W.sub
    have hi : i = min x.cps.size y.cps.size := hg
    subst hi
    exact W.stops s (fun s1 => Inv X pins σ H s1) E st fun h' tk hk _ => I.turnedL (t' := tk) (ch := z :: TI :: TO :: ([i1] ++ [i2])) (fun b o hb q => hk b o (fun hm => hb (wrs b hm)) q) hf
  self := fun A i s Q E st h => wpAny_pyIter_zip st.1 h
def iZipS (ta : TA) : TI := fun σ H R => ta σ H fun vs H1 => ∃ x y, vs = [.str x, .str y] ∧ R (ItzS x y) H1
theorem pi_zipS {X : Cx} {e e2 : Expr} {ta : TA} {p pos tpos : Pos} {elts : List Expr} {kk : Nat} (hg : Gl X "zip") (hm : X.mg "zip" = none) (ha : PA X [e, e2] ta)
    (hs : starEach [e, e2] X.env = (false, eval e X.env) :: starEach [e2] X.env := by rfl) (hpl : (backTo pos (starEach [e2] X.env)).any (·.1) = false := by rfl) :
    PI X (.Tuple elts kk tpos) (.Call (.Name "zip" p) [e, e2] [] pos) (iZipS ta) := by
  refine ⟨fun pins s σ H R I h => ?_⟩
  refine Call_ (ld_blt I hg hm PyProof.Rows.boot_zip (PyProof.Rows.callWith_type1 (thn (ha.run pos pins s σ H _ I h) fun us s1 ⟨vs, H1, I1, r1, q1⟩ => ?_) hs hpl))
  obtain ⟨x, y, rfl, q⟩ := q1
  obtain ⟨u1, u2, rfl, ⟨t, rfl⟩, ⟨u, rfl⟩⟩ := vals2 r1
  refine zip_begins2 (begins_text x t) (begins_text y u) trivial trivial fun h' hz hTI hTO h1 h2 hsz hk => wpAny_pyIter_zip hz ?_
  have I2 : Inv X pins σ H1 { s1 with heap := h' } := I1.kept (t' := s1.toks) hk
  refine ⟨s1.heap.objs.size + 4, _, _, _, H1, rfl, I2, turn_zipS (x := x) (y := y) (t := t) (u := u) (zip_sep2 (N := s1.heap.objs.size) (fp1 := []) (fp2 := []) (fun b hb => nomatch hb) fun b hb => nomatch hb), ⟨hz, hTI, ⟨_, _, hTO⟩, ⟨_, h1, rfl, rfl⟩, ⟨_, h2, rfl, rfl⟩⟩, fun c hcm => ?_, q⟩
  have e' : c = s1.heap.objs.size + 4 ∨ c = s1.heap.objs.size + 2 ∨ c = s1.heap.objs.size + 3 ∨ c = s1.heap.objs.size ∨ c = s1.heap.objs.size + 1 := by simpa using hcm
  have hle : s1.heap.objs.size ≤ c := by
    rcases e' with z | z | z | z | z
    · rw [z]; exact Nat.le_add_right _ _
    · rw [z]; exact Nat.le_add_right _ _
    · rw [z]; exact Nat.le_add_right _ _
    · rw [z]; exact Nat.le_refl _
    · rw [z]; exact Nat.le_add_right _ _
  exact I1.fpOk hle (I1.hok.fresh hle)
theorem walk_zipS {x y : Str} : Walk (ItzS x y) (min x.cps.size y.cps.size) (fun _ => True) (fun i H v H' => ∃ T c d, v = .ref T ∧ H T = none ∧ H' = upd H T (.tup [.str ⟨#[c]⟩, .str ⟨#[d]⟩]) ∧ x.cps[i]? = some c ∧ y.cps[i]? = some d) :=
  ⟨fun _ _ hi _ => hi, fun _ _ => rfl, fun _ _ _ _ _ _ y => y⟩
end Rg

end
section
set_option Elab.async false
set_option linter.all false
set_option maxRecDepth 100000
set_option maxHeartbeats 4000000
namespace Rg
open PySem PySem.Spec PyProof.Rows L2
/-! ### relations of heaps that keep what stood -/
structure RelOk (R : Hp → Hp → Prop) : Prop where
  rf : ∀ H, R H H
  tr : ∀ {H H1 H2}, R H H1 → R H1 H2 → R H H2
  lst : ∀ {H H' a xs}, R H H' → H a = some (.lst xs) → H' a = some (.lst xs)
  put : ∀ {H H' D l}, R H H' → H D = none → (H' D = none ∨ ∃ k, H' D = some (.lst k)) → R H (upd H' D (.lst l))
theorem Same.put {H H' : Hp} {D : Addr} {o : HO} (r : Same H H') (n : H D = none) : Same H (upd H' D o) := fun b u e => by
  rw [upd_ne (ne_of_none e n)]
  exact r b u e
theorem same_ok : RelOk Same := ⟨Same.refl, fun a b => a.trans b, fun r e => r _ _ e, fun r n _ => Same.put r n⟩
theorem Same.one {H : Hp} {D : Addr} {o : HO} (n : H D = none) : Same H (upd H D o) := Same.put (Same.refl H) n
theorem Same.tup {K : PySem.W.Frag} {H H' : Hp} {a : Addr} {xs : List V} (e : Same H H') (h : SqT K H a xs) : SqT K H' a xs := by
  rcases h with (h | ⟨o, h⟩) | h
  · exact .inl (.inl (e _ _ h))
  · exact .inl (.inr ⟨o, e _ _ h⟩)
  · exact .inr h
theorem map_take_succ {α β : Type} {l : List α} {f : α → β} {i : Nat} {c : α} (h : l[i]? = some c) : (l.take (i + 1)).map f = (l.take i).map f ++ [f c] := by
  obtain ⟨q, e⟩ := List.getElem?_eq_some_iff.mp h
  rw [List.take_succ_eq_append_getElem q, List.map_append, e]
  rfl
theorem fm_take_yes {α β : Type} {l : List α} {f : α → β} {p : α → Bool} {i : Nat} {c : α} (h : l[i]? = some c) (hp : p c = true) : ((l.take (i + 1)).filter p).map f = ((l.take i).filter p).map f ++ [f c] := by
  obtain ⟨q, e⟩ := List.getElem?_eq_some_iff.mp h
  rw [List.take_succ_eq_append_getElem q, List.filter_append, List.map_append, e, List.filter_cons_of_pos hp]
  rfl
theorem fm_take_no {α β : Type} {l : List α} {f : α → β} {p : α → Bool} {i : Nat} {c : α} (h : l[i]? = some c) (hp : p c = false) : ((l.take (i + 1)).filter p).map f = ((l.take i).filter p).map f := by
  obtain ⟨q, e⟩ := List.getElem?_eq_some_iff.mp h
  rw [List.take_succ_eq_append_getElem q, List.filter_append, List.map_append, e, List.filter_cons_of_neg (by rw [hp]; exact Bool.false_ne_true)]
  exact List.append_nil _
theorem fm_take_len {α β : Type} (l : List α) (f : α → β) (p : α → Bool) (i : Nat) : (((l.take i).filter p).map f).length ≤ l.length := by
  rw [List.length_map]
  exact Nat.le_trans (List.length_filter_le _ _) (List.length_take_le' _ _)
theorem m_take_len {α β : Type} (l : List α) (f : α → β) (i : Nat) : ((l.take i).map f).length ≤ l.length := by
  rw [List.length_map]
  exact List.length_take_le' _ _
theorem yes {σ : L2.St} {H : Hp} {A B : Hp → Prop} (h : A H) : tYes σ H (fun b H3 => if b = true then A H3 else B H3) := by
  show (if true = true then A H else B H)
  rw [if_pos rfl]
  exact h
/-! ### a comprehension whose list is known turn by turn -/
theorem lc_val {R : Hp → Hp → Prop} (ok : RelOk R) {J : It} {n : Nat} {G : Hp → Prop} {Y : Nat → Hp → V → Hp → Prop} (w : Walk J n G Y) (out : Nat → List V) {g : TG} {tt : TT} {te : TE} {vs : List Nat} {σ : L2.St} {H1 : Hp} {D : Addr} {Qd : Hp → Prop}
    (hD : H1 D = none) (h0 : out 0 = []) (hlen : ∀ i, i < n → (out i).length < sizeLine) (hG : ∀ H, R H1 H → G H)
    (hs : ∀ (N : Hp → Prop) i x H H', i < n → R H1 H → Y i H x H' → (∀ y H4, R H H4 → out (i + 1) = out i ++ [y] → ∃ acc, H4 D = some (.lst acc) ∧ acc.length < sizeLine ∧ N (upd H4 D (.lst (acc ++ [y])))) → (∀ H3, R H H3 → out (i + 1) = out i → N H3) →
      g x (wipe σ vs) H' fun σ2 H2 => wipe σ2 vs = wipe σ vs ∧ tt σ2 H2 fun b H3 =>
        if b = true then te σ2 H3 fun y H4 => ∃ acc, H4 D = some (.lst acc) ∧ acc.length < sizeLine ∧ N (upd H4 D (.lst (acc ++ [y]))) else N H3)
    (hd : ∀ H, R H1 H → H D = some (.lst (out n)) → Qd H) :
    ∃ W : Nat → Nat → Hp → Prop, (∃ m, W 0 m (upd H1 D (.lst []))) ∧ ∀ i m H, W i m H →
      (J.stop i H ∧ Qd H) ∨ (J.go i H ∧ ∃ Nx : Hp → Prop, (∀ H', Nx H' → ∃ m', m' < m ∧ W (i + 1) m' H') ∧ ∀ x H', J.yld i H x H' → g x (wipe σ vs) H' fun σ2 H2 => wipe σ2 vs = wipe σ vs ∧ tt σ2 H2 fun b H3 =>
        if b = true then te σ2 H3 fun y H4 => ∃ acc, H4 D = some (.lst acc) ∧ acc.length < sizeLine ∧ Nx (upd H4 D (.lst (acc ++ [y]))) else Nx H3) := by
  refine lc_it w (fun i H => R H1 H ∧ H D = some (.lst (out i))) ⟨ok.put (ok.rf H1) hD (.inl hD), by rw [upd_same, h0]⟩ (fun i H _ p => hG H p.1) (fun i x H H' hi p y => ?_) fun H p => hd H p.1 p.2
  refine hs _ i x H H' hi p.1 y (fun y H4 r e => ⟨out i, ok.lst r p.2, hlen i hi, ok.put (ok.tr p.1 r) hD (.inr ⟨_, ok.lst r p.2⟩), ?_⟩) fun H3 r e => ⟨ok.tr p.1 r, by rw [e]; exact ok.lst r p.2⟩
  rw [upd_same, e]
end Rg

end
section
set_option Elab.async false
set_option linter.all false
set_option maxRecDepth 100000
set_option maxHeartbeats 4000000
namespace Rg
open PySem PySem.Spec PyProof.Rows L2
section
variable {P : Program} {w : World} {K : PySem.W.Frag} {mg : Str → Option Value} {base : Heap}
/-! is_integer -/
def spInteger : Sp := fun vs H Q _ => ∃ v lo hi : Int, vs = [.int v, .int lo, .int hi] ∧ Q (.bl (decide (lo ≤ v) && decide (v ≤ hi))) H
theorem sc_integer : FnScope ["value", "least", "most"] ["value", "least", "most"] (defScope (top 10)) := ⟨rfl, rfl, rfl, by decide +kernel, rfl, by decide +kernel, by decide +kernel⟩
theorem c_integer {f : Addr} {fd : FuncData} (D : Df K mg "is_integer" (top 10) f fd) (B : Bl mg) : C8.Cal P w K mg base 1 "is_integer" spInteger [] := by
  refine cal_of D (fun _ _ _ _ _ _ us hl => match us, hl with | [_, _, _], _ => rfl) sc_integer (fun vs H Q E h => ?_) (fun cdv A outer s H vs Q E hr h => ?_)
  · obtain ⟨v, lo, hi, rfl, _⟩ := h
    rfl
  · obtain ⟨v, lo, hi, rfl, k⟩ := h
    refine ⟨_, pss_one (ps_ret (pe_and (pe_callB call_isi (by rfl) B.isi (by decide +kernel) (pa_cons (pv 0) (pa_cons (pe_bltn (v := .ty "int") (by rfl) B.int (by decide +kernel) rfl) pa_nil)))
      (pe_and (pe_not (pe_callB call_isi (by rfl) B.isi (by decide +kernel) (pa_cons (pv 0) (pa_cons (pe_bltn (v := .ty "bool") (by rfl) B.bool (by decide +kernel) rfl) pa_nil))))
        (pe_one (pe_chain op_le op_le (pv 1) (pv 0) (pv 2)))))), ?_⟩
    refine ⟨_, rfl, _, _, _, _, true, rfl, .ty "int", .base (.int v), kit_ty (by decide +kernel), true, rfl, iteT ?_⟩
    refine ⟨_, rfl, _, _, _, _, false, rfl, .ty "bool", .base (.int v), kit_ty (by decide +kernel), false, rfl, true, rfl, iteT ?_⟩
    refine ⟨_, rfl, _, rfl, _, _, rfl, rfl, _, rfl, ?_⟩
    refine ite2 (fun h => ?_) (fun h => ?_)
    · refine ⟨_, rfl, _, _, rfl, rfl, ?_⟩
      have e : (decide (lo ≤ v) && decide (v ≤ hi)) = decide (v ≤ hi) := by rw [h]; rfl
      rw [e] at k
      exact k
    · have e : (decide (lo ≤ v) && decide (v ≤ hi)) = false := by
        cases q : decide (lo ≤ v) with
        | false => rfl
        | true => exact absurd q h
      rw [e] at k
      exact k
end
end Rg

end
section
set_option Elab.async false
set_option linter.all false
set_option maxRecDepth 100000
set_option maxHeartbeats 4000000
namespace Rg
open PySem PySem.Spec PyProof.Rows L2
/-- the letters -/
theorem abc_str : ("abcdefghijklmnopqrstuvwxyz" : Str) = SX.S abc := by decide +kernel
/-- the module's numbers and letters -/
structure Cs (mg : Str → Option Value) : Prop where
  letters : ∃ t, mg "LETTERS" = some (.str (SX.S abc) t)
  lamps : ∃ t, mg "MOST_LAMPS" = some (.int 4 t)
  rooms : ∃ t, mg "MOST_ROOMS" = some (.int 40 t)
  number : ∃ t, mg "MOST_NUMBER" = some (.int 99 t)
  parts : ∃ t, mg "MOST_PARTS" = some (.int 20 t)
  sets : ∃ t, mg "MOST_SETS" = some (.int 16 t)
/-- a set of lamps of the alphabet -/
structure Ok (l : Lit) : Prop where
  ris : Ris l
  abc : ∀ c ∈ l, c ∈ abc
theorem Ok.len {l : Lit} (h : Ok l) : l.length ≤ 26 := len_le_of_subset l Rg.abc (ris_nodup h.ris) h.abc
theorem Ok.sub {l m : Lit} (h : Ok l) (s : m.Sublist l) : Ok m := ⟨ris_sub s h.ris, fun c hc => h.abc c (s.subset hc)⟩
theorem small {n : Nat} (h : n ≤ 1000000) : n ≤ sizeLine := by rw [sizeLine_eq]; omega
theorem small' {n : Nat} (h : n ≤ 1000000) : n < sizeLine := by rw [sizeLine_eq]; omega
theorem S_at {l : Lit} {i : Nat} {c : Nat} : (SX.S l).cps[i]? = some c ↔ l[i]? = some c := by
  show l.toArray[i]? = some c ↔ _
  simp
theorem S_size (l : Lit) : (SX.S l).cps.size = l.length := by simp
theorem S_list (l : Lit) : (SX.S l).cps.toList = l := rfl
section
variable {P : Program} {w : World} {K : PySem.W.Frag} {mg : Str → Option Value} {base : Heap}
/-! is_rising, of a set -/
def spRising : Sp := fun vs H Q _ => ∃ l : Lit, vs = [tx l] ∧ Ok l ∧ ∀ H', Same H H' → Q (.bl true) H'
theorem sc_rising : FnScope ["value", "letter", "one", "other"] ["value"] (defScope (top 11)) := ⟨rfl, rfl, rfl, by decide +kernel, rfl, by decide +kernel, by decide +kernel⟩
theorem c_rising {f : Addr} {fd : FuncData} (D : Df K mg "is_rising" (top 11) f fd) (B : Bl mg) (C : Cs mg) : C8.Cal P w K mg base 1 "is_rising" spRising [] := by
  obtain ⟨tl, hl⟩ := C.letters
  refine cal_of D (fun _ _ _ _ _ _ us hl => match us, hl with | [_], _ => rfl) sc_rising (fun vs H Q E h => ?_) (fun cdv A outer s H vs Q E hr h => ?_)
  · obtain ⟨l, rfl, _⟩ := h
    rfl
  · obtain ⟨l, rfl, ok, k⟩ := h
    refine ⟨_, pss_cons (ps_if (pt_not (pt_val (pe_callB (cr_all rfl) (by rfl) B.all (by decide +kernel) (pa_cons
        (pe_lc (own := [("letter", 1)]) rfl sc_rising.nd (pi_str (pv 0)) (blkOk_by (own := [("letter", 1)]) (N := ["value", "letter", "one", "other"]) (sc := defScope (top 11)) (by decide +kernel)) (fun _ _ _ _ _ => pg_name (i := 1) sc_rising.nd rfl (Or.inl rfl)) (fun _ _ _ _ _ => pts_nil)
          (fun _ _ _ _ _ => pe_cmpR op_in_sign (pv 1) (pe_glob (v := .str (SX.S abc)) rfl hl ⟨_, rfl⟩) rfl)) pa_nil)))) pss_never pss_nil)
      (pss_one (ps_ret (pe_callB (cr_all rfl) (by rfl) B.all (by decide +kernel) (pa_cons
        (pe_lc (own := [("one", 2), ("other", 3)]) (g := gTup K 2 (gCons (gName 2) (gCons (gName 3) gNil))) rfl sc_rising.nd (pi_zipS (by rfl) B.zip (pa_cons (pv 0) (pa_cons (pe_slice C8.sl_txt (pv 0) (po_some pe_int) po_none) pa_nil))) (blkOk_by (own := [("one", 2), ("other", 3)]) (N := ["value", "letter", "one", "other"]) (sc := defScope (top 11)) (by decide +kernel))
          (fun _ _ _ _ _ => pg_tup rfl (pgs_cons (pg_name (i := 2) sc_rising.nd rfl (Or.inl rfl) (Or.inr rfl)) (pgs_cons (pg_name (i := 3) sc_rising.nd rfl (Or.inl rfl) (Or.inr rfl)) pgs_nil))) (fun _ _ _ _ _ => pts_nil)
          (fun _ _ _ _ _ => pe_cmpR op_lt_str (pv 2) (pv 3) (nomark _))) pa_nil)))), ?_⟩
    refine ⟨_, rfl, _, rfl, fun D hD => ?_⟩
    refine lc_val same_ok walk_str (fun i => List.replicate i (V.bl true)) hD rfl (fun i hi => ?_) (fun _ _ => trivial) (fun N i x H1 H2 hi r y keep skip => ?_) fun H1 r hDl => ?_
    · rw [S_size] at hi
      rw [List.length_replicate]
      exact small' (by have := ok.len; omega)
    · obtain ⟨rfl, c, hc, rfl⟩ := y
      refine ⟨rfl, yes ?_⟩
      refine ⟨_, rfl, c, _, rfl, rfl, keep _ _ (Same.refl _) ?_⟩
      have hm : c ∈ abc := ok.abc c (List.mem_of_getElem? (S_at.mp hc))
      rw [S_list, decide_eq_true hm, List.replicate_succ']
    · refine ⟨_, List.replicate (SX.S l).cps.size true, rfl, SqL.of (by rw [hDl, List.map_replicate]), _, rfl, ?_⟩
      have e : (List.replicate (SX.S l).cps.size true).all id = true := by simp [List.all_replicate]
      rw [e]
      refine iteF ?_
      refine ⟨_, rfl, _, rfl, 1, rfl, SX.S l, rfl, (by rw [SX.S_len]; exact small (by have := ok.len; omega)), ?_⟩
      refine ⟨_, _, rfl, fun D2 hD2 => ?_⟩
      rw [SX.slice_from (by decide)]
      refine lc_val same_ok walk_zipS (fun i => List.replicate i (V.bl true)) hD2 rfl (fun i hi => ?_) (fun _ _ => trivial) (fun N i x H3 H4 hi r2 y keep skip => ?_) fun H3 r2 hDl2 => ?_
      · rw [S_size] at hi
        rw [List.length_replicate]
        exact small' (by have := ok.len; omega)
      · obtain ⟨T, c, d, rfl, hT, rfl, hc, hd⟩ := y
        refine ⟨T, _, rfl, SqT.of upd_same, rfl, _, _, rfl, _, _, rfl, rfl, rfl, yes ?_⟩
        refine ⟨_, rfl, _, rfl, _, _, rfl, rfl, keep _ _ (Same.one hT) ?_⟩
        have h1 := S_at.mp hc
        have h2 := S_at.mp hd
        have lt : c < d := by
          rw [List.getElem?_drop] at h2
          have := List.pairwise_iff_getElem.mp ok.ris
          obtain ⟨q1, e1⟩ := List.getElem?_eq_some_iff.mp h1
          obtain ⟨q2, e2⟩ := List.getElem?_eq_some_iff.mp h2
          rw [← e1, ← e2]
          exact this _ _ q1 q2 (by show i < (1 : Int).toNat + i; simp)
        have e3 : decide ((⟨#[c]⟩ : Str).cps.toList < (⟨#[d]⟩ : Str).cps.toList) = true := by
          refine decide_eq_true ?_
          show [c] < [d]
          exact List.Lex.rel lt
        rw [e3, List.replicate_succ']
      · refine ⟨_, List.replicate (min (SX.S l).cps.size (SX.S (l.drop (1 : Int).toNat)).cps.size) true, rfl, SqL.of (by rw [hDl2, List.map_replicate]), ?_⟩
        have e2 : (List.replicate (min (SX.S l).cps.size (SX.S (l.drop (1 : Int).toNat)).cps.size) true).all id = true := by simp [List.all_replicate]
        rw [e2]
        exact k _ (r.trans r2)
end
end Rg

end
section
set_option Elab.async false
set_option linter.all false
set_option maxRecDepth 100000
set_option maxHeartbeats 4000000
namespace Rg
open PySem PySem.Spec PyProof.Rows L2
section
variable {P : Program} {w : World} {K : PySem.W.Frag} {mg : Str → Option Value} {base : Heap}
/-! is_lamps -/
def spLamps : Sp := fun vs H Q _ => ∃ l : Lit, vs = [tx l] ∧ Ok l ∧ 1 ≤ l.length ∧ l.length ≤ 4 ∧ ∀ H', Same H H' → Q (.bl true) H'
theorem sc_lamps : FnScope ["value"] ["value"] (defScope (top 12)) := ⟨rfl, rfl, rfl, by decide +kernel, rfl, by decide +kernel, by decide +kernel⟩
theorem c_lamps {f : Addr} {fd : FuncData} (D : Df K mg "is_lamps" (top 12) f fd) (B : Bl mg) (C : Cs mg) (c1 : C8.Cal P w K mg base 1 "is_rising" spRising []) : C8.Cal P w K mg base 2 "is_lamps" spLamps [] := by
  obtain ⟨t4, h4⟩ := C.lamps
  refine cal_of D (fun _ _ _ _ _ _ us hl => match us, hl with | [_], _ => rfl) sc_lamps (fun vs H Q E h => ?_) (fun cdv A outer s H vs Q E hr h => ?_)
  · obtain ⟨l, rfl, _⟩ := h
    rfl
  · obtain ⟨l, rfl, ok, l1, l4, k⟩ := h
    refine ⟨_, pss_one (ps_ret (pe_and (pe_callB call_isi (by rfl) B.isi (by decide +kernel) (pa_cons (pv 0) (pa_cons (pe_bltn (v := .ty "str") (by rfl) B.str (by decide +kernel) rfl) pa_nil)))
      (pe_and (pe_chain op_le op_le pe_int (pe_callB call_len (by rfl) B.len boot_len (pa_cons (pv 0) pa_nil)) (pe_glob (v := .int 4) rfl h4 ⟨_, rfl⟩))
        (pe_one (C8.pe_c c1 hr (by decide) rfl (pa_cons (pv 0) pa_nil)))))), ?_⟩
    refine ⟨_, rfl, _, _, _, _, true, rfl, .ty "str", .base (.str _), kit_ty (by decide +kernel), true, rfl, iteT ?_⟩
    refine ⟨_, rfl, _, l.length, rfl, ⟨by rw [SX.S_len]; exact small (by omega), (SX.S_len l).symm⟩, _, _, rfl, rfl, true, ?_, iteT ?_⟩
    · exact congrArg V.bl (decide_eq_true (by omega))
    · refine ⟨_, _, rfl, rfl, true, ?_, iteT ?_⟩
      · exact congrArg V.bl (decide_eq_true (by omega))
      · exact ⟨_, rfl, l, rfl, ok, k⟩
/-! need_lamps -/
def spNeedLamps : Sp := fun vs H Q _ => ∃ l : Lit, vs = [tx l] ∧ Ok l ∧ 1 ≤ l.length ∧ l.length ≤ 4 ∧ ∀ H', Same H H' → Q .non H'
theorem sc_needLamps : FnScope ["lamps"] ["lamps"] (defScope (top 14)) := ⟨rfl, rfl, rfl, by decide +kernel, rfl, by decide +kernel, by decide +kernel⟩
theorem c_needLamps {f : Addr} {fd : FuncData} (D : Df K mg "need_lamps" (top 14) f fd) (c1 : C8.Cal P w K mg base 2 "is_lamps" spLamps []) : C8.Cal P w K mg base 3 "need_lamps" spNeedLamps [] := by
  refine cal_of D (fun _ _ _ _ _ _ us hl => match us, hl with | [_], _ => rfl) sc_needLamps (fun vs H Q E h => ?_) (fun cdv A outer s H vs Q E hr h => ?_)
  · obtain ⟨l, rfl, _⟩ := h
    rfl
  · obtain ⟨l, rfl, ok, l1, l4, k⟩ := h
    refine ⟨_, pss_one (ps_if (pt_not (pt_val (C8.pe_c c1 hr (by decide) rfl (pa_cons (pv 0) pa_nil)))) pss_never pss_nil), ?_⟩
    refine ⟨_, rfl, l, rfl, ok, l1, l4, fun H' r => ⟨_, rfl, iteF (k H' r)⟩⟩
/-! is_set -/
def spSet : Sp := fun vs H Q _ => ∃ l m : Lit, vs = [tx l, tx m] ∧ Ok l ∧ (∀ c ∈ l, c ∈ m) ∧ ∀ H', Same H H' → Q (.bl true) H'
theorem sc_set : FnScope ["value", "lamps", "letter"] ["value", "lamps"] (defScope (top 13)) := ⟨rfl, rfl, rfl, by decide +kernel, rfl, by decide +kernel, by decide +kernel⟩
theorem all_map {l : List Nat} {p : Nat → Bool} (h : ∀ c ∈ l, p c = true) : ((l.map p).all id) = true := by
  rw [List.all_map]
  exact List.all_eq_true.mpr h
theorem c_set {f : Addr} {fd : FuncData} (D : Df K mg "is_set" (top 13) f fd) (B : Bl mg) (c1 : C8.Cal P w K mg base 1 "is_rising" spRising []) : C8.Cal P w K mg base 2 "is_set" spSet [] := by
  refine cal_of D (fun _ _ _ _ _ _ us hl => match us, hl with | [_, _], _ => rfl) sc_set (fun vs H Q E h => ?_) (fun cdv A outer s H vs Q E hr h => ?_)
  · obtain ⟨l, m, rfl, _⟩ := h
    rfl
  · obtain ⟨l, m, rfl, ok, sub, k⟩ := h
    refine ⟨_, pss_one (ps_ret (pe_and (pe_callB call_isi (by rfl) B.isi (by decide +kernel) (pa_cons (pv 0) (pa_cons (pe_bltn (v := .ty "str") (by rfl) B.str (by decide +kernel) rfl) pa_nil)))
      (pe_and (C8.pe_c c1 hr (by decide) rfl (pa_cons (pv 0) pa_nil))
        (pe_one (pe_callB (cr_all rfl) (by rfl) B.all (by decide +kernel) (pa_cons
          (pe_lc (own := [("letter", 2)]) rfl sc_set.nd (pi_str (pv 0)) (blkOk_by (own := [("letter", 2)]) (N := ["value", "lamps", "letter"]) (sc := defScope (top 13)) (by decide +kernel)) (fun _ _ _ _ _ => pg_name (i := 2) sc_set.nd rfl (Or.inl rfl)) (fun _ _ _ _ _ => pts_nil)
            (fun _ _ _ _ _ => pe_cmpR op_in_sign (pv 2) (pv 1) rfl)) pa_nil)))))), ?_⟩
    refine ⟨_, rfl, _, _, _, _, true, rfl, .ty "str", .base (.str _), kit_ty (by decide +kernel), true, rfl, iteT ?_⟩
    refine ⟨_, rfl, l, rfl, ok, fun H' r => ⟨true, rfl, iteT ?_⟩⟩
    refine ⟨_, rfl, _, rfl, fun D hD => ?_⟩
    refine lc_val same_ok walk_str (fun i => (l.take i).map fun c => V.bl (decide (c ∈ m))) hD rfl (fun i hi => ?_) (fun _ _ => trivial) (fun N i x H1 H2 hi r y keep skip => ?_) fun H1 r1 hDl => ?_
    · exact Nat.lt_of_le_of_lt (m_take_len _ _ _) (small' (by have := ok.len; omega))
    · obtain ⟨rfl, c, hc, rfl⟩ := y
      refine ⟨rfl, yes ?_⟩
      exact ⟨_, rfl, _, rfl, c, _, rfl, rfl, keep _ _ (Same.refl _) (map_take_succ (S_at.mp hc))⟩
    · refine ⟨_, l.map fun c => decide (c ∈ m), rfl, SqL.of ?_, ?_⟩
      · rw [hDl, S_size, List.take_length, List.map_map]
        rfl
      · rw [all_map fun c hc => decide_eq_true (sub c hc)]
        exact k _ (r.trans r1)
/-! is_within -/
def spWithin : Sp := fun vs H Q _ => ∃ l m : Lit, vs = [tx l, tx m] ∧ l.length ≤ 1000 ∧ ∀ H', Same H H' → Q (.bl (within l m)) H'
theorem sc_within : FnScope ["one", "other", "letter"] ["one", "other"] (defScope (top 19)) := ⟨rfl, rfl, rfl, by decide +kernel, rfl, by decide +kernel, by decide +kernel⟩
theorem c_within {f : Addr} {fd : FuncData} (D : Df K mg "is_within" (top 19) f fd) (B : Bl mg) : C8.Cal P w K mg base 1 "is_within" spWithin [] := by
  refine cal_of D (fun _ _ _ _ _ _ us hl => match us, hl with | [_, _], _ => rfl) sc_within (fun vs H Q E h => ?_) (fun cdv A outer s H vs Q E hr h => ?_)
  · obtain ⟨l, m, rfl, _⟩ := h
    rfl
  · obtain ⟨l, m, rfl, hlen, k⟩ := h
    refine ⟨_, pss_one (ps_ret (pe_callB (cr_all rfl) (by rfl) B.all (by decide +kernel) (pa_cons
          (pe_lc (own := [("letter", 2)]) rfl sc_within.nd (pi_str (pv 0)) (blkOk_by (own := [("letter", 2)]) (N := ["one", "other", "letter"]) (sc := defScope (top 19)) (by decide +kernel)) (fun _ _ _ _ _ => pg_name (i := 2) sc_within.nd rfl (Or.inl rfl)) (fun _ _ _ _ _ => pts_nil)
            (fun _ _ _ _ _ => pe_cmpR op_in_sign (pv 2) (pv 1) rfl)) pa_nil))), ?_⟩
    refine ⟨_, rfl, _, rfl, fun D hD => ?_⟩
    refine lc_val same_ok walk_str (fun i => (l.take i).map fun c => V.bl (decide (c ∈ m))) hD rfl (fun i hi => ?_) (fun _ _ => trivial) (fun N i x H1 H2 hi r y keep skip => ?_) fun H1 r1 hDl => ?_
    · exact Nat.lt_of_le_of_lt (m_take_len _ _ _) (small' (by omega))
    · obtain ⟨rfl, c, hc, rfl⟩ := y
      refine ⟨rfl, yes ?_⟩
      exact ⟨_, rfl, _, rfl, c, _, rfl, rfl, keep _ _ (Same.refl _) (map_take_succ (S_at.mp hc))⟩
    · refine ⟨_, l.map fun c => decide (c ∈ m), rfl, SqL.of ?_, ?_⟩
      · rw [hDl, S_size, List.take_length, List.map_map]
        rfl
      · have e : ((l.map fun c => decide (c ∈ m)).all id) = within l m := by rw [List.all_map]; rfl
        rw [e]
        exact k _ r1
/-! size_and_letters -/
def spSize : Sp := fun vs H Q _ => ∃ l : Lit, vs = [tx l] ∧ l.length ≤ 1000 ∧ ∀ p, H p = none → Q (.ref p) (upd H p (.tup [.int l.length, tx l]))
theorem sc_size : FnScope ["lit"] ["lit"] (defScope (top 16)) := ⟨rfl, rfl, rfl, by decide +kernel, rfl, by decide +kernel, by decide +kernel⟩
theorem c_size {f : Addr} {fd : FuncData} (D : Df K mg "size_and_letters" (top 16) f fd) (B : Bl mg) : C8.Cal P w K mg base 1 "size_and_letters" spSize [] := by
  refine cal_of D (fun _ _ _ _ _ _ us hl => match us, hl with | [_], _ => rfl) sc_size (fun vs H Q E h => ?_) (fun cdv A outer s H vs Q E hr h => ?_)
  · obtain ⟨l, rfl, _⟩ := h
    rfl
  · obtain ⟨l, rfl, hlen, k⟩ := h
    refine ⟨_, pss_one (ps_ret (pe_tup (pa_cons (pe_callB call_len (by rfl) B.len boot_len (pa_cons (pv 0) pa_nil)) (pa_cons (pv 0) pa_nil)))), ?_⟩
    refine ⟨_, rfl, _, l.length, rfl, ⟨by rw [SX.S_len]; exact small (by omega), (SX.S_len l).symm⟩, _, rfl, (by show 2 ≤ sizeLine; decide), fun p hp => k p hp⟩
end
end Rg

end
section
set_option Elab.async false
set_option linter.all false
set_option maxRecDepth 100000
set_option maxHeartbeats 4000000
/-! sorted(texts, key=f), f a def or a lambda that gives (len(text), text) -/
namespace Rg
open PySem PySem.Spec PyProof.Rows L2
def litV : Value → Lit
  | .str s _ => s.cps.toList
  | _ => []
def ltK (p q : Value × Value) : Bool := !keyB (litV q.2) (litV p.2)
theorem swoK : SrtO.Swo ltK := by
  refine ⟨fun x y h => ?_, fun x y z h1 h2 => ?_⟩
  · have h : (!keyB (litV y.2) (litV x.2)) = true := h
    show (!keyB (litV x.2) (litV y.2)) = false
    have := keyB_total (litV x.2) (litV y.2)
    simp only [Bool.not_eq_true'] at h
    rw [h, Bool.or_false] at this
    rw [this]
    rfl
  · have h1 : (!keyB (litV x.2) (litV y.2)) = false := h1
    have h2 : (!keyB (litV y.2) (litV z.2)) = false := h2
    show (!keyB (litV x.2) (litV z.2)) = false
    simp only [Bool.not_eq_false'] at h1 h2 ⊢
    exact keyB_trans _ _ _ h1 h2
/-- the key of a text stands -/
def KeyAt (h : Heap) (p : Value × Value) : Prop := ∃ a o t u n, p.1 = .ref a ∧ h.get? a = some o ∧ o.cls = .type "tuple" ∧ o.data = .seq #[.int ((litV p.2).length : Nat) t, .str (SX.S (litV p.2)) u] n
section
variable {prog : Program} {w : World} {A : Around} {E : Value → Shared → Prop} {s : Shared}
theorem key_cmp {PP : Value × Value → Prop} (hp : ∀ p, PP p → KeyAt s.heap p) : SrtO.Cmp prog w A s (tuples' true) PP ltK := by
  intro p q hm hm'
  obtain ⟨a, o, t, u, n, e, ho, hc, hd⟩ := hp _ hm
  obtain ⟨a', o', t', u', n', e', ho', hc', hd'⟩ := hp _ hm'
  show wpAny (model prog w) A (keyLt' (tuples' true) p.1 q.1) (fun r s' => s' = s ∧ r = ltK p q) (fun _ _ => False) s
  unfold ltK keyB lexB
  rw [e, e']
  generalize litV p.2 = x at hd ⊢
  generalize litV q.2 = y at hd' ⊢
  refine PySem.W.kat_lt ho hd ho' hd' ?_
  show PySem.W.KatLex prog w A true (decide (2 < 2)) _ [(.int x.length t, .int y.length t'), (.str (SX.S x) u, .str (SX.S y) u')] 0 s
  refine PySem.W.kat_cons (wpAny_eqBool_int ?_)
  refine PySem.W.kat_go (fun e1 => ?_) (fun e1 => ?_)
  · have ex : x.length = y.length := by have := of_decide_eq_true (by simpa using e1 : decide ((x.length : Int) = y.length) = true); omega
    refine PySem.W.kat_yes (PySem.W.kat_cons (wpAny_eqBool_str ?_))
    refine PySem.W.kat_go (fun e2 => ?_) (fun e2 => ?_)
    · have ey : x = y := by
        have := of_decide_eq_true e2
        have h2 := congrArg (fun z : Str => z.cps.toList) this
        exact h2
      refine PySem.W.kat_yes (PySem.W.kat_nil ⟨rfl, ?_⟩)
      rw [ey]
      have h0 : decide (y ≤ y) = true := decide_eq_true (List.le_refl y)
      simp [h0]
    · refine PySem.W.kat_no (PySem.W.kat_one _ _ (PyProof.Rows.lt_str ?_))
      refine (show s = s ∧ _ = _ from ⟨rfl, ?_⟩)
      show decide (x < y) = _
      rw [decide_eq_false (by omega : ¬ y.length < x.length), decide_eq_true ex.symm, Bool.false_or, Bool.true_and]
      by_cases hlt : x < y
      · rw [decide_eq_true hlt, decide_eq_false (fun hle : y ≤ x => hle hlt)]
        rfl
      · rw [decide_eq_false hlt, decide_eq_true (show y ≤ x from hlt)]
        rfl
  · have ex : ¬ x.length = y.length := fun z => by
      rw [z] at e1
      simp at e1
    refine PySem.W.kat_no (oneLt_int ⟨rfl, ?_⟩)
    have e4 : decide (y.length = x.length) = false := decide_eq_false fun z => ex z.symm
    rw [e4, Bool.false_and, Bool.or_false]
    by_cases hl : x.length < y.length
    · rw [decide_eq_true (by omega : (x.length : Int) < y.length), decide_eq_false (by omega)]
      rfl
    · rw [decide_eq_false (by omega : ¬ (x.length : Int) < y.length), decide_eq_true (by omega)]
      rfl
end
end Rg

end
section
set_option Elab.async false
set_option linter.all false
set_option maxRecDepth 100000
set_option maxHeartbeats 4000000
namespace Rg
open PySem PySem.Spec PyProof.Rows L2
/-- what the key's function gives -/
def KeyFn (X : Cx) (pins : List (Addr × Obj)) (H0 : Hp) (f : Value) : Prop := ∀ (more : List (Addr × Obj)) (σ : L2.St) (H : Hp) (s : Shared) (l : Lit) (t : Tok), Inv X (pins ++ more) σ H s → Same H0 H → l.length ≤ 1000 →
  wpAny (model X.prog X.w) X.A.in1.in1 (call f [.str (SX.S l) t]) (EP X (pins ++ more) σ fun v H' => ∃ p, v = .ref p ∧ H p = none ∧ H' = upd H p (.tup [.int l.length, tx l])) (fun _ _ => False) s
theorem fpAt {X : Cx} {pins : List (Addr × Obj)} {H H' : Hp} {b : Addr} (f : FpOk X pins H b) (h : H' b = none) : FpOk X pins H' b := ⟨h, f.2⟩
theorem inv_turnedF {X : Cx} {pins : List (Addr × Obj)} {σ : L2.St} {H : Hp} {s : Shared} {h' : Heap} {t' : Nat} {it : Addr} (I : Inv X pins σ H s) (k : ∀ b o, b ≠ it → s.heap.get? b = some o → h'.get? b = some o) (f : FpOk X pins H it) :
    Inv X pins σ H { s with heap := h', toks := t' } := I.turned k f.1 f.2.1 f.2.2.2.1 f.2.2.2.2.1 f.2.2.2.2.2
/-- the keys made so far -/
def KeysAt (H : Hp) (ls : List Lit) (i : Nat) (kA : Array Value) : Prop := kA.size = i ∧ ∀ j l, j < i → ls[j]? = some l → ∃ p, kA[j]? = some (.ref p) ∧ H p = some (.tup [.int l.length, tx l])
theorem vals_txt {ls : List Lit} {its : List Value} (r : Vals (ls.map tx) its) : its.length = ls.length ∧ ∀ (j : Nat) (l : Lit), ls[j]? = some l → ∃ t, its[j]? = some (Value.str (SX.S l) t) := by
  refine ⟨by have := r.length; rw [List.length_map] at this; exact this.symm, fun j l h => ?_⟩
  obtain ⟨u, hu, rx⟩ := r.get (show (ls.map tx)[j]? = some (tx l) by rw [List.getElem?_map, h]; rfl)
  obtain ⟨t, rfl⟩ := rx
  exact ⟨t, hu⟩
theorem keys_at {X : Cx} {pins : List (Addr × Obj)} {σ : L2.St} {H : Hp} {s : Shared} {ls : List Lit} {its : List Value} {kA : Array Value} (I : Inv X pins σ H s) (r : Vals (ls.map tx) its) (k : KeysAt H ls ls.length kA) : ∀ p ∈ (kA.zip its.toArray).toList, KeyAt s.heap p ∧ p.2 ∈ its := by
  intro p hp
  obtain ⟨el, ea⟩ := vals_txt r
  rw [PyProof.Rows.ksk_zip] at hp
  refine ⟨?_, ?_⟩
  · obtain ⟨j, hj, e⟩ := List.getElem_of_mem hp
    have hj2 : j < its.length := by rw [List.length_zip] at hj; omega
    have hj3 : j < kA.toList.length := by rw [List.length_zip] at hj; omega
    rw [List.getElem_zip] at e
    obtain ⟨l, hl⟩ : ∃ l, ls[j]? = some l := ⟨_, List.getElem?_eq_getElem (by omega)⟩
    obtain ⟨t, ht⟩ := ea j l hl
    obtain ⟨q, hq, hH⟩ := k.2 j l (by omega) hl
    obtain ⟨_, its2, r2, o, ho, hc, n, hd⟩ := I.hok _ _ hH
    obtain ⟨u1, u2, rfl, ⟨t1, rfl⟩, ⟨t2, rfl⟩⟩ := vals2 r2
    have e1 : kA.toList[j] = .ref q := by
      rw [← Array.getElem?_toList, List.getElem?_eq_getElem hj3] at hq
      exact Option.some.inj hq
    have e2 : its[j] = .str (SX.S l) t := by
      rw [List.getElem?_eq_getElem hj2] at ht
      exact Option.some.inj ht
    rw [e1, e2] at e
    subst e
    exact ⟨q, o, t1, t2, n, rfl, ho, hc, hd⟩
  · obtain ⟨x, y⟩ := p
    exact (List.of_mem_zip hp).2
section
variable {X : Cx} {pins : List (Addr × Obj)} {σ : L2.St} {H : Hp}
theorem sortK_fold {f : Value} (KF : KeyFn X pins H f) {ls : List Lit} {its : List Value} (r : Vals (ls.map tx) its) (hl : ∀ l ∈ ls, l.length ≤ 1000) (hz : ls.length ≤ 1000) {a kS : Addr} {e1 : Nat} (hne : kS ≠ a) {s : Shared} (I : Inv X pins σ H s) (fa : FpOk X pins H a) (fk : FpOk X pins H kS)
    (ha : s.heap.get? a = some (seqObj "list" #[] e1)) (hk : ∃ e, s.heap.get? kS = some (seqObj "list" #[] e)) {items : Array Value} {E : Value → Shared → Prop} {P : PySem.Fin → Shared → Prop}
    (h : ∀ (s' : Shared) (H' : Hp) (kA : Array Value) (e : Nat), Inv X pins σ H' s' → Same H H' → H' a = none → H' kS = none → s'.heap.get? a = some (seqObj "list" #[] e1) → s'.heap.get? kS = some (seqObj "list" kA e) → KeysAt H' ls ls.length kA →
      wpAny (model X.prog X.w) X.A.in1.in1 (ksk_end a false its.toArray e1 (.ref kS) kA) P E s') :
    wpAny (model X.prog X.w) X.A.in1.in1 (ksk_rest a f false its.toArray e1 (.ref kS)) P E s := by
  obtain ⟨el, ea⟩ := vals_txt r
  unfold ksk_rest
  refine wpAny_bind (wpAny_rule ?_)
  first
    | rw [List.forIn_toArray]
    | (rw [← Array.forIn_toList]; simp only [List.toList_toArray])
    | rw [← Array.forIn_toList]
  refine wpAny_bind (ksk_fold (fun i s' => ∃ H' kA e, Inv X pins σ H' s' ∧ Same H H' ∧ H' a = none ∧ H' kS = none ∧ s'.heap.get? a = some (seqObj "list" #[] e1) ∧ s'.heap.get? kS = some (seqObj "list" kA e) ∧ KeysAt H' ls i kA) its 0 s
    ⟨H, #[], _, I, Same.refl H, fa.1, fk.1, ha, hk.choose_spec, rfl, fun j l hj => absurd hj (Nat.not_lt_zero _)⟩ ?step ?done)
  case step =>
    rintro j x s' hx ⟨H', kA, e, I1, sm, na, nk, ga, gk, K⟩
    simp only [Nat.zero_add] at K ⊢
    have hj : j < its.length := (List.getElem?_eq_some_iff.mp hx).1
    obtain ⟨l, hlj⟩ : ∃ l, ls[j]? = some l := ⟨_, List.getElem?_eq_getElem (by omega)⟩
    obtain ⟨t, ht⟩ := ea j l hlj
    rw [ht] at hx
    cases hx
    have fps : ∀ b ∈ [a, kS], FpOk X pins H' b := fun b hb => by
      rcases List.mem_cons.mp hb with z | hb
      · rw [z]; exact fpAt fa na
      · rw [List.mem_singleton.mp hb]; exact fpAt fk nk
    have I2 := I1.pinned (fp := [a, kS]) fps (fun b hb => by
      rcases List.mem_cons.mp hb with z | hb
      · rw [z]; exact ⟨_, ga, fun v q => nomatch q⟩
      · rw [List.mem_singleton.mp hb]; exact ⟨_, gk, fun v q => nomatch q⟩)
    refine wpAny_bind (wpAny_attempt (wpAny_mono (KF _ σ H' s' l t I2 sm (hl l (List.mem_of_getElem? hlj))) (fun v s'' he => ?_) fun _ _ hF => hF.elim))
    obtain ⟨v', H2, I3, rv, p, rfl, hp, rfl⟩ := he
    obtain rfl : v = .ref p := rv
    have I4 := I3.unpinned
    have pa := I3.pin (a, seqObj "list" #[] e1) (List.mem_append_right _ (List.mem_append_right _ (mem_pinsAt (by simp) ga)))
    have pk := I3.pin (kS, seqObj "list" kA e) (List.mem_append_right _ (List.mem_append_right _ (mem_pinsAt (by simp) gk)))
    dsimp only at pa pk ⊢
    have s1 := Heap.SameBut.update s''.heap kS (Obj.mapSeq (·.push (.ref p)))
    obtain ⟨c2, hc2⟩ : ∃ c2, (s''.heap.update kS (Obj.mapSeq (·.push (.ref p)))).get? kS = some (seqObj "list" (kA.push (.ref p)) c2) := ⟨_, get?_update_seq pk.1 (·.push (.ref p))⟩
    have hsz : kA.size ≤ 1000 := by have := K.1; omega
    have sm2 : Same H' (upd H' p (.tup [.int l.length, tx l])) := Same.one hp
    refine wpAny_bind (listUpdate_at pk.1 rfl ?_ (by rw [sizeLine_eq]; omega) (Nat.le_trans (Nat.le_of_eq (Array.size_push ..)) (by rw [sizeLine_eq]; omega)))
    refine wpAny_pure ⟨rfl, _, kA.push (.ref p), c2, inv_turnedF I4 (t' := s''.toks) (fun b o hb q => (s1.2 b hb).trans q) (fpAt fk pk.2.1), sm.trans sm2, pa.2.1, pk.2.1, (s1.2 a hne.symm).trans pa.1, hc2, ?_, fun i l' hi hl' => ?_⟩
    · rw [Array.size_push, K.1]
    · rcases Nat.lt_or_ge i j with hij | hij
      · obtain ⟨q, e1, e2⟩ := K.2 i l' hij hl'
        refine ⟨q, ?_, sm2 _ _ e2⟩
        rw [Array.getElem?_push_lt (by rw [K.1]; exact hij)]
        rw [Array.getElem?_eq_getElem (by rw [K.1]; exact hij)] at e1
        exact e1
      · have : i = j := by omega
        subst this
        rw [hlj] at hl'
        cases hl'
        refine ⟨p, ?_, upd_same⟩
        have : (kA.push (Value.ref p))[kA.size]? = some (Value.ref p) := Array.getElem?_push_size
        rw [K.1] at this
        exact this
  case done =>
    rintro s' ⟨H', kA, e, I1, sm, na, nk, ga, gk, K⟩
    refine wpAny_bind (listItems_at gk rfl ?_)
    rw [Nat.zero_add, el] at K
    exact h s' H' kA e I1 sm na nk ga gk K
theorem kat_tups : ∀ {ps : List (Value × Value)} {h : Heap}, (∀ p ∈ ps, KeyAt h p) → ∃ fs, PySem.W.KatTups h (ps.map (·.1)) fs ∧ fs.length = ps.length ∧ ∀ v ∈ fs, ∃ i t, v = Value.int i t
  | [], h, _ => ⟨[], .nil, rfl, fun _ h => nomatch h⟩
  | p :: ps, h, k => by
    obtain ⟨fs, t, e, q⟩ := kat_tups (ps := ps) (h := h) fun p hp => k p (List.mem_cons_of_mem _ hp)
    obtain ⟨a, o, t1, u, n, e1, ho, hc, hd⟩ := k p List.mem_cons_self
    refine ⟨.int ((litV p.2).length : Nat) t1 :: fs, ?_, congrArg Nat.succ e, fun v hv => ?_⟩
    · rw [List.map_cons, e1]
      exact .cons ho hc hd rfl t
    · rcases List.mem_cons.mp hv with z | hv
      · exact ⟨_, _, z⟩
      · exact q v hv
theorem sortK_end {ls : List Lit} {its : List Value} (r : Vals (ls.map tx) its) (hz : ls.length ≤ 1000) {a kS : Addr} {e1 e : Nat} (hne : kS ≠ a) {s : Shared} {kA : Array Value} (I : Inv X pins σ H s) (fa : FpOk X pins H a) (fk : FpOk X pins H kS)
    (ha : s.heap.get? a = some (seqObj "list" #[] e1)) (hk : s.heap.get? kS = some (seqObj "list" kA e)) (K : KeysAt H ls ls.length kA) {E : Value → Shared → Prop} {P : PySem.Fin → Shared → Prop}
    (h : ∀ (out : List Value) (c : Nat) (s' : Shared), out.Perm its → out.Pairwise (fun x y => keyB (litV x) (litV y) = true) → Inv X pins σ H s' → s'.heap.get? a = some (seqObj "list" out.toArray c) → P (.done (.ret .none)) s') :
    wpAny (model X.prog X.w) X.A.in1.in1 (ksk_end a false its.toArray e1 (.ref kS) kA) P E s := by
  obtain ⟨el, ea⟩ := vals_txt r
  have KA := keys_at I r K
  have hzs : (kA.zip its.toArray).size = its.length := by rw [Array.size_zip, K.1, List.size_toArray, el, Nat.min_self]
  have hks : kA.toList.length = its.length := by rw [Array.length_toList, K.1, el]
  have hzl : (kA.zip its.toArray).toList.length = its.length := by rw [Array.length_toList, hzs]
  have hsnd : (kA.zip its.toArray).toList.map (·.2) = its := by
    rw [PyProof.Rows.ksk_zip]
    exact List.map_snd_zip (by rw [hks]; exact Nat.le_refl _)
  have hfst : (kA.zip its.toArray).toList.map (·.1) = kA.toList := by
    rw [PyProof.Rows.ksk_zip]
    exact List.map_fst_zip (by rw [hks]; exact Nat.le_refl _)
  have tail : ∀ st : SortSt, (arrOf st).toList.Perm (kA.zip its.toArray).toList → SrtO.Srtd ltK (arrOf st).toList → failedOf st = none →
      wpAny (model X.prog X.w) X.A.in1.in1 (ksk_tail a false e1 (.ref kS) st) P E s := by
    intro st hp hs hf
    have s1 := Heap.SameBut.update s.heap kS (Obj.mapSeq fun _ => (#[] : Array Value))
    have na1 : (s.heap.update kS (Obj.mapSeq fun _ => (#[] : Array Value))).get? a = some (seqObj "list" #[] e1) := (s1.2 a hne.symm).trans ha
    have s2 := Heap.SameBut.update (s.heap.update kS (Obj.mapSeq fun _ => (#[] : Array Value))) a (Obj.mapSeq fun _ => (arrOf st).map (·.2))
    obtain ⟨c2, hc2⟩ : ∃ c2, ((s.heap.update kS (Obj.mapSeq fun _ => (#[] : Array Value))).update a (Obj.mapSeq fun _ => (arrOf st).map (·.2))).get? a = some (seqObj "list" ((arrOf st).map (·.2)) c2) := ⟨_, get?_update_seq na1 fun _ => (arrOf st).map (·.2)⟩
    have hsz2 : ((arrOf st).map (·.2)).size = its.length := by
      have := hp.length_eq
      rw [Array.length_toList, Array.length_toList, hzs] at this
      rw [Array.size_map]
      exact this
    have I1 := inv_turnedF I (t' := s.toks) (fun b o hb q => (s1.2 b hb).trans q) fk
    have I2 := inv_turnedF I1 (t' := s.toks) (fun b o hb q => (s2.2 b hb).trans q) fa
    unfold ksk_tail
    dsimp only
    refine wpAny_bind (listUpdate_at hk rfl ?_ (by rw [K.1, sizeLine_eq]; omega) (Nat.zero_le _))
    refine wpAny_bind (wpAny_letGo ?_)
    refine wpAny_bind (seqEpoch_at na1 rfl ?_)
    refine wpAny_bind (listUpdate_at na1 rfl ?_ (Nat.zero_le _) (Nat.le_trans (Nat.le_of_eq hsz2) (by rw [sizeLine_eq]; omega)))
    rw [hf]
    simp only [bne_self_eq_false, Bool.false_eq_true, if_false]
    refine wpAny_pure (h ((arrOf st).map (·.2)).toList c2 _ ?_ ?_ I2 (by rw [Array.toArray_toList]; exact hc2))
    · rw [Array.toList_map, ← hsnd]
      exact hp.map _
    · rw [Array.toList_map]
      refine List.pairwise_map.mpr (hs.imp fun {x y} q => ?_)
      have q : (!keyB (litV x.2) (litV y.2)) = false := q
      simpa using q
  unfold ksk_end
  dsimp only
  simp only [Bool.false_eq_true, if_false]
  by_cases h2 : its.toArray.size < 2
  · rw [if_pos h2, if_pos h2]
    refine wpAny_bind (wpAny_pure ?_)
    rw [StateT.run_pure]
    refine wpAny_bind (wpAny_pure ?_)
    dsimp only
    refine tail (SortSt.mk' general' (kA.zip its.toArray) #[] 7 none) (List.Perm.refl _) ?_ rfl
    have hl : (kA.zip its.toArray).toList.length < 2 := by rw [Array.length_toList, hzs]; simpa using h2
    show SrtO.Srtd ltK (kA.zip its.toArray).toList
    match (kA.zip its.toArray).toList, hl with
    | [], _ => exact List.Pairwise.nil
    | [v], _ => exact List.pairwise_singleton _ _
    | _ :: _ :: l, h => exact absurd h (by rw [List.length_cons, List.length_cons]; omega)
  · rw [if_neg h2]
    try rw [if_neg h2]
    obtain ⟨fs, kt, efs, hfs⟩ := kat_tups (h := s.heap) fun p hp => (KA p hp).1
    rw [hfst] at kt
    rw [hzl] at efs
    have h2' : 2 ≤ its.length := by rw [List.size_toArray] at h2; omega
    have kk : kA = kA.toList.toArray := by rw [Array.toArray_toList]
    refine wpAny_bind ?_
    rw [show keyKind' kA = keyKind' kA.toList.toArray by rw [← kk]]
    refine PySem.W.kat_kind (T := .type "int") kt (by omega) (fun f hm => ?_) (by rfl) ?_
    · obtain ⟨x, t, rfl⟩ := hfs f hm
      exact PySem.W.Looks.now
    · have ek : (Value.type "int" != Value.type "tuple") = true := by first | decide +kernel | rfl | decide
      rw [ek]
      refine wpAny_bind (wpAny_mono (SrtO.wpS_sortO (st0 := SortSt.mk' (tuples' true) (kA.zip its.toArray) #[] 7 none) (E := E)
        (Q := fun _ st' => SrtO.Srtd ltK (arrOf st').toList ∧ (arrOf st').toList.Perm (kA.zip its.toArray).toList ∧ failedOf st' = none) swoK (key_cmp (PP := fun p => p ∈ (kA.zip its.toArray).toList) fun p hp => (KA p hp).1) rfl (fun p hp => hp) rfl rfl fun st' a1 a2 a3 => ⟨a1, a2.perm, a3⟩) ?_ fun _ _ e => e)
      rintro ⟨⟨⟩, st'⟩ s' ⟨rfl, hp1, hp2, hf⟩
      dsimp only
      exact tail st' hp2 hp1 hf
end
end Rg

end
section
set_option Elab.async false
set_option linter.all false
set_option maxRecDepth 100000
set_option maxHeartbeats 4000000
namespace Rg
open PySem PySem.Spec PyProof.Rows L2
section
variable {X : Cx} {pins : List (Addr × Obj)} {σ : L2.St} {H : Hp}
theorem sortK_tree {f : Value} (KF : KeyFn X pins H f) {ls : List Lit} {its : List Value} (r : Vals (ls.map tx) its) (hl : ∀ l ∈ ls, l.length ≤ 1000) (hz : ls.length ≤ 1000) {a : Addr} {n : Nat} {s : Shared} (I : Inv X pins σ H s) (fa : FpOk X pins H a)
    (ha : s.heap.get? a = some (seqObj "list" its.toArray n)) {E : Value → Shared → Prop} {P : PySem.Fin → Shared → Prop}
    (h : ∀ (out : List Value) (c : Nat) (s' : Shared) (H' : Hp), out.Perm its → out.Pairwise (fun x y => keyB (litV x) (litV y) = true) → Inv X pins σ H' s' → Same H H' → H' a = none → s'.heap.get? a = some (seqObj "list" out.toArray c) → P (.done (.ret .none)) s') :
    wpAny (model X.prog X.w) X.A.in1.in1 (ksk_tree a f false) P E s := by
  obtain ⟨el, ea⟩ := vals_txt r
  have hlt : a < s.heap.objs.size := Heap.lt_size ha
  have s1 := Heap.SameBut.update s.heap a (Obj.mapSeq fun _ => (#[] : Array Value))
  obtain ⟨e1, ho1⟩ : ∃ e1, (s.heap.update a (Obj.mapSeq fun _ => (#[] : Array Value))).get? a = some (seqObj "list" #[] e1) := ⟨_, get?_update_seq ha fun _ => #[]⟩
  have hkS : ((s.heap.update a (Obj.mapSeq fun _ => (#[] : Array Value))).push (seqObj "tuple" its.toArray 0)).objs.size = s.heap.objs.size + 1 := by rw [size_push', Heap.size_update]
  unfold ksk_tree
  refine wpAny_bind (listItems_at ha rfl ?_)
  refine wpAny_bind (listUpdate_at ha rfl ?_ (by rw [List.size_toArray, sizeLine_eq]; omega) (Nat.zero_le _))
  refine wpAny_bind (seqEpoch_at ho1 rfl ?_)
  refine wpAny_bind (wpAny_newTuple ?_ (by show its.length ≤ _; rw [sizeLine_eq]; omega))
  refine wpAny_bind (wpAny_newList ?_ (Nat.zero_le _))
  refine wpAny_holding ?_
  have I1 := inv_turnedF (t' := s.toks) I (fun b o hb q => (s1.2 b hb).trans q) fa
  have I2 : Inv X pins σ H { s with heap := ((s.heap.update a (Obj.mapSeq fun _ => (#[] : Array Value))).push (seqObj "tuple" its.toArray 0)).push (seqObj "list" #[] 0) } := I1.kept (t' := s.toks) fun b u e => Heap.get?_push_of_some _ (Heap.get?_push_of_some _ e)
  have fk : FpOk X pins H (s.heap.objs.size + 1) := I.fpOk (Nat.le_succ _) (I.hok.fresh (Nat.le_succ _))
  refine sortK_fold (s := { s with heap := ((s.heap.update a (Obj.mapSeq fun _ => (#[] : Array Value))).push (seqObj "tuple" its.toArray 0)).push (seqObj "list" #[] 0) }) (kS := ((s.heap.update a (Obj.mapSeq fun _ => (#[] : Array Value))).push (seqObj "tuple" its.toArray 0)).objs.size)
    (items := its.toArray) KF r hl hz (by rw [hkS]; exact Nat.ne_of_gt (Nat.lt_succ_of_lt hlt)) I2 fa (by rw [hkS]; exact fk) (Heap.get?_push_of_some _ (Heap.get?_push_of_some _ ho1)) ⟨_, Heap.get?_push_size _ rfl⟩ fun s' H' kA e I3 sm na nk ga gk K => ?_
  rw [hkS] at nk gk ⊢
  exact sortK_end r hz (Nat.ne_of_gt (Nat.lt_succ_of_lt hlt)) I3 (fpAt fa na) (fpAt fk nk) ga gk K fun out c s2 p o J g => h out c s2 H' p o J sm na g
/-- an untracked object is tracked from now on -/
theorem inv_track {a : Addr} {o : HO} {s : Shared} (I : Inv X pins σ H s) (f : FpOk X pins H a) (new : ObjOk X.prog X.w (upd H a o) s.heap a o) : Inv X pins σ (upd H a o) s := by
  obtain ⟨n, f1, f2, f3, f4, f5⟩ := f
  have sm : ∀ b u, H b = some u → upd H a o b = some u := fun b u e => by rw [upd_ne (ne_of_none e n)]; exact e
  refine I.step (h' := s.heap) (g' := s.gens) (t' := s.toks) (d' := s.drawn) (ch := [a]) (fun b hb => ?_) (fun b o _ _ _ e _ => e) (fun b o _ _ _ e _ => ⟨o.slots, e⟩) (fun b o' hc _ h => ?_) (fun b o _ e => ⟨o, e⟩) (fun b xs e => sm _ _ e) (fun b o u e => sm _ _ e) (fun b ps e => ⟨#[], by rw [sm _ _ e]; simp⟩) (fun m h => h) (fun b u e => ?_) I.bare
  · rw [List.mem_singleton.mp hb]
    exact ⟨f3, f1, f4, f5⟩
  · rw [upd_ne (fun z => hc (by simp [z]))]
    exact h
  · by_cases hb : b = a
    · rw [hb, upd_same] at e
      cases e
      rw [hb]
      exact new
    · rw [upd_ne hb] at e
      exact (I.hok b u e).stay (fun _ _ _ q => q) (fun _ q => sm _ _ q) fun _ _ q => sm _ _ q
theorem litV_S (l : Lit) (t : Tok) : litV (.str (SX.S l) t) = l := rfl
theorem vals_lits {ls : List Lit} {its out : List Value} (r : Vals (ls.map tx) its) (p : out.Perm its) : ∃ ys : List Lit, Vals (ys.map tx) out ∧ ys = out.map litV := by
  refine ⟨out.map litV, ?_, rfl⟩
  obtain ⟨el, ea⟩ := vals_txt r
  have key : ∀ v ∈ out, ∃ l t, v = Value.str (SX.S l) t := fun v hv => by
    obtain ⟨j, hj, e⟩ := List.getElem_of_mem (p.mem_iff.mp hv)
    obtain ⟨l, hl⟩ : ∃ l, ls[j]? = some l := ⟨_, List.getElem?_eq_getElem (by omega)⟩
    obtain ⟨t, ht⟩ := ea j l hl
    rw [List.getElem?_eq_getElem hj, e] at ht
    exact ⟨l, t, Option.some.inj ht⟩
  clear p
  induction out with
  | nil => exact .nil
  | cons v out ih =>
    obtain ⟨l, t, e⟩ := key v List.mem_cons_self
    subst e
    exact .cons ⟨t, rfl⟩ (ih fun u hu => key u (List.mem_cons_of_mem _ hu))
theorem lits_map {ls : List Lit} {its : List Value} (r : Vals (ls.map tx) its) : its.map litV = ls := by
  induction ls generalizing its with
  | nil =>
    cases r
    rfl
  | cons l ls ih =>
    cases r with
    | cons h r =>
      obtain ⟨t, rfl⟩ := h
      rw [List.map_cons, ih r]
      rfl
theorem sortK_call {f : Addr} {ls : List Lit} {l : Addr} {s : Shared} (I : Inv X pins σ H s) (KF : KeyFn X pins H (.ref f)) (hs : SqL X.K H l (ls.map tx)) (hl : ∀ l ∈ ls, l.length ≤ 1000) (hz : ls.length ≤ 1000) {Q : VK} {E : Value → Shared → Prop}
    (q : ∀ (ys : List Lit) (H' : Hp) (p : Addr), ys.Perm ls → ys.Pairwise (fun x y => keyB x y = true) → Same H H' → H' p = none → Q (.ref p) (upd H' p (.lst (ys.map tx)))) :
    wpAny (model X.prog X.w) X.A (call (.builtin "sorted") [.ref l] [(Str.ofString "key", .ref f)]) (EP X pins σ Q) E s := by
  obtain ⟨its, rv, hli, _⟩ := I.list hs
  obtain ⟨el, ea⟩ := vals_txt rv
  refine call_function_entry_kw kind_sorted plain_sorted entry_sorted (PyProof.Rows.ksk_s1 _ _) ?_
  unfold Builtin.«sorted»
  refine wpAny_bind (m := checkCount "sorted" 1 1 _) (wpAny_pure ?_)
  refine wpAny_bind (collect_list hli.isList ?_ (by rw [sizeLine_eq]; omega))
  refine wpAny_bind (wpAny_newList ?_ (by rw [sizeLine_eq]; omega))
  have hsz : ((s.heap.push (seqObj "list" #[] 0)).update s.heap.objs.size (Obj.mapSeq (· ++ its.toArray))).objs.size = s.heap.objs.size + 1 := by
    rw [Heap.size_update, size_push']
  have hoL : (((s.heap.push (seqObj "list" #[] 0)).update s.heap.objs.size (Obj.mapSeq (· ++ its.toArray))).push (seqObj "list" its.toArray 0)).get? (s.heap.objs.size + 1) = some (seqObj "list" its.toArray 0) := by
    rw [← hsz]; exact Heap.get?_push_size _ rfl
  have keep : ∀ b o, s.heap.get? b = some o → (((s.heap.push (seqObj "list" #[] 0)).update s.heap.objs.size (Obj.mapSeq (· ++ its.toArray))).push (seqObj "list" its.toArray 0)).get? b = some o := fun b o q => by
    have hlt : b < s.heap.objs.size := Heap.lt_size q
    rw [Heap.get?_push_ne _ _ _ (by rw [hsz]; exact Nat.ne_of_lt (Nat.lt_succ_of_lt hlt)), Heap.get?_update_ne _ _ _ _ (Nat.ne_of_lt hlt), Heap.get?_push_ne _ _ _ (Nat.ne_of_lt hlt)]
    exact q
  show wpAny _ _ _ _ _ { s with heap := ((s.heap.push (seqObj "list" #[] 0)).update s.heap.objs.size (Obj.mapSeq (· ++ its.toArray))).push (seqObj "list" its.toArray 0) }
  rw [hsz]
  refine wpAny_bind (wpAny_holding (wpAny_call_entry_kw slot_list_sort ⟨_, hoL, rfl⟩ entry_list_sort ?body (PyProof.Rows.ksk_l1 _ _)))
  case body =>
    show wpAny (model X.prog X.w) X.A.in1.in1 (Builtin.«list.sort» ⟨[.ref (s.heap.objs.size + 1)], [(Str.ofString "key", .ref f)]⟩) _ _ _
    rw [PyProof.Rows.ksk_t1]
    refine sortK_tree KF rv hl hz (I.kept (t' := s.toks) keep) (I.fpOk (Nat.le_succ _) (I.hok.fresh (Nat.le_succ _))) hoL fun out c s' H' p o J sm na g => ⟨_, rfl, ?_⟩
    refine wpAny_pure ⟨_, rfl, ?_⟩
    obtain ⟨ys, vy, ey⟩ := vals_lits rv p
    have py : ys.Perm ls := by
      rw [ey, ← lits_map rv]
      exact p.map _
    have oy : ys.Pairwise (fun x y => keyB x y = true) := by
      rw [ey]
      exact List.pairwise_map.mpr o
    have hlen : (ys.map tx).length ≤ sizeLine := by rw [List.length_map, py.length_eq, sizeLine_eq]; omega
    have J2 : Inv X pins σ (upd H' (s.heap.objs.size + 1) (.lst (ys.map tx))) s' := by
      refine inv_track J (fpAt (I.fpOk (Nat.le_succ _) (I.hok.fresh (Nat.le_succ _))) na) ⟨hlen, out, c, vy, g⟩
    exact ⟨.ref _, _, J2, rfl, q ys H' _ py oy sm na⟩
end
end Rg

end
section
set_option Elab.async false
set_option linter.all false
set_option maxRecDepth 100000
set_option maxHeartbeats 4000000
namespace Rg
open PySem PySem.Spec PyProof.Rows L2
/-! sorted(texts, key=f) -/
def rSortK (X : Cx) : List V → List V → Hp → VK → Prop := fun vs zs H Q => ∃ (a f : Addr) (ls : List Lit), vs = [V.ref a] ∧ zs = [V.ref f] ∧ X.mg "size_and_letters" = some (.ref f) ∧ SqL X.K H a (ls.map tx) ∧ (∀ l ∈ ls, l.length ≤ 1000) ∧ ls.length ≤ 1000 ∧
  ∀ (ys : List Lit) (H' : Hp) (p : Addr), ys.Perm ls → ys.Pairwise (fun x y => keyB x y = true) → Same H H' → H' p = none → Q (.ref p) (upd H' p (.lst (ys.map tx)))
theorem keyFn_of {X : Cx} {f : Addr} {k : Nat} (c : C8.Cal X.prog X.w X.K X.mg X.base k "size_and_letters" spSize []) (hr : Room (k + 2) X.A) (hm : X.mg "size_and_letters" = some (.ref f)) (pins : List (Addr × Obj)) (H0 : Hp) : KeyFn X pins H0 (.ref f) := by
  intro more σ H s l t I _ hl
  obtain ⟨g, fd, ps, ds, F, hg, kp, b, d⟩ := c.ex
  obtain rfl : g = f := by
    rw [hm] at hg
    cases hg
    rfl
  cases d
  have hr2 : Room k X.A.in1.in1 := (show Room (k + 1) X.A.in1 from Room.in1 hr).in1
  have hl2 : ([Value.str (SX.S l) t] ++ ([] : List Value)).length = ps.length := (F.len [tx l] H (fun v H' => ∃ p, v = .ref p ∧ H p = none ∧ H' = upd H p (.tup [.int l.length, tx l])) C8.E0 ⟨l, rfl, hl, fun p hp => ⟨p, rfl, hp, rfl⟩⟩)
  refine wpAny_call (codeAny_mono (F.run X.A.in1.in1 X.stack s H ⟨[.str (SX.S l) t], []⟩ ([.str (SX.S l) t] ++ []) ([tx l] ++ []) (fun v H' => ∃ p, v = .ref p ∧ H p = none ∧ H' = upd H p (.tup [.int l.length, tx l])) C8.E0 hr2 I.env0.in1.in1 (b s [.str (SX.S l) t] I.kIn hl2) (.cons ⟨t, rfl⟩ .nil) ⟨l, rfl, hl, fun p hp => ⟨p, rfl, hp, rfl⟩⟩) fun r s' hq => ?_)
  cases r with
  | error e => exact hq
  | ok fl =>
    cases fl with
    | ret u => exact I.after hq
    | next => exact False.elim hq
    | brk => exact False.elim hq
    | cont => exact False.elim hq
theorem cr_sortK {X : Cx} {k : Nat} (c : C8.Cal X.prog X.w X.K X.mg X.base k "size_and_letters" spSize []) (hr : Room (k + 2) X.A) : CallRK X (.builtin "sorted") [Str.ofString "key"] (rSortK X) := by
  intro pins s σ H vs zs us ws Q I r rz h
  obtain ⟨a, f, ls, rfl, rfl, hm, hs, hl, hz, q⟩ := h
  obtain rfl := Vals.ref1 r
  obtain ⟨w1, rfl, e1⟩ := vals1 rz
  obtain rfl : w1 = .ref f := e1
  exact sortK_call I (keyFn_of c hr hm pins H) hs hl hz q
section
variable {P : Program} {w : World} {K : PySem.W.Frag} {mg : Str → Option Value} {base : Heap}
/-! sets_of -/
def spSetsOf : Sp := fun vs H Q _ => ∃ l : Lit, vs = [tx l] ∧ l.length ≤ 4 ∧ ∀ H' p, Same H H' → H' p = none → Q (.ref p) (upd H' p (.lst ((setsOf l).map tx)))
theorem sc_setsOf : FnScope ["lamps", "found", "lamp", "lit"] ["lamps"] (defScope (top 17)) := ⟨rfl, rfl, rfl, by decide +kernel, rfl, by decide +kernel, by decide +kernel⟩
theorem c_setsOf {f : Addr} {fd : FuncData} (D : Df K mg "sets_of" (top 17) f fd) (B : Bl mg) (c1 : C8.Cal P w K mg base 1 "size_and_letters" spSize []) (hf : ∃ f, mg "size_and_letters" = some (.ref f)) : C8.Cal P w K mg base 4 "sets_of" spSetsOf [] := by
  obtain ⟨fk, hfk⟩ := hf
  refine cal_of D (fun _ _ _ _ _ _ us hl => match us, hl with | [_], _ => rfl) sc_setsOf (fun vs H Q E h => ?_) (fun cdv A outer s H vs Q E hr h => ?_)
  · obtain ⟨l, rfl, _⟩ := h
    rfl
  · obtain ⟨l, rfl, l4, k⟩ := h
    refine ⟨_, pss_cons (ps_set (i := 1) sc_setsOf.nd rfl (Or.inl rfl) (pe_lst (pa_cons pe_str pa_nil)))
      (pss_cons (ps_for PassesOwn.never rfl (pi_str (pv 0)) (pg_name (i := 2) sc_setsOf.nd rfl (Or.inr rfl))
        (pss_one (ps_set (i := 1) sc_setsOf.nd rfl (Or.inl rfl) (pe_op op_cat (pv 1)
          (pe_lc (own := [("lit", 3)]) (g := gName 3) rfl sc_setsOf.nd (pi_list (pv 1)) (blkOk_by (own := [("lit", 3)]) (N := ["lamps", "found", "lamp", "lit"]) (sc := defScope (top 17)) (by decide +kernel)) (fun _ _ _ _ _ => pg_name (i := 3) sc_setsOf.nd rfl (Or.inl rfl)) (fun _ _ _ _ _ => pts_nil)
            (fun _ _ _ _ _ => pe_op op_add_str (pv 3) (pv 2)))))))
      (pss_one (ps_ret (pe_callBK (cr_sortK c1 (hr.mono (by decide))) (by rfl) B.sorted (by decide +kernel) (pa_cons (pv 1) pa_nil) (pk_cons (pe_glob (v := .ref fk) rfl hfk rfl) pk_nil))))), ?_⟩
    refine ⟨by show 1 ≤ sizeLine; decide, fun a ha => ?_⟩
    refine ⟨_, rfl, _, rfl, ?_⟩
    refine for_it walk_str (fun i σ H' => Same H H' ∧ ∃ a x, σ = [some (tx l), some (V.ref a), x, none] ∧ H' a = some (.lst ((pow (l.take i)).map tx))) ⟨Same.one ha, a, none, rfl, upd_same⟩ (fun _ _ _ _ _ => trivial) (fun i x σ H1 H2 hi p y => ?_) fun σ H1 p => ?_
    · obtain ⟨sm, a, x0, rfl, ha⟩ := p
      obtain ⟨rfl, c, hc, rfl⟩ := y
      rw [S_size] at hi
      have hc' : l[i]? = some c := S_at.mp hc
      have hpl : (pow (l.take i)).length ≤ 16 := by
        rw [pow_len _ _ rfl]
        have : (l.take i).length ≤ 4 := by rw [List.length_take]; omega
        exact Nat.le_trans (Nat.pow_le_pow_right (by decide) this) (by decide)
      have hts : l.take (i + 1) = l.take i ++ [c] := by
        obtain ⟨q, e⟩ := List.getElem?_eq_some_iff.mp hc'
        rw [List.take_succ_eq_append_getElem q, e]
      refine ⟨_, rfl, _, rfl, a, rfl, ⟨_, SqL.of ha⟩, fun D hD => ?_⟩
      refine lc_val same_ok walk_list (fun j => ((pow (l.take i)).take j).map fun y => tx (y ++ [c])) hD rfl (fun j hj => ?_) (fun H3 r => SqL.of (r _ _ ha)) (fun N j x H3 H4 hj r y keep skip => ?_) fun H3 r hDl => ?_
      · exact Nat.lt_of_le_of_lt (m_take_len _ _ _) (small' (by omega))
      · obtain ⟨rfl, hx⟩ := y
        rw [List.getElem?_map] at hx
        cases hy : (pow (l.take i))[j]? with
        | none => rw [hy] at hx; cases hx
        | some y =>
          rw [hy] at hx
          have hx : some (tx y) = some x := hx
          cases hx
          have hyl : y.length ≤ 4 := by
            have := (mem_pow.mp (List.mem_of_getElem? hy)).length_le
            rw [List.length_take] at this
            omega
          refine ⟨rfl, yes ?_⟩
          refine ⟨_, rfl, _, rfl, SX.S y, ⟨#[c]⟩, rfl, rfl, by rw [SX.S_len]; exact small (by show y.length + 1 ≤ _; omega), ?_⟩
          have e1 : SX.S y ++ (⟨#[c]⟩ : Str) = SX.S (y ++ [c]) := SX.S_cat y [c]
          rw [e1]
          exact keep _ _ (Same.refl _) (map_take_succ hy)
      · rw [List.length_map, List.take_length] at hDl
        refine ⟨a, D, (pow (l.take i)).map tx, (pow (l.take i)).map fun y => tx (y ++ [c]), rfl, rfl, r _ _ ha, hDl, small (by rw [List.length_map, List.length_map]; omega), fun a2 ha2 => ?_⟩
        refine ⟨(sm.trans r).trans (Same.one ha2), a2, _, rfl, ?_⟩
        rw [upd_same, hts, pow_snoc, List.map_append, List.map_map]
        rfl
    · obtain ⟨sm, a, x0, rfl, ha⟩ := p
      rw [S_size, List.take_length] at ha
      have hpl : (pow l).length ≤ 16 := by
        rw [pow_len _ _ rfl]
        exact Nat.le_trans (Nat.pow_le_pow_right (by decide) l4) (by decide)
      refine ⟨_, rfl, a, fk, pow l, rfl, rfl, hfk, SqL.of ha, fun y hy => ?_, by omega, fun ys H' p py oy sm2 hp => ?_⟩
      · have := (mem_pow.mp hy).length_le
        omega
      · rw [setsOf_unique py oy]
        exact k _ p (sm.trans sm2) hp
end
end Rg

end
section
set_option Elab.async false
set_option linter.all false
set_option maxRecDepth 100000
set_option maxHeartbeats 4000000
namespace Rg
open PySem PySem.Spec PyProof.Rows L2
/-- the pair p stands at v -/
def StepAt (H : Hp) (v : V) (p : Int × Int) : Prop := ∃ t, v = .ref t ∧ H t = some (.tup [.int p.1, .int p.2])
theorem StepAt.same {H H' : Hp} {v : V} {p : Int × Int} (e : Same H H') (h : StepAt H v p) : StepAt H' v p := by
  obtain ⟨t, r, h⟩ := h
  exact ⟨t, r, e _ _ h⟩
/-- a list of pairs at v -/
def RowAt (H : Hp) (v : V) (ps : List (Int × Int)) : Prop := ∃ a vs, v = .ref a ∧ H a = some (.lst vs) ∧ Paired (StepAt H) vs ps
theorem RowAt.same {H H' : Hp} {v : V} {p : List (Int × Int)} (e : Same H H') (h : RowAt H v p) : RowAt H' v p := by
  obtain ⟨a, vs, r, h, k⟩ := h
  exact ⟨a, vs, r, e _ _ h, L2.Paired.mapP k fun _ _ => StepAt.same e⟩
/-- a list of rows -/
def RowsAt (H : Hp) (v : V) (rs : List (List (Int × Int))) : Prop := ∃ a vs, v = .ref a ∧ H a = some (.lst vs) ∧ Paired (RowAt H) vs rs
theorem RowsAt.same {H H' : Hp} {v : V} {p : List (List (Int × Int))} (e : Same H H') (h : RowsAt H v p) : RowsAt H' v p := by
  obtain ⟨a, vs, r, h, k⟩ := h
  exact ⟨a, vs, r, e _ _ h, L2.Paired.mapP k fun _ _ => RowAt.same e⟩
theorem paired_at {α β : Type} {F : α → β → Prop} : ∀ {xs : List α} {ys : List β}, Paired F xs ys → ∀ {i : Nat} {y : β}, ys[i]? = some y → ∃ x, xs[i]? = some x ∧ F x y
  | _, _, .nil, i, y, h => by simp at h
  | _, _, .cons f r, i, y, h => by
    cases i with
    | zero =>
      have h : some _ = some y := h
      cases h
      exact ⟨_, rfl, f⟩
    | succ i => exact paired_at r (i := i) h
/-- the bounds of a pair -/
def StepOk (rooms : Int) (p : Int × Int) : Prop := 0 ≤ p.1 ∧ p.1 ≤ 99 ∧ 0 ≤ p.2 ∧ p.2 < rooms
section
variable {P : Program} {w : World} {K : PySem.W.Frag} {mg : Str → Option Value} {base : Heap}
/-! is_step -/
def spStep : Sp := fun vs H Q _ => ∃ (v : V) (rooms : Int) (p : Int × Int), vs = [v, .int rooms] ∧ StepAt H v p ∧ StepOk rooms p ∧ Q (.bl true) H
theorem sc_step : FnScope ["value", "rooms"] ["value", "rooms"] (defScope (top 30)) := ⟨rfl, rfl, rfl, by decide +kernel, rfl, by decide +kernel, by decide +kernel⟩
theorem c_step {f : Addr} {fd : FuncData} (D : Df K mg "is_step" (top 30) f fd) (B : Bl mg) (C : Cs mg) (c1 : C8.Cal P w K mg base 1 "is_integer" spInteger []) : C8.Cal P w K mg base 2 "is_step" spStep [] := by
  obtain ⟨t9, h9⟩ := C.number
  refine cal_of D (fun _ _ _ _ _ _ us hl => match us, hl with | [_, _], _ => rfl) sc_step (fun vs H Q E h => ?_) (fun cdv A outer s H vs Q E hr h => ?_)
  · obtain ⟨v, lo, hi, rfl, _⟩ := h
    rfl
  · obtain ⟨v, rooms, p, rfl, ⟨t, rfl, ht⟩, ok, k⟩ := h
    refine ⟨_, pss_cons (ps_if (pw_or (pt_not (pt_val (pe_callB call_isi (by rfl) B.isi (by decide +kernel) (pa_cons (pv 0) (pa_cons (pe_bltn (v := .ty "tuple") (by rfl) B.tuple (by decide +kernel) rfl) pa_nil)))))
        (pw_or1 (pt_cmpR op_ne (pe_callB call_len_seq (by rfl) B.len boot_len (pa_cons (pv 0) pa_nil)) pe_int (nomark _)))).pt pss_never pss_nil)
      (pss_one (ps_ret (pe_and (C8.pe_c c1 hr (by decide) rfl (pa_cons (pe_ix ix_tup (pv 0) pe_int (fun _ _ => rfl)) (pa_cons pe_int (pa_cons (pe_glob (v := .int 99) rfl h9 ⟨_, rfl⟩) pa_nil))))
        (pe_one (C8.pe_c c1 hr (by decide) rfl (pa_cons (pe_ix ix_tup (pv 0) pe_int (fun _ _ => rfl)) (pa_cons pe_int (pa_cons (pe_op op_sub (pv 1) pe_int) pa_nil)))))))), ?_⟩
    refine ⟨_, rfl, _, _, _, _, true, rfl, .ty "tuple", .base (.tup ht), kit_ty (by decide +kernel), true, rfl, iteF ?_⟩
    refine ⟨_, rfl, _, _, rfl, .inr (SqT.of ht), rfl, _, rfl, iteF ?_⟩
    refine ⟨_, rfl, _, _, _, _, rfl, rfl, SqT.of ht, atI_nat (j := 0) rfl, _, _, _, rfl, ?_⟩
    obtain ⟨o1, o2, o3, o4⟩ := ok
    have e1 : (decide (0 ≤ p.1) && decide (p.1 ≤ 99)) = true := by rw [decide_eq_true o1, decide_eq_true o2]; rfl
    refine ⟨_, congrArg V.bl e1, iteT ?_⟩
    refine ⟨_, rfl, _, _, _, _, rfl, rfl, SqT.of ht, atI_nat (j := 1) rfl, _, rfl, _, _, rfl, rfl, _, _, _, rfl, ?_⟩
    have e2 : (decide (0 ≤ p.2) && decide (p.2 ≤ rooms - 1)) = true := by rw [decide_eq_true o3, decide_eq_true (by omega : p.2 ≤ rooms - 1)]; rfl
    rw [e2]
    exact k
/-! are_steps -/
def spAreSteps : Sp := fun vs H Q _ => ∃ (v : V) (rooms : Int) (ps : List (Int × Int)), vs = [v, .int ps.length, .int rooms] ∧ RowAt H v ps ∧ (∀ p ∈ ps, StepOk rooms p) ∧ ps.length ≤ 1000 ∧ ∀ H', Same H H' → Q (.bl true) H'
theorem sc_areSteps : FnScope ["row", "sets", "rooms", "one"] ["row", "sets", "rooms"] (defScope (top 31)) := ⟨rfl, rfl, rfl, by decide +kernel, rfl, by decide +kernel, by decide +kernel⟩
theorem c_areSteps {f : Addr} {fd : FuncData} (D : Df K mg "are_steps" (top 31) f fd) (B : Bl mg) (c1 : C8.Cal P w K mg base 2 "is_step" spStep []) : C8.Cal P w K mg base 3 "are_steps" spAreSteps [] := by
  refine cal_of D (fun _ _ _ _ _ _ us hl => match us, hl with | [_, _, _], _ => rfl) sc_areSteps (fun vs H Q E h => ?_) (fun cdv A outer s H vs Q E hr h => ?_)
  · obtain ⟨v, lo, hi, rfl, _⟩ := h
    rfl
  · obtain ⟨v, rooms, ps, rfl, ⟨a, xs, rfl, ha, hp⟩, ok, hlen, k⟩ := h
    refine ⟨_, pss_one (ps_ret (pe_and (pe_callB call_isiT (by rfl) B.isi (by decide +kernel) (pa_cons (pv 0) (pa_cons (pe_tup (pa_cons (pe_bltn (v := .ty "list") (by rfl) B.list (by decide +kernel) rfl) (pa_cons (pe_bltn (v := .ty "tuple") (by rfl) B.tuple (by decide +kernel) rfl) pa_nil))) pa_nil)))
      (pe_and (pe_cmpR op_eq (pe_callB call_len_seq (by rfl) B.len boot_len (pa_cons (pv 0) pa_nil)) (pv 1) (nomark _))
        (pe_one (pe_callB (cr_all rfl) (by rfl) B.all (by decide +kernel) (pa_cons
          (pe_lc (own := [("one", 3)]) (g := gName 3) rfl sc_areSteps.nd (pi_list (pv 0)) (blkOk_by (own := [("one", 3)]) (N := ["row", "sets", "rooms", "one"]) (sc := defScope (top 31)) (by decide +kernel)) (fun _ _ _ _ _ => pg_name (i := 3) sc_areSteps.nd rfl (Or.inl rfl)) (fun _ _ _ _ _ => pts_nil)
            (fun _ _ _ _ _ => C8.pe_c c1 hr (by decide) rfl (pa_cons (pv 3) (pa_cons (pv 2) pa_nil)))) pa_nil)))))), ?_⟩
    have hxl : xs.length = ps.length := hp.length
    refine ⟨_, rfl, by show 2 ≤ sizeLine; decide, fun t ht => ?_⟩
    have sm : Same H (upd H t (.tup [.ty "list", .ty "tuple"])) := Same.one ht
    refine ⟨_, t, [.ty "list", .ty "tuple"], .type "list", [.type "list", .type "tuple"], true, rfl, upd_same, .cons (.ty _) (.cons (.ty _) .nil), .base (.lst (sm _ _ ha)), kitAny_cons (kit_ty (by decide +kernel : kitB "list" "list" = some true)) (fun z => nomatch z) (fun _ => rfl), true, rfl, iteT ?_⟩
    refine ⟨_, rfl, _, _, rfl, .inl (SqL.of (sm _ _ ha)), _, rfl, rfl, true, ?_, iteT ?_⟩
    · rw [hxl]
      exact congrArg V.bl (decide_eq_true rfl)
    · refine ⟨_, rfl, _, rfl, ⟨_, SqL.of (sm _ _ ha)⟩, fun D hD => ?_⟩
      refine lc_val same_ok walk_list (fun j => List.replicate j (V.bl true)) hD rfl (fun j hj => ?_) (fun H3 r => SqL.of ((sm.trans r) _ _ ha)) (fun N j x H3 H4 hj r y keep skip => ?_) fun H3 r hDl => ?_
      · rw [List.length_replicate]
        exact small' (by omega)
      · obtain ⟨rfl, hx⟩ := y
        refine ⟨rfl, yes ?_⟩
        obtain ⟨p, hpj, hst⟩ := paired_get hp hx
        refine ⟨_, rfl, _, rfl, _, rooms, p, rfl, hst.same (sm.trans r), ok p (List.mem_of_getElem? hpj), keep _ _ (Same.refl _) ?_⟩
        rw [List.replicate_succ']
      · refine ⟨_, List.replicate xs.length true, rfl, SqL.of (by rw [hDl, List.map_replicate]), ?_⟩
        have e2 : (List.replicate xs.length true).all id = true := by simp [List.all_replicate]
        rw [e2]
        exact k _ (sm.trans r)
end
end Rg

end
section
set_option Elab.async false
set_option linter.all false
set_option maxRecDepth 100000
set_option maxHeartbeats 4000000
namespace Rg
open PySem PySem.Spec PyProof.Rows L2
theorem abc_list : (Str.ofString "abcdefghijklmnopqrstuvwxyz").cps.toList = abc := by decide +kernel
/-! scopes of what is written within -/
def lcSc : Expr → Scope
  | .ListComp _ _ sc _ => sc
  | .SetComp _ _ sc _ => sc
  | .DictComp _ _ _ sc _ => sc
  | _ => ⟨.function, [], false, false, []⟩
/-- the scope of a comprehension within the scope p -/
def reSc (p c : Scope) : Scope := relabel c (envOfC "" p 0 0 .none)
def rArg : Stmt → Expr
  | .Return (some (.Call _ (e :: _) _ _)) _ => e
  | .Return (some e) _ => e
  | _ => .Constant .none 0 ⟨0, 0, 0, 0⟩
def bodyAt (st : Stmt) (i : Nat) : Stmt := (defBody st).getD i (.Pass ⟨0, 0, 0, 0⟩)
section
variable {P : Program} {w : World} {K : PySem.W.Frag} {mg : Str → Option Value} {base : Heap}
/-! _law_within -/
theorem sc_lwithin : FnScope ["_law_one", "_law_other", "_law_letter"] ["_law_one", "_law_other"] (defScope (top 49)) := ⟨rfl, rfl, rfl, by decide +kernel, rfl, by decide +kernel, by decide +kernel⟩
theorem c_lwithin {f : Addr} {fd : FuncData} (D : Df K mg "_law_within" (top 49) f fd) (B : Bl mg) : C8.Cal P w K mg base 1 "_law_within" spWithin [] := by
  refine cal_of D (fun _ _ _ _ _ _ us hl => match us, hl with | [_, _], _ => rfl) sc_lwithin (fun vs H Q E h => ?_) (fun cdv A outer s H vs Q E hr h => ?_)
  · obtain ⟨l, m, rfl, _⟩ := h
    rfl
  · obtain ⟨l, m, rfl, hlen, k⟩ := h
    refine ⟨_, pss_one (ps_ret (pe_callB (cr_all rfl) (by rfl) B.all (by decide +kernel) (pa_cons
          (pe_lc (own := [("_law_letter", 2)]) rfl sc_lwithin.nd (pi_str (pv 0)) (blkOk_by (own := [("_law_letter", 2)]) (N := ["_law_one", "_law_other", "_law_letter"]) (sc := defScope (top 49)) (by decide +kernel)) (fun _ _ _ _ _ => pg_name (i := 2) sc_lwithin.nd rfl (Or.inl rfl)) (fun _ _ _ _ _ => pts_nil)
            (fun _ _ _ _ _ => pe_cmpR op_in_sign (pv 2) (pv 1) rfl)) pa_nil))), ?_⟩
    refine ⟨_, rfl, _, rfl, fun D hD => ?_⟩
    refine lc_val same_ok walk_str (fun i => (l.take i).map fun c => V.bl (decide (c ∈ m))) hD rfl (fun i hi => ?_) (fun _ _ => trivial) (fun N i x H1 H2 hi r y keep skip => ?_) fun H1 r1 hDl => ?_
    · exact Nat.lt_of_le_of_lt (m_take_len _ _ _) (small' (by omega))
    · obtain ⟨rfl, c, hc, rfl⟩ := y
      refine ⟨rfl, yes ?_⟩
      exact ⟨_, rfl, _, rfl, c, _, rfl, rfl, keep _ _ (Same.refl _) (map_take_succ (S_at.mp hc))⟩
    · refine ⟨_, l.map fun c => decide (c ∈ m), rfl, SqL.of ?_, ?_⟩
      · rw [hDl, S_size, List.take_length, List.map_map]
        rfl
      · have e : ((l.map fun c => decide (c ∈ m)).all id) = within l m := by rw [List.all_map]; rfl
        rw [e]
        exact k _ r1
/-! _law_rising -/
theorem sc_lrising : FnScope ["_law_value", "_law_letter", "_law_one", "_law_other"] ["_law_value"] (defScope (top 51)) := ⟨rfl, rfl, rfl, by decide +kernel, rfl, by decide +kernel, by decide +kernel⟩
theorem c_lrising {f : Addr} {fd : FuncData} (D : Df K mg "_law_rising" (top 51) f fd) (B : Bl mg) : C8.Cal P w K mg base 1 "_law_rising" spRising [] := by
  refine cal_of D (fun _ _ _ _ _ _ us hl => match us, hl with | [_], _ => rfl) sc_lrising (fun vs H Q E h => ?_) (fun cdv A outer s H vs Q E hr h => ?_)
  · obtain ⟨l, rfl, _⟩ := h
    rfl
  · obtain ⟨l, rfl, ok, k⟩ := h
    refine ⟨_, pss_cons (ps_if (pt_not (pt_val (pe_callB (cr_all rfl) (by rfl) B.all (by decide +kernel) (pa_cons
        (pe_lc (own := [("_law_letter", 1)]) rfl sc_lrising.nd (pi_str (pv 0)) (blkOk_by (own := [("_law_letter", 1)]) (N := ["_law_value", "_law_letter", "_law_one", "_law_other"]) (sc := defScope (top 51)) (by decide +kernel)) (fun _ _ _ _ _ => pg_name (i := 1) sc_lrising.nd rfl (Or.inl rfl)) (fun _ _ _ _ _ => pts_nil)
          (fun _ _ _ _ _ => pe_cmpR op_in_sign (pv 1) pe_str rfl)) pa_nil)))) pss_never pss_nil)
      (pss_one (ps_ret (pe_callB (cr_all rfl) (by rfl) B.all (by decide +kernel) (pa_cons
        (pe_lc (own := [("_law_one", 2), ("_law_other", 3)]) (g := gTup K 2 (gCons (gName 2) (gCons (gName 3) gNil))) rfl sc_lrising.nd (pi_zipS (by rfl) B.zip (pa_cons (pv 0) (pa_cons (pe_slice C8.sl_txt (pv 0) (po_some pe_int) po_none) pa_nil))) (blkOk_by (own := [("_law_one", 2), ("_law_other", 3)]) (N := ["_law_value", "_law_letter", "_law_one", "_law_other"]) (sc := defScope (top 51)) (by decide +kernel))
          (fun _ _ _ _ _ => pg_tup rfl (pgs_cons (pg_name (i := 2) sc_lrising.nd rfl (Or.inl rfl) (Or.inr rfl)) (pgs_cons (pg_name (i := 3) sc_lrising.nd rfl (Or.inl rfl) (Or.inr rfl)) pgs_nil))) (fun _ _ _ _ _ => pts_nil)
          (fun _ _ _ _ _ => pe_cmpR op_lt_str (pv 2) (pv 3) (nomark _))) pa_nil)))), ?_⟩
    refine ⟨_, rfl, _, rfl, fun D hD => ?_⟩
    refine lc_val same_ok walk_str (fun i => List.replicate i (V.bl true)) hD rfl (fun i hi => ?_) (fun _ _ => trivial) (fun N i x H1 H2 hi r y keep skip => ?_) fun H1 r hDl => ?_
    · rw [S_size] at hi
      rw [List.length_replicate]
      exact small' (by have := ok.len; omega)
    · obtain ⟨rfl, c, hc, rfl⟩ := y
      refine ⟨rfl, yes ?_⟩
      refine ⟨_, rfl, c, _, rfl, rfl, keep _ _ (Same.refl _) ?_⟩
      have hm : c ∈ abc := ok.abc c (List.mem_of_getElem? (S_at.mp hc))
      rw [abc_list, decide_eq_true hm, List.replicate_succ']
    · refine ⟨_, List.replicate (SX.S l).cps.size true, rfl, SqL.of (by rw [hDl, List.map_replicate]), _, rfl, ?_⟩
      have e : (List.replicate (SX.S l).cps.size true).all id = true := by simp [List.all_replicate]
      rw [e]
      refine iteF ?_
      refine ⟨_, rfl, _, rfl, 1, rfl, SX.S l, rfl, (by rw [SX.S_len]; exact small (by have := ok.len; omega)), ?_⟩
      refine ⟨_, _, rfl, fun D2 hD2 => ?_⟩
      rw [SX.slice_from (by decide)]
      refine lc_val same_ok walk_zipS (fun i => List.replicate i (V.bl true)) hD2 rfl (fun i hi => ?_) (fun _ _ => trivial) (fun N i x H3 H4 hi r2 y keep skip => ?_) fun H3 r2 hDl2 => ?_
      · rw [S_size] at hi
        rw [List.length_replicate]
        exact small' (by have := ok.len; omega)
      · obtain ⟨T, c, d, rfl, hT, rfl, hc, hd⟩ := y
        refine ⟨T, _, rfl, SqT.of upd_same, rfl, _, _, rfl, _, _, rfl, rfl, rfl, yes ?_⟩
        refine ⟨_, rfl, _, rfl, _, _, rfl, rfl, keep _ _ (Same.one hT) ?_⟩
        have h1 := S_at.mp hc
        have h2 := S_at.mp hd
        have lt : c < d := by
          rw [List.getElem?_drop] at h2
          have := List.pairwise_iff_getElem.mp ok.ris
          obtain ⟨q1, e1⟩ := List.getElem?_eq_some_iff.mp h1
          obtain ⟨q2, e2⟩ := List.getElem?_eq_some_iff.mp h2
          rw [← e1, ← e2]
          exact this _ _ q1 q2 (by show i < (1 : Int).toNat + i; simp)
        have e3 : decide ((⟨#[c]⟩ : Str).cps.toList < (⟨#[d]⟩ : Str).cps.toList) = true := by
          refine decide_eq_true ?_
          show [c] < [d]
          exact List.Lex.rel lt
        rw [e3, List.replicate_succ']
      · refine ⟨_, List.replicate (min (SX.S l).cps.size (SX.S (l.drop (1 : Int).toNat)).cps.size) true, rfl, SqL.of (by rw [hDl2, List.map_replicate]), ?_⟩
        have e2 : (List.replicate (min (SX.S l).cps.size (SX.S (l.drop (1 : Int).toNat)).cps.size) true).all id = true := by simp [List.all_replicate]
        rw [e2]
        exact k _ (r.trans r2)

/-! _law_is_set -/
theorem sc_lset : FnScope ["_law_value", "_law_lamps"] ["_law_value", "_law_lamps"] (defScope (top 52)) := ⟨rfl, rfl, rfl, by decide +kernel, rfl, by decide +kernel, by decide +kernel⟩
theorem c_lset {f : Addr} {fd : FuncData} (D : Df K mg "_law_is_set" (top 52) f fd) (B : Bl mg) (c1 : C8.Cal P w K mg base 1 "_law_rising" spRising []) (c2 : C8.Cal P w K mg base 1 "_law_within" spWithin []) : C8.Cal P w K mg base 2 "_law_is_set" spSet [] := by
  refine cal_of D (fun _ _ _ _ _ _ us hl => match us, hl with | [_, _], _ => rfl) sc_lset (fun vs H Q E h => ?_) (fun cdv A outer s H vs Q E hr h => ?_)
  · obtain ⟨l, m, rfl, _⟩ := h
    rfl
  · obtain ⟨l, m, rfl, ok, sub, k⟩ := h
    refine ⟨_, pss_one (ps_ret (pe_and (pe_callB call_isi (by rfl) B.isi (by decide +kernel) (pa_cons (pv 0) (pa_cons (pe_bltn (v := .ty "str") (by rfl) B.str (by decide +kernel) rfl) pa_nil)))
      (pe_and (C8.pe_c c1 hr (by decide) rfl (pa_cons (pv 0) pa_nil))
        (pe_one (C8.pe_c c2 hr (by decide) rfl (pa_cons (pv 0) (pa_cons (pv 1) pa_nil))))))), ?_⟩
    refine ⟨_, rfl, _, _, _, _, true, rfl, .ty "str", .base (.str _), kit_ty (by decide +kernel), true, rfl, iteT ?_⟩
    refine ⟨_, rfl, l, rfl, ok, fun H' r => ⟨true, rfl, iteT ?_⟩⟩
    refine ⟨_, rfl, _, rfl, l, m, rfl, by have := ok.len; omega, fun H2 r2 => ?_⟩
    rw [within_iff.mpr sub]
    exact k _ (r.trans r2)
/-! _law_union -/
def spUnion : Sp := fun vs H Q _ => ∃ (a : Addr) (ls : List Lit), vs = [V.ref a] ∧ H a = some (.lst (ls.map tx)) ∧ ls.length ≤ 100000 ∧ ∀ H', Same H H' → Q (tx (un abc ls)) H'
def rSign : V → V → Hp → VK → Prop := fun x y H Q => ∃ (c : Nat) (z : Str), x = .str ⟨#[c]⟩ ∧ y = .str z ∧ Q (.bl (decide (c ∈ z.cps.toList))) H
theorem sc_lunion : FnScope ["_law_sets_here", "_law_letter", "_law_lit"] ["_law_sets_here"] (defScope (top 50)) := ⟨rfl, rfl, rfl, by decide +kernel, rfl, by decide +kernel, by decide +kernel⟩
theorem join_signs (l : Lit) : Txt.join "" (l.map fun c => (⟨#[c]⟩ : Str)) = SX.S l := by
  refine TL.ext_tl ?_
  show TL.tl (Txt.join "" (l.map fun c => (⟨#[c]⟩ : Str))) = l
  rw [TL.join_eq, TL.tl_join, List.map_map]
  induction l with
  | nil => rfl
  | cons c l ih =>
    cases l with
    | nil => rfl
    | cons d l =>
      show [c] ++ ([] ++ _) = c :: d :: l
      rw [List.nil_append, List.singleton_append]
      exact congrArg (c :: ·) ih
theorem c_lunion {f : Addr} {fd : FuncData} (D : Df K mg "_law_union" (top 50) f fd) (B : Bl mg) : C8.Cal P w K mg base 1 "_law_union" spUnion [] := by
  refine cal_of D (fun _ _ _ _ _ _ us hl => match us, hl with | [_], _ => rfl) sc_lunion (fun vs H Q E h => ?_) (fun cdv A outer s H vs Q E hr h => ?_)
  · obtain ⟨l, m, rfl, _⟩ := h
    rfl
  · obtain ⟨a, ls, rfl, ha, hlen, k⟩ := h
    refine ⟨_, pss_one (ps_ret (pe_join pe_str
      (pe_lc (own := [("_law_letter", 1)]) (g := gName 1) (tt := tB (tCB (rAny K) (tCons (tLc (iList K (tVar 0)) (gName 2) tYes (tOp rSign (tVar 1) (tVar 2)) [2]) tNil))) rfl sc_lunion.nd (pi_str pe_str) (blkOk_by (own := [("_law_letter", 1)]) (N := ["_law_sets_here", "_law_letter", "_law_lit"]) (sc := defScope (top 50)) (by decide +kernel)) (fun _ _ _ _ _ => pg_name (i := 1) sc_lunion.nd rfl (Or.inr rfl))
        (fun _ _ _ _ _ => pts_one (pt_val (pe_callB (cr_any rfl) (by rfl) B.any (by decide +kernel) (pa_cons
          (pe_lc (own := [("_law_lit", 2)]) (g := gName 2) rfl sc_lunion.nd (pi_list (pv 0)) (blkOk_by (own := [("_law_lit", 2)]) (N := ["_law_sets_here", "_law_letter", "_law_lit"]) (sc := reSc (defScope (top 50)) (lcSc (rArg (bodyAt (top 50) 0)))) (by decide +kernel)) (fun _ _ _ _ _ => pg_name (i := 2) sc_lunion.nd rfl (Or.inl rfl)) (fun _ _ _ _ _ => pts_nil)
            (fun _ _ _ _ _ => pe_cmpR op_in_sign (pv 1) (pv 2) rfl)) pa_nil))))
        (fun _ _ _ _ _ => pv 1)))), ?_⟩
    refine ⟨⟨_, rfl⟩, _, rfl, fun D hD => ?_⟩
    refine lc_val same_ok walk_str (fun i => ((abc.take i).filter fun c => ls.any fun d => decide (c ∈ d)).map fun c => V.str ⟨#[c]⟩) hD rfl (fun i hi => ?_) (fun _ _ => trivial) (fun N i x H1 H2 hi r y keep skip => ?_) fun H1 r1 hDl => ?_
    · exact Nat.lt_of_le_of_lt (fm_take_len _ _ _ _) (small' (by decide))
    · obtain ⟨rfl, c, hc, rfl⟩ := y
      have hc' : abc[i]? = some c := by
        rw [← abc_list, Array.getElem?_toList]
        exact hc
      refine ⟨rfl, ?_⟩
      refine ⟨_, rfl, a, rfl, ⟨_, SqL.of (r _ _ ha)⟩, fun D2 hD2 => ?_⟩
      refine lc_val same_ok walk_list (fun j => (ls.take j).map fun d => V.bl (decide (c ∈ d))) hD2 rfl (fun j hj => ?_) (fun H3 r3 => SqL.of ((r.trans r3) _ _ ha)) (fun N2 j x H3 H4 hj r3 y keep2 skip2 => ?_) fun H3 r3 hDl2 => ?_
      · rw [List.length_map] at hj
        exact Nat.lt_of_le_of_lt (m_take_len _ _ _) (small' (by omega))
      · obtain ⟨rfl, hx⟩ := y
        rw [List.getElem?_map] at hx
        cases hy : ls[j]? with
        | none => rw [hy] at hx; cases hx
        | some d =>
          rw [hy] at hx
          have hx : some (tx d) = some x := hx
          cases hx
          refine ⟨rfl, yes ?_⟩
          exact ⟨_, rfl, _, rfl, c, _, rfl, rfl, keep2 _ _ (Same.refl _) (map_take_succ hy)⟩
      · rw [List.length_map, List.take_length] at hDl2
        refine ⟨D2, ls.map fun d => decide (c ∈ d), rfl, SqL.of (by rw [hDl2, List.map_map]; rfl), ?_⟩
        have e : (ls.map fun d => decide (c ∈ d)).any id = ls.any fun d => decide (c ∈ d) := by rw [List.any_map]; rfl
        rw [e]
        refine ⟨_, rfl, ?_⟩
        refine ite2 (fun h => ?_) (fun h => ?_)
        · exact ⟨_, rfl, keep _ _ r3 (fm_take_yes hc' h)⟩
        · exact skip _ r3 (fm_take_no hc' (by simpa using h))
    · have en : (Str.ofString "abcdefghijklmnopqrstuvwxyz").cps.size = abc.length := by rw [← abc_list, Array.length_toList]
      rw [en, List.take_length] at hDl
      refine ⟨_, D, (un abc ls).map fun c => (⟨#[c]⟩ : Str), rfl, rfl, .inl (SqL.of (by rw [hDl, List.map_map]; rfl)), ?_, ?_⟩
      · have h1 : ((un abc ls).map fun c => (⟨#[c]⟩ : Str)).length ≤ 26 := by
          rw [List.length_map]
          exact (un_sub abc ls).length_le
        have h2 : ∀ l : List Nat, ((l.map fun c => (⟨#[c]⟩ : Str)).map (·.length)).sum = l.length := fun l => by
          rw [List.map_map]
          exact (sum_const _ 1 l fun _ _ => rfl).trans (Nat.mul_one _)
        rw [h2]
        have h3 : (un abc ls).length ≤ 26 := (un_sub abc ls).length_le
        have h4 : (Str.ofString "").length = 0 := rfl
        rw [h4]
        omega
      · rw [join_signs]
        exact k _ r1
end
end Rg

end
section
set_option Elab.async false
set_option linter.all false
set_option maxRecDepth 100000
set_option maxHeartbeats 4000000
/-! sets of ints and texts whose order of walk is known to be some order of the members -/
namespace Rg
open PySem PySem.Spec PyProof.Rows L2
def keyM (e : Int × Value) : Key := match e.2 with | .int k _ => .inl k | .str x _ => .inr x | _ => .inl 0
def GoodM (w : World) (e : Int × Value) : Prop := ∃ k, keyIs k e.2 = true ∧ e.1 = keyH w k
/-- the set of keys at a: S its members, n their number; its table rises and can be walked -/
def SetM (w : World) (h : Heap) (a : Addr) (S : Key → Bool) (n : Nat) : Prop :=
  ∃ o es ep t, h.get? a = some o ∧ o.ExactSet ∧ o.data = .set es ep t ∧ (∀ e ∈ es.toList, GoodM w e) ∧ (es.toList.map keyM).Nodup ∧ (∀ k, S k = true ↔ k ∈ es.toList.map keyM) ∧
    es.size < scanBound ∧ t.fits es.size = true ∧ es.size = n ∧ Ris t.place.toList ∧ (w.params.followText "set-order" = true ∨ t.led = true)

section
variable {P : Program} {w : World} {h h' : Heap} {a : Addr} {S : Key → Bool} {n : Nat}

theorem SetM.at (R : SetM w h a S n) (k : ∀ o, h.get? a = some o → h'.get? a = some o) : SetM w h' a S n := by
  obtain ⟨o, es, ep, t, ho, r⟩ := R
  exact ⟨o, es, ep, t, k o ho, r⟩
theorem SetM.lt (R : SetM w h a S n) : a < h.objs.size := by
  obtain ⟨o, es, ep, t, ho, r⟩ := R
  exact Heap.lt_size ho
theorem SetM.congr {S' : Key → Bool} (R : SetM w h a S n) (e : ∀ k, S' k = S k) : SetM w h a S' n := by
  have q : S' = S := funext e
  rw [q]; exact R
theorem goodM_elems {l : List (Int × Value)} (g : ∀ e ∈ l, GoodM w e) : ElemsOf (mixKind P w) l := fun e he => by
  obtain ⟨k, h1, h2⟩ := g e he
  refine ⟨⟨k, h1, h2⟩, ?_⟩
  rcases keyIs_shape h1 with ⟨i, t, _, e1⟩ | ⟨x, t, _, e1⟩ <;> rw [e1] <;> rfl
theorem keyM_of {e : Int × Value} {k : Key} (h : keyIs k e.2 = true) : keyM e = k := by
  unfold keyM
  rcases keyIs_shape h with ⟨i, t, rfl, e1⟩ | ⟨x, t, rfl, e1⟩ <;> rw [e1]
theorem goodM_is {e : Int × Value} (g : GoodM w e) (k : Key) : (mixKind P w).is k e.2 = true ↔ keyM e = k := by
  obtain ⟨k0, h1, _⟩ := g
  constructor
  · exact fun h => keyM_of h
  · intro h
    rw [← h, keyM_of h1]
    exact h1
theorem goodM_mem {l : List (Int × Value)} (g : ∀ e ∈ l, GoodM w e) (k : Key) : k ∈ l.map keyM ↔ ∃ e ∈ l, (mixKind P w).is k e.2 = true := by
  rw [List.mem_map]
  constructor
  · rintro ⟨e, he, q⟩
    exact ⟨e, he, (goodM_is (g e he) k).2 q⟩
  · rintro ⟨e, he, q⟩
    exact ⟨e, he, (goodM_is (g e he) k).1 q⟩
theorem SetM.setOf (R : SetM w h a S n) : h.SetOf (mixKind P w) a S n := by
  obtain ⟨o, es, ep, t, ho, hx, hd, g, nd, hm, hb, hf, hn, _⟩ := R
  exact ⟨o, es, ep, t, ho, hx, hd, goodM_elems g, fun k => (hm k).trans (goodM_mem g k), hb, hf, hn⟩
end

section
variable {P : Program} {w : World} {A : Around} {E : Value → Shared → Prop} {s : Shared} {a : Addr} {S : Key → Bool} {n : Nat}

/-! ### add -/
theorem storeM_at {h : Heap} {a : Addr} {o : Obj} {es es' : Array (Int × Value)} {ep : Nat} {t t' : SetTable} (ho : h.get? a = some o) (hd : o.data = .set es ep t) :
    (h.update a (Obj.putSet es' t')).get? a = some { o with data := .set es' (ep + 1) t' } := by
  have q := Heap.get?_update_self (Obj.putSet es' t') ho (by rw [putSet_of es' t' hd]; rfl)
  rw [putSet_of es' t' hd] at q
  exact q

theorem setM_add_tail {g : Bool → Sem Unit} (hg : ∀ (b : Bool) (s₁ : Shared) (Q' : Unit → Shared → Prop), Q' () s₁ → wpAny (model P w) A (g b) Q' E s₁)
    {o : Obj} {es : Array (Int × Value)} {ep : Nat} {t : SetTable} (ho : s.heap.get? a = some o) (hex : o.ExactSet) (hd : o.data = .set es ep t)
    {es1 : Array (Int × Value)} {t2 : SetTable} {S' : Key → Bool} (g1 : ∀ e ∈ es1.toList, GoodM w e) (nd1 : (es1.toList.map keyM).Nodup) (m1 : ∀ k, S' k = true ↔ k ∈ es1.toList.map keyM)
    (hb1 : es1.size < scanBound) (hf2 : t2.fits es1.size = true) (hr : Ris t2.place.toList) (hl : w.params.followText "set-order" = true ∨ t2.led = true) {wasDummy : Bool} {R : Option Bool → Shared → Prop}
    (hR : ∀ h', Heap.SameBut a s.heap h' → SetM w h' a S' es1.size → R (some true) { s with heap := h' }) :
    wpAny (model P w) A (do
        storeSet a es1 t2
        if (!wasDummy && t2.tooFull) = true then do
            g (relayAll t2 es1 (SetTable.grown es1.size)).2.2
            storeSet a (relayAll t2 es1 (SetTable.grown es1.size)).1 (relayAll t2 es1 (SetTable.grown es1.size)).2.1
            pure (some true)
          else pure (some true)) R E s := by
  refine wpAny_bind (wpAny_storeSet_of ho hd ?_ (fits_of_scanBound hb1))
  have ho1 := storeM_at (es' := es1) (t' := t2) ho hd
  have sb1 := Heap.SameBut.update s.heap a (Obj.putSet es1 t2)
  split
  · have pm := relayAll_perm t2 es1 (SetTable.grown es1.size)
    have hf3 := relayAll_fits t2 es1 (SetTable.grown es1.size)
    have hr3 := relayAll_ris t2 es1 (SetTable.grown es1.size)
    have hl3 := relayAll_led t2 es1 (SetTable.grown es1.size)
    generalize relayAll t2 es1 (SetTable.grown es1.size) = Z at pm hf3 hr3 hl3 ⊢
    obtain ⟨es2, t3, gave⟩ := Z
    dsimp only at pm hf3 hr3 hl3 ⊢
    have hsz : es2.size = es1.size := by rw [← Array.length_toList, pm.length_eq, Array.length_toList]
    have hb2 : es2.size < scanBound := by rw [hsz]; exact hb1
    refine wpAny_bind (hg _ _ _ ?_)
    refine wpAny_bind (wpAny_storeSet_of ho1 rfl ?_ (fits_of_scanBound hb2))
    have ho2 := storeM_at (es' := es2) (t' := t3) ho1 rfl
    refine wpAny_pure (hR _ (sb1.trans (Heap.SameBut.update _ a _)) ?_)
    exact ⟨_, es2, _, t3, ho2, hex, rfl, fun e he => g1 e (pm.mem_iff.mp he), (pm.map keyM).nodup_iff.mpr nd1, fun k => (m1 k).trans (pm.map keyM).mem_iff.symm, hb2, hf3, hsz, hr3,
      hl.imp id fun z => by rw [hl3]; exact z⟩
  · exact wpAny_pure (hR _ sb1 ⟨_, es1, _, t2, ho1, hex, rfl, g1, nd1, m1, hb1, hf2, rfl, hr, hl⟩)

theorem setM_add_hashed {k : Key} {v : Value} {Q : Bool → Shared → Prop} (hkey : keyIs k v = true) (R : SetM w s.heap a S n) (room : n + 1 < scanBound)
    (hQ : ∀ h', Heap.SameBut a s.heap h' → SetM w h' a (fun j => S j || decide (j = k)) (if S k = true then n else n + 1) → Q (!S k) { s with heap := h' }) :
    wpAny (model P w) A (setAddHashed a v ((mixKind P w).hash k)) Q E s := by
  obtain ⟨o, es, ep, t, ho, hex, hd, g, nd, hm, hb, hf, hn, hr, hl⟩ := R
  have hkey : (mixKind P w).is k v = true := hkey
  have hsc : v.scannable = true := by rcases keyIs_shape hkey with ⟨i, t, _, e1⟩ | ⟨x, t, _, e1⟩ <;> rw [e1] <;> rfl
  have hel : ElemsOf (mixKind P w) es.toList := goodM_elems g
  unfold setAddHashed setAddHashedIn
  refine wpAny_holding (wpAny_bind (wpAny_setState_of ho hd hf ?_))
  dsimp only
  rw [byScan_of hsc hb hel]
  simp only [↓reduceIte]
  unfold setAddByScan
  refine wpAny_bind ?_
  refine wpAny_bind (wpAny_rule ?_)
  refine wpAny_bind (wpAny_setScan_of hkey ho hd hf hel ?_)
  cases hfi : List.findIdx? (fun e => (mixKind P w).is k e.2) es.toList with
  | some j =>
    dsimp only
    obtain ⟨hj, pj, _⟩ := List.findIdx?_eq_some_iff_getElem.mp hfi
    have hSk : S k = true := (hm k).2 ((goodM_mem (P := P) (w := w) g k).2 ⟨es.toList[j], List.getElem_mem hj, pj⟩)
    refine wpAny_pure (wpAny_pure ?_)
    have q := hQ s.heap (Heap.SameBut.refl a s.heap) ⟨o, es, ep, t, ho, hex, hd, g, nd, fun i => by
      rw [Bool.or_eq_true, decide_eq_true_eq, ← hm i]
      exact ⟨fun z => z.elim id (fun e => e ▸ hSk), .inl⟩, hb, hf, by rw [if_pos hSk]; exact hn, hr, hl⟩
    rw [hSk] at q
    exact q
  | none =>
    dsimp only
    have hnk : k ∉ es.toList.map keyM := fun z => by
      obtain ⟨e, he, q⟩ := (goodM_mem (P := P) (w := w) g k).1 z
      have c := List.findIdx?_eq_none_iff.mp hfi e he
      rw [q] at c
      cases c
    have hSk : S k = false := by
      cases q : S k with
      | false => rfl
      | true => exact absurd ((hm k).1 q) hnk
    have hgw : ∀ (b : Bool) {s₁ : Shared} {Q' : Unit → Shared → Prop}, Q' () s₁ → wpAny (model P w) A (match b with | true => rule "set.scan.the-table-gave-way" | false => pure ()) Q' E s₁ :=
      fun b s₁ Q' q => by cases b <;> first | exact wpAny_pure q | exact wpAny_rule q
    have pm := layNew_perm t es ((mixKind P w).hash k) v
    have hf1 := layNew_fits t es ((mixKind P w).hash k) v
    have hr1 := layNew_ris t es ((mixKind P w).hash k) v hr
    have hl1 := layNew_led t es ((mixKind P w).hash k) v
    generalize layNew t es ((mixKind P w).hash k) v = Z at pm hf1 hr1 hl1 ⊢
    obtain ⟨es1, t1, wasDummy, gave⟩ := Z
    dsimp only at pm hf1 hr1 hl1 ⊢
    rw [Array.toList_push] at pm
    have pc : es1.toList.Perm (((mixKind P w).hash k, v) :: es.toList) := pm.trans (List.perm_append_singleton _ _)
    have pk : (es1.toList.map keyM).Perm (k :: es.toList.map keyM) := by
      have q := pc.map keyM
      rw [List.map_cons, keyM_of (e := ((mixKind P w).hash k, v)) hkey] at q
      exact q
    have g1 : ∀ e ∈ es1.toList, GoodM w e := fun e he => by
      rcases List.mem_cons.mp (pc.mem_iff.mp he) with z | z
      · rw [z]; exact ⟨k, hkey, rfl⟩
      · exact g e z
    have nd1 : (es1.toList.map keyM).Nodup := pk.nodup_iff.mpr (List.nodup_cons.mpr ⟨hnk, nd⟩)
    have m1 : ∀ i, (S i || decide (i = k)) = true ↔ i ∈ es1.toList.map keyM := fun i => by
      rw [Bool.or_eq_true, decide_eq_true_eq, hm i, pk.mem_iff, List.mem_cons]
      exact Or.comm
    have hsz : es1.size = n + 1 := by rw [← Array.length_toList, pc.length_eq, List.length_cons, Array.length_toList, hn]
    have hb1 : es1.size < scanBound := by rw [hsz]; exact room
    have hled : w.params.followText "set-order" = true ∨ t1.led = true := hl.imp id fun z => by rw [hl1]; exact z
    have fin : ∀ h', Heap.SameBut a s.heap h' → SetM w h' a (fun j => S j || decide (j = k)) es1.size → Q true { s with heap := h' } := fun h' sb r => by
      have q := hQ h' sb
      rw [hSk] at q
      rw [hsz] at r
      exact q r
    refine wpAny_bind (hgw _ ?_)
    split
    · refine wpAny_bind ?_
      rw [hashByValue_scannable 8 hsc]
      refine wpAny_pure ?_
      refine setM_add_tail ?_ ho hex hd g1 nd1 m1 hb1 ?_ ?_ ?_ ?_
      · intro b s₁ Q' q; cases b <;> first | exact wpAny_pure q | exact wpAny_rule q
      · first | (split <;> first | exact hf1 | exact SetTable.fits_plain_off hf1) | exact hf1
      · first | (split <;> exact hr1) | exact hr1
      · first | (split <;> exact hled) | exact hled
      · intro h' sb r; dsimp only; exact wpAny_pure (fin h' sb r)
    · refine wpAny_bind (wpAny_pure ?_)
      simp only [↓reduceIte]
      refine setM_add_tail ?_ ho hex hd g1 nd1 m1 hb1 hf1 hr1 hled ?_
      · intro b s₁ Q' q; cases b <;> first | exact wpAny_pure q | exact wpAny_rule q
      · intro h' sb r; dsimp only; exact wpAny_pure (fin h' sb r)

/-- found.add(k) -/
theorem setM_add {k : Key} {v : Value} {Q : Value → Shared → Prop} (hkey : keyIs k v = true) (R : SetM w s.heap a S n) (room : n + 1 < scanBound)
    (hQ : ∀ h', Heap.SameBut a s.heap h' → SetM w h' a (fun j => S j || decide (j = k)) (if S k = true then n else n + 1) → Q .none { s with heap := h', toks := s.toks + 1 }) :
    wpAny (model P w) A (call (.builtin "set.add") [.ref a, v]) Q E s := by
  have hS : s.heap.SetOf (mixKind P w) a S n := R.setOf
  refine wpAny_call_entry F.slot_set_add hS.typeIs F.entry_set_add ?_ (F.args_set_add_2 _ _)
  unfold Builtin.«set.add» Builtin.Frozenset.oneOther
  simp only [List.isEmpty_nil, bind_assoc]
  unfold Builtin.Frozenset.addrOf setAdd
  refine wpAny_bind (wpAny_pure ?_)
  try dsimp only
  refine wpAny_bind (wpAny_pure ?_)
  try dsimp only
  refine wpAny_bind ?_
  refine wpAny_holding ?_
  refine wpAny_bind ((mixKind P w).pyHash (k := k) hkey ?_)
  refine setM_add_hashed (s := { s with toks := s.toks + 1 }) hkey R room fun h' sb r => ?_
  show wpAny _ _ (ret Value.none) _ _ _
  exact wpAny_pure ⟨_, rfl, hQ h' sb r⟩

end
section
variable {P : Program} {w : World} {A : Around} {E : Value → Shared → Prop} {s : Shared}
/-! ### a new set -/
theorem setM_fresh {h : Heap} (w : World) : SetM w (h.push { cls := .type "set", dict := none, data := .set #[] 0 (.fresh 0 0 (!w.params.followText "set-order")) }) h.objs.size (fun _ => false) 0 :=
  ⟨_, #[], 0, _, Heap.get?_push_size _ rfl, ⟨rfl, rfl, rfl⟩, rfl, (fun e he => by simp at he), (by simp), (fun k => by simp), (by decide), (by rfl), rfl, List.Pairwise.nil, by
    show _ ∨ (!w.params.followText "set-order") = true
    cases w.params.followText "set-order"
    · exact .inr rfl
    · exact .inl rfl⟩

end
/-! as tracked things -/
def SetMO (w : World) (a : Addr) (S : Key → Bool) (n : Nat) : HO := .ext fun h => SetM w h a S n
theorem setMO_new {w : World} {P : Program} {H : Hp} {h : Heap} {a : Addr} {S : Key → Bool} {n : Nat} (R : SetM w h a S n) : ObjOk P w H h a (SetMO w a S n) := by
  have ⟨o, _, _, _, ho, _⟩ := R
  exact ⟨R, ⟨o, ho⟩, fun h1 h2 p k => SetM.at p k⟩
section
variable {X : Cx}
theorem setMO_get {pins : List (Addr × Obj)} {σ : L2.St} {H : Hp} {s : Shared} {a : Addr} {S : Key → Bool} {n : Nat} (I : Inv X pins σ H s) (ha : H a = some (SetMO X.w a S n)) : SetM X.w s.heap a S n := (I.hok a _ ha).1
theorem addM_ok {pins : List (Addr × Obj)} {σ : L2.St} {H : Hp} {s : Shared} {E : Value → Shared → Prop} {D : Addr} {S : Key → Bool} {n : Nat} {k : Key} {v : Value} {Q : Value → Shared → Prop} (I : Inv X pins σ H s) (hD : H D = some (SetMO X.w D S n)) (hk : keyIs k v = true) (room : n + 1 < scanBound)
    (h : ∀ s', Inv X pins σ (upd H D (SetMO X.w D (fun j => S j || decide (j = k)) (if S k = true then n else n + 1))) s' → Q .none s') : wpAny (model X.prog X.w) X.A (call (.builtin "set.add") [.ref D, v]) Q E s := by
  have R := setMO_get I hD
  refine setM_add hk R room fun h' sb new => ?_
  have he : ∃ u, h'.get? D = some u := by
    have ⟨o, _, _, _, ho, _⟩ := new
    exact ⟨o, ho⟩
  exact h _ (I.write (e := D) (t' := s.toks + 1) (by rw [hD]; trivial) (.inl rfl) (fun b u hb hu => (sb.2 b hb).trans hu) he (setMO_new new))
end
end Rg

end
section
set_option Elab.async false
set_option linter.all false
set_option maxRecDepth 100000
set_option maxHeartbeats 4000000
/-! a set comprehension with two clauses -/
namespace Rg
open PySem PySem.Spec PyProof.Rows L2
theorem sTurn2_out (elt t0 i0 t1 i1 : Expr) (ifs0 ifs1 : List Expr) (scope : Scope) (pos : Pos) (it acc : Value) (env : Env) :
    compTurn (.SetComp elt [⟨t0, i0, ifs0, 0⟩, ⟨t1, i1, ifs1, 0⟩] scope pos) 0 it acc env = (do
      standAt i0.pos
      match ← pyNext it with
      | none => pure (.done .next)
      | some v =>
        letOwnedTupleGo t0 it v
        assign t0 env v
        let mut ok := true
        for c in ifs0 do
          if ok then ok ← isTrue c env (eval c env)
        if ok then
          let x ← eval i1 env
          standAt i1.pos
          let x ← foldedSetIterable i1 env x
          let _ ← runOwn (.compStart (.SetComp elt [⟨t0, i0, ifs0, 0⟩, ⟨t1, i1, ifs1, 0⟩] scope pos) 1 (← holding [x] (pyIter x)) acc env) env
        again (.compLoop (.SetComp elt [⟨t0, i0, ifs0, 0⟩, ⟨t1, i1, ifs1, 0⟩] scope pos) 0 it acc env)) := by rfl
theorem sTurn2_in (elt t0 i0 t1 i1 : Expr) (ifs0 ifs1 : List Expr) (scope : Scope) (pos : Pos) (it acc : Value) (env : Env) :
    compTurn (.SetComp elt [⟨t0, i0, ifs0, 0⟩, ⟨t1, i1, ifs1, 0⟩] scope pos) 1 it acc env = (do
      standAt i1.pos
      match ← pyNext it with
      | none => pure (.done .next)
      | some v =>
        letOwnedTupleGo t1 it v
        assign t1 env v
        let mut ok := true
        for c in ifs1 do
          if ok then ok ← isTrue c env (eval c env)
        if ok then
          (do let v ← eval elt env; standAt elt.pos; let _ ← call (.builtin "set.add") [acc, v])
        again (.compLoop (.SetComp elt [⟨t0, i0, ifs0, 0⟩, ⟨t1, i1, ifs1, 0⟩] scope pos) 1 it acc env)) := by rfl

section
variable {prog : Program} {w : World} {A : Around} {R : Result → Shared → Prop} {s : Shared} {elt t0 i0 t1 i1 : Expr} {ifs0 ifs1 : List Expr} {scope : Scope} {pos : Pos} {it acc : Value} {env : Env}
/-- the loop of the first clause -/
theorem sLoop2_out (hs : ∀ x, foldedSetIterable i1 env x = pure x) (I : Nat → Shared → Prop)
    (turn : ∀ n s, I n s → wpAny (model prog w) A (pyNext it) (fun r s₁ => match r with
      | none => R (.ok .next) s₁
      | some v => wpAny (model prog w) A (letOwnedTupleGo t0 it v) (fun _ s₁' => wpAny (model prog w) A (assign t0 env v) (fun _ s₂ =>
          wpAny (model prog w) A (forIn ifs0 true fun c r => if r = true then do let ok ← isTrue c env (eval c env); pure (ForInStep.yield ok) else pure (ForInStep.yield r)) (fun ok s₃ =>
            if ok = true then wpAny (model prog w) A (eval i1 env) (fun x s₄ => wpAny (model prog w) A (pyIter x) (fun it1 s₅ =>
              codeAny (model prog w) A (.compStart (.SetComp elt [⟨t0, i0, ifs0, 0⟩, ⟨t1, i1, ifs1, 0⟩] scope pos) 1 it1 acc env) (fun r s' => match r with
                | .ok _ => ∃ m, m < n ∧ I m s'
                | .error _ => False) s₅) (notedBy (model prog w) A env fun e s' => R (.error e) s') s₄) (notedBy (model prog w) A env fun e s' => R (.error e) s') s₃
            else ∃ m, m < n ∧ I m s₃) (notedBy (model prog w) A env fun e s' => R (.error e) s') s₂) (notedBy (model prog w) A env fun e s' => R (.error e) s') s₁') (notedBy (model prog w) A env fun e s' => R (.error e) s') s₁) (notedBy (model prog w) A env fun e s' => R (.error e) s') s)
    (n : Nat) (h : I n s) :
    codeAny (model prog w) A (.compLoop (.SetComp elt [⟨t0, i0, ifs0, 0⟩, ⟨t1, i1, ifs1, 0⟩] scope pos) 0 it acc env) R s := by
  refine codeAny_loop rfl I (fun n s hI => ?_) n h
  show wpAny _ A ((compTurn (.SetComp elt [⟨t0, i0, ifs0, 0⟩, ⟨t1, i1, ifs1, 0⟩] scope pos) 0 it acc env).onRaise (fun x => do noteFrame x env; theTreesLotGoes x)) _ _ s
  refine wpAny_noted ?_
  rw [sTurn2_out]
  refine wpAny_bind (wpAny_standAt (wpAny_bind (wpAny_mono (turn n s hI) (fun r s₁ h₁ => ?_) fun _ _ h' => h')))
  cases r with
  | none => exact wpAny_pure h₁
  | some v =>
    refine wpAny_bind (wpAny_mono h₁ (fun _ s₁' h₁' => ?_) fun _ _ h' => h')
    refine wpAny_bind (wpAny_mono h₁' (fun _ s₂ h₂ => wpAny_bind (wpAny_mono h₂ (fun ok s₃ h₃ => ?_) fun _ _ h' => h')) fun _ _ h' => h')
    cases ok with
    | false => exact wpAny_pure ⟨rfl, h₃⟩
    | true =>
      refine wpAny_bind (wpAny_mono h₃ (fun x s₄ h₄ => ?_) fun _ _ h' => h')
      refine wpAny_bind (wpAny_standAt (wpAny_bind (wpAny_of_eq (hs x) (wpAny_bind (wpAny_holding (wpAny_mono h₄ (fun it1 s₅ h₅ => ?_) fun _ _ h' => h'))))))
      refine wpAny_bind (wpAny_runOwn ?_)
      rw [Around.mark_none]
      refine codeAny_mono h₅ fun r s' hr => ?_
      cases r with
      | ok f =>
        first
          | exact wpAny_pure ⟨rfl, hr⟩
          | exact wpAny_bind (wpAny_pure (wpAny_pure ⟨rfl, hr⟩))
      | error e => exact hr.elim
/-- the loop of the second -/
theorem sLoop2_in (I : Nat → Shared → Prop)
    (turn : ∀ n s, I n s → wpAny (model prog w) A (pyNext it) (fun r s₁ => match r with
      | none => R (.ok .next) s₁
      | some v => wpAny (model prog w) A (letOwnedTupleGo t1 it v) (fun _ s₁' => wpAny (model prog w) A (assign t1 env v) (fun _ s₂ =>
          wpAny (model prog w) A (forIn ifs1 true fun c r => if r = true then do let ok ← isTrue c env (eval c env); pure (ForInStep.yield ok) else pure (ForInStep.yield r)) (fun ok s₃ =>
            if ok = true then wpAny (model prog w) A (eval elt env) (fun x s₄ =>
              wpAny (model prog w) A (call (.builtin "set.add") [acc, x]) (fun _ s₅ => ∃ m, m < n ∧ I m s₅) (notedBy (model prog w) A env fun e s' => R (.error e) s') s₄) (notedBy (model prog w) A env fun e s' => R (.error e) s') s₃
            else ∃ m, m < n ∧ I m s₃) (notedBy (model prog w) A env fun e s' => R (.error e) s') s₂) (notedBy (model prog w) A env fun e s' => R (.error e) s') s₁') (notedBy (model prog w) A env fun e s' => R (.error e) s') s₁) (notedBy (model prog w) A env fun e s' => R (.error e) s') s)
    (n : Nat) (h : I n s) :
    codeAny (model prog w) A (.compLoop (.SetComp elt [⟨t0, i0, ifs0, 0⟩, ⟨t1, i1, ifs1, 0⟩] scope pos) 1 it acc env) R s := by
  refine codeAny_loop rfl I (fun n s hI => ?_) n h
  show wpAny _ A ((compTurn (.SetComp elt [⟨t0, i0, ifs0, 0⟩, ⟨t1, i1, ifs1, 0⟩] scope pos) 1 it acc env).onRaise (fun x => do noteFrame x env; theTreesLotGoes x)) _ _ s
  refine wpAny_noted ?_
  rw [sTurn2_in]
  refine wpAny_bind (wpAny_standAt (wpAny_bind (wpAny_mono (turn n s hI) (fun r s₁ h₁ => ?_) fun _ _ h' => h')))
  cases r with
  | none => exact wpAny_pure h₁
  | some v =>
    refine wpAny_bind (wpAny_mono h₁ (fun _ s₁' h₁' => ?_) fun _ _ h' => h')
    refine wpAny_bind (wpAny_mono h₁' (fun _ s₂ h₂ => wpAny_bind (wpAny_mono h₂ (fun ok s₃ h₃ => ?_) fun _ _ h' => h')) fun _ _ h' => h')
    cases ok with
    | false => exact wpAny_pure ⟨rfl, h₃⟩
    | true =>
      exact wpAny_bind (wpAny_bind (wpAny_mono h₃ (fun x s₄ h₄ => wpAny_bind (wpAny_standAt (wpAny_bind (wpAny_mono h₄ (fun _ s₅ h₅ => wpAny_pure (wpAny_pure ⟨rfl, h₅⟩)) fun _ _ h' => h')))) fun _ _ h' => h'))
/-- the second clause's start -/
theorem sStart1_ok (h0 : codeAny (model prog w) A (.compLoop (.SetComp elt [⟨t0, i0, ifs0, 0⟩, ⟨t1, i1, ifs1, 0⟩] scope pos) 1 it acc env) R s)
    (h : wpAny (model prog w) A (pyIter it) (fun it' s' => codeAny (model prog w) A (.compLoop (.SetComp elt [⟨t0, i0, ifs0, 0⟩, ⟨t1, i1, ifs1, 0⟩] scope pos) 1 it' acc env) R s')
      (notedBy (model prog w) A env fun x s' => R (.error x) s') s) :
    codeAny (model prog w) A (.compStart (.SetComp elt [⟨t0, i0, ifs0, 0⟩, ⟨t1, i1, ifs1, 0⟩] scope pos) 1 it acc env) R s := by
  refine codeAny_of_tree ?_
  show wpAny _ _ ((compStart (.SetComp elt [⟨t0, i0, ifs0, 0⟩, ⟨t1, i1, ifs1, 0⟩] scope pos) 1 it acc env).onRaise (fun x => do noteFrame x env; standAt theWindowsPlace)) _ _ s
  refine wpAny_notedAt ?_
  unfold compStart
  show wpAny _ _ (ask >>= _) _ _ s
  refine wpAny_bind (wpAny_askSetting (wpAny_ite ?_))
  split
  · first
      | exact wpAny_bind (wpAny_pure (wpAny_pure (And.intro rfl h0)))
      | exact wpAny_pure (And.intro rfl h0)
  · first
      | exact wpAny_bind (wpAny_rule (wpAny_bind (wpAny_standAt (wpAny_bind (wpAny_mono h (fun it' s' h' => wpAny_pure (And.intro rfl h')) fun _ _ x => x)))))
      | (refine wpAny_bind (wpAny_rule ?_); show wpAny _ _ (standAt i1.pos >>= _) _ _ s; exact wpAny_bind (wpAny_standAt (wpAny_bind (wpAny_mono h (fun it' s' h' => wpAny_pure (And.intro rfl h')) fun _ _ x => x))))
end

section
variable {X : Cx}
/-- [elt for tg in iter if .. for tg1 in iter1 if ..]: behind the first clause's store and tests the second source's own loop, from which Nx is reached. vs: the block's names; vs1: those of the second target -/
def tSc2 (w : World) (wi : TI) (g : TG) (tt : TT) (wi1 : TI) (g1 : TG) (tt1 : TT) (te : TE) (vs vs1 : List Nat) : TE := fun σ H Q => wi σ H fun J H1 => ∀ D, H1 D = none → ∃ W : Nat → Nat → Hp → Prop, (∃ m, W 0 m (upd H1 D (SetMO w D (fun _ => false) 0))) ∧ ∀ i m H, W i m H →
  (J.stop i H ∧ Q (.ref D) H) ∨ (J.go i H ∧ ∃ Nx : Hp → Prop, (∀ H', Nx H' → ∃ m', m' < m ∧ W (i + 1) m' H') ∧ ∀ x H', J.yld i H x H' → g x (wipe σ vs) H' fun σ2 H2 => wipe σ2 vs = wipe σ vs ∧ tt σ2 H2 fun b H3 =>
    if b = true then wi1 σ2 H3 fun J1 H4 => ∃ W1 : Nat → Nat → Hp → Prop, (∃ m, W1 0 m H4) ∧ ∀ j k H, W1 j k H →
      (J1.stop j H ∧ Nx H) ∨ (J1.go j H ∧ ∃ Nx1 : Hp → Prop, (∀ H', Nx1 H' → ∃ k', k' < k ∧ W1 (j + 1) k' H') ∧ ∀ x H', J1.yld j H x H' → g1 x (wipe σ2 vs1) H' fun σ3 H5 => wipe σ3 vs1 = wipe σ2 vs1 ∧ tt1 σ3 H5 fun b H6 =>
        if b = true then te σ3 H6 fun y H7 => ∃ (k : Key) (S : Key → Bool) (n : Nat), y = kV k ∧ H7 D = some (SetMO w D S n) ∧ n + 1 < scanBound ∧ Nx1 (upd H7 D (SetMO w D (fun j => S j || decide (j = k)) (if S k = true then n else n + 1))) else Nx1 H6)
    else Nx H3)
theorem sc2_core {pins : List (Addr × Obj)} {s : Shared} {σ : L2.St} {H : Hp} {Q : VK} {elt tg iter tg1 iter1 : Expr} {ifs ifs1 : List Expr} {scope : Scope} {own : List (Str × Nat)} {vs1 : List Nat} {pos pos' : Pos} {wi wi1 : TI} {g g1 : TG} {tt tt1 : TT} {te : TE} {use : Option (Value → Sem Unit)} {Qf : Value → Shared → Prop}
    (hc : X.calm = true) (hN : X.N.Nodup) (I : Inv X pins σ H s) (hi : PI X tg iter wi) (ok : BlkOk X.N X.env.scope scope own) (hv : ∀ i ∈ vs1, i ∈ own.map (·.2))
    (hg : ∀ (s : Shared) (H : Hp) (C : Addr) (cl : List (Str × Addr)) (fp : List Addr), PG (X.blk s H scope (compEnvC scope cl C X.env) fp) tg g) (ht : ∀ (s : Shared) (H : Hp) (C : Addr) (cl : List (Str × Addr)) (fp : List Addr), PTs (X.blk s H scope (compEnvC scope cl C X.env) fp) ifs tt)
    (he : ∀ (s : Shared) (H : Hp) (C : Addr) (cl : List (Str × Addr)) (fp : List Addr), PE (X.blk s H scope (compEnvC scope cl C X.env) fp) elt te) (hs : ∀ x, foldedSetIterable iter X.env x = pure x)
    (hi1 : ∀ (s : Shared) (H : Hp) (C : Addr) (cl : List (Str × Addr)) (fp : List Addr), PI (X.blk s H scope (compEnvC scope cl C X.env) fp) tg1 iter1 wi1)
    (hg1 : ∀ (s : Shared) (H : Hp) (C : Addr) (cl : List (Str × Addr)) (fp : List Addr), PG (X.blk s H scope (compEnvC scope cl C X.env) fp) tg1 g1)
    (ht1 : ∀ (s : Shared) (H : Hp) (C : Addr) (cl : List (Str × Addr)) (fp : List Addr), PTs (X.blk s H scope (compEnvC scope cl C X.env) fp) ifs1 tt1)
    (hs1 : ∀ env x, foldedSetIterable iter1 env x = pure x)
    (h : tSc2 X.w wi g tt wi1 g1 tt1 te (own.map (·.2)) vs1 σ H Q)
    (hRR : ∀ D C s' m H', Inv X pins σ H' s' → Q (.ref D) H' → s'.heap.Ns C m → FpOk X pins H' C → compPost (model X.prog X.w) X.A X.xe use Qf (.ref D) C (.ok .next) s') :
    wpAny (model X.prog X.w) X.A (comprehension (.SetComp elt [⟨tg, iter, ifs, 0⟩, ⟨tg1, iter1, ifs1, 0⟩] scope pos) scope X.env pos' (newSet (.type "set")) false (eval iter X.env) use) Qf X.xe s := by
  have hfree : ∀ y ∈ scope.names, y.2 = .free → ∃ c, X.env.cells.lookup y.1 = some c := fun y hy e => by
    rcases ok.free y hy e with k | k
    · exact I.ok.has _ (.inl k)
    · exact I.ok.has _ (.inr k)
  refine wpAny_comprehension_free (use := use) rfl hs (closure_ok hfree) ok.kind (fun y hy e => by rw [ok.uniq y hy, e])
    (thn (hi.run pins s σ H _ I h) fun xv s1 hx => thn hx fun itv s2 h2 => ?_)
  obtain ⟨it, fp, tn, J, H2, e, I2, T, st2, f2, q⟩ := h2
  subst e
  refine PpSet.newSet_ok (newEnv_comp ?_)
  generalize hD : s2.heap.objs.size = D
  have hDn : H2 D = none := I2.hok.fresh (Nat.le_of_eq hD)
  obtain ⟨W, ⟨m0, w0⟩, turn⟩ := q D hDn
  -- the new list
  generalize hs3 : ({ s2 with heap := s2.heap.push { cls := .type "set", dict := none, data := .set #[] 0 (.fresh 0 0 (!X.w.params.followText "set-order")) } } : Shared) = s3
  have I3 : Inv X pins σ (upd H2 D (SetMO X.w D (fun _ => false) 0)) s3 := by
    rw [← hs3]
    refine I2.laid (t' := s2.toks) (fun b o e => Heap.get?_push_of_some _ e) (Nat.le_of_eq hD) ?_
    rw [← hD]
    exact setMO_new (setM_fresh X.w)
  have h3 : s3.heap = s2.heap.push { cls := .type "set", dict := none, data := .set #[] 0 (.fresh 0 0 (!X.w.params.followText "set-order")) } := by rw [← hs3]
  have sz : ∀ b ∈ fp, b < s2.heap.objs.size := fun b hb => by
    obtain ⟨o, e, _⟩ := T.obj _ _ st2 b hb
    exact Heap.lt_size e
  have f3 : ∀ b ∈ fp, FpOk X pins (upd H2 D (SetMO X.w D (fun _ => false) 0)) b ∧ b < s3.heap.objs.size := fun b hb => by
    have hlt := sz b hb
    refine ⟨⟨?_, (f2 b hb).2⟩, by rw [h3, Heap.size_push]; exact Nat.lt_succ_of_lt hlt⟩
    rw [upd_ne (by rw [← hD]; exact Nat.ne_of_lt hlt)]
    exact (f2 b hb).1
  have st3 : tn 0 s3.heap := T.keep _ _ _ st2 fun b _ o e => by rw [h3]; exact Heap.get?_push_of_some _ e
  have I4 := block_start I3 ok hN f3
  have pg := hg s3 (upd H2 D (SetMO X.w D (fun _ => false) 0)) s3.heap.objs.size (cellsFrom (s3.heap.objs.size + 1) scope.names (cloFrom X.env.cells scope.names [])) fp
  have pt := ht s3 (upd H2 D (SetMO X.w D (fun _ => false) 0)) s3.heap.objs.size (cellsFrom (s3.heap.objs.size + 1) scope.names (cloFrom X.env.cells scope.names [])) fp
  have pe := he s3 (upd H2 D (SetMO X.w D (fun _ => false) 0)) s3.heap.objs.size (cellsFrom (s3.heap.objs.size + 1) scope.names (cloFrom X.env.cells scope.names [])) fp
  have pi1 := hi1 s3 (upd H2 D (SetMO X.w D (fun _ => false) 0)) s3.heap.objs.size (cellsFrom (s3.heap.objs.size + 1) scope.names (cloFrom X.env.cells scope.names [])) fp
  have pg1 := hg1 s3 (upd H2 D (SetMO X.w D (fun _ => false) 0)) s3.heap.objs.size (cellsFrom (s3.heap.objs.size + 1) scope.names (cloFrom X.env.cells scope.names [])) fp
  have pt1 := ht1 s3 (upd H2 D (SetMO X.w D (fun _ => false) 0)) s3.heap.objs.size (cellsFrom (s3.heap.objs.size + 1) scope.names (cloFrom X.env.cells scope.names [])) fp
  show codeAny _ _ (.compStart (.SetComp elt [⟨tg, iter, ifs, 0⟩, ⟨tg1, iter1, ifs1, 0⟩] scope pos) 0 (.ref it) (.ref D) (compEnvC scope (cellsFrom (s3.heap.objs.size + 1) scope.names (cloFrom X.env.cells scope.names [])) s3.heap.objs.size X.env)) (compPost (model X.prog X.w) X.A X.xe use Qf (.ref D) s3.heap.objs.size) { s3 with heap := pushCells (s3.heap.push { cls := .type "dict", data := .dict #[] }) scope.names }
  have nfp : ∀ b ∈ fp, (upd H2 D (SetMO X.w D (fun _ => false) 0)) b = none := fun b hb => (f3 b hb).1.1
  generalize hce : compEnvC scope (cellsFrom (s3.heap.objs.size + 1) scope.names (cloFrom X.env.cells scope.names [])) s3.heap.objs.size X.env = ce at I4 pg pt pe pi1 pg1 pt1 ⊢
  have cL : ce.locals = s3.heap.objs.size := by subst hce; rfl
  generalize hH3 : upd H2 D (SetMO X.w D (fun _ => false) 0) = H3 at I3 I4 pg pt pe pi1 pg1 pt1 w0 nfp f3
  generalize hs4 : ({ s3 with heap := pushCells (s3.heap.push { cls := .type "dict", data := .dict #[] }) scope.names } : Shared) = s4 at I4 ⊢
  have st4 : tn 0 s4.heap := T.keep _ _ _ st3 fun b _ o e => by rw [← hs4]; exact pushCells_keeps _ _ _ _ (Heap.get?_push_of_some _ e)
  have stat : ∀ {σ' : L2.St} {H' : Hp} {s' : Shared}, Inv (X.blk s3 H3 scope ce fp) [] σ' H' s' → (∀ b ∈ fp, H' b = none) → ∀ b ∈ fp, FpOk (X.blk s3 H3 scope ce fp) [] H' b := fun {σ' H' s'} I' hn b hb =>
    ⟨hn b hb, (I'.ok.exf b hb).1, I'.ok.exfs b hb, .inl hb, fun x c e => (I'.ok.exf b hb).2 x c e, fun p hp => absurd (show p ∈ ([] : List (Addr × Obj)) ++ [] from hp) (by simp)⟩
  have loop : codeAny (model X.prog X.w) X.A (.compLoop (.SetComp elt [⟨tg, iter, ifs, 0⟩, ⟨tg1, iter1, ifs1, 0⟩] scope pos) 0 (.ref it) (.ref D) ce) (compPost (model X.prog X.w) X.A X.xe use Qf (.ref D) s3.heap.objs.size) s4 := by
    refine sLoop2_out (hs1 ce) (fun n s' => ∃ i H', Inv (X.blk s3 H3 scope ce fp) [] (wipe σ (own.map (·.2))) H' s' ∧ tn i s'.heap ∧ (∀ b ∈ fp, H' b = none) ∧ W i n H') ?_ m0 ⟨0, H3, I4, st4, nfp, w0⟩
    rintro n s5 ⟨i, H5, I5, st5, n5, w5⟩
    rcases turn i n H5 w5 with ⟨stop, qq⟩ | ⟨go, Nx, hNx, step⟩
    · have td := T.done (X.blk s3 H3 scope ce fp) rfl rfl rfl hc i [] s5 _ H5 (fun _ _ => False) I5 (stat I5 n5) st5 stop
      refine thnF td fun r s6 ⟨hr, I6⟩ => ?_
      subst hr
      -- back in the def's context
      have I7 : Inv X pins σ H5 s6 := I3.call' (ch := fp) I6.os I6.base I6.hok I6.bare fun b hb => ⟨(f3 b hb).1.2.2.2.1, (f3 b hb).1.2.1, (f3 b hb).1.2.2.2.2.1, (f3 b hb).1.2.2.2.2.2⟩
      have nC : H5 s3.heap.objs.size = none := by
        have z : H5 ce.locals = none := I6.free
        rw [cL] at z
        exact z
      obtain ⟨m, hn, _⟩ := I6.loc
      have hn : s6.heap.Ns ce.locals m := hn
      rw [cL] at hn
      exact hRR D s3.heap.objs.size s6 m H5 I7 qq hn (I3.fpOk (Nat.le_refl _) nC)
    · have ti := T.item (X.blk s3 H3 scope ce fp) rfl rfl rfl hc i [] s5 _ H5 (fun _ _ => False) I5 (stat I5 n5) st5 go
      refine thnF ti fun r s6 ⟨u, hr, h6⟩ => ?_
      subst hr
      refine thnF h6 fun _ s7 ⟨x, H7, I7, r7, y7, st7, n7⟩ => ?_
      have I7' := I7.pinned (stat I7 n7) (T.obj _ _ st7)
      refine thnF (pg.run _ s7 _ H7 x u _ I7' r7 (step x H7 y7)) fun _ s8 ⟨σ8, H8, I8, hw8, q8⟩ => ?_
      refine thnF (pt.run _ s8 σ8 H8 _ I8 q8) fun b s9 ⟨H9, I9, q9⟩ => ?_
      -- the turn's end, from any slots that know what the block knew at its start
      have fin : ∀ {σ9 : L2.St} {s' : Shared} {H' : Hp}, Inv (X.blk s3 H3 scope ce fp) ([] ++ pinsAt fp s7.heap) σ9 H' s' → (wipe σ (own.map (·.2))).length = σ9.length → (∀ (j : Nat) v, (wipe σ (own.map (·.2)))[j]? = some (some v) → σ9[j]? = some (some v)) → Nx H' →
          ∃ m, m < n ∧ ∃ i H', Inv (X.blk s3 H3 scope ce fp) [] (wipe σ (own.map (·.2))) H' s' ∧ tn i s'.heap ∧ (∀ b ∈ fp, H' b = none) ∧ W i m H' := fun {σ9 s' H'} I' hl hk nx => by
        obtain ⟨m', hm, w'⟩ := hNx H' nx
        have pin' : ∀ b ∈ fp, ∀ o, s7.heap.get? b = some o → s'.heap.get? b = some o ∧ H' b = none := fun b hb o e =>
          let z := I'.pin (b, o) (List.mem_append_right _ (List.mem_append_right _ (mem_pinsAt hb e)))
          ⟨z.1, z.2.1⟩
        refine ⟨m', hm, i + 1, H', (I'.unpinned (pins := [])).weak hl hk, T.keep _ _ _ st7 fun b hb o e => (pin' b hb o e).1, fun b hb => ?_, w'⟩
        obtain ⟨o, e, _⟩ := T.obj _ _ st7 b hb
        exact (pin' b hb o e).2
      have hl8 : (wipe σ (own.map (·.2))).length = σ8.length := by rw [← hw8, wipe_length]
      have hk8 : ∀ (j : Nat) v, (wipe σ (own.map (·.2)))[j]? = some (some v) → σ8[j]? = some (some v) := fun j v e => by
        rw [← hw8] at e
        exact (wipe_some e).1
      have hk9 : ∀ (j : Nat) v, (wipe σ (own.map (·.2)))[j]? = some (some v) → (wipe σ8 vs1)[j]? = some (some v) := fun j v e => by
        rw [← hw8] at e
        obtain ⟨e1, e2⟩ := wipe_some e
        rw [wipe_out fun z => e2 (hv j z)]
        exact e1
      cases b with
      | false =>
        simp only [Bool.false_eq_true, if_false] at q9 ⊢
        exact fin I9 hl8 hk8 q9
      | true =>
        simp only [if_true] at q9 ⊢
        refine thnF (pi1.run _ s9 σ8 H9 _ I9 q9) fun xv s10 hx => thnF hx fun itv s11 h11 => ?_
        obtain ⟨it1, fp1, tn1, J1, H11, e1, I11, T1, st11, f11, W1, ⟨m1, w1⟩, turn1⟩ := h11
        subst e1
        -- the inner loop
        have stat1 : ∀ {H' : Hp}, (∀ b ∈ fp1, H' b = none) → ∀ b ∈ fp1, FpOk (X.blk s3 H3 scope ce fp) ([] ++ pinsAt fp s7.heap) H' b := fun hn b hb => ⟨hn b hb, (f11 b hb).2⟩
        have loop1 : codeAny (model X.prog X.w) X.A (.compLoop (.SetComp elt [⟨tg, iter, ifs, 0⟩, ⟨tg1, iter1, ifs1, 0⟩] scope pos) 1 (.ref it1) (.ref D) ce)
            (fun r s' => match r with
              | .ok _ => ∃ m, m < n ∧ ∃ i H', Inv (X.blk s3 H3 scope ce fp) [] (wipe σ (own.map (·.2))) H' s' ∧ tn i s'.heap ∧ (∀ b ∈ fp, H' b = none) ∧ W i m H'
              | .error _ => False) s11 := by
          refine sLoop2_in (fun k s' => ∃ j H', Inv (X.blk s3 H3 scope ce fp) ([] ++ pinsAt fp s7.heap) (wipe σ8 vs1) H' s' ∧ tn1 j s'.heap ∧ (∀ b ∈ fp1, H' b = none) ∧ W1 j k H') ?_ m1 ⟨0, H11, I11.weak (wipe_length _ _) (fun j v e => (wipe_some e).1), st11, fun b hb => (f11 b hb).1, w1⟩
          rintro k s12 ⟨j, H12, I12, st12, n12, w12⟩
          rcases turn1 j k H12 w12 with ⟨stop1, nx1⟩ | ⟨go1, Nx1, hNx1, step1⟩
          · refine thnF (T1.done (X.blk s3 H3 scope ce fp) rfl rfl rfl hc j _ s12 (wipe σ8 vs1) H12 (fun _ _ => False) I12 (stat1 n12) st12 stop1) fun r s13 ⟨hr, I13⟩ => ?_
            subst hr
            exact fin I13 (hl8.trans (wipe_length σ8 vs1).symm) hk9 nx1
          · refine thnF (T1.item (X.blk s3 H3 scope ce fp) rfl rfl rfl hc j _ s12 (wipe σ8 vs1) H12 (fun _ _ => False) I12 (stat1 n12) st12 go1) fun r s13 ⟨u1, hr, h13⟩ => ?_
            subst hr
            refine thnF h13 fun _ s14 ⟨x1, H14, I14, r14, y14, st14, n14⟩ => ?_
            have I14' := I14.pinned (stat1 n14) (T1.obj _ _ st14)
            refine thnF (pg1.run _ s14 (wipe σ8 vs1) H14 x1 u1 _ I14' r14 (step1 x1 H14 y14)) fun _ s15 ⟨σ15, H15, I15, hw15, q15⟩ => ?_
            refine thnF (pt1.run _ s15 σ15 H15 _ I15 q15) fun b1 s16 ⟨H16, I16, q16⟩ => ?_
            have fin1 : ∀ {s' : Shared} {H' : Hp}, Inv (X.blk s3 H3 scope ce fp) (([] ++ pinsAt fp s7.heap) ++ pinsAt fp1 s14.heap) σ15 H' s' → Nx1 H' → ∃ m, m < k ∧ ∃ j H', Inv (X.blk s3 H3 scope ce fp) ([] ++ pinsAt fp s7.heap) (wipe σ8 vs1) H' s' ∧ tn1 j s'.heap ∧ (∀ b ∈ fp1, H' b = none) ∧ W1 j m H' := fun {s' H'} I' nx => by
              obtain ⟨m', hm, w'⟩ := hNx1 H' nx
              have pin' : ∀ b ∈ fp1, ∀ o, s14.heap.get? b = some o → s'.heap.get? b = some o ∧ H' b = none := fun b hb o e =>
                let z := I'.pin (b, o) (List.mem_append_right _ (List.mem_append_right _ (mem_pinsAt hb e)))
                ⟨z.1, z.2.1⟩
              refine ⟨m', hm, j + 1, H', I'.unpinned.weak (by rw [← hw15, wipe_length]) (fun j v e => by rw [← hw15] at e; exact (wipe_some e).1), T1.keep _ _ _ st14 fun b hb o e => (pin' b hb o e).1, fun b hb => ?_, w'⟩
              obtain ⟨o, e, _⟩ := T1.obj _ _ st14 b hb
              exact (pin' b hb o e).2
            cases b1 with
            | false =>
              simp only [Bool.false_eq_true, if_false] at q16 ⊢
              exact fin1 I16 q16
            | true =>
              simp only [if_true] at q16 ⊢
              refine thnF (pe.run _ s16 σ15 H16 _ I16 q16) fun z s17 ⟨yv, H17, I17, r17, kb, S0, n0, ey, hD17, hz17, nx⟩ => ?_
              subst ey
              exact addM_ok (X := X.blk s3 H3 scope ce fp) I17 hD17 (kV_is (P := X.prog) (w := X.w) r17) hz17 fun s18 I18 => fin1 I18 nx
        exact sStart1_ok loop1 (T1.self X.A 0 _ _ _ st11 loop1)
  exact PpSet.codeAny_compStart_set loop (T.self X.A 0 _ _ _ st4 loop)
/-- as a value -/
theorem pe_sc2 {elt tg iter tg1 iter1 : Expr} {ifs ifs1 : List Expr} {scope : Scope} {own : List (Str × Nat)} {vs1 : List Nat} {pos : Pos} {wi wi1 : TI} {g g1 : TG} {tt tt1 : TT} {te : TE} (hc : X.calm = true) (hN : X.N.Nodup) (hi : PI X tg iter wi) (ok : BlkOk X.N X.env.scope scope own) (hv : ∀ i ∈ vs1, i ∈ own.map (·.2))
    (hg : ∀ (s : Shared) (H : Hp) (C : Addr) (cl : List (Str × Addr)) (fp : List Addr), PG (X.blk s H scope (compEnvC scope cl C X.env) fp) tg g) (ht : ∀ (s : Shared) (H : Hp) (C : Addr) (cl : List (Str × Addr)) (fp : List Addr), PTs (X.blk s H scope (compEnvC scope cl C X.env) fp) ifs tt)
    (hi1 : ∀ (s : Shared) (H : Hp) (C : Addr) (cl : List (Str × Addr)) (fp : List Addr), PI (X.blk s H scope (compEnvC scope cl C X.env) fp) tg1 iter1 wi1)
    (hg1 : ∀ (s : Shared) (H : Hp) (C : Addr) (cl : List (Str × Addr)) (fp : List Addr), PG (X.blk s H scope (compEnvC scope cl C X.env) fp) tg1 g1) (ht1 : ∀ (s : Shared) (H : Hp) (C : Addr) (cl : List (Str × Addr)) (fp : List Addr), PTs (X.blk s H scope (compEnvC scope cl C X.env) fp) ifs1 tt1)
    (he : ∀ (s : Shared) (H : Hp) (C : Addr) (cl : List (Str × Addr)) (fp : List Addr), PE (X.blk s H scope (compEnvC scope cl C X.env) fp) elt te) (hs : ∀ x, foldedSetIterable iter X.env x = pure x := by intro _; rfl) (hs1 : ∀ env x, foldedSetIterable iter1 env x = pure x := by intro _ _; rfl) :
    PE X (.SetComp elt [⟨tg, iter, ifs, 0⟩, ⟨tg1, iter1, ifs1, 0⟩] scope pos) (tSc2 X.w wi g tt wi1 g1 tt1 te (own.map (·.2)) vs1) := by
  refine ⟨fun pins s σ H Q I h => ?_⟩
  rw [PpSet.eval_SetComp]
  refine sc2_core hc hN I hi ok hv hg ht he hs hi1 hg1 ht1 hs1 h fun D C s' m H' I' q hn f => ⟨m, hn, fun h'' sb => ?_⟩
  obtain ⟨f0, f1, f2, f3, f4, f5⟩ := f
  exact ⟨.ref D, H', I'.turned (t' := s'.toks) (fun b o hb e => (sb.2 b hb).trans e) f0 f1 f3 f4 f5, rfl, q⟩

end
end Rg

end
section
set_option Elab.async false
set_option linter.all false
set_option maxRecDepth 100000
set_option maxHeartbeats 4000000
namespace Rg
open PySem PySem.Spec PyProof.Rows L2
/-! sorted of a set of ints, of a set of letters -/
def ltT (v u : Value) : Bool := decide (litV v < litV u)
theorem swoT : SrtO.Swo ltT := by
  refine ⟨fun x y h => ?_, fun x y z h1 h2 => ?_⟩
  · have h : decide (litV x < litV y) = true := h
    show decide (litV y < litV x) = false
    exact decide_eq_false fun q => List.lt_irrefl _ (List.lt_trans (of_decide_eq_true h) q)
  · have h1 : decide (litV y < litV x) = false := h1
    have h2 : decide (litV z < litV y) = false := h2
    show decide (litV z < litV x) = false
    refine decide_eq_false fun q => ?_
    have a : litV x ≤ litV y := of_decide_eq_false h1
    have b : litV y ≤ litV z := of_decide_eq_false h2
    exact (List.le_trans a b : litV x ≤ litV z) q
section
variable {prog : Program} {w : World} {A : Around} {E : Value → Shared → Prop} {s : Shared}
theorem strs_sortable {a : Addr} {vs : List Value} {ss : List Str} (hS : StrsAre vs ss) (h2 : 2 ≤ vs.length) : SrtO.SortableO prog w A s a vs ltT := by
  intro h' _
  refine ⟨oneType', fun Q E hq => ?_, fun p q hm hm' => ?_⟩
  · match vs, hS, h2 with
    | v1 :: v2 :: rest, hS, _ =>
      rw [keyKind_strs hS]
      exact wpAny_pure hq
    | [], _, h => exact absurd h (by decide)
    | [v], _, h => exact absurd h (by simp)
  · obtain ⟨x, t, e⟩ := hS.all _ hm
    obtain ⟨y, u, e'⟩ := hS.all _ hm'
    show wpAny (model prog w) A (keyLt' oneType' p.1 q.1) (fun r s' => s' = _ ∧ r = ltT p.1 q.1) (fun _ _ => False) _
    rw [e, e', keyLt'_oneType]
    exact oneLt_str ⟨rfl, rfl⟩
theorem strsAre_all : ∀ {vs : List Value}, (∀ v ∈ vs, ∃ x t, v = Value.str x t) → ∃ ss, StrsAre vs ss
  | [], _ => ⟨[], .nil⟩
  | v :: vs, h => by
    obtain ⟨x, t, e⟩ := h v List.mem_cons_self
    obtain ⟨ss, q⟩ := strsAre_all fun u hu => h u (List.mem_cons_of_mem _ hu)
    rw [e]
    exact ⟨x :: ss, .cons x t q⟩
/-- sorted of a set, whatever orders its members -/
theorem sorted_setM {a : Addr} {S : Key → Bool} {n : Nat} {ltv : Value → Value → Bool} {Q : Value → Shared → Prop} (O : SrtO.Swo ltv) (R : SetM w s.heap a S n) (hh : A.handled = none) (hn2 : n ≤ 100000)
    (hS : ∀ (vs : List Value) (s' : Shared) (A' : Around) (b : Addr), (∀ v ∈ vs, ∃ k, keyIs k v = true ∧ S k = true) → 2 ≤ vs.length → SrtO.SortableO prog w A' s' b vs ltv)
    (hQ : ∀ s' p (out : List Value) (c : Nat), (∀ b o, s.heap.get? b = some o → s'.heap.get? b = some o) → s'.gens = s.gens → s'.os = s.os → s.heap.objs.size ≤ p →
      s'.heap.get? p = some (seqObj "list" out.toArray c) → SrtO.Srtd ltv out → (∀ v ∈ out, ∃ k, keyIs k v = true ∧ S k = true) → (∀ k, S k = true → ∃ v ∈ out, keyIs k v = true) → (∀ k, out.Pairwise fun u v => ¬ (keyIs k u = true ∧ keyIs k v = true)) → out.length = n → Q (.ref p) s') :
    wpAny (model prog w) A (call (.builtin "sorted") [.ref a]) Q E s := by
  obtain ⟨o, es, ep, t, ho, hex, hd, g, nd, hm, hb, hf, hn, hr, hl⟩ := R
  refine Calls.call_function_entry kind_sorted plain_sorted entry_sorted (args_sorted1 _) ?_
  unfold Builtin.«sorted»
  refine wpAny_bind (m := checkCount "sorted" 1 1 _) (wpAny_pure ?_)
  refine wpAny_bind (collect_set (A := A.in1) hh ⟨o, ho, hex.1, hd⟩ hf hb hr hl fun s1 vs k1 hz g1 o1 pm => ?_)
  have hvl : vs.length = n := by rw [pm.length_eq, List.length_map, Array.length_toList]; exact hn
  have hk : ∀ v ∈ vs, ∃ k, keyIs k v = true ∧ S k = true := fun v hv => by
    obtain ⟨e, he, q⟩ := List.mem_map.mp (pm.mem_iff.mp hv)
    obtain ⟨k, h1, _⟩ := g e he
    refine ⟨k, by rw [← q]; exact h1, (hm k).mpr (List.mem_map.mpr ⟨e, he, keyM_of h1⟩)⟩
  refine wpAny_bind (wpAny_newList ?_ (by rw [hvl, sizeLine_eq]; omega))
  have hoL : (s1.heap.push (seqObj "list" vs.toArray 0)).get? s1.heap.objs.size = some (seqObj "list" vs.toArray 0) := Heap.get?_push_size _ rfl
  refine wpAny_bind (wpAny_holding (wpAny_call_entry slot_list_sort ⟨_, hoL, rfl⟩ entry_list_sort (SrtO.list_sort_ord O hoL (by rw [hvl, sizeLine_eq]; omega) (fun h2 => hS vs _ _ _ hk h2) fun out a1 a2 => ⟨_, rfl, ?_⟩) (args_list_sort _)))
  obtain ⟨c, hc⟩ := sortedHeap_at (vs := vs) (out := out.toArray) hoL
  have po : out.Perm (es.toList.map (·.2)) := a2.perm.trans pm
  refine wpAny_pure ⟨_, rfl, hQ _ s1.heap.objs.size out c (fun b u e => ?_) g1 o1 hz hc a1 (fun v hv => hk v (a2.perm.mem_iff.mp hv)) (fun k hk => ?_) (fun k => ?_) ?_⟩
  · have q := k1 b u e
    have hlt := Heap.lt_size q
    show (sortedHeap (s1.heap.push (seqObj "list" vs.toArray 0)) s1.heap.objs.size vs out.toArray).get? b = some u
    rw [sortedHeap_old (Nat.ne_of_lt hlt) (by rw [size_push']; exact Nat.lt_succ_of_lt hlt)]
    exact Heap.get?_push_of_some _ q
  · obtain ⟨e, he, q⟩ := List.mem_map.mp ((hm k).mp hk)
    obtain ⟨k', h1, _⟩ := g e he
    refine ⟨e.2, po.mem_iff.mpr (List.mem_map.mpr ⟨e, he, rfl⟩), ?_⟩
    rw [← q, keyM_of h1]
    exact h1
  · refine (po.pairwise_iff (R := fun u v => ¬ (keyIs k u = true ∧ keyIs k v = true)) fun {x y} h q => h ⟨q.2, q.1⟩).mpr ?_
    refine List.pairwise_map.mpr ?_
    have nd' := List.pairwise_map.mp nd
    refine nd'.imp_of_mem fun {x y} hx hy hne q => hne ?_
    rw [keyM_of q.1, keyM_of q.2]
  · rw [po.length_eq, List.length_map, Array.length_toList]
    exact hn
end
/-- sorted(s), s a set of ints -/
def rSortedMI (w : World) : List V → Hp → VK → Prop := fun vs H Q => ∃ (a : Addr) (S : Key → Bool) (n : Nat), vs = [V.ref a] ∧ H a = some (SetMO w a S n) ∧ n ≤ 100000 ∧ (∀ k, S k = true → ∃ i, k = Sum.inl i) ∧
  ∀ (ns : List Int) (p : Addr), ns.Pairwise (· < ·) → (∀ i, i ∈ ns ↔ S (.inl i) = true) → H p = none → Q (.ref p) (upd H p (.lst (ns.map V.int)))
/-- sorted(s), s a set of letters -/
def rSortedMS (w : World) : List V → Hp → VK → Prop := fun vs H Q => ∃ (a : Addr) (S : Key → Bool) (n : Nat), vs = [V.ref a] ∧ H a = some (SetMO w a S n) ∧ n ≤ 100000 ∧ (∀ k, S k = true → ∃ c : Nat, k = Sum.inr (⟨#[c]⟩ : Str)) ∧
  ∀ (cs : Lit) (p : Addr), Ris cs → (∀ c : Nat, c ∈ cs ↔ S (.inr (⟨#[c]⟩ : Str)) = true) → H p = none → Q (.ref p) (upd H p (.lst (cs.map fun c => V.str ⟨#[c]⟩)))
theorem inv_new {X : Cx} {pins : List (Addr × Obj)} {σ : L2.St} {H : Hp} {s s' : Shared} {p : Addr} {o : HO} (I : Inv X pins σ H s) (k : ∀ b o, s.heap.get? b = some o → s'.heap.get? b = some o) (g : s'.gens = s.gens) (e : s'.os = s.os) (hp : s.heap.objs.size ≤ p)
    (new : ObjOk X.prog X.w (upd H p o) s'.heap p o) : Inv X pins σ (upd H p o) s' := by
  have hn : H p = none := I.hok.fresh hp
  have J : Inv X pins σ (upd H p o) { s with heap := s'.heap, gens := s'.gens, drawn := s'.drawn, toks := s'.toks } :=
    I.call (ch := []) (Un.laid k hp hn) (I.hok.laid k hp new) (by rw [g]; exact I.bare) (fun _ z => nomatch z)
  have e : s' = { s with heap := s'.heap, gens := s'.gens, drawn := s'.drawn, toks := s'.toks } := by
    cases s'
    cases s
    cases e
    rfl
  rw [e]
  exact J
theorem cr_sortedMI {X : Cx} (hc : X.calm = true) : CallR X (.builtin "sorted") (rSortedMI X.w) := by
  intro pins s σ H vs us Q I r h
  obtain ⟨a, S, n, rfl, ha, hn, hi, q⟩ := h
  have R := setMO_get I ha
  rw [Vals.ref1 r]
  have allI : ∀ vs : List Value, (∀ v ∈ vs, ∃ k, keyIs k v = true ∧ S k = true) → ∀ v ∈ vs, ∃ i t, v = Value.int i t := fun vs h v hv => by
    obtain ⟨k, h1, h2⟩ := h v hv
    obtain ⟨i, rfl⟩ := hi k h2
    rcases keyIs_shape h1 with ⟨j, t, _, e⟩ | ⟨x, t, e, _⟩
    · exact ⟨j, t, e⟩
    · cases e
  refine sorted_setM SrtO.swo_int R (I.ok.hd hc) hn (fun vs s' A' b h h2 => SrtO.ints_sortable (SrtO.ints_iv (allI vs h)) h2) fun s' p out c k g e hp hg hs h1 h2 h3 hl => ?_
  have hI := SrtO.ints_iv (allI out h1)
  have hlen : ((out.map SrtO.iv).map V.int).length ≤ sizeLine := by rw [List.length_map, List.length_map, hl, sizeLine_eq]; omega
  have hk : ∀ v ∈ out, keyIs (.inl (SrtO.iv v)) v = true := fun v hv => by
    obtain ⟨i, t, e⟩ := allI out h1 v hv
    rw [e]
    exact keyIs_int i t
  refine ⟨.ref p, upd H p (.lst ((out.map SrtO.iv).map V.int)), inv_new I k g e hp ⟨hlen, out, c, vals_of_ints hI, hg⟩, rfl, q _ p ?_ (fun i => ?_) (I.hok.fresh hp)⟩
  · refine List.pairwise_map.mpr ?_
    have nd : out.Pairwise fun u v => SrtO.iv u ≠ SrtO.iv v := by
      rw [List.pairwise_iff_getElem]
      intro i j hi hj hij z
      have := List.pairwise_iff_getElem.mp (h3 (.inl (SrtO.iv out[i]))) i j hi hj hij
      exact this ⟨hk _ (List.getElem_mem hi), by rw [z]; exact hk _ (List.getElem_mem hj)⟩
    refine (hs.and nd).imp fun {x y} z => ?_
    have a := Int.not_lt.mp (of_decide_eq_false (p := SrtO.iv y < SrtO.iv x) z.1)
    have b := z.2
    omega
  · rw [List.mem_map]
    constructor
    · rintro ⟨v, hv, rfl⟩
      obtain ⟨k, a1, a2⟩ := h1 v hv
      have : k = .inl (SrtO.iv v) := (mixKind X.prog X.w).inj v _ _ a1 (hk v hv)
      rw [← this]
      exact a2
    · intro z
      obtain ⟨v, hv, a1⟩ := h2 _ z
      refine ⟨v, hv, ?_⟩
      have := (mixKind X.prog X.w).inj v (.inl i) (.inl (SrtO.iv v)) a1 (hk v hv)
      exact (Sum.inl.inj this).symm
theorem cr_sortedMS {X : Cx} (hc : X.calm = true) : CallR X (.builtin "sorted") (rSortedMS X.w) := by
  intro pins s σ H vs us Q I r h
  obtain ⟨a, S, n, rfl, ha, hn, hi, q⟩ := h
  have R := setMO_get I ha
  rw [Vals.ref1 r]
  have allI : ∀ vs : List Value, (∀ v ∈ vs, ∃ k, keyIs k v = true ∧ S k = true) → ∀ v ∈ vs, ∃ (c : Nat) (t : Tok), v = Value.str ⟨#[c]⟩ t := fun vs h v hv => by
    obtain ⟨k, h1, h2⟩ := h v hv
    obtain ⟨i, rfl⟩ := hi k h2
    rcases keyIs_shape h1 with ⟨j, t, e, _⟩ | ⟨x, t, e1, e⟩
    · cases e
    · cases e1
      exact ⟨i, t, e⟩
  refine sorted_setM swoT R (I.ok.hd hc) hn (fun vs s' A' b h h2 => ?_) fun s' p out c k g e hp hg hs h1 h2 h3 hl => ?_
  · obtain ⟨ss, hS⟩ := strsAre_all fun v hv => (let ⟨c, t, e⟩ := allI vs h v hv; ⟨_, t, e⟩ : ∃ x t, v = Value.str x t)
    exact strs_sortable hS h2
  have hd : ∀ v ∈ out, ∃ t, v = Value.str ⟨#[(litV v).headD 0]⟩ t := fun v hv => by
    obtain ⟨c, t, e⟩ := allI out h1 v hv
    rw [e]
    exact ⟨t, rfl⟩
  have hv : ∀ {out : List Value}, (∀ v ∈ out, ∃ t, v = Value.str ⟨#[(litV v).headD 0]⟩ t) → Vals ((out.map fun v => (litV v).headD 0).map fun c => V.str ⟨#[c]⟩) out := fun {out} h => by
    induction out with
    | nil => exact .nil
    | cons v out ih => exact .cons (h v List.mem_cons_self) (ih fun u hu => h u (List.mem_cons_of_mem _ hu))
  have hlen : ((out.map fun v => (litV v).headD 0).map fun c => V.str ⟨#[c]⟩).length ≤ sizeLine := by rw [List.length_map, List.length_map, hl, sizeLine_eq]; omega
  have hk : ∀ v ∈ out, keyIs (.inr ⟨#[(litV v).headD 0]⟩) v = true := fun v hv => by
    obtain ⟨c, t, e⟩ := allI out h1 v hv
    rw [e]
    exact keyIs_str _ t
  refine ⟨.ref p, upd H p (.lst ((out.map fun v => (litV v).headD 0).map fun c => V.str ⟨#[c]⟩)), inv_new I k g e hp ⟨hlen, out, c, hv hd, hg⟩, rfl, q _ p ?_ (fun i => ?_) (I.hok.fresh hp)⟩
  · refine List.pairwise_map.mpr ?_
    have nd : out.Pairwise fun u v => (litV u).headD 0 ≠ (litV v).headD 0 := by
      rw [List.pairwise_iff_getElem]
      intro i j hi hj hij z
      have := List.pairwise_iff_getElem.mp (h3 (.inr ⟨#[(litV out[i]).headD 0]⟩)) i j hi hj hij
      exact this ⟨hk _ (List.getElem_mem hi), by rw [z]; exact hk _ (List.getElem_mem hj)⟩
    refine (hs.and nd).imp_of_mem fun {x y} hx hy z => ?_
    obtain ⟨c, t, ex⟩ := allI out h1 x hx
    obtain ⟨d, u, ey⟩ := allI out h1 y hy
    rw [ex, ey] at z ⊢
    have a : ¬ ([d] < [c]) := of_decide_eq_false (p := [d] < [c]) z.1
    have b : c ≠ d := z.2
    show c < d
    have : ¬ d < c := fun hlt => a (List.Lex.rel hlt)
    omega
  · rw [List.mem_map]
    constructor
    · rintro ⟨v, hv, rfl⟩
      obtain ⟨k, a1, a2⟩ := h1 v hv
      have : k = .inr ⟨#[(litV v).headD 0]⟩ := (mixKind X.prog X.w).inj v _ _ a1 (hk v hv)
      rw [← this]
      exact a2
    · intro z
      obtain ⟨v, hv, a1⟩ := h2 _ z
      refine ⟨v, hv, ?_⟩
      have := (mixKind X.prog X.w).inj v (.inr ⟨#[i]⟩) (.inr ⟨#[(litV v).headD 0]⟩) a1 (hk v hv)
      have e : (⟨#[i]⟩ : Str) = ⟨#[(litV v).headD 0]⟩ := Sum.inr.inj this
      have e2 : #[i] = #[(litV v).headD 0] := congrArg Str.cps e
      exact (congrArg (fun a : Array Nat => a.getD 0 0) e2).symm
end Rg

end
section
set_option Elab.async false
set_option linter.all false
set_option maxRecDepth 100000
set_option maxHeartbeats 4000000
namespace Rg
open PySem PySem.Spec PyProof.Rows L2
/-- any walk, turn by turn -/
theorem it_gen {J : It} {n : Nat} {G : Hp → Prop} {Y : Nat → Hp → V → Hp → Prop} (w : Walk J n G Y) {step : V → Hp → (Hp → Prop) → Prop} {H0 : Hp} {Qd : Hp → Prop} (Pv : Nat → Hp → Prop) (h0 : Pv 0 H0) (hG : ∀ i H, i ≤ n → Pv i H → G H)
    (hs : ∀ i x H H', i < n → Pv i H → Y i H x H' → step x H' (Pv (i + 1))) (hd : ∀ H, Pv n H → Qd H) :
    ∃ W : Nat → Nat → Hp → Prop, (∃ m, W 0 m H0) ∧ ∀ i m H, W i m H → (J.stop i H ∧ Qd H) ∨ (J.go i H ∧ ∃ Nx : Hp → Prop, (∀ H', Nx H' → ∃ m', m' < m ∧ W (i + 1) m' H') ∧ ∀ x H', J.yld i H x H' → step x H' Nx) := by
  refine ⟨fun i m H => m = n - i ∧ i ≤ n ∧ Pv i H, ⟨n, by simp, Nat.zero_le _, h0⟩, ?_⟩
  rintro i m H ⟨rfl, hi, p⟩
  have q := hG i H hi p
  by_cases hlt : i < n
  · exact .inr ⟨w.goes i H hlt q, Pv (i + 1), fun H' p' => ⟨n - (i + 1), by omega, rfl, hlt, p'⟩, fun x H' y => hs i x H H' hlt p (w.yields i H x H' hlt q y)⟩
  · have e : i = n := by omega
    subst e
    exact .inl ⟨w.stops H q, hd H p⟩
/-- a set in the making: its members, a bound of their number -/
def InSet (w : World) (D : Addr) (p : Key → Prop) (b : Nat) (H : Hp) : Prop := ∃ S n, H D = some (SetMO w D S n) ∧ n ≤ b ∧ ∀ k, S k = true ↔ p k
theorem InSet.new {w : World} {D : Addr} {H : Hp} : InSet w D (fun _ => False) 0 (upd H D (SetMO w D (fun _ => false) 0)) := ⟨_, 0, upd_same, Nat.le_refl _, fun k => by simp⟩
theorem InSet.mono {w : World} {D : Addr} {p q : Key → Prop} {b c : Nat} {H : Hp} (h : InSet w D p b H) (hpq : ∀ k, p k ↔ q k) (hbc : b ≤ c) : InSet w D q c H := by
  obtain ⟨S, n, e, l, m⟩ := h
  exact ⟨S, n, e, Nat.le_trans l hbc, fun k => (m k).trans (hpq k)⟩
/-- one more -/
theorem InSet.add {w : World} {D : Addr} {p : Key → Prop} {b : Nat} {H : Hp} (h : InSet w D p b H) (k : Key) (hb : b + 1 < scanBound) {N : Hp → Prop} (hN : ∀ H', (∀ c, c ≠ D → H' c = H c) → InSet w D (fun j => p j ∨ j = k) (b + 1) H' → N H') :
    ∃ (k' : Key) (S : Key → Bool) (n : Nat), kV k = kV k' ∧ H D = some (SetMO w D S n) ∧ n + 1 < scanBound ∧ N (upd H D (SetMO w D (fun j => S j || decide (j = k')) (if S k' = true then n else n + 1))) := by
  obtain ⟨S, n, e, l, m⟩ := h
  refine ⟨k, S, n, rfl, e, by omega, hN _ (fun c hc => upd_ne hc) ⟨_, _, upd_same, ?_, fun j => ?_⟩⟩
  · split <;> omega
  · rw [Bool.or_eq_true, decide_eq_true_eq, m j]
theorem same_but {H0 H H' : Hp} {D : Addr} (r : Same H0 H) (n : H0 D = none) (k : ∀ c, c ≠ D → H' c = H c) : Same H0 H' := fun c o e => by
  rw [k c (ne_of_none e n)]
  exact r c o e
section
variable {P : Program} {w : World} {K : PySem.W.Frag} {mg : Str → Option Value} {base : Heap}
/-! union -/
def spUnionT : Sp := fun vs H Q _ => ∃ (a : Addr) (ls : List Lit), vs = [V.ref a] ∧ H a = some (.tup (ls.map tx)) ∧ ls.length ≤ 1000 ∧ (∀ l ∈ ls, l.length ≤ 4 ∧ ∀ c ∈ l, c ∈ abc) ∧ ∀ H', Same H H' → Q (tx (un abc ls)) H'
def spUnionS : Sp := fun vs H Q _ => ∃ ls : List Lit, vs = ls.map tx ∧ ls.length ≤ 1000 ∧ (∀ l ∈ ls, l.length ≤ 4 ∧ ∀ c ∈ l, c ∈ abc) ∧ ∀ H', Same H H' → Q (tx (un abc ls)) H'
/-- union, as it stands -/
structure UnionC (P : Program) (w : World) (K : PySem.W.Frag) (mg : Str → Option Value) (base : Heap) (k : Nat) : Prop where
  ex : ∃ f, StX.CXUp C8.CX0 ∧ FnR P w K mg base C8.CX0 k f spUnionS ∧ mg "union" = some (.ref f) ∧ PySem.W.keepIn K (.ref f) = true
theorem sc_union : FnScope ["sets", "lit", "letter"] ["sets"] (defScope (top 18)) := ⟨rfl, rfl, rfl, by decide +kernel, rfl, by decide +kernel, by decide +kernel⟩
theorem abc_ris : Ris abc := by decide +kernel
theorem c_union {f : Addr} {fd : FuncData} (D : Df K mg "union" (top 18) f fd) (B : Bl mg) : UnionC P w K mg base 1 := by
  obtain ⟨oc, od, dV, kV', doc, pm, an, cdv, ct, osl, rfl, lk, hcd, dfl, _⟩ := D.fn.ex
  have edV : dV = .none := by
    rcases dfl with ⟨_, e⟩ | ⟨z, _⟩
    · exact e
    · exact absurd rfl z
  subst edV
  have F := StX.fn_star (CX := C8.CX0) (P := P) (w := w) (base := base) (mg := mg) (k := 0) (ps := []) (pv := "sets") (sp := spUnionT) lk hcd sc_union StX.cxUp_none (fun us rest hl => match us, rest, hl with | [], [], _ => rfl | [], _ :: _, _ => rfl) (fun A outer s H vs Q E hr h => ?_)
  · refine ⟨f, StX.cxUp_none, F.imp fun vs H Q E h => ?_, D.mgf, D.fn.kp⟩
    obtain ⟨ls, rfl, hl, hm, q⟩ := h
    refine ⟨[], ls.map tx, rfl, rfl, by rw [List.length_map]; exact small (by omega), fun p hp => ⟨p, ls, rfl, upd_same, hl, hm, fun H' r => q H' ((Same.one hp).trans r)⟩⟩
  · obtain ⟨a, ls, rfl, ha, hlen, hm, k⟩ := h
    refine ⟨_, pss_one (ps_ret (pe_join pe_str (pe_callB (cr_sortedMS rfl) (by rfl) B.sorted (by decide +kernel) (pa_cons
      (pe_sc2 (own := [("lit", 1), ("letter", 2)]) (vs1 := [2]) (g := gName 1) (g1 := gName 2) rfl sc_union.nd (pi_tup (pv 0)) (blkOk_by (own := [("lit", 1), ("letter", 2)]) (N := ["sets", "lit", "letter"]) (sc := defScope (top 18)) (by decide +kernel)) (by decide)
        (fun _ _ _ _ _ => pg_name (i := 1) sc_union.nd rfl (Or.inl rfl)) (fun _ _ _ _ _ => pts_nil) (fun _ _ _ _ _ => pi_str (pv 1)) (fun _ _ _ _ _ => pg_name (i := 2) sc_union.nd rfl (Or.inl rfl)) (fun _ _ _ _ _ => pts_nil)
        (fun _ _ _ _ _ => pv 2)) pa_nil)))), ?_⟩
    refine ⟨⟨_, rfl⟩, _, rfl, a, rfl, ⟨_, SqT.of ha⟩, fun D hD => ?_⟩
    refine it_gen walk_tup (fun i H' => Same H H' ∧ InSet w D (fun k => ∃ l ∈ ls.take i, ∃ c ∈ l, k = .inr (⟨#[c]⟩ : Str)) (4 * i) H') ⟨Same.one hD, InSet.new.mono (fun k => by simp) (Nat.le_refl _)⟩ (fun i H' _ p => SqT.of (p.1 _ _ ha)) (fun i x H1 H2 hi p y => ?_) fun H1 p => ?_
    · obtain ⟨rfl, hx⟩ := y
      rw [List.length_map] at hi
      rw [List.getElem?_map] at hx
      cases hy : ls[i]? with
      | none => rw [hy] at hx; cases hx
      | some l =>
        rw [hy] at hx
        have hx : some (tx l) = some x := hx
        cases hx
        have hl4 := hm l (List.mem_of_getElem? hy)
        refine ⟨rfl, yes ?_⟩
        refine ⟨_, rfl, _, rfl, ?_⟩
        refine it_gen walk_str (fun j H' => Same H H' ∧ InSet w D (fun k => (∃ l ∈ ls.take i, ∃ c ∈ l, k = .inr (⟨#[c]⟩ : Str)) ∨ ∃ c ∈ l.take j, k = .inr (⟨#[c]⟩ : Str)) (4 * i + j) H') ⟨p.1, p.2.mono (fun k => by simp) (Nat.le_refl _)⟩ (fun _ _ _ _ => trivial) (fun j x H3 H4 hj p2 y => ?_) fun H3 p2 => ?_
        · obtain ⟨rfl, c, hc, rfl⟩ := y
          rw [S_size] at hj
          have hc' : l[j]? = some c := S_at.mp hc
          refine ⟨rfl, yes ?_⟩
          refine ⟨_, rfl, ?_⟩
          refine InSet.add (N := fun H' => Same H H' ∧ InSet w D (fun k => (∃ l ∈ ls.take i, ∃ c ∈ l, k = .inr (⟨#[c]⟩ : Str)) ∨ ∃ c ∈ l.take (j + 1), k = .inr (⟨#[c]⟩ : Str)) (4 * i + (j + 1)) H') p2.2 (.inr ⟨#[c]⟩) (by have : scanBound = 4096 := rfl; omega) fun H5 kp q => ⟨same_but p2.1 hD kp, q.mono (fun k => ?_) (Nat.le_refl _)⟩
          have e : l.take (j + 1) = l.take j ++ [c] := by
            obtain ⟨q, e⟩ := List.getElem?_eq_some_iff.mp hc'
            rw [List.take_succ_eq_append_getElem q, e]
          rw [e]
          constructor
          · rintro ((h | ⟨d, hd, h⟩) | h)
            · exact .inl h
            · exact .inr ⟨d, List.mem_append_left _ hd, h⟩
            · exact .inr ⟨c, List.mem_append_right _ (List.mem_singleton.mpr rfl), h⟩
          · rintro (h | ⟨d, hd, h⟩)
            · exact .inl (.inl h)
            · rcases List.mem_append.mp hd with hd | hd
              · exact .inl (.inr ⟨d, hd, h⟩)
              · rw [List.mem_singleton.mp hd] at h
                exact .inr h
        · rw [S_size] at p2
          have e : ls.take (i + 1) = ls.take i ++ [l] := by
            obtain ⟨q, e⟩ := List.getElem?_eq_some_iff.mp hy
            rw [List.take_succ_eq_append_getElem q, e]
          refine ⟨p2.1, p2.2.mono (fun k => ?_) (by omega)⟩
          rw [List.take_length, e]
          constructor
          · rintro (⟨d, hd, h⟩ | h)
            · exact ⟨d, List.mem_append_left _ hd, h⟩
            · exact ⟨l, List.mem_append_right _ (List.mem_singleton.mpr rfl), h⟩
          · rintro ⟨d, hd, h⟩
            rcases List.mem_append.mp hd with hd | hd
            · exact .inl ⟨d, hd, h⟩
            · rw [List.mem_singleton.mp hd] at h
              exact .inr h
    · obtain ⟨sm, S, n, e, l, m⟩ := p
      rw [List.length_map] at l m
      rw [List.take_length] at m
      refine ⟨D, S, n, rfl, e, by omega, fun k hk => ?_, fun cs p hr hcs hp => ?_⟩
      · obtain ⟨d, _, c, _, h⟩ := (m k).mp hk
        exact ⟨c, h⟩
      · have ecs : cs = un abc ls := by
          refine ris_ext hr (un_ris abc_ris) fun c => ?_
          rw [hcs, m, mem_un]
          constructor
          · rintro ⟨d, hd, c', hc', h⟩
            have e2 : (⟨#[c]⟩ : Str) = ⟨#[c']⟩ := Sum.inr.inj h
            have e3 : c = c' := congrArg (fun a : Str => a.cps.getD 0 0) e2
            rw [e3]
            exact ⟨(hm d hd).2 c' hc', d, hd, hc'⟩
          · rintro ⟨_, d, hd, hc⟩
            exact ⟨d, hd, c, hc, rfl⟩
        subst ecs
        refine ⟨_, p, (un abc ls).map fun c => (⟨#[c]⟩ : Str), rfl, rfl, .inl (SqL.of (by rw [upd_same, List.map_map]; rfl)), ?_, ?_⟩
        · have h3 : (un abc ls).length ≤ 26 := (un_sub abc ls).length_le
          have h2 : ∀ l : List Nat, ((l.map fun c => (⟨#[c]⟩ : Str)).map (·.length)).sum = l.length := fun l => by
            rw [List.map_map]
            exact (sum_const _ 1 l fun _ _ => rfl).trans (Nat.mul_one _)
          rw [h2, List.length_map]
          have h4 : (Str.ofString "").length = 0 := rfl
          rw [h4]
          omega
        · rw [join_signs]
          exact k _ (sm.trans (Same.one hp))
end
end Rg

end
section
set_option Elab.async false
set_option linter.all false
set_option maxRecDepth 100000
set_option maxHeartbeats 4000000
namespace Rg
open PySem PySem.Spec PyProof.Rows L2
/-- an edge's first two places -/
def E2At (H : Hp) (v : V) (p : Int × Int) : Prop := ∃ t m, v = .ref t ∧ H t = some (.tup [.int p.1, .int p.2, m])
theorem E2At.same {H H' : Hp} {v : V} {p : Int × Int} (e : Same H H') (h : E2At H v p) : E2At H' v p := by
  obtain ⟨t, m, r, h⟩ := h
  exact ⟨t, m, r, e _ _ h⟩
/-- a list of edges -/
def E2s (H : Hp) (v : V) (zs : List (V × Int × Int)) : Prop := ∃ a, v = .ref a ∧ H a = some (.lst (zs.map (·.1))) ∧ ∀ z ∈ zs, E2At H z.1 z.2
theorem E2s.same {H H' : Hp} {v : V} {zs : List (V × Int × Int)} (e : Same H H') (h : E2s H v zs) : E2s H' v zs := by
  obtain ⟨a, r, h, k⟩ := h
  exact ⟨a, r, e _ _ h, fun z hz => (k z hz).same e⟩
def sel (zs : List (V × Int × Int)) (k : Int) : List V := (zs.filter fun z => decide (z.2.1 = k)).map (·.1)
/-- the lists of the edges that leave each node -/
structure Leav (H0 H : Hp) (D : Addr) (zs : List (V × Int × Int)) (kvs : List (Key × V)) : Prop where
  d : H D = some (.dK kvs)
  n : H0 D = none
  len : kvs.length ≤ zs.length
  no : ∀ k : Int, valV kvs (.inl k) = none → ∀ z ∈ zs, z.2.1 ≠ k
  yes : ∀ (k : Int) (v : V), valV kvs (.inl k) = some v → ∃ a, v = .ref a ∧ H0 a = none ∧ H a = some (.lst (sel zs k)) ∧ ∀ k' : Int, valV kvs (.inl k') = some (.ref a) → k' = k
theorem sel_len (zs : List (V × Int × Int)) (k : Int) : (sel zs k).length ≤ zs.length := by
  unfold sel
  rw [List.length_map]
  exact List.length_filter_le _ _
theorem take_succ_at {α : Type} {l : List α} {i : Nat} {c : α} (h : l[i]? = some c) : l.take (i + 1) = l.take i ++ [c] := by
  obtain ⟨q, e⟩ := List.getElem?_eq_some_iff.mp h
  rw [List.take_succ_eq_append_getElem q, e]
theorem map_at {α β : Type} {l : List α} {f : α → β} {i : Nat} {x : β} (h : (l.map f)[i]? = some x) : ∃ c, l[i]? = some c ∧ x = f c := by
  rw [List.getElem?_map] at h
  cases e : l[i]? with
  | none => rw [e] at h; cases h
  | some c =>
    rw [e] at h
    exact ⟨c, rfl, (Option.some.inj h).symm⟩
theorem sel_snoc (zs : List (V × Int × Int)) (z : V × Int × Int) (k : Int) : sel (zs ++ [z]) k = sel zs k ++ if z.2.1 = k then [z.1] else [] := by
  unfold sel
  rw [List.filter_append, List.map_append]
  by_cases e : z.2.1 = k
  · have h : List.filter (fun z : V × Int × Int => decide (z.2.1 = k)) [z] = [z] := List.filter_cons_of_pos (decide_eq_true e)
    rw [if_pos e, h]
    rfl
  · have h : List.filter (fun z : V × Int × Int => decide (z.2.1 = k)) [z] = [] := List.filter_cons_of_neg (by rw [decide_eq_false e]; exact Bool.false_ne_true)
    rw [if_neg e, h]
    rfl
/-- one edge more, its node known -/
theorem Leav.old {H0 H : Hp} {D : Addr} {zs : List (V × Int × Int)} {kvs : List (Key × V)} (h : Leav H0 H D zs kvs) {z : V × Int × Int} {a : Addr} (e : valV kvs (.inl z.2.1) = some (.ref a)) :
    Leav H0 (upd H a (.lst (sel zs z.2.1 ++ [z.1]))) D (zs ++ [z]) kvs := by
  obtain ⟨a', ea, n, ha, u⟩ := h.yes _ _ e
  cases ea
  have hDa : D ≠ a := ne_of h.d ha (by intro q; cases q)
  refine ⟨by rw [upd_ne hDa]; exact h.d, h.n, by rw [List.length_append]; exact Nat.le_succ_of_le h.len, fun k hk y hy => ?_, fun k v hv => ?_⟩
  · rcases List.mem_append.mp hy with hy | hy
    · exact h.no k hk y hy
    · rw [List.mem_singleton.mp hy]
      intro q
      rw [q, hk] at e
      cases e
  · obtain ⟨b, eb, nb, hb, ub⟩ := h.yes _ _ hv
    subst eb
    refine ⟨b, rfl, nb, ?_, ub⟩
    rw [sel_snoc]
    by_cases hk : z.2.1 = k
    · rw [if_pos hk]
      subst hk
      rw [e] at hv
      cases hv
      exact upd_same
    · rw [if_neg hk, List.append_nil, upd_ne]
      · exact hb
      · intro q
        subst q
        exact hk (ub _ e)
theorem Leav.new {H0 H : Hp} {D b : Addr} {zs : List (V × Int × Int)} {kvs : List (Key × V)} (h : Leav H0 H D zs kvs) (sm : Same H0 H) {z : V × Int × Int} (e : valV kvs (.inl z.2.1) = none) (nb : H b = none) :
    Leav H0 (upd (upd H b (.lst [z.1])) D (.dK (putK kvs (.inl z.2.1) (.ref b)))) D (zs ++ [z]) (putK kvs (.inl z.2.1) (.ref b)) := by
  have hDb : D ≠ b := ne_of_none h.d nb
  have n0 : H0 b = none := by
    cases q : H0 b with
    | none => rfl
    | some o =>
      rw [sm _ _ q] at nb
      cases nb
  refine ⟨upd_same, h.n, ?_, fun k hk y hy => ?_, fun k v hv => ?_⟩
  · rw [List.length_append]
    exact Nat.le_trans (length_putK _ _ _) (Nat.succ_le_succ h.len)
  · rw [valV_put] at hk
    by_cases q : (Sum.inl k : Key) = .inl z.2.1
    · rw [if_pos q] at hk
      cases hk
    · rw [if_neg q] at hk
      rcases List.mem_append.mp hy with hy | hy
      · exact h.no k hk y hy
      · rw [List.mem_singleton.mp hy]
        exact fun q2 => q (by rw [q2])
  · rw [valV_put] at hv
    by_cases q : (Sum.inl k : Key) = .inl z.2.1
    · rw [if_pos q] at hv
      cases hv
      have ek : k = z.2.1 := Sum.inl.inj q
      refine ⟨b, rfl, n0, ?_, fun k' hk' => ?_⟩
      · rw [upd_ne hDb.symm, upd_same, sel_snoc, if_pos ek.symm]
        have : sel zs k = [] := by
          unfold sel
          rw [List.filter_eq_nil_iff.mpr fun y hy => by rw [decide_eq_false (by rw [ek]; exact h.no _ e y hy)]; exact Bool.false_ne_true]
          rfl
        rw [this]
        rfl
      · rw [valV_put] at hk'
        by_cases q' : (Sum.inl k' : Key) = .inl z.2.1
        · rw [ek]
          exact Sum.inl.inj q'
        · rw [if_neg q'] at hk'
          obtain ⟨b', eb, _, hb, _⟩ := h.yes _ _ hk'
          cases eb
          rw [nb] at hb
          cases hb
    · rw [if_neg q] at hv
      obtain ⟨c, ec, nc, hc, uc⟩ := h.yes _ _ hv
      subst ec
      refine ⟨c, rfl, nc, ?_, fun k' hk' => ?_⟩
      · have h1 : c ≠ D := ne_of hc h.d (by intro q; cases q)
        rw [upd_ne h1, upd_ne (ne_of_none hc nb), sel_snoc, if_neg fun q2 => q (by rw [q2]), List.append_nil]
        exact hc
      · rw [valV_put] at hk'
        by_cases q' : (Sum.inl k' : Key) = .inl z.2.1
        · rw [if_pos q'] at hk'
          cases hk'
          rw [nb] at hc
          cases hc
        · rw [if_neg q'] at hk'
          exact uc _ hk'
theorem same_put' {H0 H : Hp} {a : Addr} {o : HO} (r : Same H0 H) (n : H0 a = none) : Same H0 (upd H a o) := Same.put r n
section
variable {P : Program} {w : World} {K : PySem.W.Frag} {mg : Str → Option Value} {base : Heap}
/-! leaving_edges -/
def spLeaving : Sp := fun vs H Q _ => ∃ (v : V) (zs : List (V × Int × Int)), vs = [v] ∧ E2s H v zs ∧ zs.length ≤ 1000 ∧ ∀ (D : Addr) (H' : Hp) (kvs : List (Key × V)), Same H H' → Leav H H' D zs kvs → Q (.ref D) H'
theorem sc_leaving : FnScope ["edges", "found", "edge"] ["edges"] (defScope (top 21)) := ⟨rfl, rfl, rfl, by decide +kernel, rfl, by decide +kernel, by decide +kernel⟩
theorem c_leaving {f : Addr} {fd : FuncData} (D : Df K mg "leaving_edges" (top 21) f fd) : C8.Cal P w K mg base 1 "leaving_edges" spLeaving [] := by
  refine cal_of D (fun _ _ _ _ _ _ us hl => match us, hl with | [_], _ => rfl) sc_leaving (fun vs H Q E h => ?_) (fun cdv A outer s H vs Q E hr h => ?_)
  · obtain ⟨v, zs, rfl, _⟩ := h
    rfl
  · obtain ⟨v, zs, rfl, ⟨a, rfl, ha, hz⟩, hlen, k⟩ := h
    have hu := hu_of hr
    refine ⟨_, pss_cons (ps_set (i := 1) sc_leaving.nd rfl (Or.inl rfl) pe_dnewK)
      (pss_cons (ps_for PassesOwn.never rfl (pi_list (pv 0)) (pg_name (i := 2) sc_leaving.nd rfl (Or.inl rfl))
        (pss_one (ps_if (pt_cmp (pc_din hu (pe_ix ix_tup (pv 2) pe_int (fun _ _ => rfl)) (pv 1)))
          (pss_one (ps_expr (pe_bm PySem.F.plainAttrs_list PySem.F.slot_list_append PySem.F.type_list_append mt_append (pe_dget hu (pv 1) (pe_ix ix_tup (pv 2) pe_int (fun _ _ => rfl)) (fun _ _ => rfl)) (pa_cons (pv 2) pa_nil))))
          (pss_one (ps_dput hu (pv 1) (pe_ix ix_tup (pv 2) pe_int (fun _ _ => rfl)) (pe_lst (pa_cons (pv 2) pa_nil)) rfl)))))
      (pss_one (ps_ret (pv 1)))), ?_⟩
    intro D hD
    refine ⟨_, rfl, a, rfl, ⟨_, SqL.of ((Same.one hD) _ _ ha)⟩, ?_⟩
    refine for_it walk_list (fun i σ H' => Same H H' ∧ ∃ x kvs, σ = [some (V.ref a), some (V.ref D), x] ∧ Leav H H' D (zs.take i) kvs) ⟨Same.one hD, none, [], rfl, upd_same, hD, Nat.zero_le _, (fun k _ z hz => nomatch hz), (fun k v hv => nomatch hv)⟩ (fun i σ H' _ p => SqL.of (p.1 _ _ ha)) (fun i x σ H1 H2 hi p y => ?_) fun σ H1 p => ?_
    · obtain ⟨rfl, hx⟩ := y
      obtain ⟨sm, x0, kvs, rfl, L⟩ := p
      obtain ⟨z, hzi, rfl⟩ := map_at hx
      obtain ⟨t, m, et, ht⟩ := (hz z (List.mem_of_getElem? hzi)).same sm
      rw [List.length_map] at hi
      have ets := take_succ_at hzi
      rw [et]
      refine ⟨_, rfl, _, _, _, _, rfl, rfl, SqT.of ht, atI_nat (j := 0) rfl, _, rfl, ?_⟩
      refine ⟨D, _, rfl, DGet.k (k := Sum.inl z.2.1) L.d, _, rfl, ?_⟩
      cases e : valV kvs (Sum.inl z.2.1) with
      | some v =>
        refine iteT ?_
        obtain ⟨b, rfl, nb, hb, ub⟩ := L.yes _ _ e
        refine ⟨_, rfl, _, rfl, _, _, _, _, rfl, rfl, SqT.of ht, atI_nat (j := 0) rfl, D, .ref b, rfl, e ▸ DGet.k (k := Sum.inl z.2.1) L.d, ?_⟩
        have hsl : (sel (zs.take i) z.2.1).length ≤ 1000 := Nat.le_trans (sel_len _ _) (by rw [List.length_take]; omega)
        refine ⟨.inl ⟨rfl, _, SqL.of hb⟩, _, rfl, b, _, _, rfl, rfl, hb, small' (by omega), ?_⟩
        refine ⟨same_put' sm nb, some (V.ref t), kvs, rfl, ?_⟩
        rw [ets, ← et]
        exact L.old e
      | none =>
        refine iteF ?_
        refine ⟨_, rfl, by show 1 ≤ sizeLine; decide, fun b hb => ?_⟩
        have hDb : D ≠ b := ne_of_none L.d hb
        refine ⟨_, rfl, _, rfl, _, _, _, _, rfl, rfl, SqT.of (by rw [upd_ne (ne_of_none ht hb)]; exact ht), atI_nat (j := 0) rfl, D, _, rfl, DPut.k (k := Sum.inl z.2.1) (by rw [upd_ne hDb]; exact L.d) (small' (by have := L.len; rw [List.length_take] at this; omega)), ?_⟩
        have L2 := L.new sm e hb
        refine ⟨same_put' (sm.trans (Same.one hb)) hD, some (V.ref t), putK kvs (.inl z.2.1) (.ref b), rfl, ?_⟩
        rw [ets]
        rw [← et]
        exact L2
    · obtain ⟨sm, x0, kvs, rfl, L⟩ := p
      rw [List.length_map, List.take_length] at L
      exact ⟨_, rfl, k D H1 kvs sm L⟩
end
end Rg

end
section
set_option Elab.async false
set_option linter.all false
set_option maxRecDepth 100000
set_option maxHeartbeats 4000000
namespace Rg
open PySem PySem.Spec PyProof.Rows L2
abbrev Z2 : Type := V × Int × Int
def o2 (z : Z2) : Int := z.2.1
def g2 (z : Z2) : Int := z.2.2
/-- a search by breadth: what is in line, how far it was looked at -/
structure Bfs (zs : List Z2) (st : Int) (ns : List Int) (m : Nat) : Prop where
  nd : ns.Nodup
  hd : st ∈ ns
  rt : ∀ n ∈ ns, Rt o2 g2 zs st n
  cl : ∀ (j : Nat) (k : Int), j < m → ns[j]? = some k → ∀ z ∈ zs, z.2.1 = k → z.2.2 ∈ ns
  sub : ∀ n ∈ ns, n ∈ st :: zs.map g2
theorem Bfs.start (zs : List Z2) (st : Int) : Bfs zs st [st] 0 := ⟨by simp, by simp, fun n hn => by rw [List.mem_singleton.mp hn]; exact Rt.refl st, fun j k hj => absurd hj (Nat.not_lt_zero _), fun n hn => by rw [List.mem_singleton.mp hn]; simp⟩
theorem Bfs.len {zs : List Z2} {st : Int} {ns : List Int} {m : Nat} (b : Bfs zs st ns m) : ns.length ≤ zs.length + 1 := by
  have := len_le_of_subset ns (st :: zs.map g2) b.nd b.sub
  rwa [List.length_cons, List.length_map] at this
/-- one node more -/
theorem Bfs.add {zs : List Z2} {st : Int} {ns : List Int} {m : Nat} (b : Bfs zs st ns m) {z : Z2} (hz : z ∈ zs) (ho : z.2.1 ∈ ns) (hn : z.2.2 ∉ ns) (hm : m ≤ ns.length) : Bfs zs st (ns ++ [z.2.2]) m := by
  refine ⟨?_, List.mem_append_left _ b.hd, fun n h => ?_, fun j k hj hk y hy e => ?_, fun n h => ?_⟩
  · rw [List.nodup_append]
    exact ⟨b.nd, by simp, fun x hx y hy e => hn (by rw [List.mem_singleton.mp hy] at e; rw [← e]; exact hx)⟩
  · rcases List.mem_append.mp h with h | h
    · exact b.rt n h
    · rw [List.mem_singleton.mp h]
      exact (b.rt _ ho).trans (Rt.edge (o := o2) (g := g2) hz)
  · rw [List.getElem?_append_left (Nat.lt_of_lt_of_le hj hm)] at hk
    exact List.mem_append_left _ (b.cl j k hj hk y hy e)
  · rcases List.mem_append.mp h with h | h
    · exact b.sub n h
    · rw [List.mem_singleton.mp h]
      exact List.mem_cons_of_mem _ (List.mem_map.mpr ⟨z, hz, rfl⟩)
/-- a node is done -/
theorem Bfs.next {zs : List Z2} {st : Int} {ns : List Int} {m : Nat} {k : Int} (b : Bfs zs st ns m) (hk : ns[m]? = some k) (h : ∀ z ∈ zs, z.2.1 = k → z.2.2 ∈ ns) : Bfs zs st ns (m + 1) := by
  refine ⟨b.nd, b.hd, b.rt, fun j k' hj hk' z hz e => ?_, b.sub⟩
  rcases Nat.lt_or_ge j m with q | q
  · exact b.cl j k' q hk' z hz e
  · have : j = m := by omega
    subst this
    rw [hk] at hk'
    cases hk'
    exact h z hz e
theorem Bfs.done {zs : List Z2} {st : Int} {ns : List Int} {m : Nat} (b : Bfs zs st ns m) (hm : ns.length ≤ m) (n : Int) : n ∈ ns ↔ Rt o2 g2 zs st n := by
  refine ⟨b.rt n, fun h => ?_⟩
  refine Rt.closed (P := fun x => x ∈ ns) (fun z hz h => ?_) b.hd h
  obtain ⟨j, hj, e⟩ := List.getElem_of_mem h
  exact b.cl j _ (by omega) (by rw [List.getElem?_eq_getElem hj, e]; rfl) z hz rfl
/-- a dict's keys -/
theorem keys_in {kvs : List (Key × V)} {ns : List Int} (h : kvs.map (·.1) = ns.map fun n => (Sum.inl n : Key)) (k : Int) : (valV kvs (.inl k)).isSome = decide (k ∈ ns) := by
  by_cases q : k ∈ ns
  · rw [decide_eq_true q]
    cases e : valV kvs (.inl k) with
    | some v => rfl
    | none =>
      refine absurd ?_ (valV_not e)
      rw [h]
      exact List.mem_map.mpr ⟨k, q, rfl⟩
  · rw [decide_eq_false q]
    cases e : valV kvs (.inl k) with
    | none => rfl
    | some v =>
      have := valV_in e
      rw [h] at this
      obtain ⟨n, hn, e⟩ := List.mem_map.mp this
      cases e
      exact absurd hn q
theorem keys_add {kvs : List (Key × V)} {ns : List Int} (h : kvs.map (·.1) = ns.map fun n => (Sum.inl n : Key)) {k : Int} (hk : k ∉ ns) (v : V) : putK kvs (.inl k) v = kvs ++ [(.inl k, v)] ∧ (kvs ++ [((.inl k : Key), v)]).map (·.1) = (ns ++ [k]).map fun n => (Sum.inl n : Key) := by
  refine ⟨putK_new v ?_, by rw [List.map_append, List.map_append, h]; rfl⟩
  have := keys_in h k
  rw [decide_eq_false hk] at this
  cases e : valV kvs (.inl k) with
  | none => rfl
  | some u => rw [e] at this; cases this
theorem Leav.same {H0 H H' : Hp} {D : Addr} {zs : List Z2} {kvs : List (Key × V)} (h : Leav H0 H D zs kvs) (s : Same H H') : Leav H0 H' D zs kvs := by
  refine ⟨s _ _ h.d, h.n, h.len, h.no, fun k v hv => ?_⟩
  obtain ⟨a, e, n, ha, u⟩ := h.yes k v hv
  exact ⟨a, e, n, s _ _ ha, u⟩
def outs (zs : List Z2) (k : Int) : List Z2 := zs.filter fun z => decide (z.2.1 = k)
theorem mem_outs {zs : List Z2} {k : Int} {z : Z2} : z ∈ outs zs k ↔ z ∈ zs ∧ z.2.1 = k := by
  unfold outs
  rw [List.mem_filter, decide_eq_true_eq]
/-- what leaving.get(k, []) gives: a list of the edges that leave k -/
theorem Leav.get {H0 H1 H2 : Hp} {D b : Addr} {zs : List Z2} {kvs : List (Key × V)} (h : Leav H0 H1 D zs kvs) (s : Same H1 H2) (hb : H2 b = some (.lst [])) (k : Int) :
    ∃ c, (valV kvs (.inl k)).getD (.ref b) = .ref c ∧ H2 c = some (.lst ((outs zs k).map (·.1))) ∧ (c = b ∨ ∃ o, H1 c = some o) := by
  cases e : valV kvs (.inl k) with
  | some v =>
    obtain ⟨a, ea, _, ha, _⟩ := h.yes k v e
    exact ⟨a, ea, s _ _ ha, .inr ⟨_, ha⟩⟩
  | none =>
    refine ⟨b, rfl, ?_, .inl rfl⟩
    have : outs zs k = [] := List.filter_eq_nil_iff.mpr fun z hz => by rw [decide_eq_false (h.no k e z hz)]; exact Bool.false_ne_true
    rw [this]
    exact hb
/-- the search's objects -/
structure RS (H1 : Hp) (ℓ F : Addr) (zs : List Z2) (st : Int) (ns : List Int) (kvs : List (Key × V)) (m : Nat) (H : Hp) : Prop where
  sm : Same H1 H
  line : H ℓ = some (.lst (ns.map V.int))
  found : H F = some (.dK kvs)
  keys : kvs.map (·.1) = ns.map fun n => (Sum.inl n : Key)
  b : Bfs zs st ns m
  le : m ≤ ns.length
theorem RS.kl {H1 H : Hp} {ℓ F : Addr} {zs : List Z2} {st : Int} {ns : List Int} {kvs : List (Key × V)} {m : Nat} (r : RS H1 ℓ F zs st ns kvs m H) : kvs.length = ns.length := by
  have := congrArg List.length r.keys
  rwa [List.length_map, List.length_map] at this
theorem RS.add {H1 H : Hp} {ℓ F : Addr} {zs : List Z2} {st : Int} {ns : List Int} {kvs : List (Key × V)} {m : Nat} (r : RS H1 ℓ F zs st ns kvs m H) (nl : H1 ℓ = none) (nF : H1 F = none) {z : Z2} (hz : z ∈ zs) (ho : z.2.1 ∈ ns) (hn : z.2.2 ∉ ns) (v : V) :
    RS H1 ℓ F zs st (ns ++ [z.2.2]) (kvs ++ [(.inl z.2.2, v)]) m (upd (upd H F (.dK (putK kvs (.inl z.2.2) v))) ℓ (.lst (ns.map V.int ++ [.int z.2.2]))) := by
  have hne : F ≠ ℓ := ne_of r.found r.line (by intro q; cases q)
  obtain ⟨e1, e2⟩ := keys_add r.keys hn v
  refine ⟨Same.put (Same.put r.sm nF) nl, by rw [upd_same, List.map_append]; rfl, by rw [upd_ne hne, upd_same, e1], e2, r.b.add hz ho hn r.le, by rw [List.length_append]; exact Nat.le_succ_of_le r.le⟩
section
variable {P : Program} {w : World} {K : PySem.W.Frag} {mg : Str → Option Value} {base : Heap}
/-! reached -/
def spReached : Sp := fun vs H Q _ => ∃ (v : V) (zs : List Z2) (st : Int), vs = [v, .int st] ∧ E2s H v zs ∧ zs.length ≤ 1000 ∧
  ∀ (F : Addr) (H' : Hp) (kvs : List (Key × V)) (ns : List Int), Same H H' → H F = none → H' F = some (.dK kvs) → kvs.map (·.1) = ns.map (fun n => (Sum.inl n : Key)) → ns.Nodup → ns.length ≤ 1001 → (∀ n, n ∈ ns ↔ Rt o2 g2 zs st n) → Q (.ref F) H'
theorem sc_reached : FnScope ["edges", "start", "leaving", "line", "found", "at", "edge"] ["edges", "start"] (defScope (top 23)) := ⟨rfl, rfl, rfl, by decide +kernel, rfl, by decide +kernel, by decide +kernel⟩
theorem c_reached {f : Addr} {fd : FuncData} (D : Df K mg "reached" (top 23) f fd) (B : Bl mg) (c1 : C8.Cal P w K mg base 1 "leaving_edges" spLeaving []) : C8.Cal P w K mg base 2 "reached" spReached [] := by
  refine cal_of D (fun _ _ _ _ _ _ us hl => match us, hl with | [_, _], _ => rfl) sc_reached (fun vs H Q E h => ?_) (fun cdv A outer s H vs Q E hr h => ?_)
  · obtain ⟨v, zs, st, rfl, _⟩ := h
    rfl
  · obtain ⟨v, zs, st, rfl, hz, hlen, k⟩ := h
    have hu := hu_of hr
    refine ⟨_, pss_cons (ps_asg (pe_tup (pa_cons (C8.pe_c c1 hr (by decide) rfl (pa_cons (pv 0) pa_nil)) (pa_cons (pe_lst (pa_cons (pv 1) pa_nil)) (pa_cons (pe_disp (pps_cons (pv 1) pe_bl pps_nil) (by rfl) (by rfl) (fun z => by cases z) (by decide)) (pa_cons pe_int pa_nil)))))
        (pg_tup rfl (pgs_cons (pg_name (i := 2) sc_reached.nd rfl (Or.inl rfl)) (pgs_cons (pg_name (i := 3) sc_reached.nd rfl (Or.inl rfl)) (pgs_cons (pg_name (i := 4) sc_reached.nd rfl (Or.inl rfl)) (pgs_cons (pg_name (i := 5) sc_reached.nd rfl (Or.inl rfl)) pgs_nil))))))
      (pss_cons (ps_while PassesOwn.never (pt_cmpR op_lt (pv 5) (pe_callB call_len_seq (by rfl) B.len boot_len (pa_cons (pv 3) pa_nil)) (nomark _))
        (pss_cons (ps_for PassesOwn.never rfl (pi_list (pe_dget2 hu (pv 2) (pe_ix ix_list (pv 3) (pv 5) (fun _ _ => rfl)) (pe_lst pa_nil) ⟨rfl, rfl, rfl, rfl⟩)) (pg_name (i := 6) sc_reached.nd rfl (Or.inl rfl))
            (pss_one (ps_if (pt_cmp (pc_dnotin hu (pe_ix ix_tup (pv 6) pe_int (fun _ _ => rfl)) (pv 4)))
              (pss_cons (ps_dput hu (pv 4) (pe_ix ix_tup (pv 6) pe_int (fun _ _ => rfl)) pe_bl rfl)
                (pss_one (ps_expr (pe_bm PySem.F.plainAttrs_list PySem.F.slot_list_append PySem.F.type_list_append mt_append (pv 3) (pa_cons (pe_ix ix_tup (pv 6) pe_int (fun _ _ => rfl)) pa_nil))))) pss_nil)))
          (pss_one (ps_aug (i := 5) sc_reached.nd rfl (Or.inl rfl) pe_int ip_add))))
      (pss_one (ps_ret (pv 4)))), ?_⟩
    refine ⟨_, rfl, v, zs, rfl, hz, hlen, fun L H1 lv sm1 LV => ?_⟩
    refine ⟨_, rfl, by show 1 ≤ sizeLine; decide, fun ℓ hℓ => ?_⟩
    intro F hF
    have hℓF : ℓ ≠ F := ne_of_none upd_same hF
    refine ⟨_, rfl, upd_same, [(.inl st, .bl true)], rfl, (by show 1 ≤ 15; decide), by show 4 ≤ sizeLine; decide, fun t ht => ?_⟩
    have hF1 : H1 F = none := by
      rw [upd_ne hℓF.symm] at hF
      exact hF
    refine ⟨t, _, rfl, SqT.of upd_same, rfl, _, _, rfl, _, _, rfl, _, _, rfl, _, _, rfl, rfl, ?_⟩
    have s0 : Same H1 (upd (upd (upd (upd H1 ℓ (.lst [.int st])) F (.dK [])) F (.dK (mergeK [] [(.inl st, .bl true)]))) t (.tup [.ref L, .ref ℓ, .ref F, .int 0])) :=
      Same.put (Same.put (Same.put (Same.one hℓ) hF1) hF1) (by
        have ht' := ht
        by_cases q : t = F
        · rw [q, upd_same] at ht'
          cases ht'
        · rw [upd_ne q, upd_ne q] at ht'
          by_cases q2 : t = ℓ
          · rw [q2, upd_same] at ht'
            cases ht'
          · rw [upd_ne q2] at ht'
            exact ht')
    have htF : F ≠ t := ne_of_none upd_same ht
    have htl : ℓ ≠ t := ne_of_none (by rw [upd_ne hℓF, upd_ne hℓF]; exact upd_same) ht
    have r0 : RS H1 ℓ F zs st [st] [(.inl st, .bl true)] 0 (upd (upd (upd (upd H1 ℓ (.lst [.int st])) F (.dK [])) F (.dK (mergeK [] [(.inl st, .bl true)]))) t (.tup [.ref L, .ref ℓ, .ref F, .int 0])) :=
      ⟨s0, by rw [upd_ne htl, upd_ne hℓF, upd_ne hℓF, upd_same]; rfl, by rw [upd_ne htF, upd_same]; rfl, rfl, Bfs.start zs st, Nat.zero_le _⟩
    generalize (upd (upd (upd (upd H1 ℓ (.lst [.int st])) F (.dK [])) F (.dK (mergeK [] [(.inl st, .bl true)]))) t (.tup [.ref L, .ref ℓ, .ref F, .int 0])) = H2 at r0
    refine ⟨fun m σ H' => ∃ ns kvs i x, m + i = zs.length + 1 ∧ σ = [some v, some (.int st), some (.ref L), some (.ref ℓ), some (.ref F), some (.int (i : Nat)), x] ∧ RS H1 ℓ F zs st ns kvs i H', ⟨zs.length + 1, [st], _, 0, none, rfl, rfl, r0⟩, ?_⟩
    rintro m σ H' ⟨ns, kvs, i, x, hm, rfl, r⟩
    refine ⟨_, rfl, _, rfl, ℓ, _, rfl, .inl (SqL.of r.line), _, _, rfl, rfl, _, rfl, ?_⟩
    rw [List.length_map]
    refine ite2 (fun hlt => ?_) (fun hlt => ?_)
    · have hi : i < ns.length := by have := of_decide_eq_true hlt; omega
      have hnl := r.b.len
      obtain ⟨kk, hk⟩ : ∃ kk, ns[i]? = some kk := ⟨_, List.getElem?_eq_getElem hi⟩
      refine ⟨fun σ' H'' => ∃ m', m' < m ∧ ∃ ns kvs i x, m' + i = zs.length + 1 ∧ σ' = [some v, some (.int st), some (.ref L), some (.ref ℓ), some (.ref F), some (.int (i : Nat)), x] ∧ RS H1 ℓ F zs st ns kvs i H'', fun σ' H'' q => q, ?_⟩
      have LV' := LV.same r.sm
      refine ⟨_, rfl, L, rfl, .inl ⟨lv, .inl LV'.d⟩, _, rfl, _, rfl, _, _, _, _, rfl, rfl, SqL.of r.line, atI_nat (j := i) (by rw [List.getElem?_map, hk]; rfl), ?_⟩
      refine ⟨by decide, fun b hb => ?_⟩
      have LV2 := LV'.same (Same.one (o := .lst []) hb)
      refine ⟨_, DGet.k (k := Sum.inl kk) LV2.d, ?_⟩
      obtain ⟨c, ec, hc, hcd⟩ := LV.get (r.sm.trans (Same.one (o := .lst []) hb)) upd_same kk
      rw [ec]
      refine ⟨c, rfl, ⟨_, SqL.of hc⟩, ?_⟩
      have hbl : ℓ ≠ b := ne_of_none r.line hb
      have hbF : F ≠ b := ne_of_none r.found hb
      have nb1 : H1 b = none := by
        cases q : H1 b with
        | none => rfl
        | some o => rw [r.sm _ _ q] at hb; cases hb
      have r1 : RS H1 ℓ F zs st ns kvs i (upd H' b (.lst [])) := ⟨Same.put r.sm nb1, by rw [upd_ne hbl]; exact r.line, by rw [upd_ne hbF]; exact r.found, r.keys, r.b, r.le⟩
      have hcl : ℓ ≠ c := by
        rcases hcd with e | ⟨o, e⟩
        · rw [e]; exact hbl
        · intro q
          rw [← q, hℓ] at e
          cases e
      have hcF : F ≠ c := by
        rcases hcd with e | ⟨o, e⟩
        · rw [e]; exact hbF
        · intro q
          rw [← q, hF1] at e
          cases e
      obtain ⟨a, ea, _, hze⟩ := hz
      refine for_it walk_list (fun j σ H'' => ∃ ns' kvs' x', σ = [some v, some (.int st), some (.ref L), some (.ref ℓ), some (.ref F), some (.int (i : Nat)), x'] ∧ RS H1 ℓ F zs st ns' kvs' i H'' ∧ H'' c = some (.lst ((outs zs kk).map (·.1))) ∧ ns'[i]? = some kk ∧ ∀ z ∈ (outs zs kk).take j, z.2.2 ∈ ns') ⟨ns, kvs, x, rfl, r1, hc, hk, fun z hz => nomatch hz⟩
        (fun j σ H'' _ p => SqL.of (let ⟨_, _, _, _, _, q, _⟩ := p; q)) (fun j y σ H3 H4 hj p yy => ?_) fun σ H3 p => ?_
      · obtain ⟨rfl, hy⟩ := yy
        obtain ⟨ns', kvs', x', rfl, r', hc', hk', hd'⟩ := p
        obtain ⟨z, hzj, rfl⟩ := map_at hy
        have hzo := List.mem_of_getElem? hzj
        obtain ⟨hzz, hzk⟩ := mem_outs.mp hzo
        obtain ⟨tt, mm, et, htt⟩ := (hze z hzz).same (sm1.trans r'.sm)
        have ets := take_succ_at hzj
        have hnl' := r'.b.len
        have hki : kk ∈ ns' := List.mem_of_getElem? hk'
        rw [et]
        refine ⟨_, rfl, _, _, _, _, rfl, rfl, SqT.of htt, atI_nat (j := 1) rfl, _, rfl, F, _, rfl, DGet.k (k := Sum.inl z.2.2) r'.found, _, rfl, ?_⟩
        rw [keys_in r'.keys]
        by_cases hin : z.2.2 ∈ ns'
        · rw [decide_eq_true hin]
          refine iteF ⟨ns', kvs', _, rfl, r', hc', hk', fun y hy => ?_⟩
          rw [ets] at hy
          rcases List.mem_append.mp hy with hy | hy
          · exact hd' y hy
          · rw [List.mem_singleton.mp hy]
            exact hin
        · rw [decide_eq_false hin]
          refine iteT ?_
          refine ⟨_, rfl, _, rfl, _, _, _, _, rfl, rfl, SqT.of htt, atI_nat (j := 1) rfl, F, _, rfl, DPut.k (k := Sum.inl z.2.2) r'.found (small' (by rw [r'.kl]; omega)), ?_⟩
          have hne : F ≠ ℓ := ne_of r'.found r'.line (by intro q; cases q)
          have hl2 : (upd H4 F (.dK (putK kvs' (.inl z.2.2) (.bl true)))) ℓ = some (.lst (ns'.map V.int)) := by rw [upd_ne hne.symm]; exact r'.line
          have htF2 : tt ≠ F := ne_of htt r'.found (by intro q; cases q)
          refine ⟨_, rfl, .inl ⟨rfl, _, SqL.of hl2⟩, _, rfl, _, _, _, _, rfl, rfl, SqT.of (by rw [upd_ne htF2]; exact htt), atI_nat (j := 1) rfl, ℓ, _, _, rfl, rfl, hl2, small' (by rw [List.length_map]; omega), ?_⟩
          refine ⟨ns' ++ [z.2.2], _, _, rfl, r'.add hℓ hF1 hzz (by rw [hzk]; exact hki) hin (.bl true), ?_, ?_, fun y hy => ?_⟩
          · rw [upd_ne hcl.symm, upd_ne hcF.symm]
            exact hc'
          · rw [List.getElem?_append_left (List.getElem?_eq_some_iff.mp hk').1]
            exact hk'
          · rw [ets] at hy
            rcases List.mem_append.mp hy with hy | hy
            · exact List.mem_append_left _ (hd' y hy)
            · rw [List.mem_singleton.mp hy]
              exact List.mem_append_right _ (List.mem_singleton.mpr rfl)
      · obtain ⟨ns', kvs', x', rfl, r', hc', hk', hd'⟩ := p
        rw [List.length_map, List.take_length] at hd'
        refine ⟨_, rfl, _, _, rfl, rfl, m - 1, by omega, ns', kvs', i + 1, x', by omega, ?_, ⟨r'.sm, r'.line, r'.found, r'.keys, r'.b.next hk' fun y hy e => hd' y (mem_outs.mpr ⟨hy, e⟩), (List.getElem?_eq_some_iff.mp hk').1⟩⟩
        rfl
    · have hge : ns.length ≤ i := by
        have : ¬ ((i : Int) < (ns.length : Nat)) := fun q => hlt (decide_eq_true q)
        omega
      exact ⟨_, rfl, k F H' kvs ns (sm1.trans r.sm) (by
        cases q : H F with
        | none => rfl
        | some o => rw [sm1 _ _ q] at hF1; cases hF1) r.found r.keys r.b.nd (by have := r.b.len; omega) (r.b.done hge)⟩
end
end Rg

end
section
set_option Elab.async false
set_option linter.all false
set_option maxRecDepth 100000
set_option maxHeartbeats 4000000
namespace Rg
open PySem PySem.Spec PyProof.Rows L2
/-- by which edge each node was found -/
def Bef (zs : List Z2) (ns : List Int) (kvs : List (Key × V)) : Prop :=
  ∀ (j : Nat) (n : Int), ns[j]? = some n → ∃ u, valV kvs (.inl n) = some u ∧ (j = 0 → u = .non) ∧ (0 < j → ∃ z ∈ zs, u = z.1 ∧ z.2.2 = n ∧ ∃ j', j' < j ∧ ns[j']? = some z.2.1)
theorem Bef.add {zs : List Z2} {ns : List Int} {kvs : List (Key × V)} (h : Bef zs ns kvs) {z : Z2} (hz : z ∈ zs) {i : Nat} (ho : ns[i]? = some z.2.1) (hn : z.2.2 ∉ ns) (e1 : putK kvs (.inl z.2.2) z.1 = kvs ++ [(.inl z.2.2, z.1)]) : Bef zs (ns ++ [z.2.2]) (kvs ++ [(.inl z.2.2, z.1)]) := by
  intro j n hj
  have hi := (List.getElem?_eq_some_iff.mp ho).1
  rw [← e1, valV_put]
  rcases Nat.lt_or_ge j ns.length with q | q
  · rw [List.getElem?_append_left q] at hj
    obtain ⟨u, a, b, c⟩ := h j n hj
    have hne : ¬ (Sum.inl n : Key) = .inl z.2.2 := fun e => hn (by rw [← Sum.inl.inj e]; exact List.mem_of_getElem? hj)
    rw [if_neg hne]
    refine ⟨u, a, b, fun hp => ?_⟩
    obtain ⟨y, hy, e, g, j', hj', o⟩ := c hp
    exact ⟨y, hy, e, g, j', hj', by rw [List.getElem?_append_left (by omega)]; exact o⟩
  · rw [List.getElem?_append_right q] at hj
    have e0 : j - ns.length = 0 := by
      cases q2 : j - ns.length with
      | zero => rfl
      | succ m => rw [q2] at hj; simp at hj
    rw [e0] at hj
    have hj : some z.2.2 = some n := hj
    cases hj
    rw [if_pos rfl]
    refine ⟨z.1, rfl, fun e => by omega, fun _ => ⟨z, hz, rfl, rfl, i, by omega, by rw [List.getElem?_append_left hi]; exact ho⟩⟩
section
variable {P : Program} {w : World} {K : PySem.W.Frag} {mg : Str → Option Value} {base : Heap}
/-! path -/
def spPath : Sp := fun vs H Q _ => ∃ (v : V) (zs : List Z2) (st x : Int) (G : Addr), vs = [v, .int st, .ref G] ∧ E2s H v zs ∧ zs.length ≤ 1000 ∧ H G = some (.dK [(.inl x, .bl true)]) ∧ Rt o2 g2 zs st x ∧
  ∀ (p : Addr) (H' : Hp) (es : List Z2), Same H H' → H p = none → Ch o2 g2 zs st es x → es.length ≤ zs.length + 1 → H' p = some (.lst (es.map (·.1))) → Q (.ref p) H'
theorem sc_path : FnScope ["edges", "start", "goals", "leaving", "line", "before", "at", "here", "found", "edge"] ["edges", "start", "goals"] (defScope (top 22)) := ⟨rfl, rfl, rfl, by decide +kernel, rfl, by decide +kernel, by decide +kernel⟩
theorem c_path {f : Addr} {fd : FuncData} (D : Df K mg "path" (top 22) f fd) (B : Bl mg) (c1 : C8.Cal P w K mg base 1 "leaving_edges" spLeaving []) : C8.Cal P w K mg base 2 "path" spPath [] := by
  refine cal_of D (fun _ _ _ _ _ _ us hl => match us, hl with | [_, _, _], _ => rfl) sc_path (fun vs H Q E h => ?_) (fun cdv A outer s H vs Q E hr h => ?_)
  · obtain ⟨v, zs, st, x, G, rfl, _⟩ := h
    rfl
  · obtain ⟨v, zs, st, gx, G, rfl, hz, hlen, hG, hrt, k⟩ := h
    have hu := hu_of hr
    refine ⟨_, pss_cons (ps_asg (pe_tup (pa_cons (C8.pe_c c1 hr (by decide) rfl (pa_cons (pv 0) pa_nil)) (pa_cons (pe_lst (pa_cons (pv 1) pa_nil)) (pa_cons (pe_disp (pps_cons (pv 1) pe_non pps_nil) (by rfl) (by rfl) (fun z => by cases z) (by decide)) (pa_cons pe_int pa_nil)))))
        (pg_tup rfl (pgs_cons (pg_name (i := 3) sc_path.nd rfl (Or.inl rfl)) (pgs_cons (pg_name (i := 4) sc_path.nd rfl (Or.inl rfl)) (pgs_cons (pg_name (i := 5) sc_path.nd rfl (Or.inl rfl)) (pgs_cons (pg_name (i := 6) sc_path.nd rfl (Or.inl rfl)) pgs_nil))))))
      (pss_cons (ps_while PassesOwn.never (pt_cmpR op_lt (pv 6) (pe_callB call_len_seq (by rfl) B.len boot_len (pa_cons (pv 4) pa_nil)) (nomark _))
        (pss_cons (ps_set (i := 7) sc_path.nd rfl (Or.inl rfl) (pe_ix ix_list (pv 4) (pv 6) (fun _ _ => rfl)))
        (pss_cons (ps_if (pt_cmp (pc_din hu (pv 7) (pv 2)))
          (pss_cons (ps_set (i := 8) sc_path.nd rfl (Or.inl rfl) (pe_lst pa_nil))
            (pss_cons (ps_while PassesOwn.never (pt_cmp (pc_notN (pe_dget hu (pv 5) (pv 7) (fun _ _ => rfl))))
              (pss_cons (ps_expr (pe_bm PySem.F.plainAttrs_list PySem.F.slot_list_append PySem.F.type_list_append mt_append (pv 8) (pa_cons (pe_dget hu (pv 5) (pv 7) (fun _ _ => rfl)) pa_nil)))
                (pss_one (ps_set (i := 7) sc_path.nd rfl (Or.inl rfl) (pe_ix ix_tup (pe_dget hu (pv 5) (pv 7) (fun _ _ => rfl)) pe_int (fun _ _ => rfl))))))
              (pss_one (ps_ret (pe_revL (pv 8)))))) pss_nil)
        (pss_cons (ps_for PassesOwn.never rfl (pi_list (pe_dget2 hu (pv 3) (pv 7) (pe_lst pa_nil) ⟨rfl, rfl, rfl, rfl⟩)) (pg_name (i := 9) sc_path.nd rfl (Or.inl rfl))
            (pss_one (ps_if (pt_cmp (pc_dnotin hu (pe_ix ix_tup (pv 9) pe_int (fun _ _ => rfl)) (pv 5)))
              (pss_cons (ps_dput hu (pv 5) (pe_ix ix_tup (pv 9) pe_int (fun _ _ => rfl)) (pv 9) rfl)
                (pss_one (ps_expr (pe_bm PySem.F.plainAttrs_list PySem.F.slot_list_append PySem.F.type_list_append mt_append (pv 4) (pa_cons (pe_ix ix_tup (pv 9) pe_int (fun _ _ => rfl)) pa_nil))))) pss_nil)))
          (pss_one (ps_aug (i := 6) sc_path.nd rfl (Or.inl rfl) pe_int ip_add))))))
      (pss_one (ps_ret pe_non))), ?_⟩
    refine ⟨_, rfl, v, zs, rfl, hz, hlen, fun L H1 lv sm1 LV => ?_⟩
    refine ⟨_, rfl, by show 1 ≤ sizeLine; decide, fun ℓ hℓ => ?_⟩
    intro F hF
    have hℓF : ℓ ≠ F := ne_of_none upd_same hF
    refine ⟨_, rfl, upd_same, [(.inl st, .non)], rfl, (by show 1 ≤ 15; decide), by show 4 ≤ sizeLine; decide, fun t ht => ?_⟩
    have hF1 : H1 F = none := by
      rw [upd_ne hℓF.symm] at hF
      exact hF
    refine ⟨t, _, rfl, SqT.of upd_same, rfl, _, _, rfl, _, _, rfl, _, _, rfl, _, _, rfl, rfl, ?_⟩
    have s0 : Same H1 (upd (upd (upd (upd H1 ℓ (.lst [.int st])) F (.dK [])) F (.dK (mergeK [] [(.inl st, .non)]))) t (.tup [.ref L, .ref ℓ, .ref F, .int 0])) :=
      Same.put (Same.put (Same.put (Same.one hℓ) hF1) hF1) (by
        have ht' := ht
        by_cases q : t = F
        · rw [q, upd_same] at ht'
          cases ht'
        · rw [upd_ne q, upd_ne q] at ht'
          by_cases q2 : t = ℓ
          · rw [q2, upd_same] at ht'
            cases ht'
          · rw [upd_ne q2] at ht'
            exact ht')
    have htF : F ≠ t := ne_of_none upd_same ht
    have htl : ℓ ≠ t := ne_of_none (by rw [upd_ne hℓF, upd_ne hℓF]; exact upd_same) ht
    have r0 : RS H1 ℓ F zs st [st] [(.inl st, .non)] 0 (upd (upd (upd (upd H1 ℓ (.lst [.int st])) F (.dK [])) F (.dK (mergeK [] [(.inl st, .non)]))) t (.tup [.ref L, .ref ℓ, .ref F, .int 0])) :=
      ⟨s0, by rw [upd_ne htl, upd_ne hℓF, upd_ne hℓF, upd_same]; rfl, by rw [upd_ne htF, upd_same]; rfl, rfl, Bfs.start zs st, Nat.zero_le _⟩
    generalize (upd (upd (upd (upd H1 ℓ (.lst [.int st])) F (.dK [])) F (.dK (mergeK [] [(.inl st, .non)]))) t (.tup [.ref L, .ref ℓ, .ref F, .int 0])) = H2 at r0
    have b0 : Bef zs [st] [(.inl st, .non)] := fun j n hj => by
      cases j with
      | zero =>
        have hj : some st = some n := hj
        cases hj
        exact ⟨.non, valV_pos rfl, fun _ => rfl, fun h => absurd h (Nat.lt_irrefl 0)⟩
      | succ j => simp at hj
    have nG : ∀ {H' : Hp}, Same H1 H' → H' G = some (.dK [(.inl gx, .bl true)]) := fun s => s _ _ (sm1 _ _ hG)
    refine ⟨fun m σ H' => ∃ ns kvs i x y z, m + i = zs.length + 1 ∧ σ = [some v, some (.int st), some (.ref G), some (.ref L), some (.ref ℓ), some (.ref F), some (.int (i : Nat)), x, y, z] ∧ RS H1 ℓ F zs st ns kvs i H' ∧ Bef zs ns kvs ∧ ns[0]? = some st ∧ ∀ j n, j < i → ns[j]? = some n → n ≠ gx, ⟨zs.length + 1, [st], _, 0, none, none, none, rfl, rfl, r0, b0, rfl, fun j n hj => absurd hj (Nat.not_lt_zero _)⟩, ?_⟩
    rintro m σ H' ⟨ns, kvs, i, x7, x8, x9, hm, rfl, r, bf, h0, hno⟩
    refine ⟨_, rfl, _, rfl, ℓ, _, rfl, .inl (SqL.of r.line), _, _, rfl, rfl, _, rfl, ?_⟩
    rw [List.length_map]
    refine ite2 (fun hlt => ?_) (fun hlt => ?_)
    · have hi : i < ns.length := by have := of_decide_eq_true hlt; omega
      have hnl := r.b.len
      obtain ⟨kk, hk⟩ : ∃ kk, ns[i]? = some kk := ⟨_, List.getElem?_eq_getElem hi⟩
      refine ⟨fun σ' H'' => ∃ m', m' < m ∧ ∃ ns kvs i x y z, m' + i = zs.length + 1 ∧ σ' = [some v, some (.int st), some (.ref G), some (.ref L), some (.ref ℓ), some (.ref F), some (.int (i : Nat)), x, y, z] ∧ RS H1 ℓ F zs st ns kvs i H'' ∧ Bef zs ns kvs ∧ ns[0]? = some st ∧ ∀ j n, j < i → ns[j]? = some n → n ≠ gx, fun σ' H'' q => q, ?_⟩
      have LV' := LV.same r.sm
      refine ⟨_, rfl, _, rfl, _, _, _, _, rfl, rfl, SqL.of r.line, atI_nat (j := i) (by rw [List.getElem?_map, hk]; rfl), ?_⟩
      refine ⟨_, rfl, _, rfl, G, _, rfl, DGet.k (k := Sum.inl kk) (nG r.sm), _, rfl, ?_⟩
      by_cases hgx : gx = kk
      · subst hgx
        rw [valV_pos rfl]
        refine iteT ?_
        refine ⟨by decide, fun p hp => ?_⟩
        have hpF : F ≠ p := ne_of_none r.found hp
        have hpH : H p = none := by
          cases q : H p with
          | none => rfl
          | some o => rw [(sm1.trans r.sm) _ _ q] at hp; cases hp
        refine ⟨fun m σ H'' => ∃ j n es y, m = j ∧ σ = [some v, some (.int st), some (.ref G), some (.ref L), some (.ref ℓ), some (.ref F), some (.int (i : Nat)), some (.int n), some (.ref p), y] ∧ ns[j]? = some n ∧ Ch o2 g2 zs n es gx ∧ es.length + j ≤ ns.length ∧ H'' p = some (.lst ((es.map (·.1)).reverse)) ∧ Same H' H'', ⟨i, i, gx, [], _, rfl, rfl, hk, rfl, (by show 0 + i ≤ _; omega), upd_same, Same.one hp⟩, ?_⟩
        rintro j σ H'' ⟨_, n, es, y, rfl, rfl, hj, hch, hle, hpl, sm2⟩
        obtain ⟨u, hu1, hu0, huz⟩ := bf j n hj
        have dg : DGet H'' F (.int n) (some u) := hu1 ▸ DGet.k (k := Sum.inl n) (sm2 _ _ r.found)
        refine ⟨_, rfl, _, rfl, F, u, rfl, dg, _, rfl, ?_⟩
        cases j with
        | zero =>
          rw [hu0 rfl]
          refine iteF ?_
          rw [h0] at hj
          cases hj
          refine ⟨_, rfl, p, _, rfl, SqL.of hpl, fun p2 hp2 => ?_⟩
          rw [List.reverse_reverse]
          refine k p2 _ es ((sm1.trans r.sm).trans (sm2.trans (Same.one hp2))) ?_ hch (by omega) upd_same
          cases q : H p2 with
          | none => rfl
          | some o => rw [((sm1.trans r.sm).trans sm2) _ _ q] at hp2; cases hp2
        | succ j =>
          obtain ⟨z, hzz, euz, hzg, j', hj', ho⟩ := huz (Nat.succ_pos j)
          subst euz
          obtain ⟨a, ea, _, hze⟩ := hz
          obtain ⟨tt, mm, et, htt⟩ := (hze z hzz).same (sm1.trans (r.sm.trans sm2))
          have hne : decide (z.1 = V.non) = false := decide_eq_false (by rw [et]; intro q; cases q)
          rw [hne]
          refine iteT ⟨fun σ' H4 => ∃ m', m' < j + 1 ∧ ∃ j n es y, m' = j ∧ σ' = [some v, some (.int st), some (.ref G), some (.ref L), some (.ref ℓ), some (.ref F), some (.int (i : Nat)), some (.int n), some (.ref p), y] ∧ ns[j]? = some n ∧ Ch o2 g2 zs n es gx ∧ es.length + j ≤ ns.length ∧ H4 p = some (.lst ((es.map (·.1)).reverse)) ∧ Same H' H4, fun σ' H4 q => q, ?_⟩
          refine ⟨_, rfl, .inl ⟨rfl, _, SqL.of hpl⟩, _, rfl, _, rfl, F, z.1, rfl, dg, p, _, _, rfl, rfl, hpl, small' (by rw [List.length_reverse, List.length_map]; omega), ?_⟩
          have nH' : H' p = none := hp
          have sm3 : Same H' (upd H'' p (.lst ((es.map (·.1)).reverse ++ [z.1]))) := Same.put sm2 nH'
          have dg2 : DGet (upd H'' p (.lst ((es.map (·.1)).reverse ++ [z.1]))) F (.int n) (some z.1) := hu1 ▸ DGet.k (k := Sum.inl n) (sm3 _ _ r.found)
          have htp : tt ≠ p := ne_of htt hpl (by intro q; cases q)
          refine ⟨_, rfl, _, rfl, F, z.1, rfl, dg2, _, _, _, _, et, rfl, SqT.of (by rw [upd_ne htp]; exact htt), atI_nat (j := 0) rfl, ?_⟩
          refine ⟨j', hj', j', z.2.1, z :: es, y, rfl, rfl, ho, ⟨hzz, rfl, ?_⟩, by rw [List.length_cons]; omega, ?_, sm3⟩
          · show Ch o2 g2 zs z.2.2 es gx
            rw [hzg]
            exact hch
          · rw [upd_same, List.map_cons, List.reverse_cons]
      · rw [valV_neg (fun e => hgx (Sum.inl.inj e)), valV_nil]
        refine iteF ?_
        refine ⟨_, rfl, L, rfl, .inl ⟨lv, .inl LV'.d⟩, _, rfl, ?_⟩
        refine ⟨by decide, fun b hb => ?_⟩
        have LV2 := LV'.same (Same.one (o := .lst []) hb)
        refine ⟨_, DGet.k (k := Sum.inl kk) LV2.d, ?_⟩
        obtain ⟨c, ec, hc, hcd⟩ := LV.get (r.sm.trans (Same.one (o := .lst []) hb)) upd_same kk
        rw [ec]
        refine ⟨c, rfl, ⟨_, SqL.of hc⟩, ?_⟩
        have hbl : ℓ ≠ b := ne_of_none r.line hb
        have hbF : F ≠ b := ne_of_none r.found hb
        have nb1 : H1 b = none := by
          cases q : H1 b with
          | none => rfl
          | some o => rw [r.sm _ _ q] at hb; cases hb
        have r1 : RS H1 ℓ F zs st ns kvs i (upd H' b (.lst [])) := ⟨Same.put r.sm nb1, by rw [upd_ne hbl]; exact r.line, by rw [upd_ne hbF]; exact r.found, r.keys, r.b, r.le⟩
        have hcl : ℓ ≠ c := by
          rcases hcd with e | ⟨o, e⟩
          · rw [e]; exact hbl
          · intro q
            rw [← q, hℓ] at e
            cases e
        have hcF : F ≠ c := by
          rcases hcd with e | ⟨o, e⟩
          · rw [e]; exact hbF
          · intro q
            rw [← q, hF1] at e
            cases e
        obtain ⟨a, ea, _, hze⟩ := hz
        refine for_it walk_list (fun j σ H'' => ∃ ns' kvs' x', σ = [some v, some (.int st), some (.ref G), some (.ref L), some (.ref ℓ), some (.ref F), some (.int (i : Nat)), some (.int kk), x8, x'] ∧ RS H1 ℓ F zs st ns' kvs' i H'' ∧ H'' c = some (.lst ((outs zs kk).map (·.1))) ∧ ns'[i]? = some kk ∧ (∀ z ∈ (outs zs kk).take j, z.2.2 ∈ ns') ∧ Bef zs ns' kvs' ∧ ns'[0]? = some st ∧ ∀ j n, j < i → ns'[j]? = some n → n ≠ gx) ⟨ns, kvs, x9, rfl, r1, hc, hk, fun z hz => (nomatch hz), bf, h0, hno⟩
          (fun j σ H'' _ p => SqL.of (let ⟨_, _, _, _, _, q, _⟩ := p; q)) (fun j y σ H3 H4 hj p yy => ?_) fun σ H3 p => ?_
        · obtain ⟨rfl, hy⟩ := yy
          obtain ⟨ns', kvs', x', rfl, r', hc', hk', hd', bf', h0', hno'⟩ := p
          obtain ⟨z, hzj, rfl⟩ := map_at hy
          have hzo := List.mem_of_getElem? hzj
          obtain ⟨hzz, hzk⟩ := mem_outs.mp hzo
          obtain ⟨tt, mm, et, htt⟩ := (hze z hzz).same (sm1.trans r'.sm)
          have ets := take_succ_at hzj
          have hnl' := r'.b.len
          have hki : kk ∈ ns' := List.mem_of_getElem? hk'
          rw [et]
          refine ⟨_, rfl, _, _, _, _, rfl, rfl, SqT.of htt, atI_nat (j := 1) rfl, _, rfl, F, _, rfl, DGet.k (k := Sum.inl z.2.2) r'.found, _, rfl, ?_⟩
          rw [keys_in r'.keys]
          by_cases hin : z.2.2 ∈ ns'
          · rw [decide_eq_true hin]
            refine iteF ⟨ns', kvs', _, rfl, r', hc', hk', fun y hy => ?_, bf', h0', hno'⟩
            rw [ets] at hy
            rcases List.mem_append.mp hy with hy | hy
            · exact hd' y hy
            · rw [List.mem_singleton.mp hy]
              exact hin
          · rw [decide_eq_false hin]
            refine iteT ?_
            refine ⟨_, rfl, _, rfl, _, rfl, _, _, _, _, rfl, rfl, SqT.of htt, atI_nat (j := 1) rfl, F, _, rfl, DPut.k (k := Sum.inl z.2.2) r'.found (small' (by rw [r'.kl]; omega)), ?_⟩
            have hne : F ≠ ℓ := ne_of r'.found r'.line (by intro q; cases q)
            have hl2 : (upd H4 F (.dK (putK kvs' (.inl z.2.2) (.ref tt)))) ℓ = some (.lst (ns'.map V.int)) := by rw [upd_ne hne.symm]; exact r'.line
            have htF2 : tt ≠ F := ne_of htt r'.found (by intro q; cases q)
            refine ⟨_, rfl, .inl ⟨rfl, _, SqL.of hl2⟩, _, rfl, _, _, _, _, rfl, rfl, SqT.of (by rw [upd_ne htF2]; exact htt), atI_nat (j := 1) rfl, ℓ, _, _, rfl, rfl, hl2, small' (by rw [List.length_map]; omega), ?_⟩
            obtain ⟨e1, _⟩ := keys_add r'.keys hin z.1
            refine ⟨ns' ++ [z.2.2], _, _, rfl, et ▸ r'.add hℓ hF1 hzz (by rw [hzk]; exact hki) hin z.1, ?_, ?_, fun y hy => ?_, bf'.add hzz (by rw [hzk]; exact hk') hin e1, ?_, fun j n hji hjn => ?_⟩
            · rw [upd_ne hcl.symm, upd_ne hcF.symm]
              exact hc'
            · rw [List.getElem?_append_left (List.getElem?_eq_some_iff.mp hk').1]
              exact hk'
            · rw [ets] at hy
              rcases List.mem_append.mp hy with hy | hy
              · exact List.mem_append_left _ (hd' y hy)
              · rw [List.mem_singleton.mp hy]
                exact List.mem_append_right _ (List.mem_singleton.mpr rfl)
            · rw [List.getElem?_append_left (List.getElem?_eq_some_iff.mp h0').1]
              exact h0'
            · have hil := (List.getElem?_eq_some_iff.mp hk').1
              rw [List.getElem?_append_left (by omega)] at hjn
              exact hno' j n hji hjn
        · obtain ⟨ns', kvs', x', rfl, r', hc', hk', hd', bf', h0', hno'⟩ := p
          rw [List.length_map, List.take_length] at hd'
          refine ⟨_, rfl, _, _, rfl, rfl, m - 1, by omega, ns', kvs', i + 1, some (.int kk), x8, x', by omega, ?_, ⟨r'.sm, r'.line, r'.found, r'.keys, r'.b.next hk' fun y hy e => hd' y (mem_outs.mpr ⟨hy, e⟩), (List.getElem?_eq_some_iff.mp hk').1⟩, bf', h0', fun j n hji hjn => ?_⟩
          · rfl
          · rcases Nat.lt_or_ge j i with q | q
            · exact hno' j n q hjn
            · have : j = i := by omega
              subst this
              rw [hk'] at hjn
              cases hjn
              exact fun e => hgx e.symm
    · have hge : ns.length ≤ i := by
        have : ¬ ((i : Int) < (ns.length : Nat)) := fun q => hlt (decide_eq_true q)
        omega
      exfalso
      obtain ⟨j, hj, e⟩ := List.getElem_of_mem ((r.b.done hge gx).mpr hrt)
      exact hno j gx (by omega) (by rw [List.getElem?_eq_getElem hj, e]) rfl
end
end Rg

end
section
set_option Elab.async false
set_option linter.all false
set_option maxRecDepth 100000
set_option maxHeartbeats 4000000
/-! {**a, **b} -/
namespace Rg
open PySem PySem.Spec PyProof.Rows L2
section
variable {prog : Program} {w : World} {K : Type} [DecidableEq K] {knd : PySem.KeyKind prog w K} {A : Around} {E : Value → Shared → Prop} {s : Shared}
theorem dictPut_ok {d : Addr} {kvs : List (K × Value)} {k : K} {key v : Value} {Q : Unit → Shared → Prop} (hkey : knd.is k key = true) (hm : s.heap.DictOf knd d kvs)
    (hQ : ∀ h', h'.DictOf knd d (stored kvs k v) → Heap.SameBut d s.heap h' → Q () { s with heap := h' }) (hsz : kvs.length ≤ sizeLine) :
    wpAny (model prog w) A (dictPut d (knd.hash k) key v) Q E s := by
  obtain ⟨o, es, ep, ho, hc, hd, hk, hp, hn⟩ := hm
  have hes : es.size ≤ sizeLine := by have e1 := hp.length; have e2 : es.toList.length = es.size := by simp
                                      omega
  unfold dictPut
  refine wpAny_bind (wpAny_dictFind_of hkey ho hd hk ?_)
  have hidx : (es.findIdx? fun e => knd.is k e.key) = kvs.findIdx? fun kv => decide (kv.1 = k) := by
    rw [← hp.findIdx k]; obtain ⟨l⟩ := es; simp
  cases hi : es.findIdx? fun e => knd.is k e.key with
  | some i =>
    refine wpAny_updateDict ho hd (hQ _ ⟨_, _, ep, Heap.get?_update_self _ ho (Obj.isFreed_of_dict (Obj.data_mapDict hd _)),
      hc.mapDict _, Obj.data_mapDict hd _, hk.modify _ _, ?_, ?_⟩ (Heap.SameBut.update ..))
    · rw [stored, if_pos (any_of_findIdx_some (hidx ▸ hi))]
      have hl : (es.toList.findIdx? fun e => knd.is k e.key) = some i := by rw [← hi]; obtain ⟨l⟩ := es; simp
      have := hp.modify hn hl v
      obtain ⟨l⟩ := es
      simpa using this
    · rw [stored, if_pos (any_of_findIdx_some (hidx ▸ hi)), keys_map_store]; exact hn
  | none =>
    have hnot : k ∉ kvs.map (·.1) := not_mem_of_findIdx_none (hidx ▸ hi)
    have hany : ¬ (kvs.any fun kv => decide (kv.1 = k)) = true := by
      rw [List.any_eq_true]; rintro ⟨kv, hkv, he⟩
      exact hnot (List.mem_map.mpr ⟨kv, hkv, of_decide_eq_true he⟩)
    refine wpAny_updateDictKeys (hz := hes) ho hd (hQ _ ⟨_, _, ep + 1, Heap.get?_update_self _ ho (Obj.isFreed_of_dict (Obj.data_mapDictKeys hd _)),
      hc.mapDictKeys _, Obj.data_mapDictKeys hd _, hk.push hkey _, ?_, ?_⟩ (Heap.SameBut.update ..))
    · rw [stored, if_neg hany]
      have := hp.append hkey (knd.hash k) v
      obtain ⟨l⟩ := es
      simpa using this
    · rw [stored, if_neg hany, List.map_append, List.nodup_append]
      refine ⟨hn, by simp, ?_⟩
      intro a ha b hb
      simp only [List.map_cons, List.map_nil, List.mem_singleton] at hb
      subst hb
      exact fun e => hnot (e ▸ ha)
theorem mergeMapping_ok {d o : Addr} {kvs more : List (Key × Value)} {Q : Unit → Shared → Prop} (hdo : d ≠ o) (hoS : (o == sysModules) = false) (hd : s.heap.DictOf (mixKind prog w) d kvs) (ho : s.heap.DictOf (mixKind prog w) o more)
    (hQ : ∀ h', h'.DictOf (mixKind prog w) d (merged kvs more) → Heap.SameBut d s.heap h' → Q () { s with heap := h' })
    (hsz : kvs.length + more.length ≤ sizeLine) : wpAny (model prog w) A (mergeMapping d (.ref o) false) Q E s := by
  obtain ⟨od, esd, epd, hod, hcd, hdd, hkd, hpd, hnd⟩ := id hd
  obtain ⟨oo, eso, epo, hoo, hco, hdo', hko, hpo, hno⟩ := id ho
  have hlen : more.length = eso.size := by have := hpo.length; simpa using this.symm
  unfold mergeMapping
  refine wpAny_bind (wpAny_isInstance ho.typeIs isSubtype_dict_dict ?_)
  simp only [if_true]
  refine wpAny_bind (wpAny_specialOf ho.typeIs F.slot_dict_iter.lookup ?_)
  refine wpAny_bind (wpAny_pure ?_)
  simp only [beq_self_eq_true]
  rw [hoS]
  simp only [Bool.false_eq_true, if_false]
  have tail : wpAny (model prog w) A (do
      let es ← dictEntries o
      let epoch ← dictEpoch o
      forIn (List.range es.size) PUnit.unit fun i __s => do
        let l' ← dictEntries o
        match l'[i]? with
          | some e => do
            holding [e.key, e.val] (dictPut d e.hash e.key e.val)
            let ep' ← dictEpoch o
            if (ep' != epoch) = true then do
                (unsupported "dict.changed-during-merge" : Sem PUnit)
                pure (ForInStep.yield PUnit.unit)
              else pure (ForInStep.yield PUnit.unit)
          | _ => do
            (unsupported "dict.changed-during-merge" : Sem PUnit)
            pure (ForInStep.yield PUnit.unit)
      pure ()) Q E s := by
    refine wpAny_bind (wpAny_dictEntries hoo hdo' ?_)
    refine wpAny_bind (wpAny_dictEpoch hoo hdo' ?_)
    refine wpAny_bind ?_
    refine wpAny_forIn_list _
      (fun rest _ s' => ∃ h' i, s' = { s with heap := h' } ∧ rest = List.range' i (eso.size - i) ∧ i ≤ eso.size ∧ h'.DictOf (mixKind prog w) d (merged kvs (more.take i)) ∧ h'.get? o = some oo ∧ Heap.SameBut d s.heap h')
      _ ?_ ?_ _ _ ⟨s.heap, 0, rfl, by rw [List.range_eq_range', Nat.sub_zero], Nat.zero_le _, by simpa [merged] using hd, hoo, Heap.SameBut.refl _ _⟩
    · rintro x rest b s' ⟨h', i, rfl, hr, hi, hd', hoo', hs'⟩
      have hlt : i < eso.size := by
        rcases Nat.lt_or_ge i eso.size with h | h
        · exact h
        · rw [Nat.sub_eq_zero_of_le h] at hr; simp at hr
      obtain ⟨rfl, hrest⟩ : x = i ∧ rest = List.range' (i + 1) (eso.size - (i + 1)) := by
        have e : eso.size - i = (eso.size - (i + 1)) + 1 := by omega
        rw [e, List.range'_succ] at hr
        injection hr with h1 h2
        exact ⟨h1, h2⟩
      refine wpAny_bind (wpAny_dictEntries hoo' hdo' ?_)
      rw [Array.getElem?_eq_getElem hlt]
      obtain ⟨kv, hkv⟩ : ∃ kv, more[x]? = some kv := ⟨more[x]'(by rw [hlen]; exact hlt), List.getElem?_eq_getElem _⟩
      obtain ⟨k, v⟩ := kv
      obtain ⟨hkey, hval⟩ := hpo.get? (e := eso[x]) (by simp [hlt]) hkv
      obtain ⟨k', hkey', hhash⟩ := hko eso[x] (Array.getElem_mem hlt)
      obtain rfl : k' = k := (mixKind prog w).inj _ _ _ hkey' hkey
      show wpAny _ _ (holding [eso[x].key, eso[x].val] (dictPut d eso[x].hash eso[x].key eso[x].val) >>= _) _ _ _
      rw [hhash, hval]
      have hmx : (merged kvs (more.take x)).length ≤ sizeLine := by
        have e1 := merged_length_le kvs (more.take x)
        have e2 : (more.take x).length ≤ more.length := by rw [List.length_take]; omega
        omega
      refine wpAny_bind (wpAny_holding (dictPut_ok hkey hd' (fun h'' hd'' hs'' => ?_) hmx))
      have hoo'' : h''.get? o = some oo := (hs''.2 o (Ne.symm hdo)).trans hoo'
      refine wpAny_bind (wpAny_dictEpoch hoo'' hdo' ?_)
      rw [if_neg (by simp)]
      exact wpAny_pure ⟨h'', x + 1, rfl, hrest, hlt, by rw [merged_take_succ kvs more x (k', v) hkv]; exact hd'', hoo'', hs'.trans hs''⟩
    · rintro b s' ⟨h', i, rfl, hr, hi, hd', hoo', hs'⟩
      have hin : i = eso.size := by
        rcases Nat.lt_or_ge i eso.size with h | h
        · have e : eso.size - i = (eso.size - (i + 1)) + 1 := by omega
          rw [e, List.range'_succ] at hr; exact nomatch hr
        · exact Nat.le_antisymm hi h
      refine wpAny_pure (hQ h' ?_ hs')
      rw [hin, ← hlen, List.take_length] at hd'; exact hd'
  refine wpAny_bind (wpAny_dictEntries hod hdd ?_)
  split
  · refine wpAny_bind (wpAny_dictEntries hoo hdo' ?_)
    refine wpAny_bind ?_
    rw [← Array.forIn_toList]
    refine wpAny_forIn_list _ (fun rest _ s' => s' = s ∧ ∀ e ∈ rest, ∃ k : Key, keyIs k e.key = true) _ (fun x rest b s' h => ?_) (fun b s' h => ?_) _ _ ⟨rfl, fun e he => ?_⟩
    · obtain ⟨rfl, h⟩ := h
      obtain ⟨k, hk⟩ := h x List.mem_cons_self
      rcases keyIs_shape hk with ⟨i, t, _, e⟩ | ⟨y, t, _, e⟩ <;> rw [e] <;> exact wpAny_pure ⟨rfl, fun e he => h e (List.mem_cons_of_mem _ he)⟩
    · obtain ⟨rfl, _⟩ := h
      exact tail
    · obtain ⟨k, hk, _⟩ := hko e (Array.mem_toList_iff.mp he)
      exact ⟨k, hk⟩
  · exact tail
end
/-- {**a, **b} -/
def tSpread (ta tb : TE) : TE := fun σ H Q => ∀ p, H p = none → ta σ (upd H p (.dK [])) fun x H1 => ∃ a ks, x = .ref a ∧ a ≠ p ∧ H1 a = some (.dK ks) ∧ H1 p = some (.dK []) ∧ ks.length ≤ 10000 ∧
  tb σ (upd H1 p (.dK (mergeK [] ks))) fun y H2 => ∃ b ls ms, y = .ref b ∧ b ≠ p ∧ H2 b = some (.dK ls) ∧ H2 p = some (.dK ms) ∧ ls.length ≤ 10000 ∧ ms.length ≤ 10000 ∧ Q (.ref p) (upd H2 p (.dK (mergeK ms ls)))
section
variable {X : Cx}
theorem merge_inv {pins : List (Addr × Obj)} {σ : L2.St} {H : Hp} {s : Shared} {d o : Addr} {kvs more : List (Key × V)} {Q : Unit → Shared → Prop} {E : Value → Shared → Prop} (I : Inv X pins σ H s) (hdo : d ≠ o) (hd : H d = some (.dK kvs)) (ho : H o = some (.dK more)) (h1 : kvs.length ≤ 10000) (h2 : more.length ≤ 10000)
    (h : ∀ s', Inv X pins σ (upd H d (.dK (mergeK kvs more))) s' → Q () s') : wpAny (model X.prog X.w) X.A (mergeMapping d (.ref o) false) Q E s := by
  obtain ⟨z, hdS, vs, rel, dd⟩ := dk_of I.hok hd
  obtain ⟨z2, hoS, ws, rel2, oo⟩ := dk_of I.hok ho
  have e1 := rel.length
  have e2 := rel2.length
  refine mergeMapping_ok hdo hoS dd oo (fun h' dd' hs => h _ ?_) (by rw [sizeLine_eq]; omega)
  have he : ∃ q, h'.get? d = some q := let ⟨q, _, _, hq, _⟩ := dd'; ⟨q, hq⟩
  have hl : (mergeK kvs more).length ≤ sizeLine := by
    have := length_mergeK more kvs
    rw [sizeLine_eq]
    omega
  exact d_write (t' := s.toks) I (by rw [hd]; exact True.intro) hs he (dk_new hl hdS (KV.merge rel2 rel) dd')
theorem pe_spread {e1 e2 : Expr} {ta tb : TE} {pos : Pos} (ha : PE X e1 ta) (hb : PE X e2 tb) : PE X (.Dict [none, none] [e1, e2] pos) (tSpread ta tb) := by
  refine ⟨fun pins s σ H Q I h => ?_⟩
  have hn := I.hok.fresh (Nat.le_refl s.heap.objs.size)
  have I1 := I.laid (a := s.heap.objs.size) (o := .dK []) (h' := s.heap.push { cls := .type "dict", data := .dict #[] }) (t' := s.toks) (fun _ _ q => Heap.get?_push_of_some _ q) (Nat.le_refl _) (dk_empty s.heap I.big)
  show wpAny _ _ (do standAt pos; dictDisplay ((evalEachOpt [none, none] X.env).zip ((evalEach [e1, e2] X.env).map fun v => do let x ← v; standAt pos; pure x))) _ _ _
  refine wpAny_bind (wpAny_standAt ?_)
  unfold dictDisplay
  have ez : (evalEachOpt [none, none] X.env).zip ((evalEach [e1, e2] X.env).map fun v => do let x ← v; standAt pos; pure x) = [(none, do let x ← eval e1 X.env; standAt pos; pure x), (none, do let x ← eval e2 X.env; standAt pos; pure x)] := rfl
  rw [ez]
  refine wpAny_bind ?_
  rw [List.forIn_cons]
  refine wpAny_bind ?_
  dsimp only
  simp only [List.isEmpty_nil, ↓reduceIte]
  refine wpAny_bind (wpAny_pure ?_)
  dsimp only
  refine wpAny_bind (wpAny_alloc ?_)
  refine wpAny_bind (wpAny_holding (wpAny_bind (thn (ha.run pins _ σ _ _ I1 (h _ hn)) fun v s1 ⟨x, H1, I2, rx, a, ks, ex, hap, ea, ep, hl, h2⟩ => wpAny_bind (wpAny_standAt (wpAny_pure ?_)))))
  subst ex
  obtain rfl : v = Value.ref a := rx
  refine wpAny_bind (wpAny_onRaise (wpAny_tryCatch (wpAny_onRaise (wpAny_holding (merge_inv I2 hap.symm ep ea (Nat.zero_le _) hl fun s2 I3 => ?_)))))
  refine wpAny_pure ?_
  dsimp only
  rw [List.forIn_cons]
  refine wpAny_bind ?_
  dsimp only
  simp only [List.isEmpty_nil, ↓reduceIte]
  refine wpAny_bind (wpAny_pure ?_)
  dsimp only
  refine wpAny_bind (wpAny_pure ?_)
  refine wpAny_bind (wpAny_holding (wpAny_bind (thn (hb.run pins _ σ _ _ I3 h2) fun v s3 ⟨y, H2, I4, ry, b, ls, ms, ey, hbp, eb, ep2, hl2, hl3, h3⟩ => wpAny_bind (wpAny_standAt (wpAny_pure ?_)))))
  subst ey
  obtain rfl : v = Value.ref b := ry
  refine wpAny_bind (wpAny_onRaise (wpAny_tryCatch (wpAny_onRaise (wpAny_holding (merge_inv I4 hbp.symm ep2 eb hl3 hl2 fun s4 I5 => ?_)))))
  refine wpAny_pure ?_
  dsimp only
  rw [List.forIn_nil]
  refine wpAny_pure ?_
  dsimp only
  simp only [List.isEmpty_nil, ↓reduceIte]
  refine wpAny_bind (wpAny_pure ?_)
  dsimp only
  exact wpAny_pure ⟨.ref _, _, I5, rfl, h3⟩
end
end Rg

end
section
set_option Elab.async false
set_option linter.all false
set_option maxRecDepth 100000
set_option maxHeartbeats 4000000
namespace Rg
open PySem PySem.Spec PyProof.Rows L2
/-! ### walks under another form of the edges -/
section
variable {α β : Type} {o g : α → Int} {o' g' : β → Int} {E : List α} {E' : List β}
theorem rt_sim (h : ∀ e ∈ E, ∃ e' ∈ E', o' e' = o e ∧ g' e' = g e) {a b : Int} (r : Rt o g E a b) : Rt o' g' E' a b := by
  refine Rt.closed (P := fun x => Rt o' g' E' a x) (fun e he p => ?_) (Rt.refl a) r
  obtain ⟨e', he', h1, h2⟩ := h e he
  have := Rt.edge (o := o') (g := g') he'
  rw [h1, h2] at this
  exact p.trans this
theorem ch_lift {f : α → β} (ho : ∀ e, o' (f e) = o e) (hg : ∀ e, g' (f e) = g e) : ∀ {es : List β} {a b : Int}, Ch o' g' (E.map f) a es b → ∃ fs, Ch o g E a fs b ∧ es = fs.map f
  | [], a, b, h => ⟨[], h, rfl⟩
  | e :: es, a, b, h => by
    obtain ⟨h1, h2, h3⟩ := h
    obtain ⟨z, hz, rfl⟩ := List.mem_map.mp h1
    rw [hg] at h3
    obtain ⟨fs, k1, k2⟩ := ch_lift ho hg h3
    exact ⟨z :: fs, ⟨hz, by rw [← ho]; exact h2, k1⟩, by rw [k2]; rfl⟩
theorem rt_rev_iff {a b : Int} : Rt g o E a b ↔ Rt o g E b a := ⟨Rt.rev, Rt.rev⟩
end
/-! ### edges in full -/
structure Ed where
  o : Int
  g : Int
  n : Int
  d : Lit
abbrev Z : Type := V × Ed
def oZ (z : Z) : Int := z.2.o
def gZ (z : Z) : Int := z.2.g
def z2 (z : Z) : Z2 := (z.1, z.2.o, z.2.g)
def MkAt (H : Hp) (v : V) (n : Int) (d : Lit) : Prop := ∃ mk, v = .ref mk ∧ H mk = some (.tup [.int n, tx d]) ∧ ∀ c ∈ d, c < 1114112
def EdAt (H : Hp) (v : V) (e : Ed) : Prop := ∃ t m, v = .ref t ∧ H t = some (.tup [.int e.o, .int e.g, m]) ∧ MkAt H m e.n e.d
theorem MkAt.same {H H' : Hp} {v : V} {n : Int} {d : Lit} (e : Same H H') (h : MkAt H v n d) : MkAt H' v n d := by
  obtain ⟨t, r, h, k⟩ := h
  exact ⟨t, r, e _ _ h, k⟩
theorem EdAt.same {H H' : Hp} {v : V} {e : Ed} (s : Same H H') (h : EdAt H v e) : EdAt H' v e := by
  obtain ⟨t, m, r, h, k⟩ := h
  exact ⟨t, m, r, s _ _ h, k.same s⟩
/-- a list of edges -/
def Es (H : Hp) (v : V) (zs : List Z) : Prop := ∃ a, v = .ref a ∧ H a = some (.lst (zs.map (·.1))) ∧ ∀ z ∈ zs, EdAt H z.1 z.2
theorem Es.same {H H' : Hp} {v : V} {zs : List Z} (s : Same H H') (h : Es H v zs) : Es H' v zs := by
  obtain ⟨a, r, h, k⟩ := h
  exact ⟨a, r, s _ _ h, fun z hz => (k z hz).same s⟩
theorem Es.e2 {H : Hp} {v : V} {zs : List Z} (h : Es H v zs) : E2s H v (zs.map z2) := by
  obtain ⟨a, r, h, k⟩ := h
  refine ⟨a, r, by rw [List.map_map]; exact h, fun z hz => ?_⟩
  obtain ⟨y, hy, rfl⟩ := List.mem_map.mp hz
  obtain ⟨t, m, e, ht, _⟩ := k y hy
  exact ⟨t, m, e, ht⟩
theorem rt_z2 {zs : List Z} {a b : Int} : Rt o2 g2 (zs.map z2) a b ↔ Rt oZ gZ zs a b :=
  ⟨rt_sim fun e he => (let ⟨y, hy, q⟩ := List.mem_map.mp he; ⟨y, hy, by rw [← q]; rfl, by rw [← q]; rfl⟩), rt_sim (o' := o2) (g' := g2) fun e he => ⟨z2 e, List.mem_map.mpr ⟨e, he, rfl⟩, rfl, rfl⟩⟩
/-- as data -/
def dEd (e : Ed) : PyData := .tuple [.int e.o, .int e.g, .tuple [.int e.n, .str (SX.S e.d)]]
theorem dp_ed {K : PySem.W.Frag} {H : Hp} {v : V} {e : Ed} (h : EdAt H v e) : Dp K H v (dEd e) := by
  obtain ⟨t, m, rfl, h, mk, rfl, k, _⟩ := h
  exact .tup (SqT.of h) (.cons (.int _) (.cons (.int _) (.cons (.tup (SqT.of k) (.cons (.int _) (.cons (.str _) .nil))) .nil)))
theorem dp_eds {K : PySem.W.Frag} {H : Hp} : ∀ {zs : List Z}, (∀ z ∈ zs, EdAt H z.1 z.2) → DpAll K H (zs.map (·.1)) (zs.map fun z => dEd z.2)
  | [], _ => .nil
  | z :: zs, h => .cons (dp_ed (h z List.mem_cons_self)) (dp_eds fun y hy => h y (List.mem_cons_of_mem _ hy))
theorem ed_lay {e : Ed} (h : ∀ c ∈ e.d, c < 1114112) : (dEd e).canLay0 = true ∧ (dEd e).depth = 2 := by
  have hs : PyData.strOk (SX.S e.d) = true := by
    unfold PyData.strOk
    show (e.d.toArray.all fun c => decide (c < 1114112)) = true
    rw [Array.all_eq_true_iff_forall_mem]
    intro c hc
    exact decide_eq_true (h c (by simpa using hc))
  unfold dEd
  constructor
  · simp [PyData.canLay0, PyData.canLayAll0, hs]
  · simp [PyData.depth, PyData.depthAll]
theorem eds_lay : ∀ es : List Ed, (∀ e ∈ es, ∀ c ∈ e.d, c < 1114112) → PyData.canLayAll0 (es.map dEd) = true ∧ PyData.depthAll (es.map dEd) ≤ 2
  | [], _ => ⟨rfl, Nat.zero_le _⟩
  | e :: es, h => by
    obtain ⟨h1, h2⟩ := eds_lay es fun y hy => h y (List.mem_cons_of_mem _ hy)
    have h0 := ed_lay (h e List.mem_cons_self)
    refine ⟨?_, ?_⟩
    · show ((dEd e).canLay0 && PyData.canLayAll0 (es.map dEd)) = true
      rw [h1, h0.1]
      rfl
    · show max (dEd e).depth (PyData.depthAll (es.map dEd)) ≤ 2
      rw [h0.2]
      omega
theorem eds_shaped {es : List Ed} (h : ∀ e ∈ es, ∀ c ∈ e.d, c < 1114112) : SeqAt.shaped (.list (es.map dEd)) = true := by
  obtain ⟨h1, h2⟩ := eds_lay es h
  unfold SeqAt.shaped
  have e1 : (PyData.list (es.map dEd)).canLay0 = true := h1
  have e2 : (PyData.list (es.map dEd)).depth ≤ 64 := by show PyData.depthAll (es.map dEd) + 1 ≤ 64; omega
  rw [e1, decide_eq_true e2]
  rfl
theorem EdAt.lo {H : Hp} {v : V} {e : Ed} (h : EdAt H v e) : ∀ c ∈ e.d, c < 1114112 := by
  obtain ⟨_, _, _, _, _, _, _, k⟩ := h
  exact k
/-! ### keys of dicts -/
def keysOf (kvs : List (Key × V)) : List Key := kvs.map (·.1)
theorem mem_keys {kvs : List (Key × V)} {k : Key} : k ∈ keysOf kvs ↔ (valV kvs k).isSome = true := by
  rw [← valV_any, List.any_eq_true]
  unfold keysOf
  rw [List.mem_map]
  exact ⟨fun ⟨p, hp, e⟩ => ⟨p, hp, decide_eq_true e⟩, fun ⟨p, hp, e⟩ => ⟨p, hp, of_decide_eq_true e⟩⟩
theorem mem_keys_put {kvs : List (Key × V)} {k j : Key} {v : V} : j ∈ keysOf (putK kvs k v) ↔ j ∈ keysOf kvs ∨ j = k := by
  rw [mem_keys, mem_keys, valV_put]
  by_cases e : j = k
  · rw [if_pos e]
    exact ⟨fun _ => .inr e, fun _ => rfl⟩
  · rw [if_neg e]
    exact ⟨.inl, fun h => h.resolve_right e⟩
theorem nd_put {kvs : List (Key × V)} {k : Key} {v : V} (h : (keysOf kvs).Nodup) : (keysOf (putK kvs k v)).Nodup := by
  cases e : valV kvs k with
  | none => exact nd_putK v h e
  | some u =>
    unfold putK
    rw [valV_any, e]
    have : (kvs.map fun kv => if kv.1 = k then (kv.1, v) else kv).map (·.1) = keysOf kvs := by
      rw [List.map_map]
      refine List.map_congr_left fun p _ => ?_
      show (if p.1 = k then (p.1, v) else p).1 = p.1
      split <;> rfl
    show (keysOf (if true = true then _ else _)).Nodup
    rw [if_pos rfl]
    unfold keysOf
    rw [this]
    exact h
theorem mem_keys_merge : ∀ {more kvs : List (Key × V)} {j : Key}, j ∈ keysOf (mergeK kvs more) ↔ j ∈ keysOf kvs ∨ j ∈ keysOf more
  | [], kvs, j => by
    show j ∈ keysOf kvs ↔ _
    simp [keysOf]
  | p :: more, kvs, j => by
    show j ∈ keysOf (mergeK (putK kvs p.1 p.2) more) ↔ _
    rw [mem_keys_merge, mem_keys_put]
    unfold keysOf
    rw [List.map_cons, List.mem_cons]
    constructor
    · rintro ((h | h) | h)
      · exact .inl h
      · exact .inr (.inl h)
      · exact .inr (.inr h)
    · rintro (h | h | h)
      · exact .inl (.inl h)
      · exact .inl (.inr h)
      · exact .inr h
theorem nd_merge : ∀ {more kvs : List (Key × V)}, (keysOf kvs).Nodup → (keysOf (mergeK kvs more)).Nodup
  | [], _, h => h
  | p :: more, kvs, h => nd_merge (more := more) (kvs := putK kvs p.1 p.2) (nd_put h)
/-- a dict whose keys are ints of a list has few -/
theorem keys_len {kvs : List (Key × V)} {ns : List Int} (h : (keysOf kvs).Nodup) (hs : ∀ k ∈ keysOf kvs, ∃ n ∈ ns, k = Sum.inl n) : kvs.length ≤ ns.length := by
  have := len_le_of_subset (keysOf kvs) (ns.map fun n => (Sum.inl n : Key)) h fun k hk => (let ⟨n, hn, e⟩ := hs k hk; List.mem_map.mpr ⟨n, hn, e.symm⟩)
  rwa [List.length_map, keysOf, List.length_map] at this
/-- the parts, as found -/
def PartsAt (H : Hp) (v : V) (P : List Z) : Prop := ∃ a, v = .ref a ∧ H a = some (.lst (P.map (·.1)))
theorem PartsAt.same {H H' : Hp} {v : V} {P : List Z} (s : Same H H') (h : PartsAt H v P) : PartsAt H' v P := by
  obtain ⟨a, r, h⟩ := h
  exact ⟨a, r, s _ _ h⟩
end Rg

end
section
set_option Elab.async false
set_option linter.all false
set_option maxRecDepth 100000
set_option maxHeartbeats 4000000
namespace Rg
open PySem PySem.Spec PyProof.Rows L2
theorem filt_yes {α : Type} {p : α → Bool} {a : α} (h : p a = true) : [a].filter p = [a] := List.filter_cons_of_pos h
theorem filt_no {α : Type} {p : α → Bool} {a : α} (h : ¬ p a = true) : [a].filter p = [] := List.filter_cons_of_neg h
def PAt (F : Addr) (H : Hp) (v : V) (P : List Z) : Prop := ∃ a, v = .ref a ∧ a ≠ F ∧ H a = some (.lst (P.map (·.1)))
structure SPs (zs : List Z) (HB : Hp) (F : Addr) (i : Nat) (us : List V) (Ps : List (List Z)) (dn : Addr) (kvs : List (Key × V)) (H : Hp) : Prop where
  sm : Same HB H
  found : H F = some (.lst us)
  ul : us.length ≤ i
  ps : Paired (PAt F H) us Ps
  done : H dn = some (.dK kvs)
  nd : (keysOf kvs).Nodup
  sub : ∀ k ∈ keysOf kvs, ∃ n ∈ zs.map oZ ++ zs.map gZ, k = Sum.inl n
  pre : ∀ (j : Nat) (z : Z), j < i → zs[j]? = some z → (Sum.inl z.2.o : Key) ∈ keysOf kvs
  all : ∀ n : Int, (Sum.inl n : Key) ∈ keysOf kvs → ∀ e ∈ zs, Sc oZ gZ zs n (oZ e) → Sc oZ gZ zs n (gZ e) → ∃ P ∈ Ps, e ∈ P
  each : ∀ P ∈ Ps, (P ≠ [] ∧ ∃ v, PartOf oZ gZ zs v P) ∧ P.length ≤ 1000
theorem rt_node {zs : List Z} {a b : Int} (h : Rt oZ gZ zs a b) : b = a ∨ b ∈ zs.map gZ :=
  Rt.closed (P := fun x => x = a ∨ x ∈ zs.map gZ) (fun e he _ => .inr (List.mem_map.mpr ⟨e, he, rfl⟩)) (.inl rfl) h
theorem SPs.len {zs : List Z} {HB H : Hp} {F dn : Addr} {i : Nat} {us : List V} {Ps : List (List Z)} {kvs : List (Key × V)} (q : SPs zs HB F i us Ps dn kvs H) : kvs.length ≤ 2 * zs.length := by
  have := keys_len q.nd q.sub
  rw [List.length_append, List.length_map, List.length_map] at this
  omega
section
variable {P : Program} {w : World} {K : PySem.W.Frag} {mg : Str → Option Value} {base : Heap}
theorem ixT {X : Cx} (K : PySem.W.Frag) (h : X.K = K := by rfl) : IxR X (rIxT K) := h ▸ ix_tup
/-! strong_parts -/
def spStrong : Sp := fun vs H Q _ => ∃ (v : V) (zs : List Z), vs = [v] ∧ Es H v zs ∧ zs.length ≤ 1000 ∧
  ∀ (F : Addr) (H' : Hp) (us : List V) (Ps : List (List Z)), Same H H' → H' F = some (.lst us) → Paired (PartsAt H') us Ps → Parts oZ gZ zs Ps → (∀ P ∈ Ps, P.length ≤ 1000) → Q (.ref F) H'
theorem sc_strong : FnScope ["edges", "origin", "goal", "mark", "back", "found", "done", "ahead", "behind", "both", "part", "node", "edge"] ["edges"] (defScope (top 24)) := ⟨rfl, rfl, rfl, by decide +kernel, rfl, by decide +kernel, by decide +kernel⟩
theorem c_strong {f : Addr} {fd : FuncData} (D : Df K mg "strong_parts" (top 24) f fd) (B : Bl mg) (c1 : C8.Cal P w K mg base 2 "reached" spReached []) : C8.Cal P w K mg base 3 "strong_parts" spStrong [] := by
  refine cal_of D (fun _ _ _ _ _ _ us hl => match us, hl with | [_], _ => rfl) sc_strong (fun vs H Q E h => ?_) (fun cdv A outer s H vs Q E hr h => ?_)
  · obtain ⟨v, zs, rfl, _⟩ := h
    rfl
  · obtain ⟨v, zs, rfl, hz, hlen, k⟩ := h
    have hu := hu_of hr
    refine ⟨_, pss_cons (ps_setLc (i := 4) (own := [("origin", 1), ("goal", 2), ("mark", 3)]) (g := gTup K 3 (gCons (gName 1) (gCons (gName 2) (gCons (gName 3) gNil)))) rfl sc_strong.nd rfl rfl (sw_true rfl rfl rfl (by decide +kernel)) (pi_list (pv 0)) (blkOk_by (own := [("origin", 1), ("goal", 2), ("mark", 3)]) (N := ["edges", "origin", "goal", "mark", "back", "found", "done", "ahead", "behind", "both", "part", "node", "edge"]) (sc := defScope (top 24)) (by decide +kernel))
        (fun _ _ _ _ _ => pg_tup rfl (pgs_cons (pg_name (i := 1) sc_strong.nd rfl (Or.inl rfl) (Or.inr rfl)) (pgs_cons (pg_name (i := 2) sc_strong.nd rfl (Or.inl rfl) (Or.inr rfl)) (pgs_cons (pg_name (i := 3) sc_strong.nd rfl (Or.inl rfl) (Or.inr rfl)) pgs_nil)))) (fun _ _ _ _ _ => pts_nil)
        (fun _ _ _ _ _ => pe_tup (pa_cons (pv 2) (pa_cons (pv 1) (pa_cons (pv 3) pa_nil)))))
      (pss_cons (ps_par (i := 5) (j := 6) rfl sc_strong.nd rfl rfl (by decide) rfl rfl (pa_cons (pe_lst pa_nil) (pa_cons pe_dnewK pa_nil)) rfl)
      (pss_cons (ps_for PassesOwn.never rfl (pi_list (pv 0)) (pg_tup rfl (pgs_cons (pg_name (i := 1) sc_strong.nd rfl (Or.inl rfl)) (pgs_cons (pg_name (i := 2) sc_strong.nd rfl (Or.inl rfl)) (pgs_cons (pg_name (i := 3) sc_strong.nd rfl (Or.inl rfl)) pgs_nil))))
        (pss_one (ps_if (pt_cmp (pc_dnotin hu (pv 1) (pv 6)))
          (pss_cons (ps_asg (pe_tup (pa_cons (C8.pe_c c1 hr (by decide) rfl (pa_cons (pv 0) (pa_cons (pv 1) pa_nil))) (pa_cons (C8.pe_c c1 hr (by decide) rfl (pa_cons (pv 4) (pa_cons (pv 1) pa_nil))) pa_nil)))
              (pg_tup rfl (pgs_cons (pg_name (i := 7) sc_strong.nd rfl (Or.inl rfl)) (pgs_cons (pg_name (i := 8) sc_strong.nd rfl (Or.inr rfl)) pgs_nil))))
          (pss_cons (ps_set (i := 9) sc_strong.nd rfl (Or.inr rfl) (pe_lock (pe_dc (own := [("node", 11)]) (g := gName 11) rfl sc_strong.nd (pi_keys (pv 7)) (blkOk_by (own := [("node", 11)]) (N := ["edges", "origin", "goal", "mark", "back", "found", "done", "ahead", "behind", "both", "part", "node", "edge"]) (sc := defScope (top 24)) (by decide +kernel))
              (fun _ _ _ _ _ => pg_name (i := 11) sc_strong.nd rfl (Or.inl rfl)) (fun _ _ _ _ _ => pts_one (pt_cmp (pc_din hu (pv 11) (pv 8)))) (fun _ _ _ _ _ => pv 11) (fun _ _ _ _ _ => pe_bl))))
          (pss_cons (ps_set (i := 6) sc_strong.nd rfl (Or.inl rfl) (pe_spread (pv 6) (pv 9)))
          (pss_cons (ps_setLc (i := 10) (own := [("edge", 12)]) (g := gName 12) rfl sc_strong.nd rfl rfl (sw_true rfl rfl rfl (by decide +kernel)) (pi_list (pv 0)) (blkOk_by (own := [("edge", 12)]) (N := ["edges", "origin", "goal", "mark", "back", "found", "done", "ahead", "behind", "both", "part", "node", "edge"]) (sc := defScope (top 24)) (by decide +kernel))
              (fun _ _ _ _ _ => pg_name (i := 12) sc_strong.nd rfl (Or.inl rfl)) (fun _ _ _ _ _ => pts_one (pw_and (pt_cmp (pc_din hu (pe_ix (ixT K) (pv 12) pe_int (fun _ _ => rfl)) (pv 9))) (pw_and1 (pt_cmp (pc_din hu (pe_ix (ixT K) (pv 12) pe_int (fun _ _ => rfl)) (pv 9))))).pt) (fun _ _ _ _ _ => pv 12))
          (pss_one (ps_if (pt_cmpR (op_neD hr.units) (pv 10) (pe_lst pa_nil) (nomark _)) (pss_one (ps_expr (pe_bm PySem.F.plainAttrs_list PySem.F.slot_list_append PySem.F.type_list_append mt_append (pv 5) (pa_cons (pv 10) pa_nil)))) pss_nil)))))) pss_nil)))
      (pss_one (ps_ret (pv 5))))), ?_⟩
    obtain ⟨a, rfl, ha, hze⟩ := hz
    refine ⟨_, rfl, a, rfl, ⟨_, SqL.of ha⟩, fun Bk hBk => ?_⟩
    refine it_gen walk_list (fun i H' => Same H H' ∧ ∃ bs : List Z2, H' Bk = some (.lst (bs.map (·.1))) ∧ (∀ z ∈ bs, E2At H' z.1 z.2) ∧ bs.map (·.2) = (zs.take i).map fun z => (z.2.g, z.2.o)) ⟨Same.one hBk, [], upd_same, (fun z hz => nomatch hz), rfl⟩ (fun i H' _ p => SqL.of (p.1 _ _ ha)) (fun i x H1 H2 hi p y => ?_) fun HB p => ?_
    · obtain ⟨rfl, hx⟩ := y
      obtain ⟨sm, bs, hb, hbe, hbm⟩ := p
      obtain ⟨z, hzi, rfl⟩ := map_at hx
      rw [List.length_map] at hi
      obtain ⟨t, m, et, ht, hm⟩ := (hze z (List.mem_of_getElem? hzi)).same sm
      rw [et]
      refine ⟨t, _, rfl, SqT.of ht, rfl, _, _, rfl, _, _, rfl, _, _, rfl, rfl, rfl, yes ?_⟩
      refine ⟨_, rfl, _, rfl, _, rfl, by show 3 ≤ sizeLine; decide, fun p hp => ?_⟩
      have hBp : Bk ≠ p := ne_of_none hb hp
      have bl : bs.length = i := by
        have := congrArg List.length hbm
        rw [List.length_map, List.length_map, List.length_take] at this
        omega
      refine ⟨_, by rw [upd_ne hBp]; exact hb, by rw [List.length_map]; exact small' (by omega), Same.put (sm.trans (Same.one hp)) hBk, bs ++ [(.ref p, z.2.g, z.2.o)], by rw [upd_same, List.map_append]; rfl, fun y hy => ?_, ?_⟩
      · have hpB : p ≠ Bk := hBp.symm
        rcases List.mem_append.mp hy with hy | hy
        · obtain ⟨t', m', e', h'⟩ := hbe y hy
          refine ⟨t', m', e', ?_⟩
          rw [upd_ne (ne_of h' hb (by intro q; cases q)), upd_ne (ne_of_none h' hp)]
          exact h'
        · rw [List.mem_singleton.mp hy]
          exact ⟨p, m, rfl, by rw [upd_ne hpB, upd_same]⟩
      · rw [List.map_append, hbm, take_succ_at hzi, List.map_append]
        rfl
    · obtain ⟨smB, bs, hb, hbe, hbm⟩ := p
      rw [List.length_map, List.take_length] at hbm
      have bl : bs.length = zs.length := by
        have := congrArg List.length hbm
        rwa [List.length_map, List.length_map] at this
      have bE : E2s HB (.ref Bk) bs := ⟨Bk, rfl, hb, hbe⟩
      have bRt : ∀ {x y : Int}, Rt o2 g2 bs x y ↔ Rt oZ gZ zs y x := fun {x y} => by
        rw [← rt_rev_iff (o := oZ) (g := gZ)]
        constructor
        · refine rt_sim fun e he => ?_
          have : e.2 ∈ zs.map fun z => (z.2.g, z.2.o) := by rw [← hbm]; exact List.mem_map.mpr ⟨e, he, rfl⟩
          obtain ⟨z, hz, q⟩ := List.mem_map.mp this
          exact ⟨z, hz, congrArg Prod.fst q, congrArg Prod.snd q⟩
        · refine rt_sim fun z hz => ?_
          have : (z.2.g, z.2.o) ∈ bs.map (·.2) := by rw [hbm]; exact List.mem_map.mpr ⟨z, hz, rfl⟩
          obtain ⟨e, he, q⟩ := List.mem_map.mp this
          exact ⟨e, he, congrArg Prod.fst q, congrArg Prod.snd q⟩
      refine ⟨by decide, fun F hF => ?_⟩
      intro dn hdn
      refine ⟨_, _, rfl, ?_⟩
      have hFdn : F ≠ dn := ne_of_none upd_same hdn
      have zE : ∀ {H' : Hp}, Same HB H' → Es H' (.ref a) zs := fun s => ⟨a, rfl, s _ _ (smB _ _ ha), fun z hz => ((hze z hz).same smB).same s⟩
      have q0 : SPs zs HB F 0 [] [] dn [] (upd (upd HB F (.lst [])) dn (.dK [])) := ⟨Same.put (Same.one hF) (by
          cases q : HB dn with
          | none => rfl
          | some o => rw [(Same.one hF) _ _ q] at hdn; cases hdn), by rw [upd_ne hFdn, upd_same], Nat.le_refl _, .nil, upd_same, List.nodup_nil, (fun k hk => nomatch hk), fun j z hj => absurd hj (Nat.not_lt_zero _), (fun n hn => nomatch hn), (fun P hP => nomatch hP)⟩
      refine ⟨_, rfl, a, rfl, ⟨_, SqL.of (let ⟨b, e, h, _⟩ := zE q0.sm; by cases e; exact h)⟩, ?_⟩
      refine for_it (walk_list (xs := zs.map (·.1))) (fun i σ H' => ∃ x1 x2 x3 dn x7 x8 x9 x10 kvs us Ps, σ = [some (.ref a), x1, x2, x3, some (.ref Bk), some (.ref F), some (.ref dn), x7, x8, x9, x10, none, none] ∧ SPs zs HB F i us Ps dn kvs H') ⟨none, none, none, dn, none, none, none, none, [], [], [], rfl, q0⟩ (fun i σ H' _ p => ?_) (fun i x σ H1 H2 hi p y => ?_) fun σ H1 p => ?_
      · obtain ⟨_, _, _, _, _, _, _, _, _, _, _, _, q⟩ := p
        obtain ⟨b, e, h, _⟩ := zE q.sm
        cases e
        exact SqL.of h
      · obtain ⟨rfl, hx⟩ := y
        obtain ⟨x1, x2, x3, dn, x7, x8, x9, x10, kvs, us, Ps, rfl, q⟩ := p
        obtain ⟨z, hzi, rfl⟩ := map_at hx
        have hzz := List.mem_of_getElem? hzi
        rw [List.length_map] at hi
        obtain ⟨t, m, et, ht, hm⟩ := ((hze z hzz).same smB).same q.sm
        rw [et]
        refine ⟨t, _, rfl, SqT.of ht, rfl, _, _, rfl, _, _, rfl, _, _, rfl, rfl, ?_⟩
        refine ⟨_, rfl, _, rfl, dn, _, rfl, DGet.k (k := Sum.inl z.2.o) q.done, _, rfl, ?_⟩
        by_cases hin : (Sum.inl z.2.o : Key) ∈ keysOf kvs
        · rw [mem_keys.mp hin]
          refine iteF ⟨_, _, _, dn, x7, x8, x9, x10, kvs, us, Ps, rfl, q.sm, q.found, Nat.le_succ_of_le q.ul, q.ps, q.done, q.nd, q.sub, fun j y hj hy => ?_, q.all, q.each⟩
          rcases Nat.lt_or_ge j i with l | l
          · exact q.pre j y l hy
          · have : j = i := by omega
            subst this
            rw [hzi] at hy
            cases hy
            exact hin
        · have hns : (valV kvs (.inl z.2.o)).isSome = false := by
            cases e : (valV kvs (.inl z.2.o)).isSome with
            | false => rfl
            | true => exact absurd (mem_keys.mpr e) hin
          rw [hns]
          refine iteT ?_
          refine ⟨_, rfl, _, rfl, .ref a, zs.map z2, z.2.o, rfl, (zE q.sm).e2, by rw [List.length_map]; omega, fun A1 H3 kA nsA smA nA hA kkA ndA lenA memA => ?_⟩
          refine ⟨_, rfl, _, rfl, .ref Bk, bs, z.2.o, rfl, bE.same (q.sm.trans smA), by omega, fun B1 H4 kB nsB smC nB hB kkB ndB lenB memB => ?_⟩
          refine ⟨by show 2 ≤ sizeLine; decide, fun t2 ht2 => ?_⟩
          refine ⟨t2, _, rfl, SqT.of upd_same, rfl, _, _, rfl, _, _, rfl, rfl, ?_⟩
          have s5 : Same H2 (upd H4 t2 (.tup [.ref A1, .ref B1])) := (smA.trans smC).trans (Same.one ht2)
          have hA5 : (upd H4 t2 (.tup [.ref A1, .ref B1])) A1 = some (.dK kA) := (smC.trans (Same.one ht2)) _ _ hA
          have hB5 : (upd H4 t2 (.tup [.ref A1, .ref B1])) B1 = some (.dK kB) := (Same.one ht2) _ _ hB
          have nA2 : H2 A1 = none := nA
          have nB2 : H3 B1 = none := nB
          have hAB : A1 ≠ B1 := ne_of_none hA nB
          generalize upd H4 t2 (.tup [.ref A1, .ref B1]) = H5 at s5 hA5 hB5
          -- both
          refine ⟨A1, .dK kA, hA5, True.intro, fun od => ?_⟩
          have s6 : Same H2 (upd H5 A1 (.frz od (.dK kA))) := fun b o e => by
            rw [upd_ne (ne_of_none e nA2)]
            exact s5 _ _ e
          refine ⟨_, rfl, A1, od, rfl, .inl ⟨kA, upd_same, ?_⟩⟩
          intro C hC
          have hAC : A1 ≠ C := fun e => by
            rw [← e, upd_same] at hC
            cases hC
          have hBA : B1 ≠ A1 := hAB.symm
          have hB6 : (upd H5 A1 (.frz od (.dK kA))) B1 = some (.dK kB) := by rw [upd_ne hBA]; exact hB5
          have hBC : B1 ≠ C := ne_of_none hB6 hC
          refine it_gen walk_keys (fun i H' => Same H2 H' ∧ H' A1 = some (.frz od (.dK kA)) ∧ H' B1 = some (.dK kB) ∧ ∃ kc, H' C = some (.dK kc) ∧ keysOf kc = (keysOf (kA.take i)).filter fun k => (valV kB k).isSome)
            ⟨Same.put s6 (by
              cases e : H2 C with
              | none => rfl
              | some o => rw [s6 _ _ e] at hC; cases hC), by rw [upd_ne hAC, upd_same], by rw [upd_ne hBC]; exact hB6, [], upd_same, rfl⟩ (fun i H' _ p => p.2.1) (fun i x H7 H8 hi p y => ?_) fun H7 p => ?_
          · obtain ⟨rfl, kk, vv, hkv, rfl⟩ := y
            obtain ⟨sm7, hA7, hB7, kc, hC7, hkc⟩ := p
            have nC2 : H2 C = none := by
              cases e : H2 C with
              | none => rfl
              | some o => rw [s6 _ _ e] at hC; cases hC
            have htk := take_succ_at hkv
            refine ⟨rfl, ?_⟩
            refine ⟨_, rfl, _, rfl, B1, _, rfl, DGet.k (k := kk) hB7, _, rfl, ?_⟩
            refine ite2 (fun hsome => ?_) (fun hnone => ?_)
            · refine ⟨_, rfl, kc, kk, rfl, hC7, small' ?_, ?_⟩
              · have e1 : kc.length = (keysOf kc).length := by unfold keysOf; rw [List.length_map]
                have e2 : (keysOf (kA.take i)).length ≤ kA.length := by
                  unfold keysOf
                  rw [List.length_map, List.length_take]
                  omega
                have e3 : kA.length = nsA.length := by have := congrArg List.length kkA; rwa [List.length_map, List.length_map] at this
                have e4 := List.length_filter_le (fun k => (valV kB k).isSome) (keysOf (kA.take i))
                rw [e1, hkc]
                omega
              · have hA8 : A1 ≠ C := hAC
                have hnk : kk ∉ keysOf (kA.take i) := by
                  have nd : (keysOf kA).Nodup := by
                    unfold keysOf
                    rw [kkA]
                    exact List.pairwise_map.mpr (ndA.imp fun h e => h (Sum.inl.inj e))
                  intro hm
                  unfold keysOf at hm nd
                  obtain ⟨j, hj, ej⟩ := List.getElem_of_mem hm
                  rw [List.length_map, List.length_take] at hj
                  have hki : (kA.map (·.1))[i]? = some kk := by rw [List.getElem?_map, hkv]; rfl
                  obtain ⟨hi2, ei⟩ := List.getElem?_eq_some_iff.mp hki
                  have hj2 : j < (kA.map (·.1)).length := by rw [List.length_map]; omega
                  have ej2 : (kA.map (·.1))[j] = kk := by
                    rw [← ej, List.getElem_map, List.getElem_map, List.getElem_take]
                  exact List.pairwise_iff_getElem.mp nd j i hj2 hi2 (by omega) (ej2.trans ei.symm)
                have hvn : valV kc kk = none := by
                  cases e : valV kc kk with
                  | none => rfl
                  | some u =>
                    have : kk ∈ keysOf kc := mem_keys.mpr (by rw [e]; rfl)
                    rw [hkc] at this
                    exact absurd (List.mem_filter.mp this).1 hnk
                refine ⟨Same.put sm7 nC2, by rw [upd_ne hAC]; exact hA7, by rw [upd_ne hBC]; exact hB7, _, upd_same, ?_⟩
                rw [putK_new _ hvn, htk]
                unfold keysOf at hkc ⊢
                rw [List.map_append, List.map_append, List.filter_append, hkc]
                congr 1
                show [kk] = List.filter _ [kk]
                exact (filt_yes (p := fun k => (valV kB k).isSome) hsome).symm
            · refine ⟨sm7, hA7, hB7, kc, hC7, ?_⟩
              rw [htk, hkc]
              unfold keysOf
              rw [List.map_append, List.filter_append]
              have : List.filter (fun k => (valV kB k).isSome) (List.map (·.1) [(kk, vv)]) = [] := filt_no (p := fun k => (valV kB k).isSome) hnone
              rw [this, List.append_nil]
          · obtain ⟨sm7, hA7, hB7, kc, hC7, hkc⟩ := p
            rw [List.take_length] at hkc
            refine ⟨hA7, ?_⟩
            have sm8 : Same H2 (upd H7 A1 (.dK kA)) := Same.put sm7 nA2
            have hC8 : (upd H7 A1 (.dK kA)) C = some (.dK kc) := by rw [upd_ne hAC.symm]; exact hC7
            generalize upd H7 A1 (.dK kA) = H8 at sm8 hC8
            have kcM : ∀ k : Key, k ∈ keysOf kc ↔ ∃ n : Int, k = .inl n ∧ Sc oZ gZ zs z.2.o n := fun k => by
              rw [hkc, List.mem_filter]
              have e1 : ∀ n : Int, (valV kB (.inl n)).isSome = true ↔ Rt oZ gZ zs n z.2.o := fun n => by
                rw [keys_in kkB, decide_eq_true_eq, memB, bRt]
              constructor
              · rintro ⟨h1, h2⟩
                unfold keysOf at h1
                rw [kkA] at h1
                obtain ⟨n, hn, rfl⟩ := List.mem_map.mp h1
                exact ⟨n, rfl, rt_z2.mp ((memA n).mp hn), (e1 n).mp h2⟩
              · rintro ⟨n, rfl, h1, h2⟩
                refine ⟨?_, (e1 n).mpr h2⟩
                unfold keysOf
                rw [kkA]
                exact List.mem_map.mpr ⟨n, (memA n).mpr (rt_z2.mpr h1), rfl⟩
            have kcL : kc.length ≤ 1001 := by
              have e1 : kc.length = (keysOf kc).length := by unfold keysOf; rw [List.length_map]
              have e4 := List.length_filter_le (fun k => (valV kB k).isSome) (keysOf kA)
              have e3 : (keysOf kA).length = nsA.length := by unfold keysOf; rw [kkA, List.length_map]
              rw [e1, hkc]
              omega
            have kvL := q.len
            have dn8 := sm8 _ _ q.done
            -- done
            intro pN hpN
            have hdp : dn ≠ pN := ne_of_none dn8 hpN
            have hCp : C ≠ pN := ne_of_none hC8 hpN
            refine ⟨_, rfl, dn, kvs, rfl, hdp, by rw [upd_ne hdp]; exact dn8, upd_same, by omega, ?_⟩
            have lm : (mergeK [] kvs).length ≤ 2000 := by have := length_mergeK kvs []; rw [List.length_nil] at this; omega
            refine ⟨_, rfl, C, kc, mergeK [] kvs, rfl, hCp, by rw [upd_ne hCp, upd_ne hCp]; exact hC8, upd_same, by omega, by omega, ?_⟩
            have npN : H2 pN = none := by
              cases e : H2 pN with
              | none => rfl
              | some o => rw [sm8 _ _ e] at hpN; cases hpN
            have sm9 : Same H2 (upd (upd (upd H8 pN (.dK [])) pN (.dK (mergeK [] kvs))) pN (.dK (mergeK (mergeK [] kvs) kc))) := Same.put (Same.put (Same.put sm8 npN) npN) npN
            have hC9 : (upd (upd (upd H8 pN (.dK [])) pN (.dK (mergeK [] kvs))) pN (.dK (mergeK (mergeK [] kvs) kc))) C = some (.dK kc) := by rw [upd_ne hCp, upd_ne hCp, upd_ne hCp]; exact hC8
            have hp9 : (upd (upd (upd H8 pN (.dK [])) pN (.dK (mergeK [] kvs))) pN (.dK (mergeK (mergeK [] kvs) kc))) pN = some (.dK (mergeK (mergeK [] kvs) kc)) := upd_same
            generalize (upd (upd (upd H8 pN (.dK [])) pN (.dK (mergeK [] kvs))) pN (.dK (mergeK (mergeK [] kvs) kc))) = H9 at sm9 hC9 hp9
            -- part
            refine ⟨_, rfl, a, rfl, ⟨_, SqL.of (let ⟨b, e, h, _⟩ := zE (q.sm.trans sm9); by cases e; exact h)⟩, fun G hG => ?_⟩
            refine lc_val same_ok walk_list (fun j => ((zs.take j).filter fun y => (valV kc (.inl y.2.o)).isSome && (valV kc (.inl y.2.g)).isSome).map (·.1)) hG rfl (fun j hj => ?_) (fun H' r => SqL.of (let ⟨b, e, h, _⟩ := zE ((q.sm.trans sm9).trans r); by cases e; exact h)) (fun N j x H' H10 hj r y keep skip => ?_) fun H10 r hGl => ?_
            · rw [List.length_map] at hj
              exact Nat.lt_of_le_of_lt (fm_take_len _ _ _ _) (small' (by omega))
            · obtain ⟨rfl, hx⟩ := y
              obtain ⟨y, hyj, rfl⟩ := map_at hx
              obtain ⟨ty, my, ey, hty, _⟩ := ((hze y (List.mem_of_getElem? hyj)).same smB).same ((q.sm.trans sm9).trans r)
              rw [ey]
              refine ⟨rfl, ?_⟩
              refine ⟨_, rfl, _, _, _, _, rfl, rfl, SqT.of hty, atI_nat (j := 0) rfl, _, rfl, C, _, rfl, DGet.k (k := Sum.inl y.2.o) (r _ _ hC9), _, rfl, ?_⟩
              refine ite2 (fun h1 => ?_) (fun h1 => ?_)
              · refine ⟨_, rfl, _, _, _, _, rfl, rfl, SqT.of hty, atI_nat (j := 1) rfl, _, rfl, C, _, rfl, DGet.k (k := Sum.inl y.2.g) (r _ _ hC9), _, rfl, ?_⟩
                refine ite2 (fun h2 => ?_) (fun h2 => ?_)
                · refine ⟨_, rfl, keep _ _ (Same.refl _) ?_⟩
                  rw [← ey]
                  exact fm_take_yes hyj (by rw [h1, h2]; rfl)
                · exact skip _ (Same.refl _) (fm_take_no hyj (by rw [Bool.and_eq_false_iff]; exact .inr (by simpa using h2)))
              · refine iteF ?_
                exact skip _ (Same.refl _) (fm_take_no hyj (by rw [Bool.and_eq_false_iff]; exact .inl (by simpa using h1)))
            · rw [List.length_map, List.take_length] at hGl
              have nG2 : H2 G = none := by
                cases e : H2 G with
                | none => rfl
                | some o => rw [sm9 _ _ e] at hG; cases hG
              have sm10 : Same H2 H10 := sm9.trans r
              have pM : ∀ e, e ∈ (zs.filter fun y => (valV kc (.inl y.2.o)).isSome && (valV kc (.inl y.2.g)).isSome) ↔ e ∈ zs ∧ Sc oZ gZ zs z.2.o (oZ e) ∧ Sc oZ gZ zs z.2.o (gZ e) := fun e => by
                rw [List.mem_filter, Bool.and_eq_true, ← mem_keys, ← mem_keys, kcM, kcM]
                constructor
                · rintro ⟨h1, ⟨n, e1, h2⟩, ⟨n', e2, h3⟩⟩
                  rw [← Sum.inl.inj e1] at h2
                  rw [← Sum.inl.inj e2] at h3
                  exact ⟨h1, h2, h3⟩
                · rintro ⟨h1, h2, h3⟩
                  exact ⟨h1, ⟨_, rfl, h2⟩, ⟨_, rfl, h3⟩⟩
              have pL : (zs.filter fun y => (valV kc (.inl y.2.o)).isSome && (valV kc (.inl y.2.g)).isSome).length ≤ 1000 := Nat.le_trans (List.length_filter_le _ _) hlen
              generalize (zs.filter fun y => (valV kc (.inl y.2.o)).isSome && (valV kc (.inl y.2.g)).isSome) = PP at hGl pM pL
              have pE : ∀ e ∈ PP, EdAt H10 e.1 e.2 := fun e he => ((hze e ((pM e).mp he).1).same smB).same (q.sm.trans sm10)
              -- what stays whether or not a part is added
              have keysN : ∀ k : Key, k ∈ keysOf (mergeK (mergeK [] kvs) kc) ↔ k ∈ keysOf kvs ∨ k ∈ keysOf kc := fun k => by
                rw [mem_keys_merge, mem_keys_merge]
                simp [keysOf]
              have ndN : (keysOf (mergeK (mergeK [] kvs) kc)).Nodup := nd_merge (nd_merge List.nodup_nil)
              have subN : ∀ k ∈ keysOf (mergeK (mergeK [] kvs) kc), ∃ n ∈ zs.map oZ ++ zs.map gZ, k = Sum.inl n := fun k hk => by
                rcases (keysN k).mp hk with h | h
                · exact q.sub k h
                · obtain ⟨n, e, h1, h2⟩ := (kcM k).mp h
                  refine ⟨n, ?_, e⟩
                  rcases rt_node h1 with h | h
                  · rw [h]
                    exact List.mem_append_left _ (List.mem_map.mpr ⟨z, hzz, rfl⟩)
                  · exact List.mem_append_right _ h
              have preN : ∀ (j : Nat) (y : Z), j < i + 1 → zs[j]? = some y → (Sum.inl y.2.o : Key) ∈ keysOf (mergeK (mergeK [] kvs) kc) := fun j y hj hy => by
                rw [keysN]
                rcases Nat.lt_or_ge j i with l | l
                · exact .inl (q.pre j y l hy)
                · have : j = i := by omega
                  subst this
                  rw [hzi] at hy
                  cases hy
                  exact .inr ((kcM _).mpr ⟨_, rfl, Rt.refl _, Rt.refl _⟩)
              have hF10 := sm10 _ _ q.found
              have psN : Paired (PAt F H10) us Ps := L2.Paired.mapP q.ps fun v P h => (let ⟨b, e, h1, h2⟩ := h; ⟨b, e, h1, sm10 _ _ h2⟩)
              refine ⟨_, rfl, by decide, fun e0 he0 => ?_⟩
              have hG11 : (upd H10 e0 (.lst [])) G = some (.lst (PP.map (·.1))) := by rw [upd_ne (ne_of_none hGl he0)]; exact hGl
              refine ⟨.list ((PP.map (·.2)).map dEd), .list [], ?_, .lst (SqL.of upd_same) .nil, eds_shaped ?_, rfl, _, rfl, ?_⟩
              · refine .lst (SqL.of hG11) ?_
                rw [List.map_map]
                exact dp_eds fun e he => (pE e he).same (Same.one he0)
              · intro e he
                obtain ⟨y, hy, rfl⟩ := List.mem_map.mp he
                exact (pE y hy).lo
              have ne0 : H2 e0 = none := by
                cases e : H2 e0 with
                | none => rfl
                | some o => rw [sm10 _ _ e] at he0; cases he0
              have sm11 : Same H2 (upd H10 e0 (.lst [])) := Same.put sm10 ne0
              have hp11 : (upd H10 e0 (.lst [])) pN = some (.dK (mergeK (mergeK [] kvs) kc)) := (Same.put (r) (by
                  cases e : H9 e0 with
                  | none => rfl
                  | some o => rw [r _ _ e] at he0; cases he0)) _ _ hp9
              have hF11 : (upd H10 e0 (.lst [])) F = some (.lst us) := sm11 _ _ q.found
              have psN1 : Paired (PAt F (upd H10 e0 (.lst []))) us Ps := L2.Paired.mapP q.ps fun v P h => (let ⟨b, e, h1, h2⟩ := h; ⟨b, e, h1, sm11 _ _ h2⟩)
              cases PP with
              | nil =>
                refine iteF ?_
                refine ⟨_, _, _, pN, _, _, _, _, _, us, Ps, rfl, q.sm.trans sm11, hF11, Nat.le_succ_of_le q.ul, psN1, hp11, ndN, subN, preN, fun n hn e he h1 h2 => ?_, q.each⟩
                rcases (keysN _).mp hn with h | h
                · exact q.all n h e he h1 h2
                · obtain ⟨n', en, hs⟩ := (kcM _).mp h
                  cases Sum.inl.inj en
                  have : e ∈ ([] : List Z) := (pM e).mpr ⟨he, ⟨hs.1.trans h1.1, h1.2.trans hs.2⟩, ⟨hs.1.trans h2.1, h2.2.trans hs.2⟩⟩
                  cases this
              | cons p0 PP =>
                refine iteT ?_
                have hGF : G ≠ F := (ne_of_none q.found nG2).symm
                refine ⟨_, rfl, .inl ⟨rfl, _, SqL.of hF11⟩, _, rfl, F, _, _, rfl, rfl, hF11, small' (by have := q.ul; omega), ?_⟩
                have nFB : HB F = none := hF
                refine ⟨_, _, _, pN, _, _, _, _, _, us ++ [.ref G], Ps ++ [p0 :: PP], rfl, Same.put (q.sm.trans sm11) nFB, upd_same, ?_, ?_, ?_, ndN, subN, preN, fun n hn e he h1 h2 => ?_, fun P hP => ?_⟩
                · rw [List.length_append]
                  have := q.ul
                  show us.length + 1 ≤ i + 1
                  omega
                · refine Paired.snoc (L2.Paired.mapP psN1 fun v P h => ?_) ⟨G, rfl, hGF, by rw [upd_ne hGF]; exact hG11⟩
                  obtain ⟨b, e, h1, h2⟩ := h
                  exact ⟨b, e, h1, by rw [upd_ne h1]; exact h2⟩
                · rw [upd_ne (ne_of hp11 hF11 (by intro q; cases q))]
                  exact hp11
                · rcases (keysN _).mp hn with h | h
                  · obtain ⟨P, hP, h⟩ := q.all n h e he h1 h2
                    exact ⟨P, List.mem_append_left _ hP, h⟩
                  · obtain ⟨n', en, hs⟩ := (kcM _).mp h
                    cases Sum.inl.inj en
                    exact ⟨_, List.mem_append_right _ (List.mem_singleton.mpr rfl), (pM e).mpr ⟨he, ⟨hs.1.trans h1.1, h1.2.trans hs.2⟩, ⟨hs.1.trans h2.1, h2.2.trans hs.2⟩⟩⟩
                · rcases List.mem_append.mp hP with h | h
                  · exact q.each P h
                  · rw [List.mem_singleton.mp h]
                    exact ⟨⟨List.cons_ne_nil _ _, _, ⟨pM⟩⟩, pL⟩
      · obtain ⟨x1, x2, x3, dn, x7, x8, x9, x10, kvs, us, Ps, rfl, q⟩ := p
        rw [List.length_map] at q
        refine ⟨_, rfl, k F H1 us Ps (smB.trans q.sm) q.found (L2.Paired.mapP q.ps fun v P h => ?_) ⟨fun P hP => (q.each P hP).1, fun e he hr => ?_⟩ fun P hP => (q.each P hP).2⟩
        · obtain ⟨b, e, _, h⟩ := h
          exact ⟨b, e, h⟩
        · obtain ⟨j, hj, ej⟩ := List.getElem_of_mem he
          have hk := q.pre j e hj (by rw [List.getElem?_eq_getElem hj, ej])
          exact q.all _ hk e he ⟨Rt.refl _, Rt.refl _⟩ ⟨Rt.edge he, hr⟩
end
end Rg

end
section
set_option Elab.async false
set_option linter.all false
set_option maxRecDepth 100000
set_option maxHeartbeats 4000000
namespace Rg
open PySem PySem.Spec PyProof.Rows L2
theorem none_of {H H' : Hp} {a : Addr} (s : Same H H') (n : H' a = none) : H a = none := by
  cases e : H a with
  | none => rfl
  | some o => rw [s _ _ e] at n; cases n
section
variable {P : Program} {w : World} {K : PySem.W.Frag} {mg : Str → Option Value} {base : Heap}
/-! ring_through -/
def spRing : Sp := fun vs H Q _ => ∃ (v : V) (zs : List Z) (z0 : Z), vs = [v] ∧ Es H v (z0 :: zs) ∧ (z0 :: zs).length ≤ 1000 ∧ (∀ e ∈ z0 :: zs, ∀ f ∈ z0 :: zs, Rt oZ gZ (z0 :: zs) (gZ e) (oZ f)) ∧
  ∀ (p : Addr) (H' : Hp) (es : List Z), Same H H' → H' p = some (.lst (es.map (·.1))) → Ch oZ gZ (z0 :: zs) (oZ z0) es (oZ z0) → (∀ z ∈ z0 :: zs, z ∈ es) → es.length ≤ 1010000 → Q (.ref p) H'
theorem sc_ring : FnScope ["edges", "found", "here", "edge"] ["edges"] (defScope (top 25)) := ⟨rfl, rfl, rfl, by decide +kernel, rfl, by decide +kernel, by decide +kernel⟩
theorem c_ring {f : Addr} {fd : FuncData} (D : Df K mg "ring_through" (top 25) f fd) (c1 : C8.Cal P w K mg base 2 "path" spPath []) : C8.Cal P w K mg base 3 "ring_through" spRing [] := by
  refine cal_of D (fun _ _ _ _ _ _ us hl => match us, hl with | [_], _ => rfl) sc_ring (fun vs H Q E h => ?_) (fun cdv A outer s H vs Q E hr h => ?_)
  · obtain ⟨v, zs, z0, rfl, _⟩ := h
    rfl
  · obtain ⟨v, zs', z0, rfl, hz, hlen, hj, k⟩ := h
    obtain ⟨a, rfl, ha, hze⟩ := hz
    refine ⟨_, pss_cons (ps_par (i := 1) (j := 2) rfl sc_ring.nd rfl rfl (by decide) rfl rfl (pa_cons (pe_lst pa_nil) (pa_cons (pe_ix ix_tup (pe_ix ix_list (pv 0) pe_int (fun _ _ => rfl)) pe_int (fun _ _ => rfl)) pa_nil)) rfl)
      (pss_cons (ps_for PassesOwn.never rfl (pi_list (pv 0)) (pg_name (i := 3) sc_ring.nd rfl (Or.inl rfl))
        (pss_cons (ps_set (i := 1) sc_ring.nd rfl (Or.inl rfl) (pe_op op_cat (pe_op op_cat (pv 1) (C8.pe_c c1 hr (by decide) rfl (pa_cons (pv 0) (pa_cons (pv 2) (pa_cons (pe_disp (pps_cons (pe_ix ix_tup (pv 3) pe_int (fun _ _ => rfl)) pe_bl pps_nil) (by rfl) (by rfl) (fun z => by cases z) (by decide)) pa_nil))))) (pe_lst (pa_cons (pv 3) pa_nil))))
          (pss_one (ps_set (i := 2) sc_ring.nd rfl (Or.inl rfl) (pe_ix ix_tup (pv 3) pe_int (fun _ _ => rfl))))))
      (pss_one (ps_ret (pe_op op_cat (pv 1) (C8.pe_c c1 hr (by decide) rfl (pa_cons (pv 0) (pa_cons (pv 2) (pa_cons (pe_disp (pps_cons (pe_ix ix_tup (pe_ix ix_list (pv 0) pe_int (fun _ _ => rfl)) pe_int (fun _ _ => rfl)) pe_bl pps_nil) (by rfl) (by rfl) (fun z => by cases z) (by decide)) pa_nil)))))))), ?_⟩
    generalize hzs : z0 :: zs' = zs at *
    have hz0 : zs[0]? = some z0 := by rw [← hzs]; rfl
    have hz0m : z0 ∈ zs := List.mem_of_getElem? hz0
    have zE : ∀ {H' : Hp}, Same H H' → Es H' (.ref a) zs := fun s => ⟨a, rfl, s _ _ ha, fun z hz => (hze z hz).same s⟩
    refine ⟨by decide, fun F hF => ?_⟩
    have s1 : Same H (upd H F (.lst [])) := Same.one hF
    obtain ⟨t0, m0, et0, ht0, _⟩ := hze z0 hz0m
    have i0 : atI (zs.map (·.1)) (0 : Int) = some (.ref t0) := atI_nat (j := 0) (by rw [List.getElem?_map, hz0, ← et0]; rfl)
    refine ⟨_, rfl, _, _, _, _, rfl, rfl, SqL.of (s1 _ _ ha), i0, _, _, _, _, rfl, rfl, SqT.of (s1 _ _ ht0), atI_nat (j := 0) rfl, _, _, rfl, ?_⟩
    refine ⟨_, rfl, a, rfl, ⟨_, SqL.of (s1 _ _ ha)⟩, ?_⟩
    refine for_it (walk_list (xs := zs.map (·.1))) (fun i σ H' => ∃ F here x es, σ = [some (.ref a), some (.ref F), some (.int here), x] ∧ Same H H' ∧ H' F = some (.lst (es.map (·.1))) ∧ Ch oZ gZ zs (oZ z0) es here ∧ (∀ z ∈ zs.take i, z ∈ es) ∧ (here = oZ z0 ∧ i = 0 ∨ ∃ z ∈ zs, here = gZ z) ∧ es.length ≤ 1002 * i)
      ⟨F, oZ z0, none, [], rfl, s1, upd_same, rfl, (fun z hz => nomatch hz), .inl ⟨rfl, rfl⟩, Nat.zero_le _⟩ (fun i σ H' _ p => SqL.of (let ⟨_, _, _, _, _, s, _⟩ := p; s _ _ ha)) (fun i x σ H1 H2 hi p y => ?_) fun σ H1 p => ?_
    · obtain ⟨rfl, hx⟩ := y
      obtain ⟨F, here, x3, es, rfl, sm, hF, hch, hall, hh, hel⟩ := p
      obtain ⟨z, hzi, rfl⟩ := map_at hx
      have hzz := List.mem_of_getElem? hzi
      rw [List.length_map] at hi
      obtain ⟨t, m, et, ht, hm⟩ := (hze z hzz).same sm
      rw [et]
      have hrt : Rt oZ gZ zs here (oZ z) := by
        rcases hh with ⟨e1, e2⟩ | ⟨y, hy, e⟩
        · subst e2
          rw [hz0] at hzi
          cases hzi
          rw [e1]
          exact Rt.refl _
        · rw [e]
          exact hj y hy z hzz
      refine ⟨_, rfl, _, rfl, _, rfl, ?_⟩
      intro G hG
      have hGt : t ≠ G := ne_of_none ht hG
      refine ⟨_, rfl, _, _, _, _, rfl, rfl, SqT.of (by rw [upd_ne hGt]; exact ht), atI_nat (j := 0) rfl, upd_same, [(.inl (oZ z), .bl true)], rfl, (by show 1 ≤ 15; decide), ?_⟩
      have s2 : Same H2 (upd (upd H2 G (.dK [])) G (.dK (mergeK [] [(.inl (oZ z), .bl true)]))) := Same.put (Same.one hG) hG
      refine ⟨.ref a, zs.map z2, here, oZ z, G, rfl, (zE (sm.trans s2)).e2, by rw [List.length_map]; omega, upd_same, rt_z2.mpr hrt, fun p H3 es2 sm3 hp hch2 hl2 hp3 => ?_⟩
      obtain ⟨fs, hfs, rfl⟩ := ch_lift (o := oZ) (g := gZ) (f := z2) (fun _ => rfl) (fun _ => rfl) hch2
      rw [List.length_map, List.length_map] at hl2
      rw [List.map_map] at hp3
      have s3 := s2.trans sm3
      refine ⟨F, p, _, _, rfl, rfl, s3 _ _ hF, hp3, by rw [List.length_map, List.length_map, sizeLine_eq]; omega, fun F2 hF2 => ?_⟩
      refine ⟨_, rfl, by show 1 ≤ sizeLine; decide, fun L hL => ?_⟩
      have hF2L : F2 ≠ L := ne_of_none upd_same hL
      refine ⟨F2, L, _, _, rfl, rfl, by rw [upd_ne hF2L]; exact upd_same, upd_same, (by rw [List.length_append, List.length_map, List.length_map, sizeLine_eq]; show _ + 1 ≤ _; omega), fun F3 hF3 => ?_⟩
      have s4 : Same H2 (upd (upd (upd H3 F2 (.lst (es.map (·.1) ++ fs.map ((fun x : Z2 => x.1) ∘ z2)))) L (.lst [.ref t])) F3 (.lst ((es.map (·.1) ++ fs.map ((fun x : Z2 => x.1) ∘ z2)) ++ [.ref t]))) :=
        Same.put (Same.put (Same.put s3 (none_of s3 hF2)) (none_of (Same.put s3 (none_of s3 hF2)) hL)) (none_of (Same.put (Same.put s3 (none_of s3 hF2)) (none_of (Same.put s3 (none_of s3 hF2)) hL)) hF3)
      refine ⟨_, rfl, _, _, _, _, rfl, rfl, SqT.of (s4 _ _ ht), atI_nat (j := 1) rfl, ?_⟩
      refine ⟨F3, gZ z, _, es ++ fs ++ [z], rfl, sm.trans s4, ?_, (hch.app hfs).app ⟨hzz, rfl, rfl⟩, fun y hy => ?_, .inr ⟨z, hzz, rfl⟩, ?_⟩
      · rw [upd_same, List.map_append, List.map_append, ← et]
        rfl
      · rw [take_succ_at hzi] at hy
        rcases List.mem_append.mp hy with hy | hy
        · exact List.mem_append_left _ (List.mem_append_left _ (hall y hy))
        · exact List.mem_append_right _ hy
      · rw [List.length_append, List.length_append]
        show _ + _ + 1 ≤ _
        omega
    · obtain ⟨F, here, x3, es, rfl, sm, hF, hch, hall, hh, hel⟩ := p
      rw [List.length_map] at hall hel
      rw [List.take_length] at hall
      have hrt : Rt oZ gZ zs here (oZ z0) := by
        rcases hh with ⟨e1, e2⟩ | ⟨y, hy, e⟩
        · rw [e1]
          exact Rt.refl _
        · rw [e]
          exact hj y hy z0 hz0m
      refine ⟨_, rfl, _, rfl, _, rfl, ?_⟩
      intro G hG
      have s0 : Same H (upd H1 G (.dK [])) := sm.trans (Same.one hG)
      refine ⟨_, rfl, _, _, _, _, rfl, rfl, SqL.of (s0 _ _ ha), i0, _, _, _, _, rfl, rfl, SqT.of (s0 _ _ ht0), atI_nat (j := 0) rfl, upd_same, [(.inl (oZ z0), .bl true)], rfl, (by show 1 ≤ 15; decide), ?_⟩
      have s2 : Same H1 (upd (upd H1 G (.dK [])) G (.dK (mergeK [] [(.inl (oZ z0), .bl true)]))) := Same.put (Same.one hG) hG
      refine ⟨.ref a, zs.map z2, here, oZ z0, G, rfl, (zE (sm.trans s2)).e2, by rw [List.length_map]; omega, upd_same, rt_z2.mpr hrt, fun p H3 es2 sm3 hp hch2 hl2 hp3 => ?_⟩
      obtain ⟨fs, hfs, rfl⟩ := ch_lift (o := oZ) (g := gZ) (f := z2) (fun _ => rfl) (fun _ => rfl) hch2
      rw [List.length_map, List.length_map] at hl2
      rw [List.map_map] at hp3
      have s3 := s2.trans sm3
      refine ⟨F, p, _, _, rfl, rfl, s3 _ _ hF, hp3, by rw [List.length_map, List.length_map, sizeLine_eq]; omega, fun F2 hF2 => ?_⟩
      refine k F2 _ (es ++ fs) (sm.trans (Same.put s3 (none_of s3 hF2))) ?_ (hch.app hfs) (fun y hy => List.mem_append_left _ (hall y hy)) ?_
      · rw [upd_same, List.map_append]
        rfl
      · rw [List.length_append]
        omega
end
end Rg

end
section
set_option Elab.async false
set_option linter.all false
set_option maxRecDepth 100000
set_option maxHeartbeats 4000000
namespace Rg
open PySem PySem.Spec PyProof.Rows L2
def nZ (z : Z) : Int := z.2.n
def dZ (z : Z) : Lit := z.2.d
def FZ : EdF Z := ⟨oZ, gZ, nZ, dZ⟩
/-- marks of lamps -/
def Lm (zs : List Z) : Prop := ∀ z ∈ zs, z.2.d.length ≤ 4 ∧ ∀ c ∈ z.2.d, c ∈ abc
section
variable {P : Program} {w : World} {K : PySem.W.Frag} {mg : Str → Option Value} {base : Heap}
/-! lamps_of -/
def spLampsOf : Sp := fun vs H Q _ => ∃ (v : V) (zs : List Z), vs = [v] ∧ Es H v zs ∧ zs.length ≤ 1000 ∧ Lm zs ∧ ∀ H', Same H H' → Q (tx (un abc (zs.map dZ))) H'
theorem sc_lampsOf : FnScope ["edges", "lits", "origin", "goal", "mark"] ["edges"] (defScope (top 26)) := ⟨rfl, rfl, rfl, by decide +kernel, rfl, by decide +kernel, by decide +kernel⟩
theorem c_lampsOf {f : Addr} {fd : FuncData} (D : Df K mg "lamps_of" (top 26) f fd) (cu : UnionC P w K mg base 1) : C8.Cal P w K mg base 2 "lamps_of" spLampsOf [] := by
  obtain ⟨fu, _, Fu, hmu, hku⟩ := cu.ex
  refine cal_of D (fun _ _ _ _ _ _ us hl => match us, hl with | [_], _ => rfl) sc_lampsOf (fun vs H Q E h => ?_) (fun cdv A outer s H vs Q E hr h => ?_)
  · obtain ⟨v, zs, rfl, _⟩ := h
    rfl
  · obtain ⟨v, zs, rfl, ⟨a, rfl, ha, hze⟩, hlen, hlm, k⟩ := h
    refine ⟨_, pss_cons (ps_setLc (i := 1) (own := [("origin", 2), ("goal", 3), ("mark", 4)]) (g := gTup K 3 (gCons (gName 2) (gCons (gName 3) (gCons (gName 4) gNil)))) rfl sc_lampsOf.nd rfl rfl (sw_true rfl rfl rfl (by decide +kernel)) (pi_list (pv 0)) (blkOk_by (own := [("origin", 2), ("goal", 3), ("mark", 4)]) (N := ["edges", "lits", "origin", "goal", "mark"]) (sc := defScope (top 26)) (by decide +kernel))
        (fun _ _ _ _ _ => pg_tup rfl (pgs_cons (pg_name (i := 2) sc_lampsOf.nd rfl (Or.inl rfl) (Or.inr rfl)) (pgs_cons (pg_name (i := 3) sc_lampsOf.nd rfl (Or.inl rfl) (Or.inr rfl)) (pgs_cons (pg_name (i := 4) sc_lampsOf.nd rfl (Or.inl rfl) (Or.inr rfl)) pgs_nil)))) (fun _ _ _ _ _ => pts_nil)
        (fun _ _ _ _ _ => pe_ix (ixT K) (pv 4) pe_int (fun _ _ => rfl)))
      (pss_one (ps_ret (StX.pe_callS1 Fu (hr.mono (by decide)) hku rfl hmu C8.pass0 (E := C8.E0) (pv 1)))), ?_⟩
    refine ⟨_, rfl, a, rfl, ⟨_, SqL.of ha⟩, fun D hD => ?_⟩
    refine lc_val same_ok walk_list (fun i => (zs.take i).map fun z => tx z.2.d) hD rfl (fun i hi => ?_) (fun H' r => SqL.of (r _ _ ha)) (fun N i x H1 H2 hi r y keep skip => ?_) fun H1 r hDl => ?_
    · exact Nat.lt_of_le_of_lt (m_take_len _ _ _) (small' (by omega))
    · obtain ⟨rfl, hx⟩ := y
      obtain ⟨z, hzi, rfl⟩ := map_at hx
      obtain ⟨t, m, et, ht, mk, rfl, hmk, _⟩ := (hze z (List.mem_of_getElem? hzi)).same r
      rw [et]
      refine ⟨t, _, rfl, SqT.of ht, rfl, _, _, rfl, _, _, rfl, _, _, rfl, rfl, rfl, yes ?_⟩
      exact ⟨_, rfl, _, _, _, _, rfl, rfl, SqT.of hmk, atI_nat (j := 1) rfl, keep _ _ (Same.refl _) (map_take_succ hzi)⟩
    · rw [List.length_map, List.take_length] at hDl
      refine ⟨_, rfl, D, _, rfl, .inr (SqL.of hDl), zs.map dZ, by rw [List.map_map]; rfl, by rw [List.length_map]; exact hlen, fun l hl => ?_, fun H' r2 => k _ (r.trans r2)⟩
      obtain ⟨z, hz, rfl⟩ := List.mem_map.mp hl
      exact hlm z hz
/-! wrong_ring -/
def HitA (lit : Lit) (m : Int) (P : List Z) : Prop := un abc (P.map dZ) = lit ∧ IsMax m (P.map nZ)
def spWrong : Sp := fun vs H Q _ => ∃ (v : V) (zs : List Z) (lit : Lit) (m : Int), vs = [v, tx lit, .int m] ∧ Es H v zs ∧ zs.length ≤ 1000 ∧ Lm zs ∧
  (∀ (p : Addr) (H' : Hp) (Ps : List (List Z)) (P : List Z), Same H H' → Parts oZ gZ (subE FZ zs lit m) Ps → P ∈ Ps → H' p = some (.lst (P.map (·.1))) → HitA lit m P → P.length ≤ 1000 → Q (.ref p) H') ∧
  ∀ (H' : Hp) (Ps : List (List Z)), Same H H' → Parts oZ gZ (subE FZ zs lit m) Ps → (∀ P ∈ Ps, ¬ HitA lit m P) → Q .non H'
theorem sc_wrong : FnScope ["edges", "lit", "number", "part", "edge", "origin", "end", "mark"] ["edges", "lit", "number"] (defScope (top 33)) := ⟨rfl, rfl, rfl, by decide +kernel, rfl, by decide +kernel, by decide +kernel⟩
theorem c_wrong {f : Addr} {fd : FuncData} (D : Df K mg "wrong_ring" (top 33) f fd) (B : Bl mg) (c1 : C8.Cal P w K mg base 3 "strong_parts" spStrong []) (c2 : C8.Cal P w K mg base 2 "lamps_of" spLampsOf []) (c3 : C8.Cal P w K mg base 1 "is_within" spWithin []) : C8.Cal P w K mg base 4 "wrong_ring" spWrong [] := by
  refine cal_of D (fun _ _ _ _ _ _ us hl => match us, hl with | [_, _, _], _ => rfl) sc_wrong (fun vs H Q E h => ?_) (fun cdv A outer s H vs Q E hr h => ?_)
  · obtain ⟨v, zs, lit, m, rfl, _⟩ := h
    rfl
  · obtain ⟨v, zs, lit, m, rfl, ⟨a, rfl, ha, hze⟩, hlen, hlm, kY, kN⟩ := h
    refine ⟨_, pss_cons (ps_for PassesOwn.never rfl (pi_list (C8.pe_c c1 hr (by decide) (by rfl) (pa_cons
          (pe_lc (own := [("edge", 4)]) (g := gName 4) rfl sc_wrong.nd (pi_list (pv 0)) (blkOk_by (own := [("edge", 4)]) (N := ["edges", "lit", "number", "part", "edge", "origin", "end", "mark"]) (sc := defScope (top 33)) (by decide +kernel)) (fun _ _ _ _ _ => pg_name (i := 4) sc_wrong.nd rfl (Or.inl rfl))
            (fun _ _ _ _ _ => pts_one (pw_and (pt_val (C8.pe_c c3 hr (by decide) (by rfl) (pa_cons (pe_ix (ixT K) (pe_ix (ixT K) (pv 4) pe_int (fun _ _ => rfl)) pe_int (fun _ _ => rfl)) (pa_cons (pv 1) pa_nil))))
              (pw_and1 (pt_cmpR op_le (pe_ix (ixT K) (pe_ix (ixT K) (pv 4) pe_int (fun _ _ => rfl)) pe_int (fun _ _ => rfl)) (pv 2) (nomark _)))).pt)
            (fun _ _ _ _ _ => pv 4)) pa_nil))) (pg_name (i := 3) sc_wrong.nd rfl (Or.inl rfl))
        (pss_one (ps_if (pw_and (pt_cmpR op_eq (C8.pe_c c2 hr (by decide) (by rfl) (pa_cons (pv 3) pa_nil)) (pv 1) (nomark _))
          (pw_and1 (pt_cmpR op_eq (pe_callB (cr_max rfl) (by rfl) B.max (by decide +kernel) (pa_cons
            (pe_lc (own := [("origin", 5), ("end", 6), ("mark", 7)]) (g := gTup K 3 (gCons (gName 5) (gCons (gName 6) (gCons (gName 7) gNil)))) rfl sc_wrong.nd (pi_list (pv 3)) (blkOk_by (own := [("origin", 5), ("end", 6), ("mark", 7)]) (N := ["edges", "lit", "number", "part", "edge", "origin", "end", "mark"]) (sc := defScope (top 33)) (by decide +kernel))
              (fun _ _ _ _ _ => pg_tup rfl (pgs_cons (pg_name (i := 5) sc_wrong.nd rfl (Or.inl rfl) (Or.inr rfl)) (pgs_cons (pg_name (i := 6) sc_wrong.nd rfl (Or.inl rfl) (Or.inr rfl)) (pgs_cons (pg_name (i := 7) sc_wrong.nd rfl (Or.inl rfl) (Or.inr rfl)) pgs_nil)))) (fun _ _ _ _ _ => pts_nil)
              (fun _ _ _ _ _ => pe_ix (ixT K) (pv 7) pe_int (fun _ _ => rfl))) pa_nil)) (pv 2) (nomark _)))).pt
          (pss_one (ps_ret (pv 3))) pss_nil)))
      (pss_one (ps_ret pe_non)), ?_⟩
    refine ⟨_, rfl, a, rfl, ⟨_, SqL.of ha⟩, fun D hD => ?_⟩
    refine lc_val same_ok walk_list (fun i => ((zs.take i).filter fun e => within (FZ.d e) lit && decide (FZ.n e ≤ m)).map (·.1)) hD rfl (fun i hi => ?_) (fun H' r => SqL.of (r _ _ ha)) (fun N i x H1 H2 hi r y keep skip => ?_) fun H1 r hDl => ?_
    · rw [List.length_map] at hi
      exact Nat.lt_of_le_of_lt (fm_take_len _ _ _ _) (small' (by omega))
    · obtain ⟨rfl, hx⟩ := y
      obtain ⟨z, hzi, rfl⟩ := map_at hx
      have hzz := List.mem_of_getElem? hzi
      obtain ⟨t, mm, et, ht, mk, rfl, hmk, _⟩ := (hze z hzz).same r
      rw [et]
      refine ⟨rfl, ?_⟩
      refine ⟨_, rfl, _, _, _, _, rfl, rfl, SqT.of ht, atI_nat (j := 2) rfl, _, _, _, _, rfl, rfl, SqT.of hmk, atI_nat (j := 1) rfl, _, rfl, z.2.d, lit, rfl, by have := (hlm z hzz).1; omega, fun H3 r3 => ⟨_, rfl, ?_⟩⟩
      refine ite2 (fun h1 => ?_) (fun h1 => ?_)
      · refine ⟨_, rfl, _, _, _, _, rfl, rfl, SqT.of (r3 _ _ ht), atI_nat (j := 2) rfl, _, _, _, _, rfl, rfl, SqT.of (r3 _ _ hmk), atI_nat (j := 0) rfl, _, rfl, _, _, rfl, rfl, _, rfl, ?_⟩
        refine ite2 (fun h2 => ?_) (fun h2 => ?_)
        · refine ⟨_, rfl, keep _ _ r3 ?_⟩
          rw [← et]
          exact fm_take_yes hzi (by show (within z.2.d lit && decide (z.2.n ≤ m)) = true; rw [h1, h2]; rfl)
        · exact skip _ r3 (fm_take_no hzi (by show (within z.2.d lit && decide (z.2.n ≤ m)) = false; rw [Bool.and_eq_false_iff]; exact .inr (by simpa using h2)))
      · refine iteF ?_
        exact skip _ r3 (fm_take_no hzi (by show (within z.2.d lit && decide (z.2.n ≤ m)) = false; rw [Bool.and_eq_false_iff]; exact .inl (by simpa using h1)))
    · rw [List.length_map, List.take_length] at hDl
      have sE : Es H1 (.ref D) (subE FZ zs lit m) := ⟨D, rfl, hDl, fun z hz => (hze z (List.mem_filter.mp hz).1).same r⟩
      have sL : (subE FZ zs lit m).length ≤ 1000 := Nat.le_trans (List.length_filter_le _ _) hlen
      refine ⟨_, _, rfl, sE, sL, fun F H3 us Ps sm hF hps hP hPl => ?_⟩
      have sm' : Same H H3 := r.trans sm
      refine ⟨F, rfl, ⟨_, SqL.of hF⟩, ?_⟩
      refine for_it walk_list (fun i σ H' => ∃ x, σ = [some (.ref a), some (tx lit), some (.int m), x, none, none, none, none] ∧ Same H3 H' ∧ ∀ P ∈ Ps.take i, ¬ HitA lit m P) ⟨none, rfl, Same.refl _, (fun P hP => nomatch hP)⟩ (fun i σ H' _ p => SqL.of (let ⟨_, _, s, _⟩ := p; s _ _ hF)) (fun i x σ H4 H5 hi p y => ?_) fun σ H4 p => ?_
      · obtain ⟨rfl, hx⟩ := y
        obtain ⟨x3, rfl, s4, hno⟩ := p
        obtain ⟨P, hPi, b, rfl, hb⟩ := paired_get hps hx
        have hPm := List.mem_of_getElem? hPi
        have hsub : ∀ e ∈ P, e ∈ subE FZ zs lit m := fun e he => (let ⟨_, _, pv⟩ := hP.each P hPm; ((pv.mem e).mp he).1)
        have hb5 := s4 _ _ hb
        have bE : Es H5 (.ref b) P := ⟨b, rfl, hb5, fun z hz => (hze z (List.mem_filter.mp (hsub z hz)).1).same (sm'.trans s4)⟩
        refine ⟨_, rfl, .ref b, P, rfl, bE, hPl P hPm, fun z hz => hlm z (List.mem_filter.mp (hsub z hz)).1, fun H6 s6 => ?_⟩
        refine ⟨_, rfl, rfl, _, rfl, ?_⟩
        have hnext : ¬ HitA lit m P → ∀ Q ∈ Ps.take (i + 1), ¬ HitA lit m Q := fun h Q hQ => by
          rw [take_succ_at hPi] at hQ
          rcases List.mem_append.mp hQ with hQ | hQ
          · exact hno Q hQ
          · rw [List.mem_singleton.mp hQ]
            exact h
        refine ite2 (fun h1 => ?_) (fun h1 => ?_)
        · have e1 : un abc (P.map dZ) = lit := by
            have h := of_decide_eq_true h1
            have h : SX.S (un abc (P.map dZ)) = SX.S lit := V.str.inj h
            exact congrArg (fun s : Str => s.cps.toList) h
          refine ⟨_, rfl, b, rfl, ⟨_, SqL.of (s6 _ _ hb5)⟩, fun G hG => ?_⟩
          refine lc_val same_ok walk_list (fun j => (P.take j).map fun z => V.int z.2.n) hG rfl (fun j hj => ?_) (fun H' r => SqL.of ((s6.trans r) _ _ hb5)) (fun N j x H7 H8 hj r7 y keep skip => ?_) fun H7 r7 hGl => ?_
          · rw [List.length_map] at hj
            have := hPl P hPm
            exact Nat.lt_of_le_of_lt (m_take_len _ _ _) (small' (by omega))
          · obtain ⟨rfl, hx⟩ := y
            obtain ⟨z, hzj, rfl⟩ := map_at hx
            obtain ⟨t, mm, et, ht, mk, rfl, hmk, _⟩ := ((bE.same (s6.trans r7)).choose_spec.2.2) z (List.mem_of_getElem? hzj)
            rw [et]
            refine ⟨t, _, rfl, SqT.of ht, rfl, _, _, rfl, _, _, rfl, _, _, rfl, rfl, rfl, yes ?_⟩
            exact ⟨_, rfl, _, _, _, _, rfl, rfl, SqT.of hmk, atI_nat (j := 0) rfl, keep _ _ (Same.refl _) (map_take_succ hzj)⟩
          · rw [List.length_map, List.take_length] at hGl
            have hne : P ≠ [] := (hP.each P hPm).1
            refine ⟨G, P.map nZ, rfl, SqL.of (by rw [hGl, List.map_map]; rfl), by rw [List.length_map]; exact List.length_pos_iff.mpr hne, fun x hxm hxl => ?_⟩
            refine ⟨_, rfl, rfl, _, rfl, ?_⟩
            refine ite2 (fun h2 => ?_) (fun h2 => ?_)
            · have e2 : x = m := V.int.inj (of_decide_eq_true h2)
              exact ⟨_, rfl, kY b _ Ps P (sm'.trans (s4.trans (s6.trans r7))) hP hPm ((s6.trans r7) _ _ hb5) ⟨e1, by rw [← e2]; exact ⟨hxm, hxl⟩⟩ (hPl P hPm)⟩
            · refine ⟨_, rfl, s4.trans (s6.trans r7), hnext fun h => h2 (decide_eq_true ?_)⟩
              have := IsMax.uniq ⟨hxm, hxl⟩ h.2
              rw [this]
        · refine iteF ⟨_, rfl, s4.trans s6, hnext fun h => h1 (decide_eq_true (by rw [h.1]))⟩
      · obtain ⟨x3, rfl, s4, hno⟩ := p
        have : us.length = Ps.length := hps.length
        rw [this, List.take_length] at hno
        exact kN _ Ps (sm'.trans s4) hP hno
end
end Rg

end
section
set_option Elab.async false
set_option linter.all false
set_option maxRecDepth 100000
set_option maxHeartbeats 4000000
/-! word, *rest = a tuple -/
namespace Rg
open PySem PySem.Spec PyProof.Rows L2
theorem walks_shift {prog : Program} {w : World} {A : Around} {I : Addr} {fp wr : List Addr} {n : Nat} {P : Nat → Value → Prop} {St : Nat → Heap → Prop} (W : Walks prog w A I fp wr (n + 1) P St) : Walks prog w A I fp wr n (fun i => P (i + 1)) (fun i => St (i + 1)) where
  sub := W.sub
  frame := fun i h h' st k => W.frame (i + 1) h h' st k
  item := fun i s Q E hi st hQ => W.item (i + 1) s Q E (Nat.succ_lt_succ hi) st hQ
  done := fun s Q E st hQ => W.done s Q E st hQ
  self := fun i s Q E st hQ => W.self (i + 1) s Q E st hQ
section
variable {prog : Program} {w : World} {A : Around} {E : Value → Shared → Prop} {s : Shared}
theorem unpackItems_star {t : Addr} {x : Value} {xs : List Value} {Q : List Value → Shared → Prop} (hh : A.handled = none) (ht : IsTup s.heap t (x :: xs).toArray) (hz : xs.length ≤ 1000)
    (hQ : ∀ s1 : Shared, (∀ b o, s.heap.get? b = some o → s1.heap.get? b = some o) → s1.gens = s.gens → s1.os = s.os → Q [x, .ref s1.heap.objs.size] { s1 with heap := s1.heap.push (seqObj "list" xs.toArray 0) }) :
    wpAny (model prog w) A (unpackItems (.ref t) 2 (some 1)) Q E s := by
  have hlt : t ≠ s.heap.objs.size := by obtain ⟨o, ho, _⟩ := ht; exact Nat.ne_of_lt (Heap.lt_size ho)
  unfold unpackItems
  refine wpAny_bind ?_
  unfold notIterableAtAll
  refine wpAny_bind (wpAny_specialOf ht.typeIs slot_tuple_iter.lookup ?_)
  refine wpAny_pure ?_
  simp only [Bool.false_eq_true, if_false]
  refine wpAny_bind (wpAny_holding (iter_tuple ht ?_))
  refine wpAny_bind (wpAny_holding (draw_tuple hlt 1 0 _ _ ⟨_, Heap.get?_push_size _ rfl, rfl, rfl⟩ (ht.push _) (by simp) fun h₁ hit₁ hs₁ => ?_))
  have hall : List.take 1 (List.drop 0 (x :: xs).toArray.toList) = [x] := rfl
  rw [hall]
  rw [if_neg (by simp)]
  have ht₁ : IsTup h₁ t (x :: xs).toArray := (ht.push _).extBut hs₁.extBut hlt
  refine wpAny_bind ?_
  refine wpAny_holding ?_
  have W := walks_shift (Walks.tuple (prog := prog) (w := w) (A := A.in1) hh s.heap.objs.size t hlt (x :: xs).toArray)
  refine wpAny_collect_iter (.inr (.inr (.inr rfl))) W.toS (fun i s st => ?_) ⟨?_, ?_⟩ (fun b hb => ?_) (by simp) (fun s' acc hm hacc => ?_) (by rw [sizeLine_eq]; omega)
  · obtain ⟨⟨o, ho, hc, _⟩, _⟩ := st
    exact ⟨o, ho, hc⟩
  · exact hit₁
  · exact ht₁
  · rcases List.mem_cons.mp hb with z | hb
    · rw [z]
      obtain ⟨o, ho, _⟩ := hit₁
      exact Heap.lt_size ho
    · rw [List.mem_singleton.mp hb]
      obtain ⟨o, ho, _⟩ := ht₁
      exact Heap.lt_size ho
  · have eacc : acc.toList = xs := by
      apply List.ext_getElem
      · rw [Array.length_toList, hacc.1]
      · intro i h1 h2
        have hi : i < acc.size := by rw [Array.length_toList] at h1; exact h1
        have q := hacc.2 i _ (Array.getElem?_eq_getElem hi)
        have q : (x :: xs)[i + 1]? = some acc[i] := by simpa using q
        rw [List.getElem?_cons_succ, List.getElem?_eq_getElem h2] at q
        rw [Array.getElem_toList]
        exact (Option.some.inj q).symm
    rw [eacc]
    have e0 : 2 - 1 - 1 = 0 := rfl
    rw [if_neg (by simp)]
    have et : List.take (xs.length - (2 - 1 - 1)) xs = xs := by rw [e0, Nat.sub_zero, List.take_length]
    have ed : List.drop (xs.length - (2 - 1 - 1)) xs = [] := by rw [e0, Nat.sub_zero, List.drop_length]
    rw [et, ed]
    have k1 : ∀ b o, s.heap.get? b = some o → s'.heap.get? b = some o := fun b o e => by
      have hb : b ≠ s.heap.objs.size := Nat.ne_of_lt (Heap.lt_size e)
      refine hm.heap b o (fun z => hb (List.mem_singleton.mp z)) ((hs₁.2 b hb).trans (Heap.get?_push_of_some _ e))
    refine wpAny_bind (wpAny_newList ?_ (by rw [sizeLine_eq]; omega))
    exact wpAny_pure (hQ s' k1 hm.gens hm.os)
end
/-- word, *rest = .. -/
def gStarT (K : PySem.W.Frag) (t : TGs) : TG := fun v σ H Q => ∃ a x xs, v = .ref a ∧ SqT K H a (x :: xs) ∧ xs.length ≤ 1000 ∧ ∀ p, H p = none → t [x, .ref p] σ (upd H p (.lst xs)) Q
theorem pg_starT {X : Cx} {e r : Expr} {k : Nat} {p1 pos : Pos} {t : TGs} (hc : X.calm = true) (h : PGs X [e, r] t) (hn : (assignEach [e, .Starred r p1] X.env).length = 2 := by rfl) (hst : (assignEach [e, .Starred r p1] X.env).findIdx? (·.1) = some 1 := by rfl)
    (hm : (assignEach [e, .Starred r p1] X.env).map (·.2) = (assignEach [e, r] X.env).map (·.2) := by rfl) : PG X (.Tuple [e, .Starred r p1] k pos) (gStarT X.K t) := by
  refine ⟨fun pins s σ H v u Q I rr hw => ?_⟩
  obtain ⟨a, x, xs, e1, hq, hl, hw⟩ := hw
  subst e1
  cases rr
  obtain ⟨its, rv, ht, hz⟩ := I.tuple hq
  cases rv with
  | cons rx rxs =>
    rw [arm_assign_Tuple]
    refine wpAny_bind (wpAny_standAt ?_)
    unfold unpack
    rw [hn, hst, hm]
    have hl2 := rxs.length
    refine wpAny_bind (wpAny_holding (unpackItems_star (I.ok.hd hc) ht (by omega) fun s' kk hg ho => ?_))
    have I1 : Inv X pins σ H s' := I.call' (ch := []) ho (Un.kept kk) (I.hok.kept kk) (by rw [hg]; exact I.bare) (fun _ z => nomatch z)
    have I' := I1.laid (t' := s'.toks) (a := s'.heap.objs.size) (o := .lst xs) (h' := s'.heap.push (seqObj "list" _ 0)) (fun b o e => Heap.get?_push_of_some _ e) (Nat.le_refl _) ⟨by rw [sizeLine_eq]; omega, _, 0, rxs, Heap.get?_push_size _ rfl⟩
    exact h.run pins _ σ _ [x, .ref s'.heap.objs.size] _ Q I' (.cons rx (.cons rfl .nil)) (hw _ (I1.hok.fresh (Nat.le_refl _)))
end Rg

end
section
set_option Elab.async false
set_option linter.all false
set_option maxRecDepth 100000
set_option maxHeartbeats 4000000
namespace Rg
open PySem PySem.Spec PyProof.Rows L2
/-! ### sentences -/
inductive Sen where
  | lit (c : Nat)
  | least (k : Int) (l : Lit)
  | sets (ls : List Lit)
  | neg (s : Sen)
  | con (b : Bool) (ss : List Sen)
def holdsS : Nat → Sen → Lit → Bool
  | _, .lit c, x => decide (c ∈ x)
  | _, .least k l, x => decide (k ≤ ((l.filter fun c => decide (c ∈ x)).length : Int))
  | _, .sets ls, x => decide (x ∈ ls)
  | 0, _, _ => false
  | n + 1, .neg s, x => !holdsS n s x
  | n + 1, .con b ss, x => if b then ss.all fun s => holdsS n s x else ss.any fun s => holdsS n s x
/-- the sentence stands at v; L: the lamps -/
def SenAt (H : Hp) (L : Lit) : Nat → V → Sen → Prop
  | _, v, .lit c => ∃ t, v = .ref t ∧ H t = some (.tup [.str "lit", .str ⟨#[c]⟩]) ∧ c ∈ L
  | _, v, .least k l => ∃ t, v = .ref t ∧ H t = some (.tup [.str "least", .int k, tx l]) ∧ 1 ≤ k ∧ k ≤ 4 ∧ l.Sublist L
  | _, v, .sets ls => ∃ t, v = .ref t ∧ H t = some (.tup (.str "sets" :: ls.map tx)) ∧ ls.length ≤ 16 ∧ ∀ l ∈ ls, l.Sublist L
  | 0, _, _ => False
  | n + 1, v, .neg s => ∃ t u, v = .ref t ∧ H t = some (.tup [.str "not", u]) ∧ SenAt H L n u s
  | n + 1, v, .con b ss => ∃ t us, v = .ref t ∧ H t = some (.tup (.str (if b then "and" else "or") :: us)) ∧ 2 ≤ ss.length ∧ ss.length ≤ 4 ∧ Paired (SenAt H L n) us ss
theorem SenAt.same {H H' : Hp} {L : Lit} (e : Same H H') : ∀ {n : Nat} {v : V} {s : Sen}, SenAt H L n v s → SenAt H' L n v s
  | n, v, .lit c, h => by
    cases n <;> exact (let ⟨t, r, h, k⟩ := h; ⟨t, r, e _ _ h, k⟩)
  | n, v, .least k l, h => by
    cases n <;> exact (let ⟨t, r, h, k⟩ := h; ⟨t, r, e _ _ h, k⟩)
  | n, v, .sets ls, h => by
    cases n <;> exact (let ⟨t, r, h, k⟩ := h; ⟨t, r, e _ _ h, k⟩)
  | 0, v, .neg s, h => (show False from h).elim
  | 0, v, .con b ss, h => (show False from h).elim
  | n + 1, v, .neg s, h => (let ⟨t, u, r, h, k⟩ := h; ⟨t, u, r, e _ _ h, SenAt.same e k⟩)
  | n + 1, v, .con b ss, h => (let ⟨t, us, r, h, a, b, k⟩ := h; ⟨t, us, r, e _ _ h, a, b, L2.Paired.mapP k fun _ _ q => SenAt.same e q⟩)
theorem senLit {H : Hp} {L : Lit} {n : Nat} {v : V} {c : Nat} : SenAt H L n v (.lit c) = ∃ t, v = .ref t ∧ H t = some (.tup [.str "lit", .str ⟨#[c]⟩]) ∧ c ∈ L := by cases n <;> rfl
theorem senLeast {H : Hp} {L : Lit} {n : Nat} {v : V} {k : Int} {l : Lit} : SenAt H L n v (.least k l) = ∃ t, v = .ref t ∧ H t = some (.tup [.str "least", .int k, tx l]) ∧ 1 ≤ k ∧ k ≤ 4 ∧ l.Sublist L := by cases n <;> rfl
theorem senSets {H : Hp} {L : Lit} {n : Nat} {v : V} {ls : List Lit} : SenAt H L n v (.sets ls) = ∃ t, v = .ref t ∧ H t = some (.tup (.str "sets" :: ls.map tx)) ∧ ls.length ≤ 16 ∧ ∀ l ∈ ls, l.Sublist L := by cases n <;> rfl
theorem holdsLit {n : Nat} {c : Nat} {x : Lit} : holdsS n (.lit c) x = decide (c ∈ x) := by cases n <;> rfl
theorem holdsLeast {n : Nat} {k : Int} {l x : Lit} : holdsS n (.least k l) x = decide (k ≤ ((l.filter fun c => decide (c ∈ x)).length : Int)) := by cases n <;> rfl
theorem holdsSets {n : Nat} {ls : List Lit} {x : Lit} : holdsS n (.sets ls) x = decide (x ∈ ls) := by cases n <;> rfl
theorem inV_tx (x : Lit) (ls : List Lit) : inV (tx x) (ls.map tx) = decide (x ∈ ls) := by
  unfold inV
  rw [List.any_map]
  have e : ((fun y => eqV y (tx x)) ∘ tx) = fun l : Lit => decide (l = x) := by
    funext l
    show (SX.S l == SX.S x) = decide (l = x)
    by_cases h : l = x
    · rw [h]
      simp
    · rw [decide_eq_false h]
      have : SX.S l ≠ SX.S x := fun q => h (congrArg (fun s : Str => s.cps.toList) q)
      exact beq_eq_false_iff_ne.mpr this
  rw [e]
  by_cases h : x ∈ ls
  · rw [decide_eq_true h]
    exact List.any_eq_true.mpr ⟨x, h, decide_eq_true rfl⟩
  · rw [decide_eq_false h]
    exact List.any_eq_false.mpr fun l hl q => h (by rw [← of_decide_eq_true q]; exact hl)
theorem flat_tx (ls : List Lit) : (ls.map tx).all flatV = true := by
  rw [List.all_map]
  exact List.all_eq_true.mpr fun _ _ => rfl
section
variable {P : Program} {w : World} {K : PySem.W.Frag} {mg : Str → Option Value} {base : Heap}
/-- a promise of nothing -/
theorem cal_none {x : Str} {st : Stmt} {f : Addr} {fd : FuncData} {ps : List Str} {k : Nat} (D : Df K mg x st f fd)
    (b : ∀ (kV doc pm : Value) (an : Option Addr) (cdv ct : Value) (us : List Value), us.length = ps.length → bindArgs (PySem.W.fnOf x x (defArgs st) (defBody st) (defScope st) .none kV doc pm an cdv ct) ⟨us, []⟩ = pure (ps.zip us)) :
    C8.Cal P w K mg base k x (fun _ _ _ _ => False) [] :=
  ⟨f, fd, ps, [], ⟨fun _ _ _ _ h => h.elim, fun _ _ _ _ _ _ _ _ _ _ _ _ _ h => h.elim⟩, D.mgf, D.fn.kp, D.fn.bindsN b, .nil⟩
/-! holds_for -/
def spHolds : Nat → Sp
  | 0 => fun _ _ _ _ => False
  | n + 1 => fun vs H Q _ => ∃ (v : V) (x L : Lit) (s : Sen), vs = [v, tx x] ∧ SenAt H L n v s ∧ L.length ≤ 4 ∧ ∀ H', Same H H' → Q (.bl (holdsS n s x)) H'
theorem sc_holdsFor : FnScope ["sentence", "lit", "word", "rest", "told", "lamp", "part"] ["sentence", "lit"] (defScope (top 41)) := ⟨rfl, rfl, rfl, by decide +kernel, rfl, by decide +kernel, by decide +kernel⟩
theorem S_ne {a b : Str} (h : (a == b) = false) : ¬ (V.str a = V.str b) := fun e => by
  rw [V.str.inj e] at h
  simp at h
theorem c_holdsFor {f : Addr} {fd : FuncData} (D : Df K mg "holds_for" (top 41) f fd) (B : Bl mg) : ∀ n, C8.Cal P w K mg base (n + 1) "holds_for" (spHolds n) []
  | 0 => cal_none (ps := ["sentence", "lit"]) D (fun _ _ _ _ _ _ us hl => match us, hl with | [_, _], _ => rfl)
  | n + 1 => by
    have c1 := c_holdsFor D B n
    refine cal_of D (fun _ _ _ _ _ _ us hl => match us, hl with | [_, _], _ => rfl) sc_holdsFor (fun vs H Q E h => ?_) (fun cdv A outer s H vs Q E hr h => ?_)
    · obtain ⟨v, x, L, s, rfl, _⟩ := h
      rfl
    · obtain ⟨v, x, L, s, rfl, hs, hL, k⟩ := h
      refine ⟨_, pss_cons (ps_asg (pv 0) (pg_starT rfl (pgs_cons (pg_name (i := 2) sc_holdsFor.nd rfl (Or.inl rfl)) (pgs_cons (pg_name (i := 3) sc_holdsFor.nd rfl (Or.inl rfl)) pgs_nil))))
        (pss_cons (ps_if (pt_cmpR op_eq (pv 2) pe_str (nomark _)) (pss_one (ps_ret (pe_cmpR op_in_sign (pe_ix ix_list (pv 3) pe_int (fun _ _ => rfl)) (pv 1) rfl))) pss_nil)
        (pss_cons (ps_if (pt_cmpR op_eq (pv 2) pe_str (nomark _)) (pss_one (ps_ret (pe_cmpR op_ge (pe_callB call_len_seq (by rfl) B.len boot_len (pa_cons
            (pe_lc (own := [("lamp", 5)]) (g := gName 5) rfl sc_holdsFor.nd (pi_str (pe_ix ix_list (pv 3) pe_int (fun _ _ => rfl))) (blkOk_by (own := [("lamp", 5)]) (N := ["sentence", "lit", "word", "rest", "told", "lamp", "part"]) (sc := defScope (top 41)) (by decide +kernel))
              (fun _ _ _ _ _ => pg_name (i := 5) sc_holdsFor.nd rfl (Or.inl rfl)) (fun _ _ _ _ _ => pts_one (pt_cmpR op_in_sign (pv 5) (pv 1) rfl)) (fun _ _ _ _ _ => pv 5)) pa_nil)) (pe_ix ix_list (pv 3) pe_int (fun _ _ => rfl)) (nomark _)))) pss_nil)
        (pss_cons (ps_if (pt_cmpR op_eq (pv 2) pe_str (nomark _)) (pss_one (ps_ret (pe_cmpR op_in_seq (pv 1) (pv 3) rfl))) pss_nil)
        (pss_cons (ps_setLc (i := 4) (own := [("part", 6)]) (g := gName 6) rfl sc_holdsFor.nd rfl rfl (sw_true rfl rfl rfl (by decide +kernel)) (pi_list (pv 3)) (blkOk_by (own := [("part", 6)]) (N := ["sentence", "lit", "word", "rest", "told", "lamp", "part"]) (sc := defScope (top 41)) (by decide +kernel))
            (fun _ _ _ _ _ => pg_name (i := 6) sc_holdsFor.nd rfl (Or.inl rfl)) (fun _ _ _ _ _ => pts_nil) (fun _ _ _ _ _ => C8.pe_c c1 hr (Nat.le_refl _) (by rfl) (pa_cons (pv 6) (pa_cons (pv 1) pa_nil))))
        (pss_cons (ps_if (pt_cmpR op_eq (pv 2) pe_str (nomark _)) (pss_one (ps_ret (pe_not (pe_ix ix_list (pv 4) pe_int (fun _ _ => rfl))))) pss_nil)
        (pss_one (ps_ret (pe_ifExp (pt_cmpR op_eq (pv 2) pe_str (nomark _)) (pe_callB (cr_all rfl) (by rfl) B.all (by decide +kernel) (pa_cons (pv 4) pa_nil)) (pe_callB (cr_any rfl) (by rfl) B.any (by decide +kernel) (pa_cons (pv 4) pa_nil)))))))))), ?_⟩
      cases s with
      | lit c =>
        rw [senLit] at hs
        rw [holdsLit] at k
        obtain ⟨t, rfl, ht, hc⟩ := hs
        refine ⟨_, rfl, t, _, _, rfl, SqT.of ht, (by show 1 ≤ 1000; decide), fun p hp => ⟨_, _, rfl, _, _, rfl, rfl, ?_⟩⟩
        refine ⟨_, rfl, rfl, _, rfl, iteT ?_⟩
        exact ⟨_, rfl, _, _, _, _, rfl, rfl, SqL.of upd_same, atI_nat (j := 0) rfl, _, rfl, c, _, rfl, rfl, k _ (Same.one hp)⟩
      | least kk l =>
        rw [senLeast] at hs
        rw [holdsLeast] at k
        obtain ⟨t, rfl, ht, _, _, hl⟩ := hs
        have hll : l.length ≤ 4 := Nat.le_trans hl.length_le hL
        refine ⟨_, rfl, t, _, _, rfl, SqT.of ht, by show 2 ≤ 1000; decide, fun p hp => ⟨_, _, rfl, _, _, rfl, rfl, ?_⟩⟩
        refine ⟨_, rfl, rfl, _, rfl, iteF ?_⟩
        refine ⟨_, rfl, rfl, _, rfl, iteT ?_⟩
        refine ⟨_, rfl, _, _, _, _, rfl, rfl, SqL.of upd_same, atI_nat (j := 1) rfl, _, rfl, fun D hD => ?_⟩
        refine lc_val same_ok walk_str (fun i => ((l.take i).filter fun c => decide (c ∈ x)).map fun c => V.str ⟨#[c]⟩) hD rfl (fun i hi => ?_) (fun _ _ => trivial) (fun N i y H1 H2 hi r yy keep skip => ?_) fun H1 r hDl => ?_
        · exact Nat.lt_of_le_of_lt (fm_take_len _ _ _ _) (small' (by omega))
        · obtain ⟨rfl, c, hc, rfl⟩ := yy
          have hc' := S_at.mp hc
          refine ⟨rfl, ?_⟩
          refine ⟨_, rfl, _, rfl, c, _, rfl, rfl, _, rfl, ?_⟩
          refine ite2 (fun h => ?_) (fun h => ?_)
          · exact ⟨_, rfl, keep _ _ (Same.refl _) (fm_take_yes hc' h)⟩
          · exact skip _ (Same.refl _) (fm_take_no hc' (by simpa using h))
        · rw [S_size, List.take_length] at hDl
          have sp : Same (upd H p (.lst [.int kk, tx l])) H1 := r
          refine ⟨D, _, rfl, .inl (SqL.of hDl), _, rfl, _, _, _, _, rfl, rfl, SqL.of (sp _ _ upd_same), atI_nat (j := 0) rfl, _, _, rfl, rfl, ?_⟩
          rw [List.length_map]
          exact k _ ((Same.one hp).trans sp)
      | sets ls =>
        rw [senSets] at hs
        rw [holdsSets] at k
        obtain ⟨t, rfl, ht, hll, _⟩ := hs
        refine ⟨_, rfl, t, _, _, rfl, SqT.of ht, by rw [List.length_map]; omega, fun p hp => ⟨_, _, rfl, _, _, rfl, rfl, ?_⟩⟩
        refine ⟨_, rfl, rfl, _, rfl, iteF ?_⟩
        refine ⟨_, rfl, rfl, _, rfl, iteF ?_⟩
        refine ⟨_, rfl, rfl, _, rfl, iteT ?_⟩
        refine ⟨_, rfl, _, rfl, p, _, rfl, .inl (SqL.of upd_same), rfl, flat_tx ls, ?_⟩
        rw [← inV_tx] at k
        exact k _ (Same.one hp)
      | neg s =>
        cases n with
        | zero => exact (show False from hs).elim
        | succ n =>
          obtain ⟨t, u, rfl, ht, hu⟩ := hs
          refine ⟨_, rfl, t, _, _, rfl, SqT.of ht, (by show 1 ≤ 1000; decide), fun p hp => ⟨_, _, rfl, _, _, rfl, rfl, ?_⟩⟩
          refine ⟨_, rfl, rfl, _, rfl, iteF ?_⟩
          refine ⟨_, rfl, rfl, _, rfl, iteF ?_⟩
          refine ⟨_, rfl, rfl, _, rfl, iteF ?_⟩
          refine ⟨_, rfl, p, rfl, ⟨_, SqL.of upd_same⟩, fun D hD => ?_⟩
          refine lc_val same_ok walk_list (fun i => (([u] : List V).take i).map fun _ => V.bl (holdsS n s x)) hD rfl (fun i hi => ?_) (fun H' r => SqL.of (r _ _ upd_same)) (fun N i y H1 H2 hi r yy keep skip => ?_) fun H1 r hDl => ?_
          · exact Nat.lt_of_le_of_lt (m_take_len _ _ _) (by show 1 < sizeLine; decide)
          · obtain ⟨rfl, hx⟩ := yy
            refine ⟨rfl, yes ?_⟩
            have hyu : y = u := by
              have : y ∈ [u] := List.mem_of_getElem? hx
              exact List.mem_singleton.mp this
            subst hyu
            refine ⟨_, rfl, _, rfl, y, x, L, s, rfl, SenAt.same ((Same.one hp).trans r) hu, hL, fun H' r2 => keep _ _ r2 ?_⟩
            exact map_take_succ hx
          · refine ⟨_, rfl, rfl, _, rfl, iteT ?_⟩
            refine ⟨_, rfl, _, _, _, _, rfl, rfl, SqL.of hDl, atI_nat (j := 0) rfl, _, rfl, k _ ((Same.one hp).trans r)⟩
      | con b ss =>
        cases n with
        | zero => exact (show False from hs).elim
        | succ n =>
          obtain ⟨t, us, rfl, ht, h2, h4, hp4⟩ := hs
          have hul : us.length = ss.length := hp4.length
          refine ⟨_, rfl, t, _, _, rfl, SqT.of ht, by omega, fun p hp => ⟨_, _, rfl, _, _, rfl, rfl, ?_⟩⟩
          have hw1 : ((if b = true then Str.ofString "and" else Str.ofString "or") == Str.ofString "lit") = false := by cases b <;> decide +kernel
          have hw2 : ((if b = true then Str.ofString "and" else Str.ofString "or") == Str.ofString "least") = false := by cases b <;> decide +kernel
          have hw3 : ((if b = true then Str.ofString "and" else Str.ofString "or") == Str.ofString "sets") = false := by cases b <;> decide +kernel
          have hw4 : ((if b = true then Str.ofString "and" else Str.ofString "or") == Str.ofString "not") = false := by cases b <;> decide +kernel
          refine ⟨_, rfl, rfl, _, rfl, ite2 (fun h => absurd (of_decide_eq_true h) (S_ne hw1)) fun _ => ?_⟩
          refine ⟨_, rfl, rfl, _, rfl, ite2 (fun h => absurd (of_decide_eq_true h) (S_ne hw2)) fun _ => ?_⟩
          refine ⟨_, rfl, rfl, _, rfl, ite2 (fun h => absurd (of_decide_eq_true h) (S_ne hw3)) fun _ => ?_⟩
          refine ⟨_, rfl, p, rfl, ⟨_, SqL.of upd_same⟩, fun D hD => ?_⟩
          refine lc_val same_ok walk_list (fun i => (ss.take i).map fun s => V.bl (holdsS n s x)) hD rfl (fun i hi => ?_) (fun H' r => SqL.of (r _ _ upd_same)) (fun N i y H1 H2 hi r yy keep skip => ?_) fun H1 r hDl => ?_
          · exact Nat.lt_of_le_of_lt (m_take_len _ _ _) (small' (by omega))
          · obtain ⟨rfl, hx⟩ := yy
            refine ⟨rfl, yes ?_⟩
            obtain ⟨s, hsi, hsa⟩ := paired_get hp4 hx
            exact ⟨_, rfl, _, rfl, y, x, L, s, rfl, SenAt.same ((Same.one hp).trans r) hsa, hL, fun H' r2 => keep _ _ r2 (map_take_succ hsi)⟩
          · rw [hul, List.take_length] at hDl
            have hD2 : SqL K H1 D ((ss.map fun s => holdsS n s x).map V.bl) := SqL.of (by rw [hDl, List.map_map]; rfl)
            refine ⟨_, rfl, rfl, _, rfl, ite2 (fun h => absurd (of_decide_eq_true h) (S_ne hw4)) fun _ => ?_⟩
            have k2 := k _ ((Same.one hp).trans r)
            cases b with
            | true =>
              refine ⟨_, rfl, rfl, _, rfl, iteT ?_⟩
              refine ⟨_, rfl, D, _, rfl, hD2, ?_⟩
              rw [List.all_map]
              exact k2
            | false =>
              refine ⟨_, rfl, rfl, _, rfl, iteF ?_⟩
              refine ⟨_, rfl, D, _, rfl, hD2, ?_⟩
              rw [List.any_map]
              exact k2
end
end Rg

end
section
set_option Elab.async false
set_option linter.all false
set_option maxRecDepth 100000
set_option maxHeartbeats 4000000
namespace Rg
open PySem PySem.Spec PyProof.Rows L2
theorem sIx_one {x : V} {xs : List V} (d : Nat) : HT.sIx (x :: xs).length d (some (1 : Int)) = 1 := by
  have := HT.sIx_nat (x :: xs).length d 1
  rw [List.length_cons] at this ⊢
  have e : ((1 : Nat) : Int) = 1 := rfl
  rw [e] at this
  rw [this]
  omega
theorem cut_one {x : V} {xs : List V} : cutV (x :: xs) (some 1) none = xs := by
  unfold cutV
  rw [sIx_one, HT.sIx_none]
  show xs.take ((xs.length + 1) - 1) = xs
  exact List.take_length
theorem not_whole {x : V} {xs : List V} : ¬ (HT.sIx (x :: xs).length 0 (some (1 : Int)) = 0 ∧ HT.sIx (x :: xs).length (x :: xs).length none = (x :: xs).length) := fun h => by
  rw [sIx_one] at h
  exact absurd h.1 (by decide)
section
variable {P : Program} {w : World} {K : PySem.W.Frag} {mg : Str → Option Value} {base : Heap}
theorem sc_lholds : FnScope ["_law_sentence_here", "_law_lit", "_law_word", "_law_told", "_law_lamp", "_law_part"] ["_law_sentence_here", "_law_lit"] (defScope (top 55)) := ⟨rfl, rfl, rfl, by decide +kernel, rfl, by decide +kernel, by decide +kernel⟩
theorem c_lholds {f : Addr} {fd : FuncData} (D : Df K mg "_law_holds" (top 55) f fd) (B : Bl mg) : ∀ n, C8.Cal P w K mg base (n + 1) "_law_holds" (spHolds n) []
  | 0 => cal_none (ps := ["_law_sentence_here", "_law_lit"]) D (fun _ _ _ _ _ _ us hl => match us, hl with | [_, _], _ => rfl)
  | n + 1 => by
    have c1 := c_lholds D B n
    refine cal_of D (fun _ _ _ _ _ _ us hl => match us, hl with | [_, _], _ => rfl) sc_lholds (fun vs H Q E h => ?_) (fun cdv A outer s H vs Q E hr h => ?_)
    · obtain ⟨v, x, L, s, rfl, _⟩ := h
      rfl
    · obtain ⟨v, x, L, s, rfl, hs, hL, k⟩ := h
      refine ⟨_, pss_cons (ps_set (i := 2) sc_lholds.nd rfl (Or.inl rfl) (pe_ix ix_tup (pv 0) pe_int (fun _ _ => rfl)))
        (pss_cons (ps_if (pt_cmpR op_eq (pv 2) pe_str (nomark _)) (pss_one (ps_ret (pe_cmpR op_in_sign (pe_ix ix_tup (pv 0) pe_int (fun _ _ => rfl)) (pv 1) rfl))) pss_nil)
        (pss_cons (ps_if (pt_cmpR op_eq (pv 2) pe_str (nomark _)) (pss_one (ps_ret (pe_cmpR op_ge (pe_callB call_len_seq (by rfl) B.len boot_len (pa_cons
            (pe_lc (own := [("_law_lamp", 4)]) (g := gName 4) rfl sc_lholds.nd (pi_str (pe_ix ix_tup (pv 0) pe_int (fun _ _ => rfl))) (blkOk_by (own := [("_law_lamp", 4)]) (N := ["_law_sentence_here", "_law_lit", "_law_word", "_law_told", "_law_lamp", "_law_part"]) (sc := defScope (top 55)) (by decide +kernel))
              (fun _ _ _ _ _ => pg_name (i := 4) sc_lholds.nd rfl (Or.inl rfl)) (fun _ _ _ _ _ => pts_one (pt_cmpR op_in_sign (pv 4) (pv 1) rfl)) (fun _ _ _ _ _ => pv 4)) pa_nil)) (pe_ix ix_tup (pv 0) pe_int (fun _ _ => rfl)) (nomark _)))) pss_nil)
        (pss_cons (ps_if (pt_cmpR op_eq (pv 2) pe_str (nomark _)) (pss_one (ps_ret (pe_cmpR op_in_seq (pv 1) (pe_slice sl_tup (pv 0) (po_some pe_int) po_none) rfl))) pss_nil)
        (pss_cons (ps_setLc (i := 3) (own := [("_law_part", 5)]) (g := gName 5) rfl sc_lholds.nd rfl rfl (sw_true rfl rfl rfl (by decide +kernel)) (pi_tup (pe_slice sl_tup (pv 0) (po_some pe_int) po_none)) (blkOk_by (own := [("_law_part", 5)]) (N := ["_law_sentence_here", "_law_lit", "_law_word", "_law_told", "_law_lamp", "_law_part"]) (sc := defScope (top 55)) (by decide +kernel))
            (fun _ _ _ _ _ => pg_name (i := 5) sc_lholds.nd rfl (Or.inl rfl)) (fun _ _ _ _ _ => pts_nil) (fun _ _ _ _ _ => C8.pe_c c1 hr (Nat.le_refl _) (by rfl) (pa_cons (pv 5) (pa_cons (pv 1) pa_nil))))
        (pss_cons (ps_if (pt_cmpR op_eq (pv 2) pe_str (nomark _)) (pss_one (ps_ret (pe_not (pe_ix ix_list (pv 3) pe_int (fun _ _ => rfl))))) pss_nil)
        (pss_one (ps_ret (pe_ifExp (pt_cmpR op_eq (pv 2) pe_str (nomark _)) (pe_callB (cr_all rfl) (by rfl) B.all (by decide +kernel) (pa_cons (pv 3) pa_nil)) (pe_callB (cr_any rfl) (by rfl) B.any (by decide +kernel) (pa_cons (pv 3) pa_nil)))))))))), ?_⟩
      cases s with
      | lit c =>
        rw [senLit] at hs
        rw [holdsLit] at k
        obtain ⟨t, rfl, ht, hc⟩ := hs
        refine ⟨_, rfl, _, _, _, _, rfl, rfl, SqT.of ht, atI_nat (j := 0) rfl, ?_⟩
        refine ⟨_, rfl, rfl, _, rfl, iteT ?_⟩
        exact ⟨_, rfl, _, _, _, _, rfl, rfl, SqT.of ht, atI_nat (j := 1) rfl, _, rfl, c, _, rfl, rfl, k _ (Same.refl _)⟩
      | least kk l =>
        rw [senLeast] at hs
        rw [holdsLeast] at k
        obtain ⟨t, rfl, ht, _, _, hl⟩ := hs
        have hll : l.length ≤ 4 := Nat.le_trans hl.length_le hL
        refine ⟨_, rfl, _, _, _, _, rfl, rfl, SqT.of ht, atI_nat (j := 0) rfl, ?_⟩
        refine ⟨_, rfl, rfl, _, rfl, iteF ?_⟩
        refine ⟨_, rfl, rfl, _, rfl, iteT ?_⟩
        refine ⟨_, rfl, _, _, _, _, rfl, rfl, SqT.of ht, atI_nat (j := 2) rfl, _, rfl, fun D hD => ?_⟩
        refine lc_val same_ok walk_str (fun i => ((l.take i).filter fun c => decide (c ∈ x)).map fun c => V.str ⟨#[c]⟩) hD rfl (fun i hi => ?_) (fun _ _ => trivial) (fun N i y H1 H2 hi r yy keep skip => ?_) fun H1 r hDl => ?_
        · exact Nat.lt_of_le_of_lt (fm_take_len _ _ _ _) (small' (by omega))
        · obtain ⟨rfl, c, hc, rfl⟩ := yy
          have hc' := S_at.mp hc
          refine ⟨rfl, ?_⟩
          refine ⟨_, rfl, _, rfl, c, _, rfl, rfl, _, rfl, ?_⟩
          refine ite2 (fun h => ?_) (fun h => ?_)
          · exact ⟨_, rfl, keep _ _ (Same.refl _) (fm_take_yes hc' h)⟩
          · exact skip _ (Same.refl _) (fm_take_no hc' (by simpa using h))
        · rw [S_size, List.take_length] at hDl
          refine ⟨D, _, rfl, .inl (SqL.of hDl), _, rfl, _, _, _, _, rfl, rfl, SqT.of (r _ _ ht), atI_nat (j := 1) rfl, _, _, rfl, rfl, ?_⟩
          rw [List.length_map]
          exact k _ r
      | sets ls =>
        rw [senSets] at hs
        rw [holdsSets] at k
        obtain ⟨t, rfl, ht, hll, _⟩ := hs
        refine ⟨_, rfl, _, _, _, _, rfl, rfl, SqT.of ht, atI_nat (j := 0) rfl, ?_⟩
        refine ⟨_, rfl, rfl, _, rfl, iteF ?_⟩
        refine ⟨_, rfl, rfl, _, rfl, iteF ?_⟩
        refine ⟨_, rfl, rfl, _, rfl, iteT ?_⟩
        refine ⟨_, rfl, _, rfl, 1, rfl, t, _, rfl, SqT.of ht, not_whole, fun p hp => ?_⟩
        rw [cut_one]
        refine ⟨p, _, rfl, .inr (SqT.of upd_same), rfl, flat_tx ls, ?_⟩
        rw [← inV_tx] at k
        exact k _ (Same.one hp)
      | neg s =>
        cases n with
        | zero => exact (show False from hs).elim
        | succ n =>
          obtain ⟨t, u, rfl, ht, hu⟩ := hs
          refine ⟨_, rfl, _, _, _, _, rfl, rfl, SqT.of ht, atI_nat (j := 0) rfl, ?_⟩
          refine ⟨_, rfl, rfl, _, rfl, iteF ?_⟩
          refine ⟨_, rfl, rfl, _, rfl, iteF ?_⟩
          refine ⟨_, rfl, rfl, _, rfl, iteF ?_⟩
          refine ⟨_, rfl, 1, rfl, t, _, rfl, SqT.of ht, not_whole, fun p hp => ?_⟩
          rw [cut_one]
          refine ⟨p, rfl, ⟨_, SqT.of upd_same⟩, fun D hD => ?_⟩
          refine lc_val same_ok walk_tup (fun i => (([u] : List V).take i).map fun _ => V.bl (holdsS n s x)) hD rfl (fun i hi => ?_) (fun H' r => SqT.of (r _ _ upd_same)) (fun N i y H1 H2 hi r yy keep skip => ?_) fun H1 r hDl => ?_
          · exact Nat.lt_of_le_of_lt (m_take_len _ _ _) (by show 1 < sizeLine; decide)
          · obtain ⟨rfl, hx⟩ := yy
            refine ⟨rfl, yes ?_⟩
            have hyu : y = u := by
              have : y ∈ [u] := List.mem_of_getElem? hx
              exact List.mem_singleton.mp this
            subst hyu
            refine ⟨_, rfl, _, rfl, y, x, L, s, rfl, SenAt.same ((Same.one hp).trans r) hu, hL, fun H' r2 => keep _ _ r2 ?_⟩
            exact map_take_succ hx
          · refine ⟨_, rfl, rfl, _, rfl, iteT ?_⟩
            refine ⟨_, rfl, _, _, _, _, rfl, rfl, SqL.of hDl, atI_nat (j := 0) rfl, _, rfl, k _ ((Same.one hp).trans r)⟩
      | con b ss =>
        cases n with
        | zero => exact (show False from hs).elim
        | succ n =>
          obtain ⟨t, us, rfl, ht, h2, h4, hp4⟩ := hs
          have hul : us.length = ss.length := hp4.length
          refine ⟨_, rfl, _, _, _, _, rfl, rfl, SqT.of ht, atI_nat (j := 0) rfl, ?_⟩
          have hw1 : ((if b = true then Str.ofString "and" else Str.ofString "or") == Str.ofString "lit") = false := by cases b <;> decide +kernel
          have hw2 : ((if b = true then Str.ofString "and" else Str.ofString "or") == Str.ofString "least") = false := by cases b <;> decide +kernel
          have hw3 : ((if b = true then Str.ofString "and" else Str.ofString "or") == Str.ofString "sets") = false := by cases b <;> decide +kernel
          have hw4 : ((if b = true then Str.ofString "and" else Str.ofString "or") == Str.ofString "not") = false := by cases b <;> decide +kernel
          refine ⟨_, rfl, rfl, _, rfl, ite2 (fun h => absurd (of_decide_eq_true h) (S_ne hw1)) fun _ => ?_⟩
          refine ⟨_, rfl, rfl, _, rfl, ite2 (fun h => absurd (of_decide_eq_true h) (S_ne hw2)) fun _ => ?_⟩
          refine ⟨_, rfl, rfl, _, rfl, ite2 (fun h => absurd (of_decide_eq_true h) (S_ne hw3)) fun _ => ?_⟩
          refine ⟨_, rfl, 1, rfl, t, _, rfl, SqT.of ht, not_whole, fun p hp => ?_⟩
          rw [cut_one]
          refine ⟨p, rfl, ⟨_, SqT.of upd_same⟩, fun D hD => ?_⟩
          refine lc_val same_ok walk_tup (fun i => (ss.take i).map fun s => V.bl (holdsS n s x)) hD rfl (fun i hi => ?_) (fun H' r => SqT.of (r _ _ upd_same)) (fun N i y H1 H2 hi r yy keep skip => ?_) fun H1 r hDl => ?_
          · exact Nat.lt_of_le_of_lt (m_take_len _ _ _) (small' (by omega))
          · obtain ⟨rfl, hx⟩ := yy
            refine ⟨rfl, yes ?_⟩
            obtain ⟨s, hsi, hsa⟩ := paired_get hp4 hx
            exact ⟨_, rfl, _, rfl, y, x, L, s, rfl, SenAt.same ((Same.one hp).trans r) hsa, hL, fun H' r2 => keep _ _ r2 (map_take_succ hsi)⟩
          · rw [hul, List.take_length] at hDl
            have hD2 : SqL K H1 D ((ss.map fun s => holdsS n s x).map V.bl) := SqL.of (by rw [hDl, List.map_map]; rfl)
            refine ⟨_, rfl, rfl, _, rfl, ite2 (fun h => absurd (of_decide_eq_true h) (S_ne hw4)) fun _ => ?_⟩
            have k2 := k _ ((Same.one hp).trans r)
            cases b with
            | true =>
              refine ⟨_, rfl, rfl, _, rfl, iteT ?_⟩
              refine ⟨_, rfl, D, _, rfl, hD2, ?_⟩
              rw [List.all_map]
              exact k2
            | false =>
              refine ⟨_, rfl, rfl, _, rfl, iteF ?_⟩
              refine ⟨_, rfl, D, _, rfl, hD2, ?_⟩
              rw [List.any_map]
              exact k2
end
end Rg

end
section
set_option Elab.async false
set_option linter.all false
set_option maxRecDepth 100000
set_option maxHeartbeats 4000000
namespace Rg
open PySem PySem.Spec PyProof.Rows L2
section
variable {P : Program} {w : World} {K : PySem.W.Frag} {mg : Str → Option Value} {base : Heap}
theorem S_neS {a b : Str} (h : (a == b) = false) : decide (V.str a = V.str b) = false := decide_eq_false (S_ne h)
/-! is_part -/
def spPart : Sp := fun vs H Q _ => ∃ (L : Lit) (v : V) (n : Nat) (s : Sen), vs = [tx L, v] ∧ SenAt H L n v s ∧ Ok L ∧ L.length ≤ 4 ∧ ∀ H', Same H H' → Q (.bl true) H'
theorem sc_part : FnScope ["lamps", "value", "word", "lit"] ["lamps", "value"] (defScope (top 38)) := ⟨rfl, rfl, rfl, by decide +kernel, rfl, by decide +kernel, by decide +kernel⟩
theorem c_part {f : Addr} {fd : FuncData} (D : Df K mg "is_part" (top 38) f fd) (B : Bl mg) (C : Cs mg) (c1 : C8.Cal P w K mg base 1 "is_integer" spInteger []) (c2 : C8.Cal P w K mg base 2 "is_set" spSet []) : C8.Cal P w K mg base 3 "is_part" spPart [] := by
  obtain ⟨t6, h6⟩ := C.sets
  refine cal_of D (fun _ _ _ _ _ _ us hl => match us, hl with | [_, _], _ => rfl) sc_part (fun vs H Q E h => ?_) (fun cdv A outer s H vs Q E hr h => ?_)
  · obtain ⟨L, v, n, s, rfl, _⟩ := h
    rfl
  · obtain ⟨L, v, n, s, rfl, hs, ok, hL, k⟩ := h
    refine ⟨_, pss_cons (ps_if (pw_or (pt_not (pt_val (pe_callB call_isi (by rfl) B.isi (by decide +kernel) (pa_cons (pv 1) (pa_cons (pe_bltn (v := .ty "tuple") (by rfl) B.tuple (by decide +kernel) rfl) pa_nil)))))
        (pw_or (pt_cmpR op_eq (pe_callB call_len_seq (by rfl) B.len boot_len (pa_cons (pv 1) pa_nil)) pe_int (nomark _))
        (pw_or1 (pt_not (pt_val (pe_callB call_isi (by rfl) B.isi (by decide +kernel) (pa_cons (pe_ix ix_tup (pv 1) pe_int (fun _ _ => rfl)) (pa_cons (pe_bltn (v := .ty "str") (by rfl) B.str (by decide +kernel) rfl) pa_nil)))))))).pt pss_never pss_nil)
      (pss_cons (ps_set (i := 2) sc_part.nd rfl (Or.inl rfl) (pe_ix ix_tup (pv 1) pe_int (fun _ _ => rfl)))
      (pss_cons (ps_if (pt_cmpR op_eq (pv 2) pe_str (nomark _)) (pss_one (ps_ret (pe_and (pe_cmpR op_eq (pe_callB call_len_seq (by rfl) B.len boot_len (pa_cons (pv 1) pa_nil)) pe_int (nomark _))
          (pe_and (C8.pe_c c2 hr (by decide) (by rfl) (pa_cons (pe_ix ix_tup (pv 1) pe_int (fun _ _ => rfl)) (pa_cons (pv 0) pa_nil)))
            (pe_one (pe_cmpR op_eq (pe_callB call_len (by rfl) B.len boot_len (pa_cons (pe_ix ix_tup (pv 1) pe_int (fun _ _ => rfl)) pa_nil)) pe_int (nomark _))))))) pss_nil)
      (pss_cons (ps_if (pt_cmpR op_eq (pv 2) pe_str (nomark _)) (pss_one (ps_ret (pe_and (pe_cmpR op_eq (pe_callB call_len_seq (by rfl) B.len boot_len (pa_cons (pv 1) pa_nil)) pe_int (nomark _))
          (pe_and (C8.pe_c c1 hr (by decide) (by rfl) (pa_cons (pe_ix ix_tup (pv 1) pe_int (fun _ _ => rfl)) (pa_cons pe_int (pa_cons pe_int pa_nil))))
            (pe_one (C8.pe_c c2 hr (by decide) (by rfl) (pa_cons (pe_ix ix_tup (pv 1) pe_int (fun _ _ => rfl)) (pa_cons (pv 0) pa_nil)))))))) pss_nil)
      (pss_cons (ps_if (pt_cmpR op_eq (pv 2) pe_str (nomark _)) (pss_one (ps_ret (pe_and (pe_cmpR op_le (pe_callB call_len_seq (by rfl) B.len boot_len (pa_cons (pv 1) pa_nil)) (pe_op op_add (pe_glob (v := .int 16) (by rfl) h6 ⟨_, rfl⟩) pe_int) (nomark _))
          (pe_one (pe_callB (cr_all rfl) (by rfl) B.all (by decide +kernel) (pa_cons
            (pe_lc (own := [("lit", 3)]) (g := gName 3) rfl sc_part.nd (pi_tup (pe_slice sl_tup (pv 1) (po_some pe_int) po_none)) (blkOk_by (own := [("lit", 3)]) (N := ["lamps", "value", "word", "lit"]) (sc := defScope (top 38)) (by decide +kernel)) (fun _ _ _ _ _ => pg_name (i := 3) sc_part.nd rfl (Or.inl rfl)) (fun _ _ _ _ _ => pts_nil)
              (fun _ _ _ _ _ => C8.pe_c c2 hr (by decide) (by rfl) (pa_cons (pv 3) (pa_cons (pv 0) pa_nil)))) pa_nil)))))) pss_nil)
      (pss_cons (ps_if (pt_cmpR op_eq (pv 2) pe_str (nomark _)) (pss_one (ps_ret (pe_cmpR op_eq (pe_callB call_len_seq (by rfl) B.len boot_len (pa_cons (pv 1) pa_nil)) pe_int (nomark _)))) pss_nil)
      (pss_one (ps_ret (pe_and (pe_cmpR op_in_seq (pv 2) (pe_tup (pa_cons pe_str (pa_cons pe_str pa_nil))) rfl) (pe_one (pe_chain op_le op_le pe_int (pe_callB call_len_seq (by rfl) B.len boot_len (pa_cons (pv 1) pa_nil)) pe_int)))))))))), ?_⟩
    -- the first test and the word, whatever the sentence
    have start : ∀ (t : Addr) (wd : Str) (xs : List V), v = .ref t → H t = some (.tup (.str wd :: xs)) → True := fun _ _ _ _ _ => trivial
    have isT : ∀ {t : Addr} {xs : List V}, H t = some (.tup xs) → TyX K H (.ref t) (.type "tuple") := fun h => .base (.tup h)
    cases s with
    | lit c =>
      rw [senLit] at hs
      obtain ⟨t, rfl, ht, hc⟩ := hs
      refine ⟨_, rfl, _, _, _, _, true, rfl, .ty "tuple", .base (.tup ht), kit_ty (by decide +kernel), true, rfl, iteF ?_⟩
      refine ⟨_, rfl, _, _, rfl, .inr (SqT.of ht), rfl, _, rfl, iteF ?_⟩
      refine ⟨_, rfl, _, _, _, _, rfl, rfl, SqT.of ht, atI_nat (j := 0) rfl, _, _, _, _, true, rfl, .ty "str", .base (.str _), kit_ty (by decide +kernel), true, rfl, iteF ?_⟩
      refine ⟨_, rfl, _, _, _, _, rfl, rfl, SqT.of ht, atI_nat (j := 0) rfl, ?_⟩
      refine ⟨_, rfl, rfl, _, rfl, iteT ?_⟩
      refine ⟨_, rfl, _, _, rfl, .inr (SqT.of ht), rfl, true, rfl, iteT ?_⟩
      refine ⟨_, rfl, _, _, _, _, rfl, rfl, SqT.of ht, atI_nat (j := 1) rfl, _, rfl, [c], L, rfl, ok.sub (List.singleton_sublist.mpr hc), (fun d hd => by rw [List.mem_singleton.mp hd]; exact hc), fun H1 s1 => ⟨true, rfl, iteT ?_⟩⟩
      refine ⟨_, rfl, _, _, _, _, rfl, rfl, SqT.of (s1 _ _ ht), atI_nat (j := 1) rfl, _, 1, rfl, ⟨(by show 1 ≤ sizeLine; decide), rfl⟩, rfl, k _ s1⟩
    | least kk l =>
      rw [senLeast] at hs
      obtain ⟨t, rfl, ht, hk1, hk4, hl⟩ := hs
      refine ⟨_, rfl, _, _, _, _, true, rfl, .ty "tuple", .base (.tup ht), kit_ty (by decide +kernel), true, rfl, iteF ?_⟩
      refine ⟨_, rfl, _, _, rfl, .inr (SqT.of ht), rfl, _, rfl, iteF ?_⟩
      refine ⟨_, rfl, _, _, _, _, rfl, rfl, SqT.of ht, atI_nat (j := 0) rfl, _, _, _, _, true, rfl, .ty "str", .base (.str _), kit_ty (by decide +kernel), true, rfl, iteF ?_⟩
      refine ⟨_, rfl, _, _, _, _, rfl, rfl, SqT.of ht, atI_nat (j := 0) rfl, ?_⟩
      refine ⟨_, rfl, rfl, _, rfl, iteF ?_⟩
      refine ⟨_, rfl, rfl, _, rfl, iteT ?_⟩
      refine ⟨_, rfl, _, _, rfl, .inr (SqT.of ht), rfl, true, rfl, iteT ?_⟩
      have e1 : (decide (1 ≤ kk) && decide (kk ≤ 4)) = true := by rw [decide_eq_true hk1, decide_eq_true hk4]; rfl
      refine ⟨_, rfl, _, _, _, _, rfl, rfl, SqT.of ht, atI_nat (j := 1) rfl, _, _, _, rfl, _, congrArg V.bl e1, iteT ?_⟩
      refine ⟨_, rfl, _, _, _, _, rfl, rfl, SqT.of ht, atI_nat (j := 2) rfl, _, rfl, l, L, rfl, ok.sub hl, sub_mem hl, fun H1 s1 => k _ s1⟩
    | sets ls =>
      rw [senSets] at hs
      obtain ⟨t, rfl, ht, hll, hl⟩ := hs
      refine ⟨_, rfl, _, _, _, _, true, rfl, .ty "tuple", .base (.tup ht), kit_ty (by decide +kernel), true, rfl, iteF ?_⟩
      have el : ((V.str (Str.ofString "sets") :: ls.map tx).length : Int) = ls.length + 1 := by rw [List.length_cons, List.length_map]; rfl
      refine ⟨_, rfl, _, _, rfl, .inr (SqT.of ht), rfl, _, rfl, ite2 (fun h => ?_) fun _ => ?_⟩
      · have h := V.int.inj (of_decide_eq_true h)
        rw [el] at h
        omega
      refine ⟨_, rfl, _, _, _, _, rfl, rfl, SqT.of ht, atI_nat (j := 0) rfl, _, _, _, _, true, rfl, .ty "str", .base (.str _), kit_ty (by decide +kernel), true, rfl, iteF ?_⟩
      refine ⟨_, rfl, _, _, _, _, rfl, rfl, SqT.of ht, atI_nat (j := 0) rfl, ?_⟩
      refine ⟨_, rfl, rfl, _, rfl, iteF ?_⟩
      refine ⟨_, rfl, rfl, _, rfl, iteF ?_⟩
      refine ⟨_, rfl, rfl, _, rfl, iteT ?_⟩
      refine ⟨_, rfl, _, _, rfl, .inr (SqT.of ht), _, _, rfl, rfl, _, _, rfl, rfl, true, congrArg V.bl (decide_eq_true (by rw [el]; show (ls.length : Int) + 1 ≤ 16 + 1; omega)), iteT ?_⟩
      refine ⟨_, rfl, 1, rfl, t, _, rfl, SqT.of ht, not_whole, fun p hp => ?_⟩
      rw [cut_one]
      refine ⟨p, rfl, ⟨_, SqT.of upd_same⟩, fun D hD => ?_⟩
      refine lc_val same_ok walk_tup (fun j => List.replicate j (V.bl true)) hD rfl (fun j hj => ?_) (fun H3 r => SqT.of (r _ _ upd_same)) (fun N j x H3 H4 hj r y keep skip => ?_) fun H3 r hDl => ?_
      · rw [List.length_map] at hj
        rw [List.length_replicate]
        exact small' (by omega)
      · obtain ⟨rfl, hx⟩ := y
        obtain ⟨l, hlj, rfl⟩ := map_at hx
        have hls := hl l (List.mem_of_getElem? hlj)
        refine ⟨rfl, yes ?_⟩
        refine ⟨_, rfl, _, rfl, l, L, rfl, ok.sub hls, sub_mem hls, fun H1 s1 => keep _ _ s1 ?_⟩
        rw [List.replicate_succ']
      · refine ⟨_, List.replicate (ls.map tx).length true, rfl, SqL.of (by rw [hDl, List.map_replicate]), ?_⟩
        have e2 : (List.replicate (ls.map tx).length true).all id = true := by simp [List.all_replicate]
        rw [e2]
        exact k _ ((Same.one hp).trans r)
    | neg s =>
      cases n with
      | zero => exact (show False from hs).elim
      | succ n =>
        obtain ⟨t, u, rfl, ht, hu⟩ := hs
        refine ⟨_, rfl, _, _, _, _, true, rfl, .ty "tuple", .base (.tup ht), kit_ty (by decide +kernel), true, rfl, iteF ?_⟩
        refine ⟨_, rfl, _, _, rfl, .inr (SqT.of ht), rfl, _, rfl, iteF ?_⟩
        refine ⟨_, rfl, _, _, _, _, rfl, rfl, SqT.of ht, atI_nat (j := 0) rfl, _, _, _, _, true, rfl, .ty "str", .base (.str _), kit_ty (by decide +kernel), true, rfl, iteF ?_⟩
        refine ⟨_, rfl, _, _, _, _, rfl, rfl, SqT.of ht, atI_nat (j := 0) rfl, ?_⟩
        refine ⟨_, rfl, rfl, _, rfl, iteF ?_⟩
        refine ⟨_, rfl, rfl, _, rfl, iteF ?_⟩
        refine ⟨_, rfl, rfl, _, rfl, iteF ?_⟩
        refine ⟨_, rfl, rfl, _, rfl, iteT ?_⟩
        exact ⟨_, rfl, _, _, rfl, .inr (SqT.of ht), rfl, k _ (Same.refl _)⟩
    | con b ss =>
      cases n with
      | zero => exact (show False from hs).elim
      | succ n =>
        obtain ⟨t, us, rfl, ht, h2, h4, hp4⟩ := hs
        have hul : us.length = ss.length := hp4.length
        have hw1 : ((if b = true then Str.ofString "and" else Str.ofString "or") == Str.ofString "lit") = false := by cases b <;> decide +kernel
        have hw2 : ((if b = true then Str.ofString "and" else Str.ofString "or") == Str.ofString "least") = false := by cases b <;> decide +kernel
        have hw3 : ((if b = true then Str.ofString "and" else Str.ofString "or") == Str.ofString "sets") = false := by cases b <;> decide +kernel
        have hw4 : ((if b = true then Str.ofString "and" else Str.ofString "or") == Str.ofString "not") = false := by cases b <;> decide +kernel
        have el : ((V.str (if b = true then Str.ofString "and" else Str.ofString "or") :: us).length : Int) = ss.length + 1 := by rw [List.length_cons, hul]; rfl
        refine ⟨_, rfl, _, _, _, _, true, rfl, .ty "tuple", .base (.tup ht), kit_ty (by decide +kernel), true, rfl, iteF ?_⟩
        refine ⟨_, rfl, _, _, rfl, .inr (SqT.of ht), rfl, _, rfl, ite2 (fun h => ?_) fun _ => ?_⟩
        · have h := V.int.inj (of_decide_eq_true h)
          rw [el] at h
          omega
        refine ⟨_, rfl, _, _, _, _, rfl, rfl, SqT.of ht, atI_nat (j := 0) rfl, _, _, _, _, true, rfl, .ty "str", .base (.str _), kit_ty (by decide +kernel), true, rfl, iteF ?_⟩
        refine ⟨_, rfl, _, _, _, _, rfl, rfl, SqT.of ht, atI_nat (j := 0) rfl, ?_⟩
        refine ⟨_, rfl, rfl, _, rfl, ite2 (fun h => absurd (of_decide_eq_true h) (S_ne hw1)) fun _ => ?_⟩
        refine ⟨_, rfl, rfl, _, rfl, ite2 (fun h => absurd (of_decide_eq_true h) (S_ne hw2)) fun _ => ?_⟩
        refine ⟨_, rfl, rfl, _, rfl, ite2 (fun h => absurd (of_decide_eq_true h) (S_ne hw3)) fun _ => ?_⟩
        refine ⟨_, rfl, rfl, _, rfl, ite2 (fun h => absurd (of_decide_eq_true h) (S_ne hw4)) fun _ => ?_⟩
        refine ⟨_, rfl, by show 2 ≤ sizeLine; decide, fun p hp => ?_⟩
        have hin : inV (V.str (if b = true then Str.ofString "and" else Str.ofString "or")) [.str (Str.ofString "and"), .str (Str.ofString "or")] = true := by cases b <;> decide +kernel
        refine ⟨p, _, rfl, .inr (SqT.of upd_same), rfl, rfl, true, congrArg V.bl hin, iteT ?_⟩
        refine ⟨_, rfl, _, _, rfl, .inr (SqT.of ((Same.one hp) _ _ ht)), _, _, rfl, rfl, true, congrArg V.bl (decide_eq_true (by rw [el]; show (3 : Int) ≤ _; omega)), iteT ?_⟩
        have e5 : decide (((V.str (if b = true then Str.ofString "and" else Str.ofString "or") :: us).length : Int) ≤ 5) = true := decide_eq_true (by rw [el]; omega)
        refine ⟨_, _, rfl, rfl, ?_⟩
        show Q (.bl (decide (((V.str (if b = true then Str.ofString "and" else Str.ofString "or") :: us).length : Int) ≤ 5))) _
        rw [e5]
        exact k _ (Same.one hp)
theorem paired_map {α β γ : Type} {F : α → γ → Prop} {f : β → γ} : ∀ {xs : List α} {ys : List β}, Paired (fun x y => F x (f y)) xs ys → Paired F xs (ys.map f)
  | _, _, .nil => .nil
  | _, _, .cons h r => .cons h (paired_map r)
/-! inner -/
def subsS : Nat → Sen → List (Nat × Sen)
  | n + 1, .neg s => [(n, s)]
  | n + 1, .con _ ss => ss.map fun s => (n, s)
  | _, _ => []
def spInner : Sp := fun vs H Q _ => ∃ (L : Lit) (v : V) (n : Nat) (s : Sen), vs = [v] ∧ SenAt H L n v s ∧ ∀ (p : Addr) (H' : Hp) (us : List V), Same H H' → H' p = some (.lst us) → Paired (fun u q => SenAt H' L q.1 u q.2) us (subsS n s) → Q (.ref p) H'
theorem sc_inner : FnScope ["part"] ["part"] (defScope (top 39)) := ⟨rfl, rfl, rfl, by decide +kernel, rfl, by decide +kernel, by decide +kernel⟩
theorem c_inner {f : Addr} {fd : FuncData} (D : Df K mg "inner" (top 39) f fd) (B : Bl mg) : C8.Cal P w K mg base 1 "inner" spInner [] := by
  refine cal_of D (fun _ _ _ _ _ _ us hl => match us, hl with | [_], _ => rfl) sc_inner (fun vs H Q E h => ?_) (fun cdv A outer s H vs Q E hr h => ?_)
  · obtain ⟨L, v, n, s, rfl, _⟩ := h
    rfl
  · obtain ⟨L, v, n, s, rfl, hs, k⟩ := h
    refine ⟨_, pss_one (ps_ret (pe_ifExp (pt_cmpR op_in_seq (pe_ix ix_tup (pv 0) pe_int (fun _ _ => rfl)) (pe_tup (pa_cons pe_str (pa_cons pe_str (pa_cons pe_str pa_nil)))) rfl) (pe_callTy call_list_of (by rfl) B.list (by decide +kernel) (pa_cons (pe_slice sl_tup (pv 0) (po_some pe_int) po_none) pa_nil)) (pe_lst pa_nil))), ?_⟩
    cases s with
    | lit c =>
      rw [senLit] at hs
      obtain ⟨t, rfl, ht, hc⟩ := hs
      refine ⟨_, rfl, _, _, _, _, rfl, rfl, SqT.of ht, atI_nat (j := 0) rfl, by show 3 ≤ sizeLine; decide, fun p hp => ?_⟩
      refine ⟨p, _, rfl, .inr (SqT.of upd_same), rfl, rfl, false, congrArg V.bl (by decide +kernel), iteF ⟨by decide, fun q hq => k q _ [] ((Same.one hp).trans (Same.one hq)) upd_same ?_⟩⟩
      cases n <;> exact .nil
    | least kk l =>
      rw [senLeast] at hs
      obtain ⟨t, rfl, ht, _⟩ := hs
      refine ⟨_, rfl, _, _, _, _, rfl, rfl, SqT.of ht, atI_nat (j := 0) rfl, by show 3 ≤ sizeLine; decide, fun p hp => ?_⟩
      refine ⟨p, _, rfl, .inr (SqT.of upd_same), rfl, rfl, false, congrArg V.bl (by decide +kernel), iteF ⟨by decide, fun q hq => k q _ [] ((Same.one hp).trans (Same.one hq)) upd_same ?_⟩⟩
      cases n <;> exact .nil
    | sets ls =>
      rw [senSets] at hs
      obtain ⟨t, rfl, ht, _⟩ := hs
      refine ⟨_, rfl, _, _, _, _, rfl, rfl, SqT.of ht, atI_nat (j := 0) rfl, by show 3 ≤ sizeLine; decide, fun p hp => ?_⟩
      refine ⟨p, _, rfl, .inr (SqT.of upd_same), rfl, rfl, false, congrArg V.bl (by decide +kernel), iteF ⟨by decide, fun q hq => k q _ [] ((Same.one hp).trans (Same.one hq)) upd_same ?_⟩⟩
      cases n <;> exact .nil
    | neg s =>
      cases n with
      | zero => exact (show False from hs).elim
      | succ n =>
        obtain ⟨t, u, rfl, ht, hu⟩ := hs
        refine ⟨_, rfl, _, _, _, _, rfl, rfl, SqT.of ht, atI_nat (j := 0) rfl, by show 3 ≤ sizeLine; decide, fun p hp => ?_⟩
        have sp := Same.one (H := H) (o := HO.tup [.str "not", .str "and", .str "or"]) hp
        refine ⟨p, _, rfl, .inr (SqT.of upd_same), rfl, rfl, true, congrArg V.bl (by decide +kernel), iteT ?_⟩
        refine ⟨_, rfl, 1, rfl, t, _, rfl, SqT.of (sp _ _ ht), not_whole, fun q hq => ?_⟩
        rw [cut_one]
        refine ⟨q, _, rfl, .inr (SqT.of upd_same), fun l hl => ?_⟩
        have s3 := (sp.trans (Same.one hq)).trans (Same.one (o := HO.lst [u]) hl)
        refine k l _ _ s3 upd_same ?_
        exact .cons (SenAt.same s3 hu) .nil
    | con b ss =>
      cases n with
      | zero => exact (show False from hs).elim
      | succ n =>
        obtain ⟨t, us, rfl, ht, h2, h4, hp4⟩ := hs
        have hin : inV (V.str (if b = true then Str.ofString "and" else Str.ofString "or")) [.str (Str.ofString "not"), .str (Str.ofString "and"), .str (Str.ofString "or")] = true := by cases b <;> decide +kernel
        refine ⟨_, rfl, _, _, _, _, rfl, rfl, SqT.of ht, atI_nat (j := 0) rfl, by show 3 ≤ sizeLine; decide, fun p hp => ?_⟩
        have sp := Same.one (H := H) (o := HO.tup [.str "not", .str "and", .str "or"]) hp
        refine ⟨p, _, rfl, .inr (SqT.of upd_same), rfl, rfl, true, congrArg V.bl hin, iteT ?_⟩
        refine ⟨_, rfl, 1, rfl, t, _, rfl, SqT.of (sp _ _ ht), not_whole, fun q hq => ?_⟩
        rw [cut_one]
        refine ⟨q, _, rfl, .inr (SqT.of upd_same), fun l hl => ?_⟩
        have s3 := (sp.trans (Same.one hq)).trans (Same.one (o := HO.lst us) hl)
        refine k l _ _ s3 upd_same ?_
        show Paired _ us (ss.map fun s => (n, s))
        exact paired_map (L2.Paired.mapP hp4 fun _ _ q => SenAt.same s3 q)
end
end Rg

end
section
set_option Elab.async false
set_option linter.all false
set_option maxRecDepth 100000
set_option maxHeartbeats 4000000
namespace Rg
open PySem PySem.Spec PyProof.Rows L2
def TupS (H H' : Hp) : Prop := ∀ a xs, H a = some (.tup xs) → H' a = some (.tup xs)
theorem TupS.of {H H' : Hp} (e : Same H H') : TupS H H' := fun a xs h => e _ _ h
theorem TupS.trans {H H' H'' : Hp} (a : TupS H H') (b : TupS H' H'') : TupS H H'' := fun x xs h => b _ _ (a _ _ h)
theorem TupS.lst {H : Hp} {W : Addr} {ys : List V} {o : HO} (h : H W = some (.lst ys)) : TupS H (upd H W o) := fun a xs q => by
  by_cases e : a = W
  · subst e
    rw [h] at q
    cases q
  · rw [upd_ne e]
    exact q
theorem SenAt.tupS {H H' : Hp} {L : Lit} (e : TupS H H') : ∀ {n : Nat} {v : V} {s : Sen}, SenAt H L n v s → SenAt H' L n v s
  | n, v, .lit c, h => by
    cases n <;> exact (let ⟨t, r, h, k⟩ := h; ⟨t, r, e _ _ h, k⟩)
  | n, v, .least k l, h => by
    cases n <;> exact (let ⟨t, r, h, k⟩ := h; ⟨t, r, e _ _ h, k⟩)
  | n, v, .sets ls, h => by
    cases n <;> exact (let ⟨t, r, h, k⟩ := h; ⟨t, r, e _ _ h, k⟩)
  | 0, v, .neg s, h => (show False from h).elim
  | 0, v, .con b ss, h => (show False from h).elim
  | n + 1, v, .neg s, h => (let ⟨t, u, r, h, k⟩ := h; ⟨t, u, r, e _ _ h, SenAt.tupS e k⟩)
  | n + 1, v, .con b ss, h => (let ⟨t, us, r, h, a, b, k⟩ := h; ⟨t, us, r, e _ _ h, a, b, L2.Paired.mapP k fun _ _ q => SenAt.tupS e q⟩)
theorem paired_app {α β : Type} {F : α → β → Prop} : ∀ {xs : List α} {ys : List β} {xs' : List α} {ys' : List β}, Paired F xs ys → Paired F xs' ys' → Paired F (xs ++ xs') (ys ++ ys')
  | _, _, _, _, .nil, h => h
  | _, _, _, _, .cons a r, h => .cons a (paired_app r h)
theorem paired_rev {α β : Type} {F : α → β → Prop} : ∀ {xs : List α} {ys : List β}, Paired F xs ys → Paired F xs.reverse ys.reverse
  | _, _, .nil => .nil
  | _, _, .cons a r => by
    rw [List.reverse_cons, List.reverse_cons]
    exact Paired.snoc (paired_rev r) a
theorem paired_split {α β : Type} {F : α → β → Prop} : ∀ {xs : List α} {ys : List β} {y : β}, Paired F xs (ys ++ [y]) → ∃ xs' x, xs = xs' ++ [x] ∧ Paired F xs' ys ∧ F x y
  | _, [], _, .cons a .nil => ⟨[], _, rfl, .nil, a⟩
  | _, _ :: _, _, .cons a r => (let ⟨xs', x, e, p, f⟩ := paired_split r; ⟨_ :: xs', x, by rw [e]; rfl, .cons a p, f⟩)
theorem strOk_S {l : Lit} (h : ∀ c ∈ l, c < 1114112) : PyData.strOk (SX.S l) = true := by
  unfold PyData.strOk
  show (l.toArray.all fun c => decide (c < 1114112)) = true
  rw [Array.all_eq_true_iff_forall_mem]
  intro c hc
  exact decide_eq_true (h c (by simpa using hc))
theorem lay_cons {d : PyData} {ds : List PyData} (h1 : d.canLay0 = true) (h2 : PyData.canLayAll0 ds = true) : PyData.canLayAll0 (d :: ds) = true := by
  show (d.canLay0 && PyData.canLayAll0 ds) = true
  rw [h1, h2]
  rfl
theorem dep_cons {d : PyData} {ds : List PyData} {n : Nat} (h1 : d.depth ≤ n) (h2 : PyData.depthAll ds ≤ n) : PyData.depthAll (d :: ds) ≤ n := by
  show max d.depth (PyData.depthAll ds) ≤ n
  omega
theorem txs_dp {K : PySem.W.Frag} {H : Hp} : ∀ {ls : List Lit}, (∀ l ∈ ls, ∀ c ∈ l, c < 1114112) → DpAll K H (ls.map tx) (ls.map fun l => .str (SX.S l)) ∧ PyData.canLayAll0 (ls.map fun l => PyData.str (SX.S l)) = true ∧ PyData.depthAll (ls.map fun l => PyData.str (SX.S l)) ≤ 0
  | [], _ => ⟨.nil, rfl, Nat.le_refl _⟩
  | l :: ls, h => by
    obtain ⟨a, b, c⟩ := txs_dp (K := K) (H := H) (ls := ls) fun m hm => h m (List.mem_cons_of_mem _ hm)
    have hl : (PyData.str (SX.S l)).canLay0 = true := strOk_S (h l List.mem_cons_self)
    exact ⟨.cons (.str _) a, lay_cons hl b, dep_cons (Nat.le_refl 0) c⟩
theorem all_dp {K : PySem.W.Frag} {H : Hp} {α : Type} {F : V → α → Prop} {n : Nat} (hF : ∀ v a, F v a → ∃ d, Dp K H v d ∧ d.canLay0 = true ∧ d.depth ≤ n) : ∀ {us : List V} {ss : List α}, Paired F us ss → ∃ ds, DpAll K H us ds ∧ PyData.canLayAll0 ds = true ∧ PyData.depthAll ds ≤ n
  | _, _, .nil => ⟨[], .nil, rfl, Nat.zero_le _⟩
  | _, _, .cons h r => by
    obtain ⟨ds, a, b, c⟩ := all_dp hF r
    obtain ⟨d, x, y, z⟩ := hF _ _ h
    exact ⟨d :: ds, .cons x a, lay_cons y b, dep_cons z c⟩
theorem sen_dp {K : PySem.W.Frag} {H : Hp} {L : Lit} (hL : ∀ c ∈ L, c < 1114112) : ∀ (n : Nat) (v : V) (s : Sen), SenAt H L n v s → ∃ d, Dp K H v d ∧ d.canLay0 = true ∧ d.depth ≤ n + 1
  | n, v, .lit c, h => by
    rw [senLit] at h
    obtain ⟨t, rfl, ht, hc⟩ := h
    have hs : (PyData.str (SX.S [c])).canLay0 = true := strOk_S fun d hd => by rw [List.mem_singleton.mp hd]; exact hL c hc
    refine ⟨.tuple [.str "lit", .str (SX.S [c])], .tup (SqT.of ht) (.cons (.str _) (.cons (.str _) .nil)), lay_cons (by decide +kernel) (lay_cons hs rfl), ?_⟩
    show PyData.depthAll _ + 1 ≤ n + 1
    exact Nat.succ_le_succ (dep_cons (Nat.zero_le _) (dep_cons (Nat.zero_le _) (Nat.zero_le _)))
  | n, v, .least k l, h => by
    rw [senLeast] at h
    obtain ⟨t, rfl, ht, _, _, hl⟩ := h
    have hs : (PyData.str (SX.S l)).canLay0 = true := strOk_S fun d hd => hL d (hl.subset hd)
    refine ⟨.tuple [.str "least", .int k, .str (SX.S l)], .tup (SqT.of ht) (.cons (.str _) (.cons (.int _) (.cons (.str _) .nil))), lay_cons (by decide +kernel) (lay_cons rfl (lay_cons hs rfl)), ?_⟩
    show PyData.depthAll _ + 1 ≤ n + 1
    exact Nat.succ_le_succ (dep_cons (Nat.zero_le _) (dep_cons (Nat.zero_le _) (dep_cons (Nat.zero_le _) (Nat.zero_le _))))
  | n, v, .sets ls, h => by
    rw [senSets] at h
    obtain ⟨t, rfl, ht, _, hl⟩ := h
    obtain ⟨a, b, c⟩ := txs_dp (K := K) (H := H) (ls := ls) fun l hm d hd => hL d ((hl l hm).subset hd)
    refine ⟨.tuple (.str "sets" :: ls.map fun l => .str (SX.S l)), .tup (SqT.of ht) (.cons (.str _) a), lay_cons (by decide +kernel) b, ?_⟩
    show PyData.depthAll _ + 1 ≤ n + 1
    exact Nat.succ_le_succ (dep_cons (Nat.zero_le _) (Nat.le_trans c (Nat.zero_le _)))
  | 0, v, .neg s, h => (show False from h).elim
  | 0, v, .con b ss, h => (show False from h).elim
  | n + 1, v, .neg s, h => by
    obtain ⟨t, u, rfl, ht, hu⟩ := h
    obtain ⟨d, x, y, z⟩ := sen_dp hL n u s hu
    refine ⟨.tuple [.str "not", d], .tup (SqT.of ht) (.cons (.str _) (.cons x .nil)), lay_cons (by decide +kernel) (lay_cons y rfl), ?_⟩
    show PyData.depthAll _ + 1 ≤ n + 1 + 1
    exact Nat.succ_le_succ (dep_cons (Nat.zero_le _) (dep_cons z (Nat.zero_le _)))
  | n + 1, v, .con b ss, h => by
    obtain ⟨t, us, rfl, ht, _, _, hp⟩ := h
    obtain ⟨ds, x, y, z⟩ := all_dp (fun v s => sen_dp hL n v s) hp
    refine ⟨.tuple (.str (if b then "and" else "or") :: ds), .tup (SqT.of ht) (.cons (.str _) x), lay_cons ?_ y, ?_⟩
    · cases b <;> decide +kernel
    · show PyData.depthAll _ + 1 ≤ n + 1 + 1
      exact Nat.succ_le_succ (dep_cons (Nat.zero_le _) z)
/-- the number of parts -/
def szS : Nat → Sen → Nat
  | n + 1, .neg s => 1 + szS n s
  | n + 1, .con _ ss => 1 + (ss.map fun s => szS n s).sum
  | _, _ => 1
theorem szS_subs : ∀ (n : Nat) (s : Sen), szS n s = 1 + ((subsS n s).map fun q => szS q.1 q.2).sum
  | 0, .lit _ | 0, .least _ _ | 0, .sets _ | 0, .neg _ | 0, .con _ _ => rfl
  | n + 1, .lit _ | n + 1, .least _ _ | n + 1, .sets _ => rfl
  | n + 1, .neg s => by simp [szS, subsS]
  | n + 1, .con _ ss => by
    show 1 + _ = 1 + (((ss.map fun s => (n, s)).map fun q => szS q.1 q.2)).sum
    rw [List.map_map]
    rfl
theorem szS_pos (n : Nat) (s : Sen) : 1 ≤ szS n s := by
  rw [szS_subs]
  omega
theorem len_le_sum : ∀ (ws : List (Nat × Sen)), ws.length ≤ (ws.map fun q => szS q.1 q.2).sum
  | [] => Nat.le_refl _
  | q :: ws => by
    have a := len_le_sum ws
    have b := szS_pos q.1 q.2
    simp only [List.length_cons, List.map_cons, List.sum_cons]
    omega
theorem subs_dep : ∀ {n : Nat} {s : Sen} {q : Nat × Sen}, q ∈ subsS n s → q.1 ≤ n
  | 0, .lit _, _, h | 0, .least _ _, _, h | 0, .sets _, _, h | 0, .neg _, _, h | 0, .con _ _, _, h => nomatch h
  | n + 1, .lit _, _, h | n + 1, .least _ _, _, h | n + 1, .sets _, _, h => nomatch h
  | n + 1, .neg s, q, h => by
    rw [List.mem_singleton.mp h]
    exact Nat.le_succ n
  | n + 1, .con _ ss, q, h => by
    obtain ⟨s, _, rfl⟩ := List.mem_map.mp h
    exact Nat.le_succ n
theorem eqv_nil (ds : List PyData) : PyData.eqv (.list ds) (.list []) = decide (ds = []) := by
  cases ds with
  | nil => rfl
  | cons d ds => rfl
section
variable {P : Program} {w : World} {K : PySem.W.Frag} {mg : Str → Option Value} {base : Heap}
/-! check_sentence -/
def spCheck : Sp := fun vs H Q _ => ∃ (L : Lit) (v : V) (n : Nat) (s : Sen), vs = [tx L, v] ∧ SenAt H L n v s ∧ n ≤ 10 ∧ szS n s ≤ 20 ∧ Ok L ∧ 1 ≤ L.length ∧ L.length ≤ 4 ∧ ∀ H', Same H H' → Q .non H'
theorem sc_check : FnScope ["lamps", "value", "waiting", "number", "part"] ["lamps", "value"] (defScope (top 40)) := ⟨rfl, rfl, rfl, by decide +kernel, rfl, by decide +kernel, by decide +kernel⟩
theorem abc_lo : ∀ c ∈ abc, c < 1114112 := by decide +kernel
theorem c_check {f : Addr} {fd : FuncData} (D : Df K mg "check_sentence" (top 40) f fd) (C : Cs mg) (c1 : C8.Cal P w K mg base 3 "need_lamps" spNeedLamps []) (c2 : C8.Cal P w K mg base 3 "is_part" spPart []) (c3 : C8.Cal P w K mg base 1 "inner" spInner []) : C8.Cal P w K mg base 4 "check_sentence" spCheck [] := by
  obtain ⟨t2, h20⟩ := C.parts
  refine cal_of D (fun _ _ _ _ _ _ us hl => match us, hl with | [_, _], _ => rfl) sc_check (fun vs H Q E h => ?_) (fun cdv A outer s H vs Q E hr h => ?_)
  · obtain ⟨L, v, n, s, rfl, _⟩ := h
    rfl
  · obtain ⟨L, v, n, s, rfl, hs, hn, hsz, ok, l1, l4, k⟩ := h
    refine ⟨_, pss_cons (ps_expr (C8.pe_c c1 hr (by decide) (by rfl) (pa_cons (pv 0) pa_nil)))
      (pss_cons (ps_set (i := 2) sc_check.nd rfl (Or.inl rfl) (pe_lst (pa_cons (pv 1) pa_nil)))
      (pss_cons (ps_set (i := 3) sc_check.nd rfl (Or.inl rfl) pe_int)
      (pss_one (ps_while PassesOwn.never (pt_cmpR (op_neD hr.units) (pv 2) (pe_lst pa_nil) (nomark _))
        (pss_cons (ps_set (i := 4) sc_check.nd rfl (Or.inl rfl) (pe_bm0 PySem.F.plainAttrs_list PySem.F.slot_list_pop PySem.F.type_list_pop mt_pop (pv 2)))
        (pss_cons (ps_if (pw_or (pt_cmpR op_ge (pv 3) (pe_glob (v := .int 20) (by rfl) h20 ⟨_, rfl⟩) (nomark _)) (pw_or1 (pt_not (pt_val (C8.pe_c c2 hr (by decide) (by rfl) (pa_cons (pv 0) (pa_cons (pv 4) pa_nil))))))).pt pss_never pss_nil)
        (pss_cons (ps_expr (pe_bm PySem.F.plainAttrs_list PySem.F.slot_list_extend PySem.F.type_list_extend mt_extend (pv 2) (pa_cons (pe_revL (C8.pe_c c3 hr (by decide) (by rfl) (pa_cons (pv 4) pa_nil))) pa_nil)))
        (pss_one (ps_aug (i := 3) sc_check.nd rfl (Or.inl rfl) pe_int ip_add))))))))), ?_⟩
    have hLo : ∀ c ∈ L, c < 1114112 := fun c hc => abc_lo c (ok.abc c hc)
    refine ⟨_, rfl, L, rfl, ok, l1, l4, fun H1 s1 => ?_⟩
    refine ⟨_, rfl, by show 1 ≤ sizeLine; decide, fun W hW => ?_⟩
    have hWH : H W = none := none_of s1 hW
    refine ⟨fun m σ H' => ∃ (i : Nat) (ws : List (Nat × Sen)) (us : List V) (x : Option V), m = (ws.map fun q => szS q.1 q.2).sum ∧ σ = [some (tx L), some v, some (.ref W), some (.int i), x] ∧ Same H H' ∧ H' W = some (.lst us) ∧ Paired (fun u q => SenAt H' L q.1 u q.2) us ws ∧ (∀ q ∈ ws, q.1 ≤ 10) ∧ i + m ≤ 20,
      ⟨_, 0, [(n, s)], [v], none, rfl, rfl, s1.trans (Same.one hW), upd_same, .cons (SenAt.same (s1.trans (Same.one hW)) hs) .nil, (fun q hq => by rw [List.mem_singleton.mp hq]; exact hn), by simpa using hsz⟩, ?_⟩
    rintro _ σ H' ⟨i, ws, us, x, rfl, rfl, sm, hWl, hp, hd, hi⟩
    refine ⟨_, rfl, by decide, fun e0 he0 => ?_⟩
    have sE : Same H' (upd H' e0 (.lst [])) := Same.one he0
    obtain ⟨ds, da, db, dc⟩ := all_dp (K := K) (F := fun u (q : Nat × Sen) => SenAt (upd H' e0 (.lst [])) L q.1 u q.2 ∧ q.1 ≤ 10) (n := 11) (fun u q h => (let ⟨d, x, y, z⟩ := sen_dp (K := K) hLo q.1 u q.2 h.1; ⟨d, x, y, by have := h.2; omega⟩)) (show Paired _ us ws from by
      have : ∀ {us : List V} {ws : List (Nat × Sen)}, Paired (fun u q => SenAt H' L q.1 u q.2) us ws → (∀ q ∈ ws, q.1 ≤ 10) → Paired (fun u (q : Nat × Sen) => SenAt (upd H' e0 (.lst [])) L q.1 u q.2 ∧ q.1 ≤ 10) us ws := fun {us ws} h => by
        induction h with
        | nil => exact fun _ => .nil
        | cons a b ih => exact fun hd => .cons ⟨SenAt.same sE a, hd _ List.mem_cons_self⟩ (ih fun q hq => hd q (List.mem_cons_of_mem _ hq))
      exact this hp hd)
    have dsh : SeqAt.shaped (.list ds) = true := by
      unfold SeqAt.shaped
      have e1 : (PyData.list ds).canLay0 = true := db
      have e2 : (PyData.list ds).depth ≤ 64 := by show PyData.depthAll ds + 1 ≤ 64; omega
      rw [e1, decide_eq_true e2]
      rfl
    refine ⟨.list ds, .list [], .lst (SqL.of (sE _ _ hWl)) da, .lst (SqL.of upd_same) .nil, dsh, rfl, _, rfl, ?_⟩
    rw [eqv_nil]
    have e0H : H e0 = none := none_of sm he0
    cases hw : ws.reverse with
    | nil =>
      have ews : ws = [] := by rw [← List.reverse_reverse ws, hw]; rfl
      subst ews
      cases hp
      cases da
      refine iteF ?_
      exact k _ (sm.trans sE)
    | cons q r =>
      have ews : ws = r.reverse ++ [q] := by rw [← List.reverse_reverse ws, hw, List.reverse_cons]
      subst ews
      obtain ⟨us', u, eu, hp', hu⟩ := paired_split hp
      subst eu
      have hds : decide (ds = []) = false := decide_eq_false fun e => by
        subst e
        generalize hz : us' ++ [u] = z at da
        cases da
        simp at hz
      rw [hds]
      refine iteT ?_
      have hqd : q.1 ≤ 10 := hd q (List.mem_append.mpr (.inr (List.mem_singleton.mpr rfl)))
      have hsum : ((r.reverse ++ [q]).map fun q => szS q.1 q.2).sum = (r.reverse.map fun q => szS q.1 q.2).sum + szS q.1 q.2 := by
        rw [List.map_append, List.sum_append]
        simp
      have hq1 := szS_pos q.1 q.2
      refine ⟨fun σ' H'' => ∃ m', m' < ((r.reverse ++ [q]).map fun q => szS q.1 q.2).sum ∧ ∃ (i : Nat) (ws : List (Nat × Sen)) (us : List V) (x : Option V), m' = (ws.map fun q => szS q.1 q.2).sum ∧ σ' = [some (tx L), some v, some (.ref W), some (.int i), x] ∧ Same H H'' ∧ H'' W = some (.lst us) ∧ Paired (fun u q => SenAt H'' L q.1 u q.2) us ws ∧ (∀ q ∈ ws, q.1 ≤ 10) ∧ i + m' ≤ 20, fun σ' H'' q => q, ?_⟩
      have t1 : TupS H' (upd (upd H' e0 (.lst [])) W (.lst us')) := (TupS.of sE).trans (TupS.lst (sE _ _ hWl))
      have sm2 : Same H (upd (upd H' e0 (.lst [])) W (.lst us')) := Same.put (sm.trans sE) hWH
      refine ⟨_, rfl, Or.inl ⟨rfl, _, SqL.of (sE _ _ hWl)⟩, W, us' ++ [u], u, rfl, rfl, sE _ _ hWl, by rw [List.length_append]; simp, ?_⟩
      rw [List.dropLast_concat]
      generalize hH2 : upd (upd H' e0 (.lst [])) W (.lst us') = H2 at t1 sm2 ⊢
      have hW2 : H2 W = some (.lst us') := by rw [← hH2]; exact upd_same
      refine ⟨_, rfl, _, _, rfl, rfl, _, rfl, ite2 (fun h => ?_) fun _ => ?_⟩
      · have h : ((20 : Int) ≤ (i : Int)) := of_decide_eq_true h
        rw [hsum] at hi
        omega
      have hu2 : SenAt H2 L q.1 u q.2 := SenAt.tupS t1 hu
      refine ⟨_, rfl, _, rfl, L, u, q.1, q.2, rfl, hu2, ok, l4, fun H3 s3 => ⟨_, rfl, iteF ?_⟩⟩
      refine ⟨_, rfl, Or.inl ⟨rfl, _, SqL.of (s3 _ _ hW2)⟩, ?_⟩
      refine ⟨_, rfl, L, u, q.1, q.2, rfl, SenAt.same s3 hu2, fun p H4 zs s4 hp4 hz => ?_⟩
      refine ⟨p, zs, rfl, SqL.of hp4, fun p2 hp2 => ?_⟩
      have hW4 : H4 W = some (.lst us') := s4 _ _ (s3 _ _ hW2)
      have hne : W ≠ p2 := ne_of_none hW4 hp2
      have s5 : Same H4 (upd H4 p2 (.lst zs.reverse)) := Same.one hp2
      have hsub := szS_subs q.1 q.2
      have hzl : zs.length = (subsS q.1 q.2).length := hz.length
      have hul : us'.length = r.reverse.length := hp'.length
      have b1 := len_le_sum (subsS q.1 q.2)
      have b2 := len_le_sum r.reverse
      refine ⟨W, p2, us', zs.reverse, rfl, rfl, s5 _ _ hW4, upd_same, small (by rw [List.length_reverse]; omega), ?_⟩
      have t4 : TupS H2 (upd (upd H4 p2 (.lst zs.reverse)) W (.lst (us' ++ zs.reverse))) := (TupS.of (s3.trans (s4.trans s5))).trans (TupS.lst (s5 _ _ hW4))
      have t3 : TupS H4 (upd (upd H4 p2 (.lst zs.reverse)) W (.lst (us' ++ zs.reverse))) := (TupS.of s5).trans (TupS.lst (s5 _ _ hW4))
      refine ⟨_, rfl, _, _, rfl, rfl, ?_⟩
      refine ⟨(r.reverse.map fun q => szS q.1 q.2).sum + ((subsS q.1 q.2).map fun q => szS q.1 q.2).sum, by omega, i + 1, r.reverse ++ (subsS q.1 q.2).reverse, us' ++ zs.reverse, some u, ?_, rfl, Same.put (sm2.trans (s3.trans (s4.trans s5))) hWH, upd_same, ?_, ?_, by omega⟩
      · rw [List.map_append, List.sum_append, List.map_reverse (l := subsS q.1 q.2), List.sum_reverse]
      · exact paired_app (L2.Paired.mapP hp' fun _ _ h => SenAt.tupS (t1.trans t4) h) (paired_rev (L2.Paired.mapP hz fun _ _ h => SenAt.tupS t3 h))
      · intro q' hq'
        rcases List.mem_append.mp hq' with h | h
        · exact hd q' (List.mem_append.mpr (.inl h))
        · exact Nat.le_trans (subs_dep (List.mem_reverse.mp h)) hqd
end
end Rg

end
section
set_option Elab.async false
set_option linter.all false
set_option maxRecDepth 100000
set_option maxHeartbeats 4000000
namespace Rg
open PySem PySem.Spec PyProof.Rows L2
/-- a method's def behind the top -/
abbrev Dm (K : PySem.W.Frag) (x qual : Str) (st : Stmt) (f : Addr) (fd : FuncData) : Prop := FunD K x qual (defArgs st) (defBody st) (defScope st) [] [] f fd
section
variable {P : Program} {w : World} {K : PySem.W.Frag} {mg : Str → Option Value} {base : Heap}
theorem fn_m {x qual : Str} {st : Stmt} {f : Addr} {fd : FuncData} {N ps : List Str} {k : Nat} {sp : Sp} (D : Dm K x qual st f fd) (S : FnScope N ps (defScope st)) (len : ∀ vs H Q E, sp vs H Q E → vs.length = ps.length)
    (hbody : ∀ (cdv : Value) (A : Around) (outer : List Env) (s : Shared) (H : Hp) (vs : List V) (Q : VK) (E : XK), Room k (A.deeper (envOfC qual (defScope st) s.heap.objs.size f cdv)) → sp vs H Q E →
      ∃ t, PSs (cxOf C8.CX0 P w K mg base N qual (defScope st) f cdv A outer s H E).nox (defBody st) t ∧ t { nx := fun _ H' => Q .non H', rt := Q } (start N vs) H) : FnOk P w K mg base C8.CX0 (k + 1) f fd ps sp :=
  D.ok S len fun cdv A outer s H vs Q E hr hsp => (let ⟨t, h, q⟩ := hbody cdv A outer s H vs Q E hr hsp; ⟨t, h.nox, q⟩)
theorem mak_of {x qual : Str} {C : Addr} {st : Stmt} {f : Addr} {fd : FuncData} {N ps : List Str} {k : Nat} {sp : Sp} (M : Mk K C f) (hm : mg x = some (.ref C)) (D : Dm K "__init__" qual st f fd)
    (b : ∀ (kV doc pm : Value) (an : Option Addr) (cdv ct : Value) (us : List Value), us.length = ps.length → bindArgs (PySem.W.fnOf "__init__" qual (defArgs st) (defBody st) (defScope st) .none kV doc pm an cdv ct) ⟨us, []⟩ = pure (ps.zip us))
    (S : FnScope N ps (defScope st)) (len : ∀ vs H Q E, sp vs H Q E → vs.length = ps.length)
    (hbody : ∀ (cdv : Value) (A : Around) (outer : List Env) (s : Shared) (H : Hp) (vs : List V) (Q : VK) (E : XK), Room k (A.deeper (envOfC qual (defScope st) s.heap.objs.size f cdv)) → sp vs H Q E →
      ∃ t, PSs (cxOf C8.CX0 P w K mg base N qual (defScope st) f cdv A outer s H E).nox (defBody st) t ∧ t { nx := fun _ H' => Q .non H', rt := Q } (start N vs) H) : C8.Mak P w K mg base (k + 1) x C sp [] :=
  ⟨f, fd, ps, [], M, fn_m D S len hbody, hm, D.bindsN b, .nil⟩
theorem met_of {x qual : Str} {C : Addr} {st : Stmt} {f : Addr} {fd : FuncData} {N ps : List Str} {k : Nat} {sp : Sp} (c : Cls K C) (M : Meth K C x f) (D : Dm K x qual st f fd)
    (b : ∀ (kV doc pm : Value) (an : Option Addr) (cdv ct : Value) (us : List Value), us.length = ps.length → bindArgs (PySem.W.fnOf x qual (defArgs st) (defBody st) (defScope st) .none kV doc pm an cdv ct) ⟨us, []⟩ = pure (ps.zip us))
    (S : FnScope N ps (defScope st)) (len : ∀ vs H Q E, sp vs H Q E → vs.length = ps.length)
    (hbody : ∀ (cdv : Value) (A : Around) (outer : List Env) (s : Shared) (H : Hp) (vs : List V) (Q : VK) (E : XK), Room k (A.deeper (envOfC qual (defScope st) s.heap.objs.size f cdv)) → sp vs H Q E →
      ∃ t, PSs (cxOf C8.CX0 P w K mg base N qual (defScope st) f cdv A outer s H E).nox (defBody st) t ∧ t { nx := fun _ H' => Q .non H', rt := Q } (start N vs) H) : C8.Met P w K mg base (k + 1) C x sp [] :=
  ⟨f, fd, ps, [], c, M, fn_m D S len hbody, D.bindsN b, .nil⟩
/-- a property whose getter returns a field -/
structure PropL (P : Program) (w : World) (K : PySem.W.Frag) (mg : Str → Option Value) (base : Heap) (C : Addr) (f fld : Str) : Prop where
  ex : ∃ (p g : Addr) (fd : FuncData), PropOf K C f p g ∧ FnOk P w K mg base C8.CX0 1 g fd ["self"] (getSp C fld) ∧ Binds K fd ["self"] []
theorem pe_pr {X : Cx} {j : Nat} {C : Addr} {f fld : Str} {e : Expr} {pos : Pos} {ta : TE} (c : PropL X.prog X.w X.K X.mg X.base C f fld) (cl : Cls X.K C) (hr : Room j X.A) (hj : 2 ≤ j) (he : PE X e ta)
    (hab : attributeBase e f X.env (eval e X.env) = eval e X.env := by rfl) : PE X (.Attribute e f pos) (tProp C (getSp C fld) [] C8.E0 ta) := by
  obtain ⟨p, g, fd, hp, F, b⟩ := c.ex
  exact pe_prop he cl hp F (hr.mono hj) b .nil C8.pass0 hab
end
/-! Goal -/
structure GCls (K : PySem.W.Frag) (C : Addr) : Prop where
  cls : Cls K C
  nL : NoAttr K C "own_lamps"
  nS : NoAttr K C "own_sentence"
  nT : NoAttr K C "own_sets"
/-- the goal that stands at x -/
def GoalAt (C : Addr) (H : Hp) (x : Addr) (L : Lit) (T : List Lit) : Prop := ∃ dx v t, H x = some (.ins C dx [("own_lamps", tx L), ("own_sentence", v), ("own_sets", .ref t)]) ∧ H t = some (.tup (T.map tx))
theorem GoalAt.same {C : Addr} {H H' : Hp} {x : Addr} {L : Lit} {T : List Lit} (e : Same H H') (h : GoalAt C H x L T) : GoalAt C H' x L T := by
  obtain ⟨dx, v, t, h1, h2⟩ := h
  exact ⟨dx, v, t, e _ _ h1, e _ _ h2⟩
/-- what stands stays, but at x -/
def But (x : Addr) (H H' : Hp) : Prop := ∀ b o, b ≠ x → H b = some o → H' b = some o
theorem But.trans {x : Addr} {H H' H'' : Hp} (a : But x H H') (b : But x H' H'') : But x H H'' := fun c o n h => b c o n (a c o n h)
theorem But.of {x : Addr} {H H' : Hp} (a : Same H H') : But x H H' := fun c o _ h => a c o h
theorem But.put {x : Addr} {H : Hp} {o : HO} : But x H (upd H x o) := fun c o n h => by
  rw [upd_ne n]
  exact h
section
variable {P : Program} {w : World} {K : PySem.W.Frag} {mg : Str → Option Value} {base : Heap}
def spGInit (C : Addr) : Sp := fun vs H Q _ => ∃ (x dx : Addr) (L : Lit) (v : V) (s : Sen), vs = [.ref x, tx L, v] ∧ H x = some (.ins C dx []) ∧ SenAt H L 2 v s ∧ szS 2 s ≤ 20 ∧ Ok L ∧ 1 ≤ L.length ∧ L.length ≤ 4 ∧
  ∀ H', But x H H' → GoalAt C H' x L ((setsOf L).filter fun l => holdsS 2 s l) → Q .non H'
theorem sc_ginit : FnScope ["self", "lamps", "sentence", "lit"] ["self", "lamps", "sentence"] (defScope (meth 42 0)) := ⟨rfl, rfl, rfl, by decide +kernel, rfl, by decide +kernel, by decide +kernel⟩
theorem c_ginit {C f : Addr} {fd : FuncData} (G : GCls K C) (M : Mk K C f) (hm : mg "Goal" = some (.ref C)) (D : Dm K "__init__" "Goal.__init__" (meth 42 0) f fd) (B : Bl mg) (c1 : C8.Cal P w K mg base 4 "check_sentence" spCheck []) (c2 : C8.Cal P w K mg base 4 "sets_of" spSetsOf []) (c3 : C8.Cal P w K mg base 4 "holds_for" (spHolds 3) []) : C8.Mak P w K mg base 5 "Goal" C (spGInit C) [] := by
  refine mak_of M hm D (fun _ _ _ _ _ _ us hl => match us, hl with | [_, _, _], _ => rfl) sc_ginit (fun vs H Q E h => ?_) (fun cdv A outer s H vs Q E hr h => ?_)
  · obtain ⟨x, dx, L, v, s, rfl, _⟩ := h
    rfl
  · obtain ⟨x, dx, L, v, s, rfl, hx, hs, hsz, ok, l1, l4, k⟩ := h
    refine ⟨_, pss_cons (ps_expr (C8.pe_c c1 hr (by decide) (by rfl) (pa_cons (pv 1) (pa_cons (pv 2) pa_nil))))
      (pss_cons (ps_fld (pv 0) (pv 1) rfl)
      (pss_cons (ps_fld (pv 0) (pv 2) rfl)
      (pss_one (ps_fld (pv 0) (pe_callTy call_tuple_of (by rfl) B.tuple (by decide +kernel) (pa_cons
        (pe_lc (own := [("lit", 3)]) (g := gName 3) rfl sc_ginit.nd (pi_list (C8.pe_c c2 hr (by decide) (by rfl) (pa_cons (pv 1) pa_nil))) (blkOk_by (own := [("lit", 3)]) (N := ["self", "lamps", "sentence", "lit"]) (sc := defScope (meth 42 0)) (by decide +kernel))
          (fun _ _ _ _ _ => pg_name (i := 3) sc_ginit.nd rfl (Or.inl rfl)) (fun _ _ _ _ _ => pts_one (pt_val (C8.pe_c c3 hr (by decide) (by rfl) (pa_cons (pv 2) (pa_cons (pv 3) pa_nil))))) (fun _ _ _ _ _ => pv 3)) pa_nil)) rfl)))), ?_⟩
    refine ⟨_, rfl, _, rfl, L, v, 2, s, rfl, hs, by decide, hsz, ok, l1, l4, fun H1 s1 => ?_⟩
    refine ⟨_, rfl, _, rfl, x, C, dx, [], rfl, s1 _ _ hx, G.cls, G.nL, by decide, ?_⟩
    refine ⟨_, rfl, _, rfl, x, C, dx, _, rfl, upd_same, G.cls, G.nS, (by show 1 < 1000; decide), ?_⟩
    have e2 : upd (upd H1 x (.ins C dx (putF "own_lamps" (tx L) []))) x (.ins C dx (putF "own_sentence" v (putF "own_lamps" (tx L) []))) = upd H1 x (.ins C dx [("own_lamps", tx L), ("own_sentence", v)]) := by
      funext b
      by_cases e : b = x
      · subst e
        rw [upd_same, upd_same]
        rfl
      · rw [upd_ne e, upd_ne e, upd_ne e]
    rw [e2]
    have b1 : But x H (upd H1 x (.ins C dx [("own_lamps", tx L), ("own_sentence", v)])) := (But.of s1).trans But.put
    have t1 : TupS H1 (upd H1 x (.ins C dx [("own_lamps", tx L), ("own_sentence", v)])) := fun a xs q => by
      by_cases e : a = x
      · subst e
        rw [s1 _ _ hx] at q
        cases q
      · rw [upd_ne e]
        exact q
    have hs2 : SenAt (upd H1 x (.ins C dx [("own_lamps", tx L), ("own_sentence", v)])) L 2 v s := SenAt.tupS t1 (SenAt.same s1 hs)
    have hx2 : upd H1 x (.ins C dx [("own_lamps", tx L), ("own_sentence", v)]) x = some (.ins C dx [("own_lamps", tx L), ("own_sentence", v)]) := upd_same
    generalize upd H1 x (.ins C dx [("own_lamps", tx L), ("own_sentence", v)]) = H2 at b1 hs2 hx2 ⊢
    refine ⟨_, rfl, L, rfl, l4, fun H3 a s3 ha => ?_⟩
    have s4 : Same H2 (upd H3 a (.lst ((setsOf L).map tx))) := s3.trans (Same.one ha)
    have sl : (setsOf L).length ≤ 16 := by
      rw [setsOf_len]
      exact Nat.le_trans (Nat.pow_le_pow_right (by decide) l4) (by decide)
    refine ⟨a, rfl, ⟨_, SqL.of upd_same⟩, fun D hD => ?_⟩
    refine lc_val same_ok walk_list (fun i => (((setsOf L).take i).filter fun l => holdsS 2 s l).map tx) hD rfl (fun i hi => ?_) (fun H' r => SqL.of (r _ _ upd_same)) (fun N i y H4 H5 hi r yy keep skip => ?_) fun H4 r hDl => ?_
    · exact Nat.lt_of_le_of_lt (fm_take_len _ _ _ _) (small' (by omega))
    · obtain ⟨rfl, hy⟩ := yy
      obtain ⟨l, hl, rfl⟩ := map_at hy
      refine ⟨rfl, ?_⟩
      refine ⟨_, rfl, _, rfl, v, l, L, s, rfl, SenAt.same (s4.trans r) hs2, l4, fun H6 s6 => ?_⟩
      cases hh : holdsS 2 s l with
      | true => exact ⟨_, rfl, iteT ⟨_, rfl, keep _ _ s6 (fm_take_yes hl hh)⟩⟩
      | false => exact ⟨_, rfl, iteF (skip _ s6 (fm_take_no hl hh))⟩
    · rw [List.length_map, List.take_length] at hDl
      refine ⟨D, _, rfl, .inl ⟨SqL.of hDl, fun t ht => ?_⟩⟩
      have s5 : Same H2 (upd H4 t (.tup (((setsOf L).filter fun l => holdsS 2 s l).map tx))) := (s4.trans r).trans (Same.one ht)
      have hxt : x ≠ t := ne_of_none ((s4.trans r) _ _ hx2) ht
      refine ⟨_, rfl, x, C, dx, _, rfl, s5 _ _ hx2, G.cls, G.nT, (by show 2 < 1000; decide), ?_⟩
      refine k _ ((b1.trans (But.of s5)).trans But.put) ⟨dx, v, t, upd_same, ?_⟩
      rw [upd_ne hxt.symm]
      exact upd_same
end
end Rg

end
section
set_option Elab.async false
set_option linter.all false
set_option maxRecDepth 100000
set_option maxHeartbeats 4000000
namespace Rg
open PySem PySem.Spec PyProof.Rows L2
/-- list(e), inside a comprehension, too -/
def rListOf (K : PySem.W.Frag) : List V → Hp → VK → Prop := fun xs H Q => ∃ p ys, xs = [V.ref p] ∧ (SqL K H p ys ∨ SqT K H p ys) ∧ ∀ l, H l = none → Q (.ref l) (upd H l (.lst ys))
theorem cr_list {X : Cx} {K : PySem.W.Frag} (h : X.K = K) : CallR X (.type "list") (rListOf K) := by
  subst h
  exact call_list_of
/-! the teller -/
structure TCls (K : PySem.W.Frag) (C : Addr) : Prop where
  cls : Cls K C
  nL : NoAttr K C "own_lamps"
  nS : NoAttr K C "own_steps"
  nT : NoAttr K C "own_sets"
/-- lists and tuples stay -/
def Stay (H H' : Hp) : Prop := (∀ a xs, H a = some (.tup xs) → H' a = some (.tup xs)) ∧ ∀ a xs, H a = some (.lst xs) → H' a = some (.lst xs)
theorem Stay.of {H H' : Hp} (e : Same H H') : Stay H H' := ⟨fun _ _ h => e _ _ h, fun _ _ h => e _ _ h⟩
theorem Stay.trans {H H' H'' : Hp} (a : Stay H H') (b : Stay H' H'') : Stay H H'' := ⟨fun x xs h => b.1 _ _ (a.1 _ _ h), fun x xs h => b.2 _ _ (a.2 _ _ h)⟩
theorem Stay.put {H : Hp} {x C dx : Addr} {fs : List (Str × V)} {o : HO} (h : H x = some (.ins C dx fs)) : Stay H (upd H x o) := by
  refine ⟨fun a xs q => ?_, fun a xs q => ?_⟩
  all_goals
    by_cases e : a = x
    · subst e
      rw [h] at q
      cases q
    · rw [upd_ne e]
      exact q
theorem StepAt.stay {H H' : Hp} {v : V} {p : Int × Int} (e : Stay H H') (h : StepAt H v p) : StepAt H' v p := by
  obtain ⟨t, r, h⟩ := h
  exact ⟨t, r, e.1 _ _ h⟩
theorem RowAt.stay {H H' : Hp} {v : V} {p : List (Int × Int)} (e : Stay H H') (h : RowAt H v p) : RowAt H' v p := by
  obtain ⟨a, vs, r, h, k⟩ := h
  exact ⟨a, vs, r, e.2 _ _ h, L2.Paired.mapP k fun _ _ => StepAt.stay e⟩
theorem RowsAt.stay {H H' : Hp} {v : V} {p : List (List (Int × Int))} (e : Stay H H') (h : RowsAt H v p) : RowsAt H' v p := by
  obtain ⟨a, vs, r, h, k⟩ := h
  exact ⟨a, vs, r, e.2 _ _ h, L2.Paired.mapP k fun _ _ => RowAt.stay e⟩
/-- a row that is no list at D stays when D grows -/
theorem RowAt.put {H : Hp} {D : Addr} {old new : List V} {v : V} {r : List (Int × Int)} (hD : H D = some (.lst old)) (h : RowAt H v r) (hne : v ≠ .ref D) : RowAt (upd H D (.lst new)) v r := by
  obtain ⟨b, qs, rfl, hb, hq⟩ := h
  have hbD : b ≠ D := fun e => hne (by rw [e])
  refine ⟨b, qs, rfl, by rw [upd_ne hbD]; exact hb, L2.Paired.mapP hq fun u p hu => ?_⟩
  obtain ⟨t, rfl, ht⟩ := hu
  refine ⟨t, rfl, ?_⟩
  have htD : t ≠ D := fun e => by
    rw [e, hD] at ht
    cases ht
  rw [upd_ne htD]
  exact ht
abbrev Rows' : Type := List (List (Int × Int))
def TellerAt (C : Addr) (H : Hp) (x : Addr) (L : Lit) (rs : Rows') : Prop := ∃ (dx S W : Addr), H x = some (.ins C dx [("own_sets", .ref S), ("own_lamps", tx L), ("own_steps", .ref W)]) ∧ H S = some (.lst ((setsOf L).map tx)) ∧ RowsAt H (.ref W) rs
theorem TellerAt.same {C : Addr} {H H' : Hp} {x : Addr} {L : Lit} {rs : Rows'} (e : Same H H') (h : TellerAt C H x L rs) : TellerAt C H' x L rs := by
  obtain ⟨dx, S, W, h1, h2, h3⟩ := h
  exact ⟨dx, S, W, e _ _ h1, e _ _ h2, h3.same e⟩
/-- what a teller is made of -/
structure RowsOk (L : Lit) (rs : Rows') : Prop where
  ne : rs ≠ []
  few : rs.length ≤ 40
  len : ∀ r ∈ rs, r.length = (setsOf L).length
  ok : ∀ r ∈ rs, ∀ p ∈ r, StepOk rs.length p
theorem sets16 {L : Lit} (l4 : L.length ≤ 4) : (setsOf L).length ≤ 16 := by
  rw [setsOf_len]
  exact Nat.le_trans (Nat.pow_le_pow_right (by decide) l4) (by decide)
section
variable {P : Program} {w : World} {K : PySem.W.Frag} {mg : Str → Option Value} {base : Heap}
/-! holds, Goal.__call__, need_same_lamps -/
def spGHolds (C : Addr) : Sp := fun vs H Q _ => ∃ (x : Addr) (L : Lit) (T : List Lit) (l : Lit), vs = [.ref x, tx l] ∧ GoalAt C H x L T ∧ Ok L ∧ l.Sublist L ∧ ∀ H', Same H H' → Q (.bl (decide (l ∈ T))) H'
theorem sc_gholds : FnScope ["goal", "kept"] ["goal", "kept"] (defScope (top 43)) := ⟨rfl, rfl, rfl, by decide +kernel, rfl, by decide +kernel, by decide +kernel⟩
theorem c_gholds {C : Addr} {f : Addr} {fd : FuncData} (G : GCls K C) (pr : PropL P w K mg base C "lamps" "own_lamps") (D : Df K mg "holds" (top 43) f fd) (c1 : C8.Cal P w K mg base 2 "is_set" spSet []) : C8.Cal P w K mg base 3 "holds" (spGHolds C) [] := by
  refine cal_of D (fun _ _ _ _ _ _ us hl => match us, hl with | [_, _], _ => rfl) sc_gholds (fun vs H Q E h => ?_) (fun cdv A outer s H vs Q E hr h => ?_)
  · obtain ⟨x, L, T, l, rfl, _⟩ := h
    rfl
  · obtain ⟨x, L, T, l, rfl, hg, ok, hl, k⟩ := h
    refine ⟨_, pss_cons (ps_if (pt_not (pt_val (C8.pe_c c1 hr (by decide) (by rfl) (pa_cons (pv 1) (pa_cons (pe_pr pr G.cls hr (by decide) (pv 0)) pa_nil))))) pss_never pss_nil)
      (pss_one (ps_ret (pe_cmpR op_in_seq (pv 1) (pe_fld (pv 0) rfl) rfl))), ?_⟩
    obtain ⟨dx, v, t, hx, ht⟩ := hg
    refine ⟨_, rfl, _, rfl, x, dx, _, rfl, hx, x, dx, _, _, rfl, hx, rfl, l, L, rfl, ok.sub hl, sub_mem hl, fun H1 s1 => ⟨_, rfl, iteF ?_⟩⟩
    refine ⟨_, rfl, _, rfl, x, C, dx, _, _, rfl, s1 _ _ hx, G.cls, G.nT, rfl, t, _, rfl, .inr (SqT.of (s1 _ _ ht)), rfl, flat_tx T, ?_⟩
    have k1 := k H1 s1
    rw [← inV_tx] at k1
    exact k1
theorem sc_gcall : FnScope ["self", "kept"] ["self", "kept"] (defScope (meth 42 5)) := ⟨rfl, rfl, rfl, by decide +kernel, rfl, by decide +kernel, by decide +kernel⟩
/-- an instance of the class at C, called -/
structure CallG (P : Program) (w : World) (K : PySem.W.Frag) (mg : Str → Option Value) (base : Heap) (k : Nat) (C : Addr) (sp : Sp) : Prop where
  ex : ∃ g, StX.CallO K C g ∧ FnR P w K mg base C8.CX0 k g sp
theorem c_gcall {C : Addr} {f : Addr} {fd : FuncData} (co : StX.CallO K C f) (D : Dm K "__call__" "Goal.__call__" (meth 42 5) f fd) (c1 : C8.Cal P w K mg base 3 "holds" (spGHolds C) []) : CallG P w K mg base 4 C (spGHolds C) := by
  have F : FnOk P w K mg base C8.CX0 4 f fd ["self", "kept"] (spGHolds C) := by
    refine fn_m D sc_gcall (fun vs H Q E h => ?_) (fun cdv A outer s H vs Q E hr h => ?_)
    · obtain ⟨x, L, T, l, rfl, _⟩ := h
      rfl
    · obtain ⟨x, L, T, l, rfl, hg, ok, hl, k⟩ := h
      refine ⟨_, pss_one (ps_ret (C8.pe_c c1 hr (by decide) (by rfl) (pa_cons (pv 0) (pa_cons (pv 1) pa_nil)))), ?_⟩
      exact ⟨_, rfl, _, rfl, x, L, T, l, rfl, hg, ok, hl, k⟩
  exact ⟨f, co, (F.raw (ds := []) (D.bindsN fun _ _ _ _ _ _ us hl => match us, hl with | [_, _], _ => rfl) .nil).imp fun vs H Q E h => by rw [List.append_nil]; exact h⟩
def spSameLamps (CT CG : Addr) : Sp := fun vs H Q _ => ∃ (x y : Addr) (L : Lit) (T : List Lit) (rs : Rows'), vs = [.ref x, .ref y] ∧ TellerAt CT H x L rs ∧ GoalAt CG H y L T ∧ Q .non H
theorem sc_same : FnScope ["one", "other"] ["one", "other"] (defScope (top 15)) := ⟨rfl, rfl, rfl, by decide +kernel, rfl, by decide +kernel, by decide +kernel⟩
theorem c_same {CT CG : Addr} {f : Addr} {fd : FuncData} (T1 : TCls K CT) (G : GCls K CG) (pt : PropL P w K mg base CT "lamps" "own_lamps") (pg : PropL P w K mg base CG "lamps" "own_lamps") (D : Df K mg "need_same_lamps" (top 15) f fd) : C8.Cal P w K mg base 3 "need_same_lamps" (spSameLamps CT CG) [] := by
  refine cal_of D (fun _ _ _ _ _ _ us hl => match us, hl with | [_, _], _ => rfl) sc_same (fun vs H Q E h => ?_) (fun cdv A outer s H vs Q E hr h => ?_)
  · obtain ⟨x, y, L, T, rs, rfl, _⟩ := h
    rfl
  · obtain ⟨x, y, L, T, rs, rfl, ⟨dx, S, W, hx, _⟩, ⟨dy, v, t, hy, _⟩, k⟩ := h
    refine ⟨_, pss_one (ps_if (pt_cmpR op_ne (pe_pr pt T1.cls hr (by decide) (pv 0)) (pe_pr pg G.cls hr (by decide) (pv 1)) (nomark _)) pss_never pss_nil), ?_⟩
    refine ⟨_, rfl, x, dx, _, rfl, hx, x, dx, _, _, rfl, hx, rfl, _, rfl, y, dy, _, rfl, hy, y, dy, _, _, rfl, hy, rfl, rfl, _, rfl, ?_⟩
    exact ite2 (fun h => by simp at h) fun _ => k
/-! Teller.__init__ -/
def spTInit (C : Addr) : Sp := fun vs H Q _ => ∃ (x dx : Addr) (L : Lit) (v : V) (rs : Rows'), vs = [.ref x, tx L, v] ∧ H x = some (.ins C dx []) ∧ RowsAt H v rs ∧ RowsOk L rs ∧ Ok L ∧ 1 ≤ L.length ∧ L.length ≤ 4 ∧
  ∀ H', But x H H' → TellerAt C H' x L rs → Q .non H'
theorem sc_tinit : FnScope ["self", "lamps", "steps", "room", "row"] ["self", "lamps", "steps"] (defScope (meth 32 0)) := ⟨rfl, rfl, rfl, by decide +kernel, rfl, by decide +kernel, by decide +kernel⟩
theorem c_tinit {C f : Addr} {fd : FuncData} (T : TCls K C) (M : Mk K C f) (hm : mg "Teller" = some (.ref C)) (D : Dm K "__init__" "Teller.__init__" (meth 32 0) f fd) (B : Bl mg) (Ct : Cs mg) (c1 : C8.Cal P w K mg base 3 "need_lamps" spNeedLamps []) (c2 : C8.Cal P w K mg base 4 "sets_of" spSetsOf []) (c3 : C8.Cal P w K mg base 3 "are_steps" spAreSteps []) : C8.Mak P w K mg base 5 "Teller" C (spTInit C) [] := by
  obtain ⟨t4, h40⟩ := Ct.rooms
  refine mak_of M hm D (fun _ _ _ _ _ _ us hl => match us, hl with | [_, _, _], _ => rfl) sc_tinit (fun vs H Q E h => ?_) (fun cdv A outer s H vs Q E hr h => ?_)
  · obtain ⟨x, dx, L, v, s, rfl, _⟩ := h
    rfl
  · obtain ⟨x, dx, L, v, rs, rfl, hx, hrs, ro, ok, l1, l4, k⟩ := h
    refine ⟨_, pss_cons (ps_expr (C8.pe_c c1 hr (by decide) (by rfl) (pa_cons (pv 1) pa_nil)))
      (pss_cons (ps_if (pt_cmpR op_eq (pe_callB call_len_seq (by rfl) B.len boot_len (pa_cons (pv 2) pa_nil)) pe_int (nomark _)) pss_never pss_nil)
      (pss_cons (ps_fld (pv 0) (C8.pe_c c2 hr (by decide) (by rfl) (pa_cons (pv 1) pa_nil)) rfl)
      (pss_cons (ps_for PassesOwn.never rfl (pi_enum (by rfl) B.enum (pa_cons (pv 2) pa_nil)) (pg_tup rfl (pgs_cons (pg_name (i := 3) sc_tinit.nd rfl (Or.inl rfl)) (pgs_cons (pg_name (i := 4) sc_tinit.nd rfl (Or.inl rfl)) pgs_nil)))
        (pss_one (ps_if (pw_or (pt_cmpR op_ge (pv 3) (pe_glob (v := .int 40) (by rfl) h40 ⟨_, rfl⟩) (nomark _)) (pw_or1 (pt_not (pt_val (C8.pe_c c3 hr (by decide) (by rfl) (pa_cons (pv 4)
          (pa_cons (pe_callB call_len_seq (by rfl) B.len boot_len (pa_cons (pe_fld (pv 0) rfl) pa_nil)) (pa_cons (pe_callB call_len_seq (by rfl) B.len boot_len (pa_cons (pv 2) pa_nil)) pa_nil)))))))).pt pss_never pss_nil)))
      (pss_cons (ps_fld (pv 0) (pv 1) rfl)
      (pss_one (ps_fld (pv 0) (pe_lc (own := [("row", 4)]) (g := gName 4) rfl sc_tinit.nd (pi_list (pv 2)) (blkOk_by (own := [("row", 4)]) (N := ["self", "lamps", "steps", "room", "row"]) (sc := defScope (meth 32 0)) (by decide +kernel))
          (fun _ _ _ _ _ => pg_name (i := 4) sc_tinit.nd rfl (Or.inl rfl)) (fun _ _ _ _ _ => pts_nil) (fun _ _ _ _ _ => pe_callTy (T := "list") (cr_list (K := K) rfl) (by rfl) B.list (by decide +kernel) (pa_cons (pv 4) pa_nil))) rfl)))))), ?_⟩
    obtain ⟨a, us, rfl, ha, hp⟩ := hrs
    have hul : us.length = rs.length := hp.length
    have hrl : 1 ≤ rs.length := List.length_pos_iff.mpr ro.ne
    refine ⟨_, rfl, L, rfl, ok, l1, l4, fun H1 s1 => ?_⟩
    refine ⟨_, rfl, _, _, rfl, .inl (SqL.of (s1 _ _ ha)), rfl, _, rfl, ite2 (fun h => ?_) fun _ => ?_⟩
    · have h := V.int.inj (of_decide_eq_true h)
      omega
    refine ⟨_, rfl, L, rfl, l4, fun H2 S s2 hS => ?_⟩
    have s3 : Same H (upd H2 S (.lst ((setsOf L).map tx))) := s1.trans (s2.trans (Same.one hS))
    have hS3 : (upd H2 S (.lst ((setsOf L).map tx))) S = some (.lst ((setsOf L).map tx)) := upd_same
    generalize upd H2 S (.lst ((setsOf L).map tx)) = H3 at s3 hS3 ⊢
    refine ⟨_, rfl, x, C, dx, [], rfl, s3 _ _ hx, T.cls, T.nT, by decide, ?_⟩
    have b4 : But x H (upd H3 x (.ins C dx [("own_sets", .ref S)])) := (But.of s3).trans But.put
    have st4 : Stay H (upd H3 x (.ins C dx [("own_sets", .ref S)])) := (Stay.of s3).trans (Stay.put (s3 _ _ hx))
    have hx4 : (upd H3 x (.ins C dx [("own_sets", .ref S)])) x = some (.ins C dx [("own_sets", .ref S)]) := upd_same
    have hS4 : (upd H3 x (.ins C dx [("own_sets", .ref S)])) S = some (.lst ((setsOf L).map tx)) := (Stay.put (s3 _ _ hx)).2 _ _ hS3
    have e4 : upd H3 x (.ins C dx (putF "own_sets" (.ref S) [])) = upd H3 x (.ins C dx [("own_sets", .ref S)]) := rfl
    rw [e4]
    generalize upd H3 x (.ins C dx [("own_sets", .ref S)]) = H4 at b4 st4 hx4 hS4 ⊢
    have ha4 : H4 a = some (.lst us) := st4.2 _ _ ha
    have hp4 : Paired (RowAt H4) us rs := L2.Paired.mapP hp fun _ _ q => q.stay st4
    refine ⟨_, rfl, a, us, rfl, SqL.of ha4, ?_⟩
    refine for_it walk_enum (fun i σ H' => Same H4 H' ∧ ∃ y z, σ = [some (.ref x), some (tx L), some (.ref a), y, z]) ⟨Same.refl _, none, none, rfl⟩ (fun i σ H' _ p => SqL.of (p.1 _ _ ha4)) (fun i v σ H1' H2' hi p y => ?_) fun σ H5 p => ?_
    · obtain ⟨sm, y3, z3, rfl⟩ := p
      obtain ⟨t, n1, u, rfl, htn, rfl, e1, hu⟩ := y
      cases e1
      refine ⟨t, _, rfl, SqT.of upd_same, rfl, _, _, rfl, _, _, rfl, rfl, ?_⟩
      have sm2 : Same H4 (upd H1' t (.tup [.int (i : Nat), u])) := sm.trans (Same.one htn)
      generalize upd H1' t (.tup [.int (i : Nat), u]) = H6 at sm2 ⊢
      refine ⟨_, rfl, _, _, rfl, rfl, _, rfl, ite2 (fun h => ?_) fun _ => ?_⟩
      · have h : ((40 : Int) ≤ (i : Int)) := of_decide_eq_true h
        have := ro.few
        omega
      obtain ⟨row, hrow, hra⟩ := paired_get hp4 hu
      have hrm := List.mem_of_getElem? hrow
      refine ⟨_, rfl, _, rfl, x, C, dx, _, _, rfl, sm2 _ _ hx4, T.cls, T.nT, rfl, _, _, rfl, .inl (SqL.of (sm2 _ _ hS4)), _, rfl, _, _, rfl, .inl (SqL.of (sm2 _ _ ha4)), ?_⟩
      have el : (((setsOf L).map tx).length : Int) = (row.length : Int) := by rw [List.length_map, ro.len row hrm]
      rw [el]
      refine ⟨u, _, row, rfl, hra.same sm2, fun p hp => ?_, ?_, fun H7 s7 => ⟨_, rfl, iteF ⟨sm2.trans s7, _, _, rfl⟩⟩⟩
      · rw [hul]
        exact ro.ok row hrm p hp
      · rw [ro.len row hrm]
        have := sets16 l4
        omega
    · obtain ⟨sm, y3, z3, rfl⟩ := p
      refine ⟨_, rfl, _, rfl, x, C, dx, _, rfl, sm _ _ hx4, T.cls, T.nL, (by show 1 < 1000; decide), ?_⟩
      have e5 : upd H5 x (.ins C dx (putF "own_lamps" (tx L) [("own_sets", .ref S)])) = upd H5 x (.ins C dx [("own_sets", .ref S), ("own_lamps", tx L)]) := rfl
      rw [e5]
      have b5 : But x H (upd H5 x (.ins C dx [("own_sets", .ref S), ("own_lamps", tx L)])) := (b4.trans (But.of sm)).trans But.put
      have st5 : Stay H4 (upd H5 x (.ins C dx [("own_sets", .ref S), ("own_lamps", tx L)])) := (Stay.of sm).trans (Stay.put (sm _ _ hx4))
      have hx5 : (upd H5 x (.ins C dx [("own_sets", .ref S), ("own_lamps", tx L)])) x = some (.ins C dx [("own_sets", .ref S), ("own_lamps", tx L)]) := upd_same
      generalize upd H5 x (.ins C dx [("own_sets", .ref S), ("own_lamps", tx L)]) = H6 at b5 st5 hx5 ⊢
      have ha6 := st5.2 _ _ ha4
      have hp6 : Paired (RowAt H6) us rs := L2.Paired.mapP hp4 fun _ _ q => q.stay st5
      refine ⟨_, rfl, a, rfl, ⟨_, SqL.of ha6⟩, fun D hD => ?_⟩
      refine lc_it walk_list (fun i H' => Same H6 H' ∧ ∃ vs, H' D = some (.lst vs) ∧ Paired (fun v r => RowAt H' v r ∧ v ≠ .ref D) vs (rs.take i)) ⟨Same.one hD, [], upd_same, .nil⟩ (fun i H' _ p => SqL.of (p.1 _ _ ha6)) (fun i y H7 H8 hi p yy => ?_) fun H7 p => ?_
      · obtain ⟨rfl, hy⟩ := yy
        obtain ⟨s8, vs, hDv, hpv⟩ := p
        refine ⟨rfl, yes ?_⟩
        obtain ⟨row, hrow, b, qs, rfl, hb, hq⟩ := paired_get hp6 hy
        refine ⟨_, rfl, b, qs, rfl, .inl (SqL.of (s8 _ _ hb)), fun l hl => ?_⟩
        have s9 : Same H8 (upd H8 l (.lst qs)) := Same.one hl
        have hvl : vs.length = (rs.take i).length := hpv.length
        have hDl : l ≠ D := fun e => by
          rw [e, hDv] at hl
          cases hl
        refine ⟨vs, s9 _ _ hDv, ?_, ?_⟩
        · rw [hvl]
          have := List.length_take_le' i rs
          have := ro.few
          exact small' (by omega)
        · have s10 : Same H6 (upd (upd H8 l (.lst qs)) D (.lst (vs ++ [.ref l]))) := Same.put (s8.trans s9) hD
          refine ⟨s10, _, upd_same, ?_⟩
          have ets : rs.take (i + 1) = rs.take i ++ [row] := by
            obtain ⟨q, e⟩ := List.getElem?_eq_some_iff.mp hrow
            rw [List.take_succ_eq_append_getElem q, e]
          rw [ets]
          refine Paired.snoc (L2.Paired.mapP hpv fun v r h => ⟨RowAt.put (s9 _ _ hDv) (h.1.same s9) h.2, h.2⟩) ⟨?_, fun e => hDl (V.ref.inj e)⟩
          exact RowAt.put (s9 _ _ hDv) ⟨l, qs, rfl, upd_same, L2.Paired.mapP hq fun _ _ h => (h.same s8).same s9⟩ fun e => hDl (V.ref.inj e)
      · obtain ⟨s8, vs, hDv, hpv⟩ := p
        rw [hul, List.take_length] at hpv
        refine ⟨_, rfl, x, C, dx, _, rfl, s8 _ _ hx5, T.cls, T.nS, (by show 2 < 1000; decide), ?_⟩
        have e7 : upd H7 x (.ins C dx (putF "own_steps" (.ref D) [("own_sets", .ref S), ("own_lamps", tx L)])) = upd H7 x (.ins C dx [("own_sets", .ref S), ("own_lamps", tx L), ("own_steps", .ref D)]) := rfl
        rw [e7]
        have st7 : Stay H7 (upd H7 x (.ins C dx [("own_sets", .ref S), ("own_lamps", tx L), ("own_steps", .ref D)])) := Stay.put (s8 _ _ hx5)
        exact k _ ((b5.trans (But.of s8)).trans But.put) ⟨dx, S, D, upd_same, st7.2 _ _ (s8 _ _ (st5.2 _ _ hS4)), D, vs, rfl, st7.2 _ _ hDv, L2.Paired.mapP hpv fun _ _ h => h.1.stay st7⟩
end
end Rg

end
section
set_option Elab.async false
set_option linter.all false
set_option maxRecDepth 100000
set_option maxHeartbeats 4000000
namespace Rg
open PySem PySem.Spec PyProof.Rows L2
/-! a teller's steps as functions of room and set -/
def stp (L : Lit) (rs : Rows') (r : Int) (D : Lit) : Int × Int := (rs.getD r.toNat []).getD ((setsOf L).idxOf D) (0, 0)
def nxT (L : Lit) (rs : Rows') (r : Int) (D : Lit) : Int := (stp L rs r D).2
def nuT (L : Lit) (rs : Rows') (r : Int) (D : Lit) : Int := (stp L rs r D).1
/-- the edges of the rooms below i, and of room i those of the sets below j -/
def InE (L : Lit) (rs : Rows') (i j : Nat) (e : Ed) : Prop := ∃ (i' j' : Nat) (row : List (Int × Int)) (d : Lit) (p : Int × Int), (i' < i ∨ i' = i ∧ j' < j) ∧ rs[i']? = some row ∧ (setsOf L)[j']? = some d ∧ row[j']? = some p ∧ e = ⟨(i' : Int), p.2, p.1, d⟩
theorem InE.none {L : Lit} {rs : Rows'} {e : Ed} : ¬ InE L rs 0 0 e := by
  rintro ⟨i', j', row, d, p, h, _⟩
  omega
theorem InE.next {L : Lit} {rs : Rows'} {i j : Nat} {row : List (Int × Int)} {d : Lit} {p : Int × Int} (h1 : rs[i]? = some row) (h2 : (setsOf L)[j]? = some d) (h3 : row[j]? = some p) {e : Ed} : InE L rs i (j + 1) e ↔ InE L rs i j e ∨ e = ⟨(i : Int), p.2, p.1, d⟩ := by
  constructor
  · rintro ⟨i', j', row', d', p', h, k1, k2, k3, rfl⟩
    by_cases q : i' = i ∧ j' = j
    · obtain ⟨rfl, rfl⟩ := q
      rw [h1] at k1
      cases k1
      rw [h2] at k2
      cases k2
      rw [h3] at k3
      cases k3
      exact .inr rfl
    · exact .inl ⟨i', j', row', d', p', by omega, k1, k2, k3, rfl⟩
  · rintro (⟨i', j', row', d', p', h, k1, k2, k3, rfl⟩ | rfl)
    · exact ⟨i', j', row', d', p', by omega, k1, k2, k3, rfl⟩
    · exact ⟨i, j, row, d, p, .inr ⟨rfl, Nat.lt_succ_self _⟩, h1, h2, h3, rfl⟩
theorem InE.row {L : Lit} {rs : Rows'} {i : Nat} {row : List (Int × Int)} (h1 : rs[i]? = some row) {n : Nat} (hn : n = row.length) {e : Ed} : InE L rs i n e ↔ InE L rs (i + 1) 0 e := by
  constructor
  · rintro ⟨i', j', row', d', p', h, k⟩
    exact ⟨i', j', row', d', p', by omega, k⟩
  · rintro ⟨i', j', row', d', p', h, k1, k2, k3, rfl⟩
    refine ⟨i', j', row', d', p', ?_, k1, k2, k3, rfl⟩
    by_cases q : i' = i
    · subst q
      rw [h1] at k1
      cases k1
      obtain ⟨z, _⟩ := List.getElem?_eq_some_iff.mp k3
      omega
    · omega
theorem sets_idx {L : Lit} (nd : L.Nodup) {j : Nat} {d : Lit} (h : (setsOf L)[j]? = some d) : (setsOf L).idxOf d = j := by
  obtain ⟨q, e⟩ := List.getElem?_eq_some_iff.mp h
  rw [← e]
  exact (setsOf_nodup nd).idxOf_getElem j q
theorem stp_at {L : Lit} (nd : L.Nodup) {rs : Rows'} {i j : Nat} {row : List (Int × Int)} {d : Lit} {p : Int × Int} (h1 : rs[i]? = some row) (h2 : (setsOf L)[j]? = some d) (h3 : row[j]? = some p) : stp L rs (i : Int) d = p := by
  unfold stp
  rw [sets_idx nd h2]
  show (rs.getD i []).getD j (0, 0) = p
  have e1 : rs.getD i [] = row := by
    rw [List.getD_eq_getElem?_getD, h1]
    rfl
  rw [e1, List.getD_eq_getElem?_getD, h3]
  rfl
/-- the place of a set -/
theorem stp_ex {L : Lit} {rs : Rows'} (ro : RowsOk L rs) {r : Int} (h0 : 0 ≤ r) (hr : r < rs.length) {D : Lit} (hD : D.Sublist L) (nd : L.Nodup) : ∃ (i j : Nat) (row : List (Int × Int)) (p : Int × Int), r = (i : Int) ∧ rs[i]? = some row ∧ (setsOf L)[j]? = some D ∧ row[j]? = some p ∧ stp L rs r D = p := by
  obtain ⟨i, rfl⟩ := Int.eq_ofNat_of_zero_le h0
  have hi : i < rs.length := by omega
  obtain ⟨j, hj⟩ := List.getElem?_of_mem (mem_setsOf.mpr hD)
  have h1 : rs[i]? = some rs[i] := List.getElem?_eq_getElem hi
  have hl := ro.len rs[i] (List.mem_of_getElem? h1)
  have hjl : j < rs[i].length := by
    rw [hl]
    exact (List.getElem?_eq_some_iff.mp hj).1
  have h3 : rs[i][j]? = some rs[i][j] := List.getElem?_eq_getElem hjl
  exact ⟨i, j, rs[i], rs[i][j], rfl, h1, hj, h3, stp_at nd h1 hj h3⟩
theorem stp_ok {L : Lit} {rs : Rows'} (ro : RowsOk L rs) {r : Int} (h0 : 0 ≤ r) (hr : r < rs.length) {D : Lit} (hD : D.Sublist L) (nd : L.Nodup) : StepOk rs.length (stp L rs r D) := by
  obtain ⟨i, j, row, p, rfl, h1, h2, h3, e⟩ := stp_ex ro h0 hr hD nd
  rw [e]
  exact ro.ok row (List.mem_of_getElem? h1) p (List.mem_of_getElem? h3)
theorem inE_iff {L : Lit} {rs : Rows'} (ro : RowsOk L rs) (nd : L.Nodup) {e : Ed} : InE L rs rs.length 0 e ↔ (0 ≤ e.o ∧ e.o < rs.length ∧ e.d.Sublist L ∧ e.g = nxT L rs e.o e.d ∧ e.n = nuT L rs e.o e.d) := by
  constructor
  · rintro ⟨i', j', row', d', p', h, k1, k2, k3, rfl⟩
    have e := stp_at nd k1 k2 k3
    refine ⟨Int.natCast_nonneg _, ?_, mem_setsOf.mp (List.mem_of_getElem? k2), ?_, ?_⟩
    · show (i' : Int) < _
      omega
    · show p'.2 = (stp L rs (i' : Int) d').2
      rw [e]
    · show p'.1 = (stp L rs (i' : Int) d').1
      rw [e]
  · rintro ⟨h0, hr, hd, hg, hn⟩
    obtain ⟨i, j, row, p, e1, h1, h2, h3, es⟩ := stp_ex ro h0 hr hd nd
    refine ⟨i, j, row, e.d, p, .inl ?_, h1, h2, h3, ?_⟩
    · omega
    · obtain ⟨o, g, n, d⟩ := e
      have hg : g = (stp L rs o d).2 := hg
      have hn : n = (stp L rs o d).1 := hn
      have e1 : o = (i : Int) := e1
      have es : stp L rs o d = p := es
      rw [es] at hg hn
      rw [hg, hn, e1]
/-- the rooms that rows of sets reach from room 0 -/
def Rm (L : Lit) (rs : Rows') (r : Int) : Prop := ∃ ds : List Lit, (∀ d ∈ ds, d.Sublist L) ∧ run (nxT L rs) 0 ds = r
theorem Rm.zero {L : Lit} {rs : Rows'} : Rm L rs 0 := ⟨[], fun _ h => (nomatch h), rfl⟩
theorem Rm.next {L : Lit} {rs : Rows'} {r : Int} (h : Rm L rs r) {D : Lit} (hD : D.Sublist L) : Rm L rs (nxT L rs r D) := by
  obtain ⟨ds, h1, h2⟩ := h
  refine ⟨ds ++ [D], fun d hd => ?_, ?_⟩
  · rcases List.mem_append.mp hd with hd | hd
    · exact h1 d hd
    · rw [List.mem_singleton.mp hd]
      exact hD
  · rw [run_append, h2]
    rfl
theorem run_in {L : Lit} {rs : Rows'} (ro : RowsOk L rs) (nd : L.Nodup) : ∀ (ds : List Lit) (r : Int), 0 ≤ r → r < rs.length → (∀ d ∈ ds, d.Sublist L) → 0 ≤ run (nxT L rs) r ds ∧ run (nxT L rs) r ds < rs.length
  | [], r, h0, h1, _ => ⟨h0, h1⟩
  | d :: ds, r, h0, h1, hd => by
    have ok := stp_ok ro h0 h1 (hd d List.mem_cons_self) nd
    exact run_in ro nd ds _ ok.2.2.1 ok.2.2.2 fun d h => hd d (List.mem_cons_of_mem _ h)
theorem Rm.bound {L : Lit} {rs : Rows'} (ro : RowsOk L rs) (nd : L.Nodup) {r : Int} (h : Rm L rs r) : 0 ≤ r ∧ r < rs.length := by
  obtain ⟨ds, h1, rfl⟩ := h
  have := List.length_pos_iff.mpr ro.ne
  exact run_in ro nd ds 0 (Int.le_refl 0) (by omega) h1
/-- the rooms reached are those that the edges reach -/
theorem rm_iff {L : Lit} {rs : Rows'} (ro : RowsOk L rs) (nd : L.Nodup) {fs : List Z2} (hf : ∀ o g : Int, (∃ z ∈ fs, z.2 = (o, g)) ↔ ∃ e : Ed, InE L rs rs.length 0 e ∧ e.o = o ∧ e.g = g) {r : Int} : Rt o2 g2 fs 0 r ↔ Rm L rs r := by
  constructor
  · refine fun h => Rt.closed (P := fun r => Rm L rs r) (fun z hz p => ?_) Rm.zero h
    obtain ⟨e, he, eo, eg⟩ := (hf z.2.1 z.2.2).mp ⟨z, hz, rfl⟩
    obtain ⟨_, _, hd, hg, _⟩ := (inE_iff ro nd).mp he
    show Rm L rs z.2.2
    have p : Rm L rs z.2.1 := p
    rw [← eg, hg]
    rw [← eo] at p
    exact p.next hd
  · rintro ⟨ds, hd, rfl⟩
    have go : ∀ (ds : List Lit) (r : Int), 0 ≤ r → r < rs.length → (∀ d ∈ ds, d.Sublist L) → Rt o2 g2 fs r (run (nxT L rs) r ds) := by
      intro ds
      induction ds with
      | nil => intro r _ _ _; exact Rt.refl r
      | cons d ds ih =>
        intro r h0 h1 hd
        have ok := stp_ok ro h0 h1 (hd d List.mem_cons_self) nd
        have he : InE L rs rs.length 0 ⟨r, nxT L rs r d, nuT L rs r d, d⟩ := (inE_iff ro nd).mpr ⟨h0, h1, hd d List.mem_cons_self, rfl, rfl⟩
        obtain ⟨z, hz, ez⟩ := (hf r (nxT L rs r d)).mpr ⟨_, he, rfl, rfl⟩
        have r1 : Rt o2 g2 fs r (nxT L rs r d) := by
          have := Rt.edge (o := o2) (g := g2) hz
          have e1 : o2 z = r := congrArg Prod.fst ez
          have e2 : g2 z = nxT L rs r d := by
            show z.2.2 = _
            rw [ez]
          rw [e1, e2] at this
          exact this
        exact r1.trans (ih _ ok.2.2.1 ok.2.2.2 fun d h => hd d (List.mem_cons_of_mem _ h))
    have := List.length_pos_iff.mpr ro.ne
    exact go ds 0 (Int.le_refl 0) (by omega) hd
/-- a set's union, by the alphabet or by the lamps -/
theorem un_abc {L : Lit} (ok : Ok L) {ds : List Lit} (h : ∀ d ∈ ds, d.Sublist L) : un abc ds = un L ds := by
  refine ris_ext (un_ris abc_ris) (un_ris ok.ris) fun c => ?_
  rw [mem_un, mem_un]
  constructor
  · rintro ⟨_, d, hd, hc⟩
    exact ⟨sub_mem (h d hd) c hc, d, hd, hc⟩
  · rintro ⟨hL, d, hd, hc⟩
    exact ⟨ok.abc c hL, d, hd, hc⟩
end Rg

end
section
set_option Elab.async false
set_option linter.all false
set_option maxRecDepth 100000
set_option maxHeartbeats 4000000
namespace Rg
open PySem PySem.Spec PyProof.Rows L2
section
variable {P : Program} {w : World} {K : PySem.W.Frag} {mg : Str → Option Value} {base : Heap}
/-! Teller.edges -/
def spEdges (C : Addr) : Sp := fun vs H Q _ => ∃ (x : Addr) (L : Lit) (rs : Rows'), vs = [.ref x] ∧ TellerAt C H x L rs ∧ RowsOk L rs ∧ Ok L ∧ L.length ≤ 4 ∧
  ∀ (p : Addr) (H' : Hp) (zs : List Z), Same H H' → Es H' (.ref p) zs → zs.length ≤ 1000 → (∀ e : Ed, (∃ z ∈ zs, z.2 = e) ↔ InE L rs rs.length 0 e ∧ Rm L rs e.o) → Q (.ref p) H'
theorem sc_edges : FnScope ["self", "found", "room", "row", "lit", "number", "goal", "known", "edge"] ["self"] (defScope (meth 32 7)) := ⟨rfl, rfl, rfl, by decide +kernel, rfl, by decide +kernel, by decide +kernel⟩
theorem c_edges {C f : Addr} {fd : FuncData} (T : TCls K C) (M : Meth K C "edges" f) (D : Dm K "edges" "Teller.edges" (meth 32 7) f fd) (B : Bl mg) (c1 : C8.Cal P w K mg base 2 "reached" spReached []) : C8.Met P w K mg base 3 C "edges" (spEdges C) [] := by
  refine met_of T.cls M D (fun _ _ _ _ _ _ us hl => match us, hl with | [_], _ => rfl) sc_edges (fun vs H Q E h => ?_) (fun cdv A outer s H vs Q E hr h => ?_)
  · obtain ⟨x, L, rs, rfl, _⟩ := h
    rfl
  · obtain ⟨x, L, rs, rfl, ⟨dx, S, W, hx, hS, a, us, eW, ha, hp⟩, ro, ok, l4, k⟩ := h
    cases eW
    have hu := hu_of hr
    have nd := ris_nodup ok.ris
    refine ⟨_, pss_cons (ps_set (i := 1) sc_edges.nd rfl (Or.inl rfl) (pe_lst pa_nil))
      (pss_cons (ps_for PassesOwn.never rfl (pi_enum (by rfl) B.enum (pa_cons (pe_fld (pv 0) rfl) pa_nil)) (pg_tup rfl (pgs_cons (pg_name (i := 2) sc_edges.nd rfl (Or.inl rfl)) (pgs_cons (pg_name (i := 3) sc_edges.nd rfl (Or.inl rfl)) pgs_nil)))
        (pss_one (ps_for PassesOwn.never rfl (pi_zip (by rfl) B.zip (pa_cons (pe_fld (pv 0) rfl) (pa_cons (pv 3) pa_nil))) (pg_tup rfl (pgs_cons (pg_name (i := 4) sc_edges.nd rfl (Or.inl rfl)) (pgs_cons (pg_tup rfl (pgs_cons (pg_name (i := 5) sc_edges.nd rfl (Or.inl rfl)) (pgs_cons (pg_name (i := 6) sc_edges.nd rfl (Or.inl rfl)) pgs_nil))) pgs_nil)))
          (pss_one (ps_expr (pe_bm PySem.F.plainAttrs_list PySem.F.slot_list_append PySem.F.type_list_append mt_append (pv 1) (pa_cons (pe_tup (pa_cons (pv 2) (pa_cons (pv 6) (pa_cons (pe_tup (pa_cons (pv 5) (pa_cons (pv 4) pa_nil))) pa_nil)))) pa_nil)))))))
      (pss_cons (ps_set (i := 7) sc_edges.nd rfl (Or.inr rfl) (C8.pe_c c1 hr (by decide) (by rfl) (pa_cons (pv 1) (pa_cons pe_int pa_nil))))
      (pss_one (ps_ret (pe_lc (own := [("edge", 8)]) (g := gName 8) rfl sc_edges.nd (pi_list (pv 1)) (blkOk_by (own := [("edge", 8)]) (N := ["self", "found", "room", "row", "lit", "number", "goal", "known", "edge"]) (sc := defScope (meth 32 7)) (by decide +kernel))
          (fun _ _ _ _ _ => pg_name (i := 8) sc_edges.nd rfl (Or.inl rfl)) (fun _ _ _ _ _ => pts_one (pt_cmp (pc_din hu (pe_ix (ixT K) (pv 8) pe_int (fun _ _ => rfl)) (pv 7)))) (fun _ _ _ _ _ => pv 8)))))), ?_⟩
    have hul : us.length = rs.length := hp.length
    have hsl := sets16 l4
    have h40 := ro.few
    refine ⟨by decide, fun F hF => ?_⟩
    refine ⟨_, rfl, x, C, dx, _, _, rfl, (Same.one hF) _ _ hx, T.cls, T.nS, rfl, W, us, rfl, SqL.of ((Same.one hF) _ _ ha), ?_⟩
    refine for_it walk_enum (fun i σ H' => ∃ (fs : List Z) (c2 c3 c4 c5 c6 : Option V), σ = [some (.ref x), some (.ref F), c2, c3, c4, c5, c6, none, none] ∧ Same H H' ∧ H' F = some (.lst (fs.map (·.1))) ∧ (∀ z ∈ fs, EdAt H' z.1 z.2) ∧ fs.length = i * (setsOf L).length ∧ ∀ e : Ed, (∃ z ∈ fs, z.2 = e) ↔ InE L rs i 0 e)
      ⟨[], none, none, none, none, none, rfl, Same.one hF, upd_same, (fun z hz => nomatch hz), by simp, fun e => ⟨fun ⟨z, hz, _⟩ => (nomatch hz), fun h => (InE.none h).elim⟩⟩ (fun i σ H' _ p => (let ⟨_, _, _, _, _, _, _, sm, _⟩ := p; SqL.of (sm _ _ ha))) (fun i v σ H1 H2 hi p y => ?_) fun σ H1 p => ?_
    · obtain ⟨fs, c2, c3, c4, c5, c6, rfl, sm, hFl, hE, hlen, hm⟩ := p
      obtain ⟨t, n1, u, rfl, htn, rfl, e1, hui⟩ := y
      cases e1
      refine ⟨t, _, rfl, SqT.of upd_same, rfl, _, _, rfl, _, _, rfl, rfl, ?_⟩
      have s1 : Same H1 (upd H1 t (.tup [.int (i : Nat), u])) := Same.one htn
      generalize upd H1 t (.tup [.int (i : Nat), u]) = H2 at s1 ⊢
      have sm2 := sm.trans s1
      obtain ⟨row, hrow, hra⟩ := paired_get hp hui
      have hrm := List.mem_of_getElem? hrow
      have hrl := ro.len row hrm
      obtain ⟨b, qs, rfl, hb, hq⟩ := hra
      have hql : qs.length = row.length := hq.length
      refine ⟨_, rfl, x, C, dx, _, _, rfl, sm2 _ _ hx, T.cls, T.nT, rfl, _, rfl, S, b, _, _, rfl, SqL.of (sm2 _ _ hS), SqL.of (sm2 _ _ hb), ?_⟩
      refine for_it (walk_zip (n := (setsOf L).length) (by rw [List.length_map, hql, hrl]; omega)) (fun j σ H' => ∃ (fs : List Z) (c4 c5 c6 : Option V), σ = [some (.ref x), some (.ref F), some (.int (i : Nat)), some (.ref b), c4, c5, c6, none, none] ∧ Same H H' ∧ H' F = some (.lst (fs.map (·.1))) ∧ (∀ z ∈ fs, EdAt H' z.1 z.2) ∧ fs.length = i * (setsOf L).length + j ∧ ∀ e : Ed, (∃ z ∈ fs, z.2 = e) ↔ InE L rs i j e)
        ⟨fs, _, _, _, rfl, sm2, s1 _ _ hFl, (fun z hz => (hE z hz).same s1), hlen, hm⟩ (fun j σ H' _ p => (let ⟨_, _, _, _, _, sm, _⟩ := p; ⟨SqL.of (sm _ _ hS), SqL.of (sm _ _ hb)⟩)) (fun j v σ H3 H4 hj p y => ?_) fun σ H3 p => ?_
      · obtain ⟨fs, c4, c5, c6, rfl, sm3, hFl, hE, hlen, hm⟩ := p
        obtain ⟨t, d', u, rfl, htn, rfl, hd, hu'⟩ := y
        obtain ⟨d, hdj, rfl⟩ := map_at hd
        obtain ⟨q, hqj, tq, rfl, htq⟩ := paired_get hq hu'
        refine ⟨t, _, rfl, SqT.of upd_same, rfl, _, _, rfl, _, _, rfl, ?_⟩
        have s4 : Same H3 (upd H3 t (.tup [tx d, .ref tq])) := Same.one htn
        generalize upd H3 t (.tup [tx d, .ref tq]) = H4 at s4 ⊢
        refine ⟨tq, _, rfl, SqT.of ((sm3.trans s4) _ _ htq), rfl, _, _, rfl, _, _, rfl, rfl, rfl, ?_⟩
        refine ⟨_, rfl, .inl ⟨rfl, _, SqL.of (s4 _ _ hFl)⟩, ?_⟩
        refine ⟨_, rfl, _, rfl, _, rfl, _, rfl, by show 2 ≤ sizeLine; decide, fun m hmn => ?_⟩
        have s5 : Same H4 (upd H4 m (.tup [.int q.1, tx d])) := Same.one hmn
        have hm5 : (upd H4 m (.tup [.int q.1, tx d])) m = some (.tup [.int q.1, tx d]) := upd_same
        generalize upd H4 m (.tup [.int q.1, tx d]) = H5 at s5 hm5 ⊢
        refine ⟨by show 3 ≤ sizeLine; decide, fun T6 hT6 => ?_⟩
        have s6 : Same H5 (upd H5 T6 (.tup [.int (i : Nat), .int q.2, .ref m])) := Same.one hT6
        have hT7 : (upd H5 T6 (.tup [.int (i : Nat), .int q.2, .ref m])) T6 = some (.tup [.int (i : Nat), .int q.2, .ref m]) := upd_same
        generalize upd H5 T6 (.tup [.int (i : Nat), .int q.2, .ref m]) = H6 at s6 hT7 ⊢
        have s46 : Same H3 H6 := s4.trans (s5.trans s6)
        have hF6 := s46 _ _ hFl
        have hFb : (i + 1) * (setsOf L).length ≤ 640 := by
          have h1 : i + 1 ≤ 40 := by omega
          exact Nat.le_trans (Nat.mul_le_mul h1 hsl) (by decide)
        have hFb2 : i * (setsOf L).length + (setsOf L).length = (i + 1) * (setsOf L).length := by rw [Nat.succ_mul]
        refine ⟨F, _, _, rfl, rfl, hF6, small' (by rw [List.length_map]; omega), ?_⟩
        have edN : ∀ {e : Ed} {v : V}, EdAt H6 v e → EdAt (upd H6 F (.lst (fs.map (·.1) ++ [.ref T6]))) v e := fun {e v} h => by
          obtain ⟨t1, m1, r1, h1, mk1, r2, h2, lo⟩ := h
          have tup : TupS H6 (upd H6 F (.lst (fs.map (·.1) ++ [.ref T6]))) := TupS.lst hF6
          exact ⟨t1, m1, r1, tup _ _ h1, mk1, r2, tup _ _ h2, lo⟩
        have hdL := mem_setsOf.mp (List.mem_of_getElem? hdj)
        refine ⟨fs ++ [(.ref T6, ⟨(i : Int), q.2, q.1, d⟩)], _, _, _, rfl, Same.put (sm3.trans s46) hF, ?_, fun z hz => ?_, ?_, fun e => ?_⟩
        · rw [upd_same, List.map_append]
          rfl
        · rcases List.mem_append.mp hz with h | h
          · exact edN ((hE z h).same s46)
          · rw [List.mem_singleton.mp h]
            exact edN ⟨T6, .ref m, rfl, hT7, m, rfl, s6 _ _ hm5, fun c hc => abc_lo c (ok.abc c (hdL.subset hc))⟩
        · rw [List.length_append, hlen]
          rfl
        · rw [InE.next hrow hdj hqj, ← hm e]
          constructor
          · rintro ⟨z, hz, rfl⟩
            rcases List.mem_append.mp hz with h | h
            · exact .inl ⟨z, h, rfl⟩
            · rw [List.mem_singleton.mp h]
              exact .inr rfl
          · rintro (⟨z, hz, rfl⟩ | rfl)
            · exact ⟨z, List.mem_append_left _ hz, rfl⟩
            · exact ⟨_, List.mem_append_right _ (List.mem_singleton.mpr rfl), rfl⟩
      · obtain ⟨fs, c4, c5, c6, rfl, sm3, hFl, hE, hlen, hm⟩ := p
        refine ⟨fs, _, _, _, _, _, rfl, sm3, hFl, hE, by rw [hlen, Nat.succ_mul], fun e => ?_⟩
        rw [hm e]
        exact InE.row hrow (by omega)
    · obtain ⟨fs, c2, c3, c4, c5, c6, rfl, sm, hFl, hE, hlen, hm⟩ := p
      rw [hul] at hm hlen
      have hlen' : fs.length ≤ 640 := by
        rw [hlen]
        exact Nat.le_trans (Nat.mul_le_mul h40 hsl) (by decide)
      have es : Es H1 (.ref F) fs := ⟨F, rfl, hFl, hE⟩
      refine ⟨_, rfl, .ref F, fs.map z2, 0, rfl, es.e2, by rw [List.length_map]; omega, fun G H2 kvs ns s2 hGn hG hk _ _ hn => ?_⟩
      have hr' : ∀ r : Int, (valV kvs (.inl r)).isSome = true ↔ Rm L rs r := fun r => by
        rw [← mem_keys]
        unfold keysOf
        rw [hk, List.mem_map]
        rw [← rm_iff ro nd (fs := fs.map z2) (fun o g => ⟨fun ⟨z, hz, e⟩ => (let ⟨y, hy, q⟩ := List.mem_map.mp hz; ⟨y.2, (hm y.2).mp ⟨y, hy, rfl⟩, by rw [← q] at e; exact congrArg Prod.fst e, by rw [← q] at e; exact congrArg Prod.snd e⟩),
          fun ⟨e, he, eo, eg⟩ => (let ⟨z, hz, q⟩ := (hm e).mpr he; ⟨z2 z, List.mem_map.mpr ⟨z, hz, rfl⟩, by show (z.2.o, z.2.g) = _; rw [q, eo, eg]⟩)⟩), ← hn]
        exact ⟨fun ⟨n, h1, h2⟩ => by rw [← Sum.inl.inj h2]; exact h1, fun h => ⟨r, h, rfl⟩⟩
      refine ⟨_, rfl, F, rfl, ⟨_, SqL.of (s2 _ _ hFl)⟩, fun D hD => ?_⟩
      refine lc_val same_ok walk_list (fun j => ((fs.take j).filter fun y => (valV kvs (.inl y.2.o)).isSome).map (·.1)) hD rfl (fun j hj => ?_) (fun H' r => SqL.of ((s2.trans r) _ _ hFl)) (fun N j y H3 H4 hj r yy keep skip => ?_) fun H3 r hDl => ?_
      · rw [List.length_map] at hj
        exact Nat.lt_of_le_of_lt (fm_take_len _ _ _ _) (small' (by omega))
      · obtain ⟨rfl, hy⟩ := yy
        obtain ⟨z, hz, rfl⟩ := map_at hy
        obtain ⟨tz, mz, ez, htz, _⟩ := ((hE z (List.mem_of_getElem? hz)).same (s2.trans r))
        rw [ez]
        refine ⟨rfl, ?_⟩
        refine ⟨_, rfl, _, _, _, _, rfl, rfl, SqT.of htz, atI_nat (j := 0) rfl, _, rfl, G, _, rfl, DGet.k (k := Sum.inl z.2.o) (r _ _ hG), _, rfl, ?_⟩
        refine ite2 (fun h1 => ?_) (fun h1 => ?_)
        · refine ⟨_, rfl, keep _ _ (Same.refl _) ?_⟩
          rw [← ez]
          exact fm_take_yes hz h1
        · exact skip _ (Same.refl _) (fm_take_no hz (by simpa using h1))
      · rw [List.length_map, List.take_length] at hDl
        refine k D _ (fs.filter fun y => (valV kvs (.inl y.2.o)).isSome) (sm.trans (s2.trans r)) ⟨D, rfl, hDl, fun z hz => (hE z (List.mem_filter.mp hz).1).same (s2.trans r)⟩ (Nat.le_trans (List.length_filter_le _ _) (by omega)) fun e => ?_
        rw [← hm e, ← hr' e.o]
        constructor
        · rintro ⟨z, hz, rfl⟩
          obtain ⟨h1, h2⟩ := List.mem_filter.mp hz
          exact ⟨⟨z, h1, rfl⟩, h2⟩
        · rintro ⟨⟨z, hz, rfl⟩, h2⟩
          exact ⟨z, List.mem_filter.mpr ⟨hz, h2⟩, rfl⟩
end
end Rg

end
section
set_option Elab.async false
set_option linter.all false
set_option maxRecDepth 100000
set_option maxHeartbeats 4000000
namespace Rg
open PySem PySem.Spec PyProof.Rows L2
theorem take_get_succ {α : Type} {l : List α} {i : Nat} {c : α} (h : l[i]? = some c) : l.take (i + 1) = l.take i ++ [c] := by
  obtain ⟨q, e⟩ := List.getElem?_eq_some_iff.mp h
  rw [List.take_succ_eq_append_getElem q, e]
theorem pi_listK {X : Cx} (K : PySem.W.Frag) {tg l : Expr} {tl : TE} (hl : PE X l tl) (h : X.K = K := by rfl) : PI X tg l (iList K tl) := h ▸ pi_list hl
section
variable {P : Program} {w : World} {K : PySem.W.Frag} {mg : Str → Option Value} {base : Heap}
/-! Teller.numbers -/
def spNumbers (C : Addr) : Sp := fun vs H Q _ => ∃ (x : Addr) (L : Lit) (rs : Rows'), vs = [.ref x] ∧ TellerAt C H x L rs ∧ RowsOk L rs ∧ L.length ≤ 4 ∧
  ∀ (p : Addr) (H' : Hp) (ns : List Int), Same H H' → H' p = some (.lst (ns.map V.int)) → (∀ m : Int, m ∈ ns ↔ ∃ r ∈ rs, ∃ q ∈ r, q.1 = m) → Q (.ref p) H'
theorem sc_numbers : FnScope ["self", "row", "number", "room"] ["self"] (defScope (meth 32 4)) := ⟨rfl, rfl, rfl, by decide +kernel, rfl, by decide +kernel, by decide +kernel⟩
theorem c_numbers {C f : Addr} {fd : FuncData} (T : TCls K C) (M : Meth K C "numbers" f) (D : Dm K "numbers" "Teller.numbers" (meth 32 4) f fd) (B : Bl mg) : C8.Met P w K mg base 1 C "numbers" (spNumbers C) [] := by
  refine met_of T.cls M D (fun _ _ _ _ _ _ us hl => match us, hl with | [_], _ => rfl) sc_numbers (fun vs H Q E h => ?_) (fun cdv A outer s H vs Q E hr h => ?_)
  · obtain ⟨x, L, rs, rfl, _⟩ := h
    rfl
  · obtain ⟨x, L, rs, rfl, ⟨dx, S, W, hx, hS, a, us, eW, ha, hp⟩, ro, l4, k⟩ := h
    cases eW
    refine ⟨_, pss_one (ps_ret (pe_callB (cr_sortedMI rfl) (by rfl) B.sorted (by decide +kernel) (pa_cons
      (pe_sc2 (own := [("row", 1), ("number", 2), ("room", 3)]) (vs1 := [2, 3]) (g := gName 1) (g1 := gTup K 2 (gCons (gName 2) (gCons (gName 3) gNil))) rfl sc_numbers.nd (pi_list (pe_fld (pv 0) rfl)) (blkOk_by (own := [("row", 1), ("number", 2), ("room", 3)]) (N := ["self", "row", "number", "room"]) (sc := defScope (meth 32 4)) (by decide +kernel)) (by decide)
        (fun _ _ _ _ _ => pg_name (i := 1) sc_numbers.nd rfl (Or.inl rfl)) (fun _ _ _ _ _ => pts_nil) (fun _ _ _ _ _ => pi_listK K (pv 1)) (fun _ _ _ _ _ => pg_tup rfl (pgs_cons (pg_name (i := 2) sc_numbers.nd rfl (Or.inl rfl) (Or.inr rfl)) (pgs_cons (pg_name (i := 3) sc_numbers.nd rfl (Or.inl rfl) (Or.inr rfl)) pgs_nil))) (fun _ _ _ _ _ => pts_nil)
        (fun _ _ _ _ _ => pv 2)) pa_nil))), ?_⟩
    have hul : us.length = rs.length := hp.length
    have hsl := sets16 l4
    have h40 := ro.few
    refine ⟨_, rfl, x, C, dx, _, _, rfl, hx, T.cls, T.nS, rfl, W, rfl, ⟨_, SqL.of ha⟩, fun D hD => ?_⟩
    refine it_gen walk_list (fun i H' => Same H H' ∧ InSet w D (fun k => ∃ r ∈ rs.take i, ∃ q ∈ r, k = .inl q.1) (16 * i) H') ⟨Same.one hD, InSet.new.mono (fun k => by simp) (Nat.le_refl _)⟩ (fun i H' _ p => SqL.of (p.1 _ _ ha)) (fun i y H1 H2 hi p yy => ?_) fun H1 p => ?_
    · obtain ⟨rfl, hy⟩ := yy
      obtain ⟨row, hrow, b, qs, rfl, hb, hq⟩ := paired_get hp hy
      have hrl := ro.len row (List.mem_of_getElem? hrow)
      have hql : qs.length = row.length := hq.length
      refine ⟨rfl, yes ?_⟩
      refine ⟨_, rfl, b, rfl, ⟨_, SqL.of (p.1 _ _ hb)⟩, ?_⟩
      refine it_gen walk_list (fun j H' => Same H H' ∧ InSet w D (fun k => (∃ r ∈ rs.take i, ∃ q ∈ r, k = .inl q.1) ∨ ∃ q ∈ row.take j, k = .inl q.1) (16 * i + j) H') ⟨p.1, p.2.mono (fun k => by simp) (Nat.le_refl _)⟩ (fun j H' _ p => SqL.of (p.1 _ _ hb)) (fun j y H3 H4 hj p2 yy => ?_) fun H3 p2 => ?_
      · obtain ⟨rfl, hy⟩ := yy
        obtain ⟨q, hqj, tq, rfl, htq⟩ := paired_get hq hy
        refine ⟨tq, _, rfl, SqT.of (p2.1 _ _ htq), rfl, _, _, rfl, _, _, rfl, rfl, rfl, yes ?_⟩
        refine ⟨_, rfl, ?_⟩
        refine InSet.add (N := fun H' => Same H H' ∧ InSet w D (fun k => (∃ r ∈ rs.take i, ∃ q ∈ r, k = .inl q.1) ∨ ∃ q ∈ row.take (j + 1), k = .inl q.1) (16 * i + (j + 1)) H') p2.2 (.inl q.1) (by have : scanBound = 4096 := rfl; omega) fun H5 kp z => ⟨same_but p2.1 hD kp, z.mono (fun k => ?_) (Nat.le_refl _)⟩
        rw [take_get_succ hqj]
        constructor
        · rintro ((h | ⟨d, hd, h⟩) | h)
          · exact .inl h
          · exact .inr ⟨d, List.mem_append_left _ hd, h⟩
          · exact .inr ⟨q, List.mem_append_right _ (List.mem_singleton.mpr rfl), h⟩
        · rintro (h | ⟨d, hd, h⟩)
          · exact .inl (.inl h)
          · rcases List.mem_append.mp hd with hd | hd
            · exact .inl (.inr ⟨d, hd, h⟩)
            · rw [List.mem_singleton.mp hd] at h
              exact .inr h
      · rw [hql] at p2
        refine ⟨p2.1, p2.2.mono (fun k => ?_) (by omega)⟩
        rw [List.take_length, take_get_succ hrow]
        constructor
        · rintro (⟨d, hd, h⟩ | h)
          · exact ⟨d, List.mem_append_left _ hd, h⟩
          · exact ⟨row, List.mem_append_right _ (List.mem_singleton.mpr rfl), h⟩
        · rintro ⟨d, hd, h⟩
          rcases List.mem_append.mp hd with hd | hd
          · exact .inl ⟨d, hd, h⟩
          · rw [List.mem_singleton.mp hd] at h
            exact .inr h
    · rw [hul, List.take_length] at p
      obtain ⟨sm, S0, n0, e0, l0, m0⟩ := p
      refine ⟨D, S0, n0, rfl, e0, by omega, fun kk hk => ?_, fun ns p pw hns hpn => ?_⟩
      · obtain ⟨r, _, q, _, e⟩ := (m0 kk).mp hk
        exact ⟨_, e⟩
      · refine k p _ ns (sm.trans (Same.one hpn)) upd_same fun m => ?_
        rw [hns, m0]
        constructor
        · rintro ⟨r, hr, q, hq, e⟩
          exact ⟨r, hr, q, hq, (Sum.inl.inj e).symm⟩
        · rintro ⟨r, hr, q, hq, rfl⟩
          exact ⟨r, hr, q, hq, rfl⟩
end
end Rg

end
section
set_option Elab.async false
set_option linter.all false
set_option maxRecDepth 100000
set_option maxHeartbeats 4000000
namespace Rg
open PySem PySem.Spec PyProof.Rows L2
/-- told wrong -/
def BadRow (L : Lit) (T : List Lit) (rs : Rows') (lead ring : List Lit) : Prop := run (nxT L rs) (run (nxT L rs) 0 lead) ring = run (nxT L rs) 0 lead ∧ ∃ m, IsMax m (nums (nxT L rs) (nuT L rs) (run (nxT L rs) 0 lead) ring) ∧ ¬ (m % 2 = 0 ↔ un L ring ∈ T)
/-- too few rooms, or numbers too small -/
def Small (L : Lit) (T : List Lit) (rs : Rows') : Prop := rs.length < (br T L).length ∨ ∃ (hi : Int), (∀ r ∈ rs, ∀ q ∈ r, q.1 < hi) ∧ ∃ b ∈ br T L, hi + 1 ≤ (b.length : Int)
def NoHit (zs : List Z) (l : Lit) (m : Int) : Prop := ∃ Ps, Parts oZ gZ (subE FZ zs l m) Ps ∧ ∀ P ∈ Ps, ¬ HitA l m P
/-- what the edges of a teller are -/
def EdgesOf (L : Lit) (rs : Rows') (zs : List Z) : Prop := ∀ e : Ed, (∃ z ∈ zs, z.2 = e) ↔ InE L rs rs.length 0 e ∧ Rm L rs e.o
theorem edges_full {L : Lit} {rs : Rows'} {zs : List Z} (h : EdgesOf L rs zs) (ro : RowsOk L rs) (nd : L.Nodup) : Full FZ L (Rm L rs) (nxT L rs) (nuT L rs) zs := fun r hr D hD => by
  have b := hr.bound ro nd
  obtain ⟨z, hz, e⟩ := (h ⟨r, nxT L rs r D, nuT L rs r D, D⟩).mpr ⟨(inE_iff ro nd).mpr ⟨b.1, b.2, hD, rfl, rfl⟩, hr⟩
  exact ⟨z, hz, congrArg Ed.o e, congrArg Ed.d e, congrArg Ed.g e, congrArg Ed.n e⟩
theorem edges_steps {L : Lit} {rs : Rows'} {zs : List Z} (h : EdgesOf L rs zs) (ro : RowsOk L rs) (nd : L.Nodup) : Steps FZ (nxT L rs) (nuT L rs) zs ∧ (∀ z ∈ zs, z.2.d.Sublist L) ∧ ∀ z ∈ zs, Rm L rs (oZ z) := by
  refine ⟨fun z hz => ?_, fun z hz => ?_, fun z hz => ?_⟩
  · obtain ⟨h1, _⟩ := (h z.2).mp ⟨z, hz, rfl⟩
    obtain ⟨_, _, _, a, b⟩ := (inE_iff ro nd).mp h1
    exact ⟨a.symm, b.symm⟩
  · obtain ⟨h1, _⟩ := (h z.2).mp ⟨z, hz, rfl⟩
    exact ((inE_iff ro nd).mp h1).2.2.1
  · exact ((h z.2).mp ⟨z, hz, rfl⟩).2
theorem edges_rt {L : Lit} {rs : Rows'} {zs : List Z} (h : EdgesOf L rs zs) (ro : RowsOk L rs) (nd : L.Nodup) {r : Int} (hr : Rm L rs r) : Rt oZ gZ zs 0 r := by
  obtain ⟨ds, hd, rfl⟩ := hr
  obtain ⟨es, k, _⟩ := row_ch (edges_full h ro nd) (fun r hr D hD => hr.next hD) ds 0 Rm.zero hd
  exact ⟨es, k⟩
/-- not every set and number is without a hit -/
theorem must_hit {L : Lit} {T : List Lit} {rs : Rows'} {zs : List Z} (h : EdgesOf L rs zs) (ro : RowsOk L rs) (ok : Ok L) (sm : Small L T rs)
    (hn : ∀ l ∈ setsOf L, ∀ m : Int, (∃ r ∈ rs, ∃ q ∈ r, q.1 = m) → ¬ (m % 2 = 0 ↔ l ∈ T) → NoHit zs l m) : False := by
  have nd := ris_nodup ok.ris
  obtain ⟨hS, hE, hR⟩ := edges_steps h ro nd
  have inR : ∀ r, Rm L rs r → ∀ D : Lit, D.Sublist L → ∃ row ∈ rs, ∃ q ∈ row, q = stp L rs r D := fun r hr D hD => by
    have b := hr.bound ro nd
    obtain ⟨i, j, row, p, _, h1, _, h3, e⟩ := stp_ex ro b.1 b.2 hD nd
    exact ⟨row, List.mem_of_getElem? h1, p, List.mem_of_getElem? h3, e.symm⟩
  have hp : ∀ (lit : Lit) (m : Int), lit.Sublist L → (∃ e ∈ zs, FZ.n e = m) → ¬ (m % 2 = 0 ↔ lit ∈ T) → ∃ ps, Parts FZ.o FZ.g (subE FZ zs lit m) ps ∧ ∀ P ∈ ps, ¬ Hit FZ L lit m P := fun lit m hl ⟨e, he, em⟩ bad => by
    have hm : ∃ r ∈ rs, ∃ q ∈ r, q.1 = m := by
      obtain ⟨row, hrow, q, hq, eq⟩ := inR (oZ e) (hR e he) e.2.d (hE e he)
      refine ⟨row, hrow, q, hq, ?_⟩
      rw [eq, ← em]
      exact (hS e he).2
    obtain ⟨Ps, h1, h2⟩ := hn lit (mem_setsOf.mpr hl) m hm bad
    refine ⟨Ps, h1, fun P hP hit => h2 P hP ⟨?_, hit.2⟩⟩
    rw [← hit.1]
    refine un_abc ok fun d hd => ?_
    obtain ⟨z, hz, rfl⟩ := List.mem_map.mp hd
    obtain ⟨_, v, pv⟩ := h1.each P hP
    exact hE z (mem_subE.mp ((pv.mem z).1 hz).1).1
  have h0 : ∀ r, Rm L rs r → r ∈ (List.range rs.length).map Int.ofNat := fun r hr => by
    have b := hr.bound ro nd
    obtain ⟨i, rfl⟩ := Int.eq_ofNat_of_zero_le b.1
    exact List.mem_map.mpr ⟨i, List.mem_range.mpr (by omega), rfl⟩
  have hlow : ∀ r, Rm L rs r → ∀ D : Lit, D.Sublist L → 0 ≤ nuT L rs r D := fun r hr D hD => (stp_ok ro (hr.bound ro nd).1 (hr.bound ro nd).2 hD nd).1
  have hlen : ((List.range rs.length).map Int.ofNat).length = rs.length := by rw [List.length_map, List.length_range]
  rcases sm with s | ⟨hi, hh, b, hb, hl⟩
  · exact some_hit (hi := 100) ok.ris hE (edges_full h ro nd) Rm.zero (fun r hr D hD => hr.next hD) h0 hlow (fun r hr D hD => (by have := (stp_ok ro (hr.bound ro nd).1 (hr.bound ro nd).2 hD nd).2.1; show (stp L rs r D).1 < 100; omega)) (.inl (by rw [hlen]; exact s)) hp
  · refine some_hit (hi := hi) ok.ris hE (edges_full h ro nd) Rm.zero (fun r hr D hD => hr.next hD) h0 hlow (fun r hr D hD => ?_) (.inr ⟨b, hb, hl⟩) hp
    obtain ⟨row, hrow, q, hq, eq⟩ := inR r hr D hD
    show (stp L rs r D).1 < hi
    rw [← eq]
    exact hh row hrow q hq
/-- a hit's ring is told wrong -/
theorem hit_bad {L : Lit} {T : List Lit} {rs : Rows'} {zs P lead ring : List Z} {z0 : Z} (h : EdgesOf L rs zs) (ro : RowsOk L rs) (ok : Ok L) {l : Lit} {m : Int} (bad : ¬ (m % 2 = 0 ↔ l ∈ T)) (sub : ∀ z ∈ P, z ∈ zs) (hit : HitA l m P)
    (h1 : Ch oZ gZ zs 0 lead (oZ z0)) (h2 : Ch oZ gZ P (oZ z0) ring (oZ z0)) (h3 : ∀ z ∈ P, z ∈ ring) : BadRow L T rs (lead.map dZ) (ring.map dZ) := by
  have nd := ris_nodup ok.ris
  obtain ⟨hS, hE, hR⟩ := edges_steps h ro nd
  obtain ⟨a1, a2⟩ := Ch.row (F := FZ) hS h1
  have h2' : Ch oZ gZ zs (oZ z0) ring (oZ z0) := Ch.mono sub h2
  obtain ⟨b1, b2⟩ := Ch.row (F := FZ) hS h2'
  have r1 : run (nxT L rs) 0 (lead.map dZ) = oZ z0 := a1
  have rin : ∀ z ∈ ring, z ∈ P := h2.mem
  refine ⟨by rw [r1]; exact b1, m, ?_, ?_⟩
  · rw [r1]
    have e : nums (nxT L rs) (nuT L rs) (oZ z0) (ring.map dZ) = ring.map nZ := b2
    rw [e]
    obtain ⟨z, hz, ez⟩ := List.mem_map.mp hit.2.mem
    refine ⟨List.mem_map.mpr ⟨z, h3 z hz, ez⟩, fun x hx => ?_⟩
    obtain ⟨y, hy, rfl⟩ := List.mem_map.mp hx
    exact hit.2.le _ (List.mem_map.mpr ⟨y, rin y hy, rfl⟩)
  · have e : un L (ring.map dZ) = l := by
      rw [← hit.1, un_abc ok (ds := P.map dZ) (fun d hd => by obtain ⟨z, hz, rfl⟩ := List.mem_map.mp hd; exact hE z (sub z hz))]
      refine ris_ext (un_ris ok.ris) (un_ris ok.ris) fun c => ?_
      rw [mem_un, mem_un]
      constructor
      · rintro ⟨hL, d, hd, hc⟩
        obtain ⟨z, hz, rfl⟩ := List.mem_map.mp hd
        exact ⟨hL, _, List.mem_map.mpr ⟨z, rin z hz, rfl⟩, hc⟩
      · rintro ⟨hL, d, hd, hc⟩
        obtain ⟨z, hz, rfl⟩ := List.mem_map.mp hd
        exact ⟨hL, _, List.mem_map.mpr ⟨z, h3 z hz, rfl⟩, hc⟩
    rw [e]
    exact bad
section
variable {P : Program} {w : World} {K : PySem.W.Frag} {mg : Str → Option Value} {base : Heap}
/-! wrong_row -/
def spRow (CT CG : Addr) : Sp := fun vs H Q _ => ∃ (x y : Addr) (L : Lit) (T : List Lit) (rs : Rows'), vs = [.ref x, .ref y] ∧ TellerAt CT H x L rs ∧ GoalAt CG H y L T ∧ RowsOk L rs ∧ Ok L ∧ L.length ≤ 4 ∧ Small L T rs ∧
  ∀ (p A B : Addr) (H' : Hp) (lead ring : List Lit), Same H H' → H' p = some (.tup [.ref A, .ref B]) → H' A = some (.lst (lead.map tx)) → H' B = some (.lst (ring.map tx)) → (∀ d ∈ lead ++ ring, d.Sublist L) → ring ≠ [] → lead.length ≤ 2000 → ring.length ≤ 1010000 → BadRow L T rs lead ring → Q (.ref p) H'
theorem sc_row : FnScope ["teller", "goal", "edges", "lit", "number", "part", "ring", "lead", "edge"] ["teller", "goal"] (defScope (top 34)) := ⟨rfl, rfl, rfl, by decide +kernel, rfl, by decide +kernel, by decide +kernel⟩
theorem c_row {CT CG : Addr} {f : Addr} {fd : FuncData} (T1 : TCls K CT) (G : GCls K CG) (pg : PropL P w K mg base CG "lamps" "own_lamps") (D : Df K mg "wrong_row" (top 34) f fd)
    (c1 : C8.Cal P w K mg base 3 "need_same_lamps" (spSameLamps CT CG) []) (c2 : C8.Met P w K mg base 3 CT "edges" (spEdges CT) []) (c3 : C8.Cal P w K mg base 4 "sets_of" spSetsOf []) (c4 : C8.Met P w K mg base 1 CT "numbers" (spNumbers CT) []) (c5 : CallG P w K mg base 4 CG (spGHolds CG))
    (c6 : C8.Cal P w K mg base 4 "wrong_ring" spWrong []) (c7 : C8.Cal P w K mg base 3 "ring_through" spRing []) (c8 : C8.Cal P w K mg base 2 "path" spPath []) : C8.Cal P w K mg base 5 "wrong_row" (spRow CT CG) [] := by
  obtain ⟨gc, co, Fc⟩ := c5.ex
  refine cal_of D (fun _ _ _ _ _ _ us hl => match us, hl with | [_, _], _ => rfl) sc_row (fun vs H Q E h => ?_) (fun cdv A outer s H vs Q E hr h => ?_)
  · obtain ⟨x, y, L, T, rs, rfl, _⟩ := h
    rfl
  · obtain ⟨x, y, L, T, rs, rfl, hx, hy, ro, ok, l4, sml, k⟩ := h
    have nd := ris_nodup ok.ris
    refine ⟨_, pss_cons (ps_expr (C8.pe_c c1 hr (by decide) (by rfl) (pa_cons (pv 0) (pa_cons (pv 1) pa_nil))))
      (pss_cons (ps_set (i := 2) sc_row.nd rfl (Or.inl rfl) (C8.pe_mt0 c2 hr (by decide) (pv 0)))
      (pss_cons (ps_for PassesOwn.never rfl (pi_list (C8.pe_c c3 hr (by decide) (by rfl) (pa_cons (pe_pr pg G.cls hr (by decide) (pv 1)) pa_nil))) (pg_name (i := 3) sc_row.nd rfl (Or.inl rfl))
        (pss_one (ps_for PassesOwn.never rfl (pi_list (C8.pe_mt0 c4 hr (by decide) (pv 0))) (pg_name (i := 4) sc_row.nd rfl (Or.inl rfl))
          (pss_one (ps_if (pt_cmpR op_ne (pe_cmpR op_eq (pe_op op_mod (pv 4) pe_int) pe_int (nomark _)) (StX.pe_callO (E := C8.E0) (pv 1) co Fc (hr.mono (by decide)) C8.pass0 (pa_cons (pv 3) pa_nil)) (nomark _))
            (pss_cons (ps_set (i := 5) sc_row.nd rfl (Or.inl rfl) (C8.pe_c c6 hr (by decide) (by rfl) (pa_cons (pv 2) (pa_cons (pv 3) (pa_cons (pv 4) pa_nil)))))
              (pss_one (ps_if (pt_cmp (pc_notN (pv 5)))
                (pss_cons (ps_set (i := 6) sc_row.nd rfl (Or.inl rfl) (C8.pe_c c7 hr (by decide) (by rfl) (pa_cons (pv 5) pa_nil)))
                (pss_cons (ps_set (i := 7) sc_row.nd rfl (Or.inl rfl) (C8.pe_c c8 hr (by decide) (by rfl) (pa_cons (pv 2) (pa_cons pe_int (pa_cons (pe_disp (pps_cons (pe_ix ix_tup (pe_ix ix_list (pv 6) pe_int (fun _ _ => rfl)) pe_int (fun _ _ => rfl)) pe_bl pps_nil) (by rfl) (by rfl) (fun z => by cases z) (by decide)) pa_nil)))))
                (pss_one (ps_ret (pe_tup (pa_cons
                  (pe_lc (own := [("edge", 8)]) (g := gName 8) rfl sc_row.nd (pi_list (pv 7)) (blkOk_by (own := [("edge", 8)]) (N := ["teller", "goal", "edges", "lit", "number", "part", "ring", "lead", "edge"]) (sc := defScope (top 34)) (by decide +kernel)) (fun _ _ _ _ _ => pg_name (i := 8) sc_row.nd rfl (Or.inl rfl)) (fun _ _ _ _ _ => pts_nil)
                    (fun _ _ _ _ _ => pe_ix (ixT K) (pe_ix (ixT K) (pv 8) pe_int (fun _ _ => rfl)) pe_int (fun _ _ => rfl)))
                  (pa_cons (pe_lc (own := [("edge", 8)]) (g := gName 8) rfl sc_row.nd (pi_list (pv 6)) (blkOk_by (own := [("edge", 8)]) (N := ["teller", "goal", "edges", "lit", "number", "part", "ring", "lead", "edge"]) (sc := defScope (top 34)) (by decide +kernel)) (fun _ _ _ _ _ => pg_name (i := 8) sc_row.nd rfl (Or.inl rfl)) (fun _ _ _ _ _ => pts_nil)
                    (fun _ _ _ _ _ => pe_ix (ixT K) (pe_ix (ixT K) (pv 8) pe_int (fun _ _ => rfl)) pe_int (fun _ _ => rfl))) pa_nil)))))))
                pss_nil))) pss_nil)))))
      (pss_one (ps_ret pe_non)))), ?_⟩
    refine ⟨_, rfl, _, rfl, x, y, L, T, rs, rfl, hx, hy, ?_⟩
    have hx0 := hx
    have hy0 := hy
    obtain ⟨dx, S, W, hxi, _⟩ := hx
    obtain ⟨dy, vy, ty, hyi, hty⟩ := hy
    refine ⟨_, rfl, x, dx, _, rfl, hxi, rfl, x, L, rs, rfl, hx0, ro, ok, l4, fun e H1 zs s1 hzs hzl hzE => ?_⟩
    have hEO : EdgesOf L rs zs := hzE
    obtain ⟨hS, hE, hR⟩ := edges_steps hEO ro nd
    have lm : Lm zs := fun z hz => ⟨Nat.le_trans (hE z hz).length_le l4, fun c hc => ok.abc c ((hE z hz).subset hc)⟩
    refine ⟨_, rfl, y, dy, _, rfl, s1 _ _ hyi, y, dy, _, _, rfl, s1 _ _ hyi, rfl, L, rfl, l4, fun H2 a s2 ha => ?_⟩
    have s3 : Same H1 (upd H2 a (.lst ((setsOf L).map tx))) := s2.trans (Same.one ha)
    have ha3 : (upd H2 a (.lst ((setsOf L).map tx))) a = some (.lst ((setsOf L).map tx)) := upd_same
    generalize upd H2 a (.lst ((setsOf L).map tx)) = H3 at s3 ha3 ⊢
    refine ⟨a, rfl, ⟨_, SqL.of ha3⟩, ?_⟩
    refine for_it walk_list (fun i σ H' => ∃ (b3 b4 b5 b6 b7 : Option V), σ = [some (.ref x), some (.ref y), some (.ref e), b3, b4, b5, b6, b7, none] ∧ Same H3 H' ∧ ∀ l ∈ (setsOf L).take i, ∀ m : Int, (∃ r ∈ rs, ∃ q ∈ r, q.1 = m) → ¬ (m % 2 = 0 ↔ l ∈ T) → NoHit zs l m)
      ⟨none, none, none, none, none, rfl, Same.refl _, fun l hl => (nomatch hl)⟩ (fun i σ H' _ p => (let ⟨_, _, _, _, _, _, sm, _⟩ := p; SqL.of (sm _ _ ha3))) (fun i v σ H4 H5 hi p yy => ?_) fun σ H4 p => ?_
    · obtain ⟨b3, b4, b5, b6, b7, rfl, sm, hno⟩ := p
      obtain ⟨rfl, hv⟩ := yy
      obtain ⟨l, hl, rfl⟩ := map_at hv
      have hlL := mem_setsOf.mp (List.mem_of_getElem? hl)
      have s03 : Same H H3 := s1.trans s3
      refine ⟨_, rfl, x, dx, _, rfl, (s03.trans sm) _ _ hxi, rfl, x, L, rs, rfl, hx0.same (s03.trans sm), ro, l4, fun p H6 ns s6 hns hnm => ?_⟩
      refine ⟨p, rfl, ⟨_, SqL.of hns⟩, ?_⟩
      refine for_it walk_list (fun j σ H' => ∃ (b4 b5 b6 b7 : Option V), σ = [some (.ref x), some (.ref y), some (.ref e), some (tx l), b4, b5, b6, b7, none] ∧ Same H6 H' ∧ ∀ m ∈ ns.take j, ¬ (m % 2 = 0 ↔ l ∈ T) → NoHit zs l m)
        ⟨b4, b5, b6, b7, rfl, Same.refl _, fun l hl => (nomatch hl)⟩ (fun i σ H' _ p => (let ⟨_, _, _, _, _, sm, _⟩ := p; SqL.of (sm _ _ hns))) (fun j v σ H7 H8 hj p yy => ?_) fun σ H7 p => ?_
      · obtain ⟨b4, b5, b6, b7, rfl, sm7, hno7⟩ := p
        obtain ⟨rfl, hv⟩ := yy
        obtain ⟨m, hm, rfl⟩ := map_at hv
        have s7 : Same H3 H8 := sm.trans (s6.trans sm7)
        have s07 : Same H H8 := s03.trans s7
        refine ⟨_, rfl, _, _, rfl, rfl, (by show (0 : Int) < 2; decide), rfl, _, rfl, y, rfl, _, rfl, .inr ⟨dy, _, s07 _ _ hyi⟩, y, L, T, l, rfl, hy0.same s07, ok, hlL, fun H9 s9 => ?_⟩
        have s09 : Same H3 H9 := s7.trans s9
        have s0 : Same H H9 := s03.trans s09
        have e0 : decide (V.int (m % 2) = V.int 0) = decide (m % 2 = 0) := by simp
        have more : (¬ (m % 2 = 0 ↔ l ∈ T) → NoHit zs l m) → ∀ m' ∈ ns.take (j + 1), ¬ (m' % 2 = 0 ↔ l ∈ T) → NoHit zs l m' := fun h m' hm' bad => by
          rw [take_get_succ hm] at hm'
          rcases List.mem_append.mp hm' with q | q
          · exact hno7 m' q bad
          · rw [List.mem_singleton.mp q] at bad ⊢
            exact h bad
        refine ⟨rfl, _, rfl, ite2 (fun hne => ?_) fun heq => ?_⟩
        · have bad : ¬ (m % 2 = 0 ↔ l ∈ T) := fun q => by
            rw [e0, show decide (m % 2 = 0) = decide (l ∈ T) from decide_eq_decide.mpr q] at hne
            simp at hne
          refine ⟨_, rfl, _, rfl, _, rfl, .ref e, zs, l, m, rfl, hzs.same (s3.trans s09), hzl, lm, fun p1 H10 Ps P1 s10 hPs hP hp1 hit hPl => ?_, fun H10 Ps s10 hPs hno' => ?_⟩
          · refine ⟨_, rfl, _, rfl, iteT ?_⟩
            obtain ⟨hPne, vv, pv'⟩ := hPs.each P1 hP
            have sub : ∀ z ∈ P1, z ∈ zs := fun z hz => (mem_subE.mp ((pv'.mem z).1 hz).1).1
            have hjoin := pv'.joined
            obtain ⟨eb, ebr, hEb, hEe⟩ := hzs
            cases ebr
            have sA : Same H1 H10 := s3.trans (s09.trans s10)
            have eP : ∀ {H' : Hp}, Same H10 H' → ∀ z ∈ zs, EdAt H' z.1 z.2 := fun s z hz => ((hEe z hz).same sA).same s
            cases P1 with
            | nil => exact absurd rfl hPne
            | cons z0 P' =>
              refine ⟨_, rfl, .ref p1, P', z0, rfl, ⟨p1, rfl, hp1, fun z hz => eP (Same.refl _) z (sub z hz)⟩, hPl, hjoin, fun p2 H11 es s11 hp2 hch hall hel => ?_⟩
              have z0es := hall z0 List.mem_cons_self
              cases es with
              | nil => cases z0es
              | cons z1 es =>
                have h1 := hch.1
                have h1o : oZ z1 = oZ z0 := hch.2.1
                obtain ⟨t1, m1, et1, ht1, _⟩ := eP s11 z1 (sub z1 h1)
                refine ⟨_, rfl, ?_⟩
                intro G hG
                have sG0 : Same H11 (upd H11 G (.dK [])) := Same.one hG
                refine ⟨_, rfl, _, _, _, _, rfl, rfl, SqL.of (sG0 _ _ hp2), atI_nat (j := 0) (by rw [List.map_cons, et1]; rfl), _, _, _, _, rfl, rfl, SqT.of (sG0 _ _ ht1), atI_nat (j := 0) rfl, upd_same, [(.inl (oZ z1), .bl true)], rfl, (by show 1 ≤ 15; decide), ?_⟩
                have sG : Same H11 (upd (upd H11 G (.dK [])) G (.dK (mergeK [] [(.inl (oZ z1), .bl true)]))) := Same.put sG0 hG
                have hG2 : (upd (upd H11 G (.dK [])) G (.dK (mergeK [] [(.inl (oZ z1), .bl true)]))) G = some (.dK [(.inl (oZ z1), .bl true)]) := upd_same
                generalize upd (upd H11 G (.dK [])) G (.dK (mergeK [] [(.inl (oZ z1), .bl true)])) = H12 at sG hG2 ⊢
                have sB : Same H10 H12 := s11.trans sG
                have hEs12 : Es H12 (.ref e) zs := ⟨e, rfl, (sA.trans sB) _ _ hEb, eP sB⟩
                have hrt : Rt o2 g2 (zs.map z2) 0 (oZ z1) := rt_z2.mpr (by rw [h1o]; exact edges_rt hEO ro nd (hR z0 (sub z0 List.mem_cons_self)))
                refine ⟨.ref e, zs.map z2, 0, oZ z1, G, rfl, hEs12.e2, by rw [List.length_map]; exact hzl, hG2, hrt, fun p3 H13 es1 s13 _ hch1 hel1 hp3 => ?_⟩
                obtain ⟨lead, hlead, elead⟩ := ch_lift (f := z2) (o := oZ) (g := gZ) (fun _ => rfl) (fun _ => rfl) hch1
                have hp3' : H13 p3 = some (.lst (lead.map (·.1))) := by
                  rw [hp3, elead, List.map_map]
                  rfl
                have hll : lead.length ≤ 1001 := by
                  rw [elead, List.length_map, List.length_map] at hel1
                  omega
                have sC : Same H10 H13 := sB.trans s13
                have hring : H13 p2 = some (.lst ((z1 :: es).map (·.1))) := (sG.trans s13) _ _ hp2
                have leadm : ∀ z ∈ lead, z ∈ zs := hlead.mem
                have ringm : ∀ z ∈ z1 :: es, z ∈ zs := fun z hz => sub z (hch.mem z hz)
                refine ⟨_, rfl, p3, rfl, ⟨_, SqL.of hp3'⟩, fun D1 hD1 => ?_⟩
                refine lc_val same_ok walk_list (fun j => (lead.take j).map fun z => tx (dZ z)) hD1 rfl (fun j hj => ?_) (fun H' r => SqL.of (r _ _ hp3')) (fun N j y H' H14 hj r yy keep skip => ?_) fun H14 r14 hD14 => ?_
                · rw [List.length_map] at hj
                  exact Nat.lt_of_le_of_lt (m_take_len _ _ _) (small' (by omega))
                · obtain ⟨rfl, hy'⟩ := yy
                  obtain ⟨z, hz, rfl⟩ := map_at hy'
                  obtain ⟨tz, mz, ez, htz, mk, emk, hmk, _⟩ := eP (sC.trans r) z (leadm z (List.mem_of_getElem? hz))
                  subst emk
                  rw [ez]
                  refine ⟨rfl, yes ?_⟩
                  refine ⟨_, rfl, _, _, _, _, rfl, rfl, SqT.of htz, atI_nat (j := 2) rfl, _, _, _, _, rfl, rfl, SqT.of hmk, atI_nat (j := 1) rfl, keep _ _ (Same.refl _) (map_take_succ hz)⟩
                · rw [List.length_map, List.take_length] at hD14
                  refine ⟨_, rfl, p2, rfl, ⟨_, SqL.of (r14 _ _ hring)⟩, fun D2 hD2 => ?_⟩
                  refine lc_val same_ok walk_list (fun j => ((z1 :: es).take j).map fun z => tx (dZ z)) hD2 rfl (fun j hj => ?_) (fun H' r => SqL.of (r _ _ (r14 _ _ hring))) (fun N j y H' H15 hj r yy keep skip => ?_) fun H15 r15 hD15 => ?_
                  · rw [List.length_map] at hj
                    have : sizeLine = 16777216 := sizeLine_eq
                    exact Nat.lt_of_le_of_lt (m_take_len _ _ _) (by omega)
                  · obtain ⟨rfl, hy'⟩ := yy
                    obtain ⟨z, hz, rfl⟩ := map_at hy'
                    obtain ⟨tz, mz, ez, htz, mk, emk, hmk, _⟩ := eP (sC.trans (r14.trans r)) z (ringm z (List.mem_of_getElem? hz))
                    subst emk
                    rw [ez]
                    refine ⟨rfl, yes ?_⟩
                    refine ⟨_, rfl, _, _, _, _, rfl, rfl, SqT.of htz, atI_nat (j := 2) rfl, _, _, _, _, rfl, rfl, SqT.of hmk, atI_nat (j := 1) rfl, keep _ _ (Same.refl _) (map_take_succ hz)⟩
                  · rw [List.length_map, List.take_length] at hD15
                    refine ⟨by show 2 ≤ sizeLine; decide, fun pp hpp => ?_⟩
                    have sZ : Same H15 (upd H15 pp (.tup [.ref D1, .ref D2])) := Same.one hpp
                    refine k pp D1 D2 _ (lead.map dZ) ((z1 :: es).map dZ) ((s0.trans s10).trans (sC.trans (r14.trans (r15.trans sZ)))) upd_same ?_ ?_ (fun d hd => ?_) (fun q => by cases q) (by rw [List.length_map]; omega) (by rw [List.length_map]; exact hel) (hit_bad hEO ro ok bad sub hit (by rw [← h1o]; exact hlead) hch hall)
                    · rw [(r15.trans sZ) _ _ hD14, List.map_map]
                      rfl
                    · rw [sZ _ _ hD15, List.map_map]
                      rfl
                    · rw [← List.map_append] at hd
                      obtain ⟨z, hz, rfl⟩ := List.mem_map.mp hd
                      rcases List.mem_append.mp hz with h | h
                      · exact hE z (leadm z h)
                      · exact hE z (ringm z h)
          · refine ⟨_, rfl, _, rfl, iteF ?_⟩
            exact ⟨_, _, _, _, rfl, sm7.trans (s9.trans s10), more fun _ => ⟨Ps, hPs, hno'⟩⟩
        · refine ⟨_, _, _, _, rfl, sm7.trans s9, more fun bad => absurd ?_ bad⟩
          have : decide (V.int (m % 2) = V.int 0) = decide (l ∈ T) := by simpa using heq
          rw [e0] at this
          exact decide_eq_decide.mp this
      · obtain ⟨b4, b5, b6, b7, rfl, sm7, hno7⟩ := p
        rw [List.length_map, List.take_length] at hno7
        refine ⟨_, _, _, _, _, rfl, sm.trans (s6.trans sm7), fun l' hl' m hm bad => ?_⟩
        rw [take_get_succ hl] at hl'
        rcases List.mem_append.mp hl' with h | h
        · exact hno l' h m hm bad
        · rw [List.mem_singleton.mp h] at bad ⊢
          exact hno7 m ((hnm m).mpr hm) bad
    · obtain ⟨b3, b4, b5, b6, b7, rfl, sm, hno⟩ := p
      rw [List.length_map, List.take_length] at hno
      exact (must_hit hEO ro ok sml hno).elim
end
end Rg

end
section
set_option Elab.async false
set_option linter.all false
set_option maxRecDepth 100000
set_option maxHeartbeats 4000000
namespace Rg
open PySem PySem.Spec PyProof.Rows L2
/-! ### the bag: a list that only _law_pull writes -/
def bagL (c : Addr) (p : Nat) (r s : Int) : List V := [.ref c, .int p, .int r, .int s]
def BagB (r s : Int) : Prop := 0 ≤ r ∧ 0 ≤ s ∧ s < 2147483629
def BagO (b c : Addr) : HO := .ext fun h => ∃ (p : Nat) (r s : Int) (its : List Value) (n : Nat), BagB r s ∧ Vals (bagL c p r s) its ∧ h.get? b = some { cls := .type "list", data := .seq its.toArray n }
/-- what stands at b is a bag -/
def BagAt (H : Hp) (b : Addr) : Prop := ∃ (c : Addr) (ns : List Int), H b = some (BagO b c) ∧ H c = some (.lst (ns.map V.int))
theorem BagAt.same {H H' : Hp} {b : Addr} (e : Same H H') (h : BagAt H b) : BagAt H' b := by
  obtain ⟨c, ns, h1, h2⟩ := h
  exact ⟨c, ns, e _ _ h1, e _ _ h2⟩
section
variable {X : Cx} {pins : List (Addr × Obj)} {σ : L2.St} {H : Hp} {s : Shared}
theorem bag_open {b c : Addr} (I : Inv X pins σ H s) (h : H b = some (BagO b c)) : ∃ (p : Nat) (r sd : Int), BagB r sd ∧ Inv X pins σ (upd H b (.lst (bagL c p r sd))) s := by
  obtain ⟨⟨p, r, sd, its, n, hb, hv, e⟩, _⟩ := I.hok b _ h
  refine ⟨p, r, sd, hb, I.write (x := b) (e := b) (t' := s.toks) (h' := s.heap) (by rw [h]; trivial) (.inl rfl) (fun _ _ _ q => q) ⟨_, e⟩ ⟨?_, its, n, hv, e⟩⟩
  show 4 ≤ sizeLine
  decide
theorem bag_close {b c : Addr} {p : Nat} {r sd : Int} (I : Inv X pins σ H s) (h : H b = some (.lst (bagL c p r sd))) (hb : BagB r sd) : Inv X pins σ (upd H b (BagO b c)) s := by
  obtain ⟨_, its, n, hv, e⟩ := I.hok b _ h
  refine I.write (x := b) (e := b) (t' := s.toks) (h' := s.heap) (by rw [h]; trivial) (.inl rfl) (fun _ _ _ q => q) ⟨_, e⟩ ⟨⟨p, r, sd, its, n, hb, hv, e⟩, ⟨_, e⟩, ?_⟩
  rintro h1 h2 ⟨p', r', s', its', n', hb', hv', e'⟩ k
  exact ⟨p', r', s', its', n', hb', hv', k _ e'⟩
def Cl (b c : Addr) (N : Hp → Prop) : Hp → Prop := fun H => ∃ (p : Nat) (r sd : Int), BagB r sd ∧ H b = some (.lst (bagL c p r sd)) ∧ N (upd H b (BagO b c))
def tBag (t : TS) : TS := fun D σ H => ∃ b c, H b = some (BagO b c) ∧ ∀ (p : Nat) (r sd : Int), BagB r sd → t { nx := fun σ' => Cl b c (D.nx σ'), rt := fun v => Cl b c (D.rt v), bk := fun σ' => Cl b c (D.bk σ'), ct := fun σ' => Cl b c (D.ct σ') } σ (upd H b (.lst (bagL c p r sd)))
theorem pss_bag {st : List Stmt} {t : TS} (h : PSs X st t) : PSs X st (tBag t) := by
  refine ⟨fun pins s σ H D I hw => ?_⟩
  obtain ⟨b, c, hb, hw⟩ := hw
  obtain ⟨p, r, sd, bb, I1⟩ := bag_open I hb
  refine thn (h.run pins s σ _ _ I1 (hw p r sd bb)) fun f s1 q => ?_
  cases f with
  | next => obtain ⟨σ', H', I2, p', r', sd', b', e', q⟩ := q; exact ⟨σ', _, bag_close I2 e' b', q⟩
  | brk => obtain ⟨σ', H', I2, p', r', sd', b', e', q⟩ := q; exact ⟨σ', _, bag_close I2 e' b', q⟩
  | cont => obtain ⟨σ', H', I2, p', r', sd', b', e', q⟩ := q; exact ⟨σ', _, bag_close I2 e' b', q⟩
  | ret v => obtain ⟨x, σ', H', I2, rv, p', r', sd', b', e', q⟩ := q; exact ⟨x, σ', _, bag_close I2 e' b', rv, q⟩
/-- a new list is a bag -/
def tMkBag (te : TE) : TE := fun σ H Q => te σ H fun v H' => ∃ (b c : Addr) (p : Nat) (r sd : Int), v = .ref b ∧ BagB r sd ∧ H' b = some (.lst (bagL c p r sd)) ∧ Q v (upd H' b (BagO b c))
theorem pe_mkBag {e : Expr} {t : TE} (h : PE X e t) : PE X e (tMkBag t) := by
  refine ⟨fun pins s σ H Q I hw => thn (h.run pins s σ H _ I hw) fun v s1 q => ?_⟩
  obtain ⟨x, H', I2, r, b, c, p, rr, sd, rfl, hb, e, q⟩ := q
  exact ⟨_, _, bag_close I2 e hb, r, q⟩
end
section
variable {P : Program} {w : World} {K : PySem.W.Frag} {mg : Str → Option Value} {base : Heap}
/-! _law_pull -/
def spPull : Sp := fun vs H Q _ => ∃ (b : Addr) (many : Nat), vs = [.ref b, .int many] ∧ BagAt H b ∧ 1 ≤ many ∧ many ≤ 1000 ∧ ∀ (r : Nat) (H' : Hp), Same H H' → r < many → Q (.int r) H'
theorem sc_pull : FnScope ["_law_bag_here", "_law_many", "_law_cell", "_law_digit"] ["_law_bag_here", "_law_many"] (defScope (top 46)) := ⟨rfl, rfl, rfl, by decide +kernel, rfl, by decide +kernel, by decide +kernel⟩
theorem same_bag {H H' : Hp} {b c : Addr} (h : H b = some (BagO b c)) (k : ∀ a o, a ≠ b → H a = some o → H' a = some o) : Same H (upd H' b (BagO b c)) := fun a o e => by
  by_cases q : a = b
  · subst q
    rw [upd_same, ← h]
    exact e
  · rw [upd_ne q]
    exact k a o q e
theorem c_pull {f : Addr} {fd : FuncData} (D : Df K mg "_law_pull" (top 46) f fd) (B : Bl mg) : C8.Cal P w K mg base 1 "_law_pull" spPull [] := by
  refine cal_of D (fun _ _ _ _ _ _ us hl => match us, hl with | [_, _], _ => rfl) sc_pull (fun vs H Q E h => ?_) (fun cdv A outer s H vs Q E hr h => ?_)
  · obtain ⟨b, many, rfl, _⟩ := h
    rfl
  · obtain ⟨b, many, rfl, ⟨c, ns, hb, hc⟩, m1, m2, k⟩ := h
    have hcb : c ≠ b := fun e => by
      rw [e, hb] at hc
      cases hc
    obtain ⟨t2, h2, rd2⟩ : ∃ t2, PSs ((cxOf C8.CX0 P w K mg base ["_law_bag_here", "_law_many", "_law_cell", "_law_digit"] "_law_pull" (defScope (top 46)) f cdv A outer s H E).nox) ((defBody (top 46)).drop 1) t2 ∧
        ∀ (D' : Ends) (x : Option V) (p : Nat) (r sd : Int) (H' : Hp), BagB r sd → H' b = some (.lst (bagL c p r sd)) → But b H H' → (∀ (q : Nat) (p' : Nat) (r' sd' : Int) (H'' : Hp), BagB r' sd' → q < many → H'' b = some (.lst (bagL c p' r' sd')) → But b H H'' → D'.rt (.int q) H'') → t2 D' [some (.ref b), some (.int many), x, none] H' := by
      refine ⟨_, pss_cons (ps_if (pt_cmpR op_gt (pe_ix ix_list (pv 0) pe_int (fun _ _ => rfl)) pe_int (nomark _))
        (pss_cons (ps_set (i := 3) sc_pull.nd rfl (Or.inl rfl) (pe_op op_mod (pe_callTy call_int1 (by rfl) B.int (by decide +kernel) (pa_cons (pe_ix ix_list (pv 0) pe_int (fun _ _ => rfl)) pa_nil)) (pv 1)))
        (pss_cons (ps_asg (pe_op op_fdiv (pe_ix ix_list (pv 0) pe_int (fun _ _ => rfl)) (pv 1)) (pg_sub (pv 0) pe_int set_list))
        (pss_one (ps_ret (pv 3))))) pss_nil)
      (pss_cons (ps_asg (pe_op op_mod (pe_callTy call_int1 (by rfl) B.int (by decide +kernel) (pa_cons (pe_op op_add (pe_op op_add (pe_op op_pow (pe_ix ix_list (pv 0) pe_int (fun _ _ => rfl)) pe_int) (pe_op op_mul (pe_ix ix_list (pv 0) pe_int (fun _ _ => rfl)) pe_int)) pe_int) pa_nil)) pe_int) (pg_sub (pv 0) pe_int set_list))
      (pss_one (ps_ret (pe_op op_mod (pe_callTy call_int1 (by rfl) B.int (by decide +kernel) (pa_cons (pe_op op_add (pe_op op_fdiv (pe_ix ix_list (pv 0) pe_int (fun _ _ => rfl)) pe_int) (pe_op op_mul (pe_op op_mod (pe_callTy call_int1 (by rfl) B.int (by decide +kernel) (pa_cons (pe_ix ix_list (pv 0) pe_int (fun _ _ => rfl)) pa_nil)) pe_int) pe_int)) pa_nil)) (pv 1))))), fun D' x p r sd H' bb hb' but fin => ?_⟩
      have mp : (0 : Int) < (many : Int) := by omega
      refine ⟨_, rfl, _, _, _, _, rfl, rfl, SqL.of hb', atI_nat (j := 2) rfl, _, _, rfl, rfl, _, rfl, ite2 (fun h => ?_) fun h => ?_⟩
      · refine ⟨_, rfl, _, _, _, _, rfl, rfl, SqL.of hb', atI_nat (j := 2) rfl, .inl ⟨_, rfl, _, rfl, _, _, rfl, rfl, mp, ?_⟩⟩
        refine ⟨_, rfl, _, _, _, _, rfl, rfl, SqL.of hb', atI_nat (j := 2) rfl, _, rfl, _, _, rfl, rfl, ⟨mp, by omega⟩, ?_⟩
        refine ⟨_, rfl, b, _, _, 2, rfl, rfl, hb', rfl, ?_⟩
        refine ⟨_, rfl, ?_⟩
        have e1 : r % (many : Int) = ((r % (many : Int)).toNat : Int) := (Int.toNat_of_nonneg (Int.emod_nonneg _ (by omega))).symm
        have l1 := Int.emod_lt_of_pos r mp
        have z := fin (r % (many : Int)).toNat p (r / (many : Int)) sd (upd H' b (.lst (bagL c p (r / (many : Int)) sd))) ⟨Int.ediv_nonneg bb.1 (by omega), bb.2⟩ (by omega) upd_same (but.trans But.put)
        rw [← e1] at z
        exact z
      · refine ⟨_, rfl, _, _, _, _, rfl, rfl, SqL.of hb', atI_nat (j := 3) rfl, _, _, rfl, rfl, ⟨by decide, by decide, by have := bb.2; omega⟩, _, rfl, _, _, _, _, rfl, rfl, SqL.of hb', atI_nat (j := 3) rfl, _, _, rfl, rfl, .inr ⟨by decide, by decide⟩, _, _, rfl, rfl, _, _, rfl, rfl, .inl ⟨_, rfl, _, _, rfl, rfl, (by show (0 : Int) < 2147483629; decide), ?_⟩⟩
        refine ⟨_, rfl, b, _, _, 3, rfl, rfl, hb', rfl, ?_⟩
        have s0 : 0 ≤ (sd ^ Int.toNat 3 + sd * 40503 + 1013904223) % 2147483629 := Int.emod_nonneg _ (by decide)
        have s1 : (sd ^ Int.toNat 3 + sd * 40503 + 1013904223) % 2147483629 < 2147483629 := Int.emod_lt_of_pos _ (by decide)
        have hb2 : (upd H' b (.lst (bagL c p r ((sd ^ Int.toNat 3 + sd * 40503 + 1013904223) % 2147483629)))) b = some (.lst (bagL c p r ((sd ^ Int.toNat 3 + sd * 40503 + 1013904223) % 2147483629))) := upd_same
        have fin2 := fun (q : Nat) => fin q p r ((sd ^ Int.toNat 3 + sd * 40503 + 1013904223) % 2147483629) (upd H' b (.lst (bagL c p r ((sd ^ Int.toNat 3 + sd * 40503 + 1013904223) % 2147483629))))
        refine ⟨_, rfl, _, _, _, _, rfl, rfl, SqL.of hb2, atI_nat (j := 3) rfl, _, _, rfl, rfl, ⟨by decide, by decide⟩, _, rfl, _, _, _, _, rfl, rfl, SqL.of hb2, atI_nat (j := 3) rfl, .inl ⟨_, rfl, _, _, rfl, rfl, (by show (0 : Int) < 8209; decide), _, _, rfl, rfl, .inr ⟨by decide, by decide⟩, _, _, rfl, rfl, .inl ⟨_, rfl, _, rfl, _, _, rfl, rfl, mp, ?_⟩⟩⟩
        obtain ⟨sd', esd⟩ : ∃ x, (sd ^ Int.toNat 3 + sd * 40503 + 1013904223) % 2147483629 = x := ⟨_, rfl⟩
        have e1 : (((sd ^ Int.toNat 3 + sd * 40503 + 1013904223) % 2147483629) / 61 + ((sd ^ Int.toNat 3 + sd * 40503 + 1013904223) % 2147483629) % 8209 * 29) % (many : Int) = (((sd' / 61 + sd' % 8209 * 29) % (many : Int)).toNat : Int) := by
          rw [esd]
          exact (Int.toNat_of_nonneg (Int.emod_nonneg _ (by omega))).symm
        have l1 := Int.emod_lt_of_pos (sd' / 61 + sd' % 8209 * 29) mp
        have z := fin2 ((sd' / 61 + sd' % 8209 * 29) % (many : Int)).toNat ⟨bb.1, s0, s1⟩ (by omega) upd_same (but.trans But.put)
        rw [← e1] at z
        exact z
    refine ⟨_, pss_bag (pss_cons (ps_if (pw_and (pt_cmpR op_eq (pe_ix ix_list (pv 0) pe_int (fun _ _ => rfl)) pe_int (nomark _)) (pw_and1 (pt_cmpR op_lt (pe_ix ix_list (pv 0) pe_int (fun _ _ => rfl)) (pe_callB call_len_seq (by rfl) B.len boot_len (pa_cons (pe_ix ix_list (pv 0) pe_int (fun _ _ => rfl)) pa_nil)) (nomark _)))).pt
        (pss_cons (ps_set (i := 2) sc_pull.nd rfl (Or.inl rfl) (pe_ix ix_list (pe_ix ix_list (pv 0) pe_int (fun _ _ => rfl)) (pe_ix ix_list (pv 0) pe_int (fun _ _ => rfl)) (fun _ _ => rfl)))
        (pss_cons (ps_asg (pe_op op_add (pe_ix ix_list (pv 0) pe_int (fun _ _ => rfl)) pe_int) (pg_sub (pv 0) pe_int set_list))
        (pss_one (ps_if (pt_cmpR op_ge (pe_callB call_abs (by rfl) B.abs (by decide +kernel) (pa_cons (pv 2) pa_nil)) (pe_op op_pow pe_int pe_int) (nomark _))
          (pss_one (ps_asg (pe_callB call_abs (by rfl) B.abs (by decide +kernel) (pa_cons (pv 2) pa_nil)) (pg_sub (pv 0) pe_int set_list)))
          (pss_one (ps_asg (pe_op op_mod (pe_callTy call_int1 (by rfl) B.int (by decide +kernel) (pa_cons (pe_op op_add (pe_op op_add (pe_op op_mul (pe_ix ix_list (pv 0) pe_int (fun _ _ => rfl)) pe_int) (pe_op op_mul (pe_op op_mod (pe_callTy call_int1 (by rfl) B.int (by decide +kernel) (pa_cons (pv 2) pa_nil)) pe_int) pe_int)) pe_int) pa_nil)) pe_int) (pg_sub (pv 0) pe_int set_list))))))) pss_nil) h2), ?_⟩
    refine ⟨b, c, hb, fun p r sd bb => ?_⟩
    have hb0 : (upd H b (.lst (bagL c p r sd))) b = some (.lst (bagL c p r sd)) := upd_same
    have hc0 : (upd H b (.lst (bagL c p r sd))) c = some (.lst (ns.map V.int)) := by rw [upd_ne hcb]; exact hc
    have but0 : But b H (upd H b (.lst (bagL c p r sd))) := But.put
    generalize upd H b (.lst (bagL c p r sd)) = H0 at hb0 hc0 but0 ⊢
    have fin : ∀ (q : Nat) (p' : Nat) (r' sd' : Int) (H'' : Hp), BagB r' sd' → q < many → H'' b = some (.lst (bagL c p' r' sd')) → But b H H'' → Cl b c (Q (.int q)) H'' := fun q p' r' sd' H'' b2 hq hb2 but2 => ⟨p', r', sd', b2, hb2, k q _ (same_bag hb fun a o n e => but2 a o n e) hq⟩
    refine ⟨_, rfl, _, _, _, _, rfl, rfl, SqL.of hb0, atI_nat (j := 2) rfl, rfl, _, rfl, ite2 (fun h1 => ?_) fun _ => ?_⟩
    · refine ⟨_, rfl, _, _, _, _, rfl, rfl, SqL.of hb0, atI_nat (j := 1) rfl, _, rfl, _, _, _, _, rfl, rfl, SqL.of hb0, atI_nat (j := 0) rfl, _, _, rfl, .inl (SqL.of hc0), _, _, rfl, rfl, _, rfl, ite2 (fun h => ?_) fun _ => ?_⟩
      · have hp : p < ns.length := by
          have h := of_decide_eq_true h
          rw [List.length_map] at h
          omega
        have hn : (ns.map V.int)[p]? = some (.int ns[p]) := by rw [List.getElem?_map, List.getElem?_eq_getElem hp]; rfl
        generalize ns[p] = n at hn
        refine ⟨_, rfl, _, _, _, _, rfl, rfl, SqL.of hb0, atI_nat (j := 0) rfl, _, rfl, _, _, _, _, rfl, rfl, SqL.of hb0, atI_nat (j := 1) rfl, _, _, _, _, rfl, rfl, SqL.of hc0, atI_nat (j := p) hn, ?_⟩
        refine ⟨_, rfl, _, _, _, _, rfl, rfl, SqL.of hb0, atI_nat (j := 1) rfl, _, _, rfl, rfl, ?_⟩
        refine ⟨_, rfl, b, _, _, 1, rfl, rfl, hb0, rfl, ?_⟩
        have hb1 : (upd H0 b (.lst (bagL c (p + 1) r sd))) b = some (.lst (bagL c (p + 1) r sd)) := upd_same
        have but1 : But b H (upd H0 b (.lst (bagL c (p + 1) r sd))) := but0.trans But.put
        refine ⟨_, rfl, _, rfl, _, _, rfl, rfl, ⟨by decide, by decide, by decide⟩, _, _, rfl, rfl, _, rfl, ite2 (fun h2 => ?_) fun h2 => ?_⟩
        · refine ⟨_, rfl, _, rfl, ?_⟩
          refine ⟨_, rfl, b, _, _, 2, rfl, rfl, hb1, rfl, ?_⟩
          exact rd2 _ _ (p + 1) _ sd _ ⟨by show 0 ≤ (if n < 0 then -n else n); split <;> omega, bb.2⟩ upd_same (but1.trans But.put) fin
        · refine ⟨_, rfl, _, _, _, _, rfl, rfl, SqL.of hb1, atI_nat (j := 3) rfl, _, _, rfl, rfl, .inr ⟨by decide, by decide⟩, _, rfl, .inl ⟨_, rfl, _, _, rfl, rfl, (by show (0 : Int) < 1000000007; decide), _, _, rfl, rfl, .inr ⟨by decide, by decide⟩, _, _, rfl, rfl, _, _, rfl, rfl, .inl ⟨_, rfl, _, _, rfl, rfl, (by show (0 : Int) < 2147483629; decide), ?_⟩⟩⟩
          refine ⟨_, rfl, b, _, _, 3, rfl, rfl, hb1, rfl, ?_⟩
          exact rd2 _ _ (p + 1) r _ _ ⟨bb.1, Int.emod_nonneg _ (by decide), Int.emod_lt_of_pos _ (by decide)⟩ upd_same (but1.trans But.put) fin
      · exact rd2 _ _ p r sd _ bb hb0 but0 fin
    · refine iteF ?_
      exact rd2 _ _ p r sd _ bb hb0 but0 fin
end
end Rg

end
section
set_option Elab.async false
set_option linter.all false
set_option maxRecDepth 100000
set_option maxHeartbeats 4000000
namespace Rg
open PySem PySem.Spec PyProof.Rows L2 LamX
def tKeyB (K : PySem.W.Frag) : TE := tTup (tCons (tCB (rLen K) (tCons (tVar 0) tNil)) (tCons (tVar 0) tNil))
/-- the lambda stands and gives the key -/
theorem lam_key {X : Cx} {pins : List (Addr × Obj)} {H0 : Hp} {f c' : Addr} {pm ctv : Value} {q : Str} {params : Arguments} {body : Expr} {scope : Scope} {tb : TE} (hf : (f, PySem.W.kla_obj "<lambda>" q params body scope [] pm c' ctv) ∈ X.pn ++ pins) (hco : H0 c' = some (CodeO c' q))
    (S : FnScope ["_law_lit"] ["_law_lit"] scope) (hr : Room 2 X.A) (hbind : ∀ u : Value, bindArgs (PySem.W.kla_fn "<lambda>" q params body scope [] pm (.ref c') ctv) ⟨[u], []⟩ = pure [(("_law_lit" : Str), u)])
    (hB : ∀ (A : Around) (s : Shared) (H : Hp) (E : XK), PE (cxOf C8.CX0 X.prog X.w X.K X.mg X.base ["_law_lit"] q scope f (.ref c') A X.stack s H E) body tb)
    (hT : ∀ (l : Lit) (H : Hp) (Q : VK), l.length ≤ 1000 → (∀ p, H p = none → Q (.ref p) (upd H p (.tup [.int l.length, tx l]))) → tb (L2.start ["_law_lit"] [tx l]) H Q) : KeyFn X pins H0 (.ref f) := by
  intro more σ H s l t I sm hl
  have of1 := (I.pin (f, PySem.W.kla_obj "<lambda>" q params body scope [] pm c' ctv) (by
    rcases List.mem_append.mp hf with h | h
    · exact List.mem_append_left _ h
    · exact List.mem_append_right _ (List.mem_append_left _ h))).1
  obtain ⟨⟨oc, vs, tq, hoc, hdc, hvc⟩, _, _⟩ := I.hok c' _ (sm _ _ hco)
  have hr0 : Room 0 X.A.in1.in1 := (show Room 1 X.A.in1 from Room.in1 hr).in1
  have lim : s.heap.NoLimit := I.nolimit
  have rc : codeAny (model X.prog X.w) X.A.in1.in1 (.call (.ref f) ⟨[.str (SX.S l) t], []⟩) (CR C8.CX0 X.stack X.prog X.w H s (fun v H' => ∃ p, v = .ref p ∧ H p = none ∧ H' = upd H p (.tup [.int l.length, tx l])) C8.E0) s := by
    refine PySem.W.kla_callFunE hr0.depth of1 rfl S.co S.gen rfl ⟨c', oc, vs, tq, rfl, hoc, hdc, hvc⟩ ?_
    rw [hbind]
    have hkind : ∀ y ∈ [(("_law_lit" : Str), Value.str (SX.S l) t)], scope.names.lookup y.1 = some .local ∨ (scope.names.lookup y.1 = some .cell ∧ ((cellsFrom (s.heap.objs.size + 1) scope.names []).lookup y.1).isSome = true) := fun y hy => by
      rw [List.mem_singleton.mp hy]
      rcases S.par "_law_lit" (List.Mem.head _) with q | q
      · exact .inl q
      · exact .inr ⟨q, PySem.W.cellsFrom_some _ _ _ (.inl q)⟩
    refine wpAny_pure (wpAny_newFunctionEnv_cells S.kind hkind fun env he s1 x => ?_)
    subst he
    refine ⟨lim.keeps x.toInCall.keep, ?_⟩
    show codeAny _ _ (.expr body (envOfC q scope s.heap.objs.size f (.ref c'))) _ _
    have J : Inv (cxOf C8.CX0 X.prog X.w X.K X.mg X.base ["_law_lit"] q scope f (.ref c') X.A.in1.in1 X.stack s H C8.E0) [] (L2.start ["_law_lit"] [tx l]) H s1 := inv_start (ps := ["_law_lit"]) (us := [Value.str (SX.S l) t]) S hr0.hd I.env0.in1.in1 rfl (.cons ⟨t, rfl⟩ .nil) x
    refine PySem.W.kla_codeExpr (wpAny_mono ((hB _ _ _ _).run [] s1 _ H (fun v H' => ∃ p, v = .ref p ∧ H p = none ∧ H' = upd H p (.tup [.int l.length, tx l])) J (hT l H _ hl fun p hp => ⟨p, rfl, hp, rfl⟩)) (fun v s' hq => ?_) fun e s' hq => hq)
    obtain ⟨w', H', J', rv, q⟩ := hq
    exact ⟨w', H', J'.os, J'.bare, J'.base, J'.hok, rv, q⟩
  refine wpAny_call (codeAny_mono rc fun r s' hq => ?_)
  cases r with
  | error e => exact hq
  | ok fl =>
    cases fl with
    | ret u => exact I.after hq
    | next => exact False.elim hq
    | brk => exact False.elim hq
    | cont => exact False.elim hq
end Rg

end
section
set_option Elab.async false
set_option linter.all false
set_option maxRecDepth 100000
set_option maxHeartbeats 4000000
namespace Rg
open PySem PySem.Spec PyProof.Rows L2 LamX
/-! ### heaps whose lambda tables may grow -/
structure Sx (T : List (Addr × Str)) (H H' : Hp) : Prop where
  x : ExtN H H'
  t : Tabs T H → Tabs T H'
section
variable {T : List (Addr × Str)}
theorem Sx.refl (H : Hp) : Sx T H H := ⟨ExtN.refl H, id⟩
theorem Sx.trans {H H1 H2 : Hp} (a : Sx T H H1) (b : Sx T H1 H2) : Sx T H H2 := ⟨a.x.trans b.x, fun h => b.t (a.t h)⟩
theorem Sx.of {H H' : Hp} (s : Same H H') : Sx T H H' := ⟨ExtN.of s, fun h => h.ext s⟩
theorem Sx.lst {H H' : Hp} (s : Sx T H H') {a : Addr} {xs : List V} (h : H a = some (.lst xs)) : H' a = some (.lst xs) := s.x _ _ h fun _ e => by cases e
theorem Sx.tup {H H' : Hp} (s : Sx T H H') {a : Addr} {xs : List V} (h : H a = some (.tup xs)) : H' a = some (.tup xs) := s.x _ _ h fun _ e => by cases e
theorem Sx.ins {H H' : Hp} (s : Sx T H H') {a C dx : Addr} {fs : List (Str × V)} (h : H a = some (.ins C dx fs)) : H' a = some (.ins C dx fs) := s.x _ _ h fun _ e => by cases e
theorem Sx.tupS {H H' : Hp} (s : Sx T H H') : TupS H H' := fun _ _ h => s.tup h
theorem Sx.stay {H H' : Hp} (s : Sx T H H') : Stay H H' := ⟨fun _ _ h => s.tup h, fun _ _ h => s.lst h⟩
theorem Sx.bag {H H' : Hp} (s : Sx T H H') {b : Addr} (h : BagAt H b) : BagAt H' b := by
  obtain ⟨c, ns, h1, h2⟩ := h
  exact ⟨c, ns, s.x _ _ h1 (fun _ e => by unfold BagO at e; cases e), s.lst h2⟩
theorem Sx.goal {H H' : Hp} (s : Sx T H H') {C x : Addr} {L : Lit} {T' : List Lit} (h : GoalAt C H x L T') : GoalAt C H' x L T' := by
  obtain ⟨dx, v, t, h1, h2⟩ := h
  exact ⟨dx, v, t, s.ins h1, s.tup h2⟩
theorem Sx.free {H H' : Hp} (s : Sx T H H') {a : Addr} (h : H' a = none) (hT : Tabs T H) : H a = none ∨ ∃ ps, H a = some (.tbl ps) := by
  cases e : H a with
  | none => exact .inl rfl
  | some o =>
    cases o with
    | tbl ps => exact .inr ⟨ps, rfl⟩
    | _ =>
      have := s.x _ _ e fun _ q => by cases q
      rw [h] at this
      cases this
theorem Sx.put {H H' : Hp} {D : Addr} {l : List V} (r : Sx T H H') (n : H D = none) (k : H' D = none ∨ ∃ k, H' D = some (.lst k)) : Sx T H (upd H' D (.lst l)) := by
  refine ⟨fun b o e z => by rw [upd_ne (ne_of_none e n)]; exact r.x b o e z, fun h p hp => ?_⟩
  obtain ⟨ps, a1, a2, a3⟩ := r.t h p hp
  have n1 : p.1 ≠ D := fun e => by
    rw [e] at a1
    rcases k with k | ⟨_, k⟩ <;> rw [k] at a1 <;> cases a1
  refine ⟨ps, by rw [upd_ne n1]; exact a1, a2, fun pos cv hc => ?_⟩
  obtain ⟨c, e, hco⟩ := a3 pos cv hc
  have n2 : c ≠ D := fun e => by
    rw [e] at hco
    rcases k with k | ⟨_, k⟩ <;> rw [k] at hco <;> cases hco
  exact ⟨c, e, by rw [upd_ne n2]; exact hco⟩
theorem sx_ok : RelOk (Sx T) := ⟨Sx.refl, fun a b => a.trans b, fun r e => r.lst e, fun r n k => r.put n k⟩
end
/-- sorted(e, key = the lambda) -/
def tSortLam (K : PySem.W.Frag) (T : List (Addr × Str)) (t : TA) : TE := fun σ H Q => t σ H fun xs H1 => ∃ (a : Addr) (ls : List Lit), xs = [.ref a] ∧ SqL K H1 a (ls.map tx) ∧ (∀ l ∈ ls, l.length ≤ 1000) ∧ ls.length ≤ 1000 ∧ Tabs T H1 ∧
  ∀ (ys : List Lit) (H' : Hp) (p : Addr), ys.Perm ls → ys.Pairwise (fun x y => keyB x y = true) → Sx T H1 H' → H' p = none → Q (.ref p) (upd H' p (.lst (ys.map tx)))
theorem pe_sortLam {X : Cx} {T : List (Addr × Str)} {c P : Addr} {params : Arguments} {body : Expr} {scope : Scope} {lpos p pos kpos : Pos} {e : Expr} {t : TA} {tb : TE} (hg : Gl X "sorted") (hm : X.mg "sorted" = none) (he : PA X [e] t) (TB : TabB X.base X.mg c P) (hcode : X.env.code = .ref c)
    (hmT : (P, X.env.qual ++ "<lambda>") ∈ T) (hu : ∀ p ∈ T, p.1 = P → p.2 = X.env.qual ++ "<lambda>") (hdef : defaultsOf params X.env = ([], [])) (S : FnScope ["_law_lit"] ["_law_lit"] scope) (hr : Room 2 X.A)
    (hcl : cloFrom X.env.cells scope.names [] = []) (hfree : ∀ y ∈ scope.names, y.2 = .free → ∃ c, X.env.cells.lookup y.1 = some c) (hfs : ∀ b, b ∉ frs X.stack → b ≠ X.env.locals ∧ b ∉ X.fs)
    (hbind : ∀ (q : Str) (pm cv ctv u : Value), bindArgs (PySem.W.kla_fn "<lambda>" q params body scope [] pm cv ctv) ⟨[u], []⟩ = pure [(("_law_lit" : Str), u)])
    (hB : ∀ (f c' : Addr) (A : Around) (s : Shared) (H : Hp) (E : XK), PE (cxOf C8.CX0 X.prog X.w X.K X.mg X.base ["_law_lit"] (X.env.qual ++ "<lambda>") scope f (.ref c') A X.stack s H E) body tb)
    (hT : ∀ (l : Lit) (H : Hp) (Q : VK), l.length ≤ 1000 → (∀ p, H p = none → Q (.ref p) (upd H p (.tup [.int l.length, tx l]))) → tb (L2.start ["_law_lit"] [tx l]) H Q)
    (hst : backTo pos (starEach [e] X.env) = [(false, eval e X.env)] := by rfl) (hkw : backToKw pos (keywordEach [⟨some "key", .Lambda params body scope lpos, kpos⟩] X.env) = [(some (Str.ofString "key"), (do let v ← eval (.Lambda params body scope lpos) X.env; standAt pos; pure v))] := by rfl) :
    PE X (.Call (.Name "sorted" p) [e] [⟨some "key", .Lambda params body scope lpos, kpos⟩] pos) (tSortLam X.K T t) := by
  refine ⟨fun pins s σ H Q I h => ?_⟩
  refine wpAny_Call_Name_kw (ld_blt I hg hm PyProof.Rows.boot_sorted ?_ (by decide) (by decide))
  refine PyProof.Rows.callWith_kw (thn (he.run pos pins s σ H _ I h) fun us s1 ⟨vs, H1, I1, r1, q1⟩ => ?_) hst (by rw [hst]; rfl) (by rw [hkw]; rfl) (by rw [hkw]; rfl)
  · obtain ⟨a, ls, rfl, hs, hl, hz, hTb, q⟩ := q1
    obtain rfl := Vals.ref1 r1
    rw [hkw]
    show wpAny _ _ (evalAll [(do let v ← eval (.Lambda params body scope lpos) X.env; standAt pos; pure v)]) _ _ s1
    refine wpAny_evalAll_cons (wpAny_bind (lam_make2 I1 TB hcode hmT hu hTb hdef hfree fun f c' pm ctv H2 s2 I2 eN T2 hf hfn hfr hco => wpAny_bind (wpAny_standAt (wpAny_pure (wpAny_evalAll_nil ?_)))))
    rw [hcl] at hf
    obtain ⟨n1, n2⟩ := hfs f hfr
    have I3 : Inv X ((f, PySem.W.kla_obj "<lambda>" (X.env.qual ++ "<lambda>") params body scope [] pm c' ctv) :: pins) σ H2 s2 := I2.pins_of fun p hp => by
      rcases List.mem_cons.mp hp with e | hp
      · rw [e]
        exact ⟨hf, hfn, n1, n2, fun v z => by cases z⟩
      · exact I2.pin p (List.mem_append_right _ hp)
    have KF : KeyFn X ((f, PySem.W.kla_obj "<lambda>" (X.env.qual ++ "<lambda>") params body scope [] pm c' ctv) :: pins) H2 (.ref f) := lam_key (List.mem_append_right _ (List.Mem.head _)) hco S hr (fun u => hbind _ _ _ _ u) (fun A s H E => hB f c' A s H E) hT
    have sx : Sx T H1 H2 := ⟨eN, fun _ => T2⟩
    refine thn (sortK_call I3 KF (ls := ls) (l := a) ?_ hl hz (Q := Q) (E := X.xe) fun ys H' p pm oy sm hp => q ys H' p pm oy (sx.trans (Sx.of sm)) hp) fun v s3 ⟨y, H', I4, ry, qy⟩ => ⟨y, H', I4.pins_of fun p hp => I4.pin p (List.mem_append_right _ (List.mem_cons_of_mem _ hp)), ry, qy⟩
    rcases hs with (h | ⟨o, h⟩) | h
    · exact .inl (.inl (sx.lst h))
    · exact .inl (.inr ⟨o, sx.x _ _ h fun _ e => by cases e⟩)
    · exact .inr h
end Rg

end
section
set_option Elab.async false
set_option linter.all false
set_option maxRecDepth 100000
set_option maxHeartbeats 4000000
namespace Rg
open PySem PySem.Spec PyProof.Rows L2 LamX
def lamQ : Str := "_law_sets.<locals>.<lambda>"
section
variable {P : Program} {w : World} {K : PySem.W.Frag} {mg : Str → Option Value} {base : Heap}
/-! _law_sets -/
def spLSets (T : List (Addr × Str)) : Sp := fun vs H Q _ => ∃ l : Lit, vs = [tx l] ∧ l.length ≤ 4 ∧ Tabs T H ∧ ∀ H' p, Sx T H H' → H' p = none → Q (.ref p) (upd H' p (.lst ((setsOf l).map tx)))
theorem sc_lsets : FnScope ["_law_lamps", "_law_found", "_law_lamp", "_law_lit"] ["_law_lamps"] (defScope (top 48)) := ⟨rfl, rfl, rfl, by decide +kernel, rfl, by decide +kernel, by decide +kernel⟩
theorem c_lsets {f c Pt : Addr} {fd : FuncData} (D : Df K mg "_law_sets" (top 48) f fd) (B : Bl mg) (hc : fd.code = .ref c) (TB : TabB base mg c Pt) : C8.Cal P w K mg base 3 "_law_sets" (spLSets [(Pt, lamQ)]) [] := by
  have bb := D.fn.bindsN (ps := ["_law_lamps"]) fun _ _ _ _ _ _ us hl => match us, hl with | [_], _ => rfl
  obtain ⟨oc, od, dV, kV, doc, pm, an, cdv, ct, osl, rfl, lk, hcd, dfl, _⟩ := D.fn.ex
  have ec : cdv = .ref c := hc
  subst ec
  refine ⟨f, _, ["_law_lamps"], [], fn_of (k := 2) lk hcd sc_lsets (fun vs H Q E h => ?_) (fun A outer s H vs Q E hr h => ?_), D.mgf, D.fn.kp, bb, .nil⟩
  · obtain ⟨l, rfl, _⟩ := h
    rfl
  · obtain ⟨l, rfl, l4, hTb, k⟩ := h
    refine ⟨_, PSs.nox (pss_cons (ps_set (i := 1) sc_lsets.nd rfl (Or.inl rfl) (pe_lst (pa_cons pe_str pa_nil)))
      (pss_cons (ps_for PassesOwn.never rfl (pi_str (pv 0)) (pg_name (i := 2) sc_lsets.nd rfl (Or.inr rfl))
        (pss_one (ps_set (i := 1) sc_lsets.nd rfl (Or.inl rfl) (pe_op op_cat (pv 1)
          (pe_lc (own := [("_law_lit", 3)]) (g := gName 3) rfl sc_lsets.nd (pi_list (pv 1)) (blkOk_by (own := [("_law_lit", 3)]) (N := ["_law_lamps", "_law_found", "_law_lamp", "_law_lit"]) (sc := defScope (top 48)) (by decide +kernel)) (fun _ _ _ _ _ => pg_name (i := 3) sc_lsets.nd rfl (Or.inl rfl)) (fun _ _ _ _ _ => pts_nil)
            (fun _ _ _ _ _ => pe_op op_add_str (pv 3) (pv 2)))))))
      (pss_one (ps_ret (pe_sortLam (T := [(Pt, lamQ)]) (c := c) (P := Pt) (tb := tKeyB K) (by rfl) B.sorted (pa_cons (pv 1) pa_nil) TB rfl (List.Mem.head _) (fun p hp _ => by rw [List.mem_singleton.mp hp]; rfl) rfl
        ⟨rfl, rfl, rfl, by decide +kernel, rfl, by decide +kernel, by decide +kernel⟩ (hr.mono (by decide)) (by rfl) (fun y hy e => ((show ∀ z ∈ [((Str.ofString "_law_lit"), NameKind.local), (Str.ofString "len", NameKind.globalImplicit)], z.2 ≠ NameKind.free by decide +kernel) y hy e).elim) (fun b hb => ?_) (fun _ _ _ _ _ => rfl) (fun f c' A s H E => ?_) (fun l H Q hl q => ?_)))))), ?_⟩
    · have hb : b ∉ s.heap.objs.size :: frs outer := hb
      exact ⟨fun e => hb (by rw [e]; exact List.Mem.head _), fun e => hb (List.mem_cons_of_mem _ e)⟩
    · exact pe_tup (pa_cons (pe_callB call_len (by rfl) B.len boot_len (pa_cons (pv 0) pa_nil)) (pa_cons (pv 0) pa_nil))
    · refine ⟨_, rfl, _, l.length, rfl, ⟨by rw [SX.S_len]; exact small (by omega), (SX.S_len l).symm⟩, _, rfl, (by show 2 ≤ sizeLine; decide), fun p hp => q p hp⟩
    refine ⟨by show 1 ≤ sizeLine; decide, fun a ha => ?_⟩
    refine ⟨_, rfl, _, rfl, ?_⟩
    refine for_it walk_str (fun i σ H' => Same H H' ∧ ∃ a x, σ = [some (tx l), some (V.ref a), x, none] ∧ H' a = some (.lst ((pow (l.take i)).map tx))) ⟨Same.one ha, a, none, rfl, upd_same⟩ (fun _ _ _ _ _ => trivial) (fun i x σ H1 H2 hi p y => ?_) fun σ H1 p => ?_
    · obtain ⟨sm, a, x0, rfl, ha⟩ := p
      obtain ⟨rfl, c, hc, rfl⟩ := y
      rw [S_size] at hi
      have hc' : l[i]? = some c := S_at.mp hc
      have hpl : (pow (l.take i)).length ≤ 16 := by
        rw [pow_len _ _ rfl]
        have : (l.take i).length ≤ 4 := by rw [List.length_take]; omega
        exact Nat.le_trans (Nat.pow_le_pow_right (by decide) this) (by decide)
      have hts : l.take (i + 1) = l.take i ++ [c] := by
        obtain ⟨q, e⟩ := List.getElem?_eq_some_iff.mp hc'
        rw [List.take_succ_eq_append_getElem q, e]
      refine ⟨_, rfl, _, rfl, a, rfl, ⟨_, SqL.of ha⟩, fun D hD => ?_⟩
      refine lc_val same_ok walk_list (fun j => ((pow (l.take i)).take j).map fun y => tx (y ++ [c])) hD rfl (fun j hj => ?_) (fun H3 r => SqL.of (r _ _ ha)) (fun N j x H3 H4 hj r y keep skip => ?_) fun H3 r hDl => ?_
      · exact Nat.lt_of_le_of_lt (m_take_len _ _ _) (small' (by omega))
      · obtain ⟨rfl, hx⟩ := y
        rw [List.getElem?_map] at hx
        cases hy : (pow (l.take i))[j]? with
        | none => rw [hy] at hx; cases hx
        | some y =>
          rw [hy] at hx
          have hx : some (tx y) = some x := hx
          cases hx
          have hyl : y.length ≤ 4 := by
            have := (mem_pow.mp (List.mem_of_getElem? hy)).length_le
            rw [List.length_take] at this
            omega
          refine ⟨rfl, yes ?_⟩
          refine ⟨_, rfl, _, rfl, SX.S y, ⟨#[c]⟩, rfl, rfl, by rw [SX.S_len]; exact small (by show y.length + 1 ≤ _; omega), ?_⟩
          have e1 : SX.S y ++ (⟨#[c]⟩ : Str) = SX.S (y ++ [c]) := SX.S_cat y [c]
          rw [e1]
          exact keep _ _ (Same.refl _) (map_take_succ hy)
      · rw [List.length_map, List.take_length] at hDl
        refine ⟨a, D, (pow (l.take i)).map tx, (pow (l.take i)).map fun y => tx (y ++ [c]), rfl, rfl, r _ _ ha, hDl, small (by rw [List.length_map, List.length_map]; omega), fun a2 ha2 => ?_⟩
        refine ⟨(sm.trans r).trans (Same.one ha2), a2, _, rfl, ?_⟩
        rw [upd_same, hts, pow_snoc, List.map_append, List.map_map]
        rfl
    · obtain ⟨sm, a, x0, rfl, ha⟩ := p
      rw [S_size, List.take_length] at ha
      have hpl : (pow l).length ≤ 16 := by
        rw [pow_len _ _ rfl]
        exact Nat.le_trans (Nat.pow_le_pow_right (by decide) l4) (by decide)
      refine ⟨_, rfl, a, pow l, rfl, SqL.of ha, fun y hy => ?_, by omega, hTb.ext sm, fun ys H' p py oy sx hp => ?_⟩
      · have := (mem_pow.mp hy).length_le
        omega
      · rw [setsOf_unique py oy]
        exact k _ p ((Sx.of sm).trans sx) hp
end
end Rg

end
section
set_option Elab.async false
set_option linter.all false
set_option maxRecDepth 100000
set_option maxHeartbeats 4000000
namespace Rg
open PySem PySem.Spec PyProof.Rows L2 LamX
def szB : Nat → Nat
  | 0 => 1
  | m + 1 => 1 + (if m = 1 then 4 else 3) * szB m
section
variable {P : Program} {w : World} {K : PySem.W.Frag} {mg : Str → Option Value} {base : Heap}
/-! _law_bag -/
def spBag (K : PySem.W.Frag) : Sp := fun vs H Q _ => ∃ (a : Addr) (ns : List Int), vs = [.ref a] ∧ SqL K H a (ns.map V.int) ∧ ∀ (b : Addr) (H' : Hp), Same H H' → BagAt H' b → Q (.ref b) H'
theorem sc_bag : FnScope ["_law_script"] ["_law_script"] (defScope (top 45)) := ⟨rfl, rfl, rfl, by decide +kernel, rfl, by decide +kernel, by decide +kernel⟩
theorem c_bag {f : Addr} {fd : FuncData} (D : Df K mg "_law_bag" (top 45) f fd) (B : Bl mg) : C8.Cal P w K mg base 1 "_law_bag" (spBag K) [] := by
  refine cal_of D (fun _ _ _ _ _ _ us hl => match us, hl with | [_], _ => rfl) sc_bag (fun vs H Q E h => ?_) (fun cdv A outer s H vs Q E hr h => ?_)
  · obtain ⟨a, ns, rfl, _⟩ := h
    rfl
  · obtain ⟨a, ns, rfl, ha, k⟩ := h
    refine ⟨_, pss_one (ps_ret (pe_mkBag (pe_lst (pa_cons (pe_callTy call_list_of (by rfl) B.list (by decide +kernel) (pa_cons (pe_slice sl_list (pv 0) po_none (po_some pe_int)) pa_nil)) (pa_cons pe_int (pa_cons pe_int (pa_cons pe_int pa_nil))))))), ?_⟩
    refine ⟨_, rfl, 63, rfl, a, _, rfl, ha, fun p hp => ?_⟩
    obtain ⟨ns', ens⟩ : ∃ ns' : List Int, cutV (ns.map V.int) none (some 63) = ns'.map V.int := ⟨(ns.drop (HT.sIx (ns.map V.int).length 0 none)).take (HT.sIx (ns.map V.int).length (ns.map V.int).length (some 63) - HT.sIx (ns.map V.int).length 0 none), by unfold cutV; rw [List.map_take, List.map_drop]⟩
    rw [ens]
    refine ⟨p, _, rfl, .inl (SqL.of upd_same), fun c hc => ⟨by show 4 ≤ sizeLine; decide, fun b hb => ?_⟩⟩
    have hcb : c ≠ b := ne_of_none upd_same hb
    have s1 : Same H (upd (upd H p (.lst (ns'.map V.int))) c (.lst (ns'.map V.int))) := (Same.one hp).trans (Same.one hc)
    have hc1 : (upd (upd H p (.lst (ns'.map V.int))) c (.lst (ns'.map V.int))) c = some (.lst (ns'.map V.int)) := upd_same
    generalize upd (upd H p (.lst (ns'.map V.int))) c (.lst (ns'.map V.int)) = H1 at s1 hc1 hb ⊢
    refine ⟨b, c, 0, 0, 5601, rfl, ⟨by decide, by decide, by decide⟩, upd_same, k b _ (s1.trans (Same.put (Same.one hb) hb)) ⟨c, ns', upd_same, ?_⟩⟩
    rw [upd_ne hcb, upd_ne hcb]
    exact hc1
/-! _law_of -/
def spOf : Sp := fun vs H Q _ => ∃ (b : Addr) (x : V), vs = [.ref b, x] ∧ BagAt H b ∧ ((∃ L : Lit, x = tx L ∧ 1 ≤ L.length ∧ L.length ≤ 26 ∧ ∀ (c : Nat) (H' : Hp), Same H H' → c ∈ L → Q (.str ⟨#[c]⟩) H') ∨
  (∃ (a : Addr) (xs : List V), x = .ref a ∧ H a = some (.lst xs) ∧ 1 ≤ xs.length ∧ xs.length ≤ 1000 ∧ ∀ (y : V) (H' : Hp), Same H H' → y ∈ xs → Q y H'))
theorem sc_of : FnScope ["_law_bag_here", "_law_some"] ["_law_bag_here", "_law_some"] (defScope (top 47)) := ⟨rfl, rfl, rfl, by decide +kernel, rfl, by decide +kernel, by decide +kernel⟩
theorem callR_or {X : Cx} {f : Value} {r r' : List V → Hp → VK → Prop} (h : CallR X f r) (h' : CallR X f r') : CallR X f (fun vs H Q => r vs H Q ∨ r' vs H Q) := by
  intro pins s σ H vs us Q I rv q
  rcases q with q | q
  · exact h pins s σ H vs us Q I rv q
  · exact h' pins s σ H vs us Q I rv q
theorem c_of {f : Addr} {fd : FuncData} (D : Df K mg "_law_of" (top 47) f fd) (B : Bl mg) (c1 : C8.Cal P w K mg base 1 "_law_pull" spPull []) : C8.Cal P w K mg base 2 "_law_of" spOf [] := by
  refine cal_of D (fun _ _ _ _ _ _ us hl => match us, hl with | [_, _], _ => rfl) sc_of (fun vs H Q E h => ?_) (fun cdv A outer s H vs Q E hr h => ?_)
  · obtain ⟨b, x, rfl, _⟩ := h
    rfl
  · obtain ⟨b, x, rfl, hb, h⟩ := h
    refine ⟨_, pss_one (ps_ret (pe_ix (IxR.or ix_list ix_str) (pv 1) (C8.pe_c c1 hr (by decide) (by rfl) (pa_cons (pv 0) (pa_cons (pe_callB (callR_or call_len_seq call_len) (by rfl) B.len boot_len (pa_cons (pv 1) pa_nil)) pa_nil))) (fun _ _ => rfl))), ?_⟩
    rcases h with ⟨L, rfl, l1, l2, k⟩ | ⟨a, xs, rfl, ha, l1, l2, k⟩
    · refine ⟨_, rfl, _, rfl, _, rfl, .inr ⟨_, L.length, rfl, ⟨by rw [SX.S_len]; exact small (by omega), (SX.S_len L).symm⟩, b, L.length, rfl, hb, l1, by omega, fun r H' s1 hr => ?_⟩⟩
      have e : (SX.S L).cps.toList[r]? = some L[r] := by
        show L.toArray.toList[r]? = _
        rw [List.toList_toArray, List.getElem?_eq_getElem hr]
      exact .inr ⟨_, _, _, rfl, rfl, by rw [SX.S_len]; exact small (by omega), atI_nat (j := r) e, k _ _ s1 (List.getElem_mem hr)⟩
    · refine ⟨_, rfl, _, rfl, _, rfl, .inl ⟨_, _, rfl, .inl (SqL.of ha), b, xs.length, rfl, hb, l1, l2, fun r H' s1 hr => ?_⟩⟩
      exact .inl ⟨_, _, _, _, rfl, rfl, SqL.of (s1 _ _ ha), atI_nat (j := r) (List.getElem?_eq_getElem hr), k _ _ s1 (List.getElem_mem hr)⟩
/-! _law_lits -/
def spLits : Sp := fun vs H Q _ => ∃ (b : Addr) (L : Lit), vs = [.ref b, tx L] ∧ BagAt H b ∧ L.length ≤ 26 ∧ ∀ (l : Lit) (H' : Hp), Same H H' → l.Sublist L → Q (tx l) H'
theorem sc_lits : FnScope ["_law_bag_here", "_law_lamps", "_law_lamp"] ["_law_bag_here", "_law_lamps"] (defScope (top 53)) := ⟨rfl, rfl, rfl, by decide +kernel, rfl, by decide +kernel, by decide +kernel⟩
theorem c_lits {f : Addr} {fd : FuncData} (D : Df K mg "_law_lits" (top 53) f fd) (B : Bl mg) (c1 : C8.Cal P w K mg base 1 "_law_pull" spPull []) : C8.Cal P w K mg base 2 "_law_lits" spLits [] := by
  refine cal_of D (fun _ _ _ _ _ _ us hl => match us, hl with | [_, _], _ => rfl) sc_lits (fun vs H Q E h => ?_) (fun cdv A outer s H vs Q E hr h => ?_)
  · obtain ⟨b, x, rfl, _⟩ := h
    rfl
  · obtain ⟨b, L, rfl, hb, hL, k⟩ := h
    refine ⟨_, pss_one (ps_ret (pe_join pe_str
      (pe_lc (own := [("_law_lamp", 2)]) (g := gName 2) rfl sc_lits.nd (pi_str (pv 1)) (blkOk_by (own := [("_law_lamp", 2)]) (N := ["_law_bag_here", "_law_lamps", "_law_lamp"]) (sc := defScope (top 53)) (by decide +kernel))
        (fun _ _ _ _ _ => pg_name (i := 2) sc_lits.nd rfl (Or.inl rfl)) (fun _ _ _ _ _ => pts_one (pt_cmpR op_eq (C8.pe_c c1 hr (by decide) (by rfl) (pa_cons (pv 0) (pa_cons pe_int pa_nil))) pe_int (nomark _))) (fun _ _ _ _ _ => pv 2)))), ?_⟩
    refine ⟨⟨_, rfl⟩, _, rfl, _, rfl, fun D hD => ?_⟩
    refine lc_it walk_str (fun i H' => Same H H' ∧ ∃ l : Lit, l.Sublist (L.take i) ∧ H' D = some (.lst (l.map fun c => V.str ⟨#[c]⟩))) ⟨Same.one hD, [], List.nil_sublist _, upd_same⟩ (fun _ _ _ _ => trivial) (fun i x H1 H2 hi p y => ?_) fun H1 p => ?_
    · obtain ⟨rfl, c, hc, rfl⟩ := y
      obtain ⟨sm, l, hl, hDl⟩ := p
      rw [S_size] at hi
      have hc' : L[i]? = some c := S_at.mp hc
      have hll := hl.length_le
      rw [List.length_take] at hll
      refine ⟨rfl, ?_⟩
      refine ⟨_, rfl, b, 2, rfl, hb.same sm, by decide, by decide, fun r H3 s3 _ => ?_⟩
      refine ⟨rfl, _, rfl, ite2 (fun h => ?_) fun h => ?_⟩
      · refine ⟨_, rfl, _, s3 _ _ hDl, by rw [List.length_map]; exact small' (by omega), Same.put (sm.trans s3) hD, l ++ [c], ?_, ?_⟩
        · rw [take_get_succ hc']
          exact hl.append (List.Sublist.refl _)
        · rw [upd_same, List.map_append]
          rfl
      · exact ⟨sm.trans s3, l, hl.trans (by rw [take_get_succ hc']; exact List.sublist_append_left _ _), s3 _ _ hDl⟩
    · obtain ⟨sm, l, hl, hDl⟩ := p
      have hl2 : l.Sublist L := hl.trans (List.take_sublist _ _)
      have hll := hl2.length_le
      refine ⟨_, D, l.map fun c => (⟨#[c]⟩ : Str), rfl, rfl, .inl (SqL.of (by rw [hDl, List.map_map]; rfl)), ?_, ?_⟩
      · have h2 : ∀ l : List Nat, ((l.map fun c => (⟨#[c]⟩ : Str)).map (·.length)).sum = l.length := fun l => by
          rw [List.map_map]
          exact (sum_const _ 1 l fun _ _ => rfl).trans (Nat.mul_one _)
        rw [h2]
        have h4 : (Str.ofString "").length = 0 := rfl
        rw [h4]
        omega
      · rw [join_signs]
        exact k _ _ sm hl2
end
end Rg

end
section
set_option Elab.async false
set_option linter.all false
set_option maxRecDepth 100000
set_option maxHeartbeats 4000000
namespace Rg
open PySem PySem.Spec PyProof.Rows L2 LamX
section
variable {P : Program} {w : World} {K : PySem.W.Frag} {mg : Str → Option Value} {base : Heap}
/-! _law_sentence -/
def spSent : Nat → Sp
  | 0 => fun _ _ _ _ => False
  | m + 1 => fun vs H Q _ => ∃ (b : Addr) (L : Lit), vs = [.ref b, tx L, .int m] ∧ BagAt H b ∧ 1 ≤ L.length ∧ L.length ≤ 26 ∧ m ≤ 2 ∧ ∀ (v : V) (s : Sen) (H' : Hp), Same H H' → SenAt H' L m v s → szS m s ≤ szB m → Q v H'
theorem sc_sent : FnScope ["_law_bag_here", "_law_lamps", "_law_deep", "_law_way", "_law_word", "_law_many", "_law_k"] ["_law_bag_here", "_law_lamps", "_law_deep"] (defScope (top 54)) := ⟨rfl, rfl, rfl, by decide +kernel, rfl, by decide +kernel, by decide +kernel⟩
theorem szLit (m : Nat) (c : Nat) : szS m (.lit c) = 1 := by cases m <;> rfl
theorem szLeast (m : Nat) (k : Int) (l : Lit) : szS m (.least k l) = 1 := by cases m <;> rfl
theorem szSets (m : Nat) (ls : List Lit) : szS m (.sets ls) = 1 := by cases m <;> rfl
theorem szB_pos (m : Nat) : 1 ≤ szB m := by cases m <;> simp [szB]
theorem pe_ifC {X : Cx} {test : Expr} {tt : TT} {i j : Int} {k1 k2 : Nat} {p1 p2 pos : Pos} (ht : PT X test tt) : PE X (.IfExp test (.Constant (.int i) k1 p1) (.Constant (.int j) k2 p2) pos) (fun σ H Q => tt σ H fun b H1 => Q (.int (if b = true then i else j)) H1) := by
  have h0 : PE X (.IfExp test (.Constant (.int i) k1 p1) (.Constant (.int j) k2 p2) pos) _ := pe_ifExp ht pe_int pe_int
  refine ⟨fun pins s σ H Q I h => h0.run pins s σ H Q I ?_⟩
  have e : (fun (b : Bool) (H1 : Hp) => Q (.int (if b = true then i else j)) H1) = (fun b H1 => if b = true then Q (.int i) H1 else Q (.int j) H1) := by
    funext b H1
    cases b <;> rfl
  have h2 : tt σ H (fun b H1 => if b = true then Q (.int i) H1 else Q (.int j) H1) := e ▸ h
  exact h2
theorem way_if (m : Nat) : (if decide ((0 : Int) < (m : Int)) = true then (7 : Int) else 3) = ((if m = 0 then 3 else 7 : Nat) : Int) := by
  by_cases e : m = 0
  · rw [if_pos e, if_neg (by subst e; decide)]
    rfl
  · rw [if_neg e, if_pos (decide_eq_true (by omega))]
    rfl
theorem way_if2 (m : Nat) : (if decide (V.int (m : Int) = V.int 2) = true then (3 : Int) else 2) = ((if m = 2 then 3 else 2 : Nat) : Int) := by
  by_cases e : m = 2
  · rw [if_pos e, if_pos (decide_eq_true (by rw [e]; rfl))]
    rfl
  · rw [if_neg e, if_neg (by simp; omega)]
    rfl
theorem sum_le {ss : List Sen} {n B : Nat} (h : ∀ s ∈ ss, szS n s ≤ B) : (ss.map fun s => szS n s).sum ≤ ss.length * B := by
  induction ss with
  | nil => simp
  | cons s ss ih =>
    have a := h s List.mem_cons_self
    have b := ih fun s hs => h s (List.mem_cons_of_mem _ hs)
    rw [List.map_cons, List.sum_cons, List.length_cons, Nat.succ_mul]
    omega
theorem c_sent {f : Addr} {fd : FuncData} (D : Df K mg "_law_sentence" (top 54) f fd) (B : Bl mg) (c1 : C8.Cal P w K mg base 1 "_law_pull" spPull []) (c2 : C8.Cal P w K mg base 2 "_law_of" spOf []) (c3 : C8.Cal P w K mg base 2 "_law_lits" spLits []) : ∀ m, C8.Cal P w K mg base (m + 3) "_law_sentence" (spSent m) []
  | 0 => cal_none (ps := ["_law_bag_here", "_law_lamps", "_law_deep"]) D (fun _ _ _ _ _ _ us hl => match us, hl with | [_, _, _], _ => rfl)
  | m + 1 => by
    have cr := c_sent D B c1 c2 c3 m
    refine cal_of D (fun _ _ _ _ _ _ us hl => match us, hl with | [_, _, _], _ => rfl) sc_sent (fun vs H Q E h => ?_) (fun cdv A outer s H vs Q E hr h => ?_)
    · obtain ⟨b, L, rfl, _⟩ := h
      rfl
    · obtain ⟨b, L, rfl, hb, l1, l2, hm, k⟩ := h
      have hl1 : 1 ≤ m + 3 := by omega
      have hl2 : 2 ≤ m + 3 := by omega
      refine ⟨_, pss_cons (ps_set (i := 3) sc_sent.nd rfl (Or.inl rfl) (C8.pe_c c1 hr hl1 (by rfl) (pa_cons (pv 0) (pa_cons (pe_ifC (pt_cmpR op_gt (pv 2) pe_int (nomark _))) pa_nil))))
        (pss_cons (ps_if (pt_cmpR op_eq (pv 3) pe_int (nomark _)) (pss_one (ps_ret (pe_tup (pa_cons pe_str (pa_cons (C8.pe_c c2 hr hl2 (by rfl) (pa_cons (pv 0) (pa_cons (pv 1) pa_nil))) pa_nil))))) pss_nil)
        (pss_cons (ps_if (pt_cmpR op_eq (pv 3) pe_int (nomark _)) (pss_one (ps_ret (pe_tup (pa_cons pe_str (pa_cons (pe_op op_add pe_int (C8.pe_c c1 hr hl1 (by rfl) (pa_cons (pv 0) (pa_cons pe_int pa_nil)))) (pa_cons (C8.pe_c c3 hr hl2 (by rfl) (pa_cons (pv 0) (pa_cons (pv 1) pa_nil))) pa_nil)))))) pss_nil)
        (pss_cons (ps_if (pt_cmpR op_eq (pv 3) pe_int (nomark _)) (pss_one (ps_ret (pe_op op_catT (pe_tup (pa_cons pe_str pa_nil)) (pe_callTy call_tuple_of (by rfl) B.tuple (by decide +kernel) (pa_cons
            (pe_lc (own := [("_law_k", 6)]) (g := gName 6) rfl sc_sent.nd (pi_range1 (by rfl) B.range (pa_cons (C8.pe_c c1 hr hl1 (by rfl) (pa_cons (pv 0) (pa_cons pe_int pa_nil))) pa_nil)) (blkOk_by (own := [("_law_k", 6)]) (N := ["_law_bag_here", "_law_lamps", "_law_deep", "_law_way", "_law_word", "_law_many", "_law_k"]) (sc := defScope (top 54)) (by decide +kernel))
              (fun _ _ _ _ _ => pg_name (i := 6) sc_sent.nd rfl (Or.inl rfl)) (fun _ _ _ _ _ => pts_nil) (fun _ _ _ _ _ => C8.pe_c c3 hr hl2 (by rfl) (pa_cons (pv 0) (pa_cons (pv 1) pa_nil)))) pa_nil))))) pss_nil)
        (pss_cons (ps_if (pt_cmpR op_eq (pv 3) pe_int (nomark _)) (pss_one (ps_ret (pe_tup (pa_cons pe_str (pa_cons (C8.pe_c cr hr (Nat.le_refl _) (by rfl) (pa_cons (pv 0) (pa_cons (pv 1) (pa_cons (pe_op op_sub (pv 2) pe_int) pa_nil)))) pa_nil))))) pss_nil)
        (pss_cons (ps_par (i := 4) (j := 5) rfl sc_sent.nd rfl rfl (by decide) rfl rfl (pa_cons (C8.pe_c c2 hr hl2 (by rfl) (pa_cons (pv 0) (pa_cons (pe_lst (pa_cons pe_str (pa_cons pe_str pa_nil))) pa_nil))) (pa_cons (pe_op op_add pe_int (C8.pe_c c1 hr hl1 (by rfl) (pa_cons (pv 0) (pa_cons (pe_ifC (pt_cmpR op_eq (pv 2) pe_int (nomark _))) pa_nil)))) pa_nil)) rfl)
        (pss_one (ps_ret (pe_op op_catT (pe_tup (pa_cons (pv 4) pa_nil)) (pe_callTy call_tuple_of (by rfl) B.tuple (by decide +kernel) (pa_cons
            (pe_lc (own := [("_law_k", 6)]) (g := gName 6) rfl sc_sent.nd (pi_range1 (by rfl) B.range (pa_cons (pv 5) pa_nil)) (blkOk_by (own := [("_law_k", 6)]) (N := ["_law_bag_here", "_law_lamps", "_law_deep", "_law_way", "_law_word", "_law_many", "_law_k"]) (sc := defScope (top 54)) (by decide +kernel))
              (fun _ _ _ _ _ => pg_name (i := 6) sc_sent.nd rfl (Or.inl rfl)) (fun _ _ _ _ _ => pts_nil) (fun _ _ _ _ _ => C8.pe_c cr hr (Nat.le_refl _) (by rfl) (pa_cons (pv 0) (pa_cons (pv 1) (pa_cons (pe_op op_sub (pv 2) pe_int) pa_nil))))) pa_nil)))))))))), ?_⟩
      have pB := szB_pos m
      refine ⟨_, rfl, _, rfl, _, _, rfl, rfl, _, rfl, b, if m = 0 then 3 else 7, (by rw [way_if]; rfl), hb, by split <;> decide, by split <;> decide, fun r H1 s1 hrr => ?_⟩
      have hr3 : m = 0 → r < 3 := fun e => by
        rw [if_pos e] at hrr
        exact hrr
      have hb1 := hb.same s1
      refine ⟨_, rfl, rfl, _, rfl, ite2 (fun h => ?_) fun h0 => ?_⟩
      · refine ⟨_, rfl, _, rfl, b, tx L, rfl, hb1, .inl ⟨L, rfl, l1, l2, fun c H2 s2 hc => ⟨by show 2 ≤ sizeLine; decide, fun p hp => ?_⟩⟩⟩
        exact k (.ref p) (.lit c) _ (s1.trans (s2.trans (Same.one hp))) (by rw [senLit]; exact ⟨p, rfl, upd_same, hc⟩) (by rw [szLit]; exact pB)
      refine ⟨_, rfl, rfl, _, rfl, ite2 (fun h => ?_) fun h1 => ?_⟩
      · refine ⟨_, rfl, b, 4, rfl, hb1, by decide, by decide, fun q H2 s2 hq => ⟨_, _, rfl, rfl, _, rfl, _, rfl, b, L, rfl, hb1.same s2, l2, fun l H3 s3 hl => ⟨by show 3 ≤ sizeLine; decide, fun p hp => ?_⟩⟩⟩
        exact k (.ref p) (.least (1 + (q : Int)) l) _ (s1.trans (s2.trans (s3.trans (Same.one hp)))) (by rw [senLeast]; exact ⟨p, rfl, upd_same, by omega, by omega, hl⟩) (by rw [szLeast]; exact pB)
      refine ⟨_, rfl, rfl, _, rfl, ite2 (fun h => ?_) fun h2 => ?_⟩
      · refine ⟨by show 1 ≤ sizeLine; decide, fun t ht => ?_⟩
        have st : Same H1 (upd H1 t (.tup [.str "sets"])) := Same.one ht
        have ht1 : (upd H1 t (.tup [.str "sets"])) t = some (.tup [.str "sets"]) := upd_same
        generalize upd H1 t (.tup [.str "sets"]) = H2 at st ht1 ⊢
        refine ⟨_, rfl, b, 4, rfl, hb1.same st, by decide, by decide, fun q H3 s3 hq => ⟨_, rfl, by omega, by omega, fun D hD => ?_⟩⟩
        have hb3 := (hb1.same st).same s3
        refine lc_it (walk_range (lo := 0) (n := q)) (fun i H' => Same H3 H' ∧ ∃ ls : List Lit, ls.length = i ∧ (∀ l ∈ ls, l.Sublist L) ∧ H' D = some (.lst (ls.map tx))) ⟨Same.one hD, [], rfl, (fun l hl => nomatch hl), upd_same⟩ (fun _ _ _ _ => trivial) (fun i x H4 H5 hi p y => ?_) fun H4 p => ?_
        · obtain ⟨rfl, rfl⟩ := y
          obtain ⟨sm, ls, hl, hs, hDl⟩ := p
          refine ⟨rfl, yes ?_⟩
          refine ⟨_, rfl, _, rfl, b, L, rfl, hb3.same sm, l2, fun l H6 s6 hlL => ⟨_, s6 _ _ hDl, by rw [List.length_map]; exact small' (by omega), Same.put (sm.trans s6) hD, ls ++ [l], by rw [List.length_append, hl]; rfl, fun l' hl' => ?_, by rw [upd_same, List.map_append]; rfl⟩⟩
          rcases List.mem_append.mp hl' with h | h
          · exact hs l' h
          · rw [List.mem_singleton.mp h]
            exact hlL
        · obtain ⟨sm, ls, hl, hs, hDl⟩ := p
          refine ⟨D, _, rfl, .inl ⟨SqL.of hDl, fun t2 ht2 => ?_⟩⟩
          have s5 : Same H4 (upd H4 t2 (.tup (ls.map tx))) := Same.one ht2
          have sAll : Same H (upd H4 t2 (.tup (ls.map tx))) := s1.trans (st.trans (s3.trans (sm.trans s5)))
          have ht5 := (s3.trans (sm.trans s5)) _ _ ht1
          refine ⟨t, t2, _, _, rfl, rfl, SqT.of ht5, SqT.of upd_same, by simp, small (by rw [List.length_map]; show 1 + ls.length ≤ _; omega), fun e => ?_, fun _ p hp => ?_⟩
          · have e2 : ls = [] := List.map_eq_nil_iff.mp e
            subst e2
            exact k (.ref t) (.sets []) _ sAll (by rw [senSets]; exact ⟨t, rfl, ht5, by decide, fun l hl => nomatch hl⟩) (by rw [szSets]; exact pB)
          · exact k (.ref p) (.sets ls) _ (sAll.trans (Same.one hp)) (by rw [senSets]; exact ⟨p, rfl, upd_same, by omega, hs⟩) (by rw [szSets]; exact pB)
      cases m with
      | zero =>
        have n0 : r ≠ 0 := fun e => h0 (decide_eq_true (by rw [e]; rfl))
        have n1 : r ≠ 1 := fun e => h1 (decide_eq_true (by rw [e]; rfl))
        have n2 : r ≠ 2 := fun e => h2 (decide_eq_true (by rw [e]; rfl))
        have := hr3 rfl
        omega
      | succ m =>
        have em : ((m + 1 : Nat) : Int) - 1 = (m : Int) := by omega
        refine ⟨_, rfl, rfl, _, rfl, ite2 (fun h => ?_) fun h3 => ?_⟩
        · refine ⟨_, rfl, _, rfl, _, rfl, _, _, rfl, rfl, b, L, (by show [V.ref b, tx L, V.int (((m + 1 : Nat) : Int) - 1)] = _; rw [em]), hb1, l1, l2, by omega, fun v s H2 s2 hv hsz => ⟨by show 2 ≤ sizeLine; decide, fun p hp => ?_⟩⟩
          refine k (.ref p) (.neg s) _ (s1.trans (s2.trans (Same.one hp))) ⟨p, v, rfl, upd_same, SenAt.same (Same.one hp) hv⟩ ?_
          show 1 + szS m s ≤ 1 + (if m = 1 then 4 else 3) * szB m
          have := szB_pos m
          split <;> omega
        · refine ⟨_, rfl, by show 2 ≤ sizeLine; decide, fun a ha => ?_⟩
          have sa : Same H1 (upd H1 a (.lst [.str "and", .str "or"])) := Same.one ha
          refine ⟨b, .ref a, rfl, hb1.same sa, .inr ⟨a, _, rfl, upd_same, by show 1 ≤ 2; decide, by show 2 ≤ 1000; decide, fun y H2 s2 hy => ?_⟩⟩
          have hb2 := (hb1.same sa).same s2
          obtain ⟨wb, ewb⟩ : ∃ wb : Bool, y = .str (if wb then "and" else "or") := by
            rcases List.mem_cons.mp hy with h | h
            · exact ⟨true, h⟩
            · exact ⟨false, List.mem_singleton.mp h⟩
          refine ⟨_, rfl, _, rfl, rfl, _, rfl, b, if m + 1 = 2 then 3 else 2, (by rw [way_if2]; rfl), hb2, by split <;> decide, by split <;> decide, fun q H3 s3 hq => ?_⟩
          have hb3 := hb2.same s3
          refine ⟨_, _, rfl, rfl, _, _, rfl, ?_⟩
          refine ⟨_, rfl, by show 1 ≤ sizeLine; decide, fun t ht => ?_⟩
          have st : Same H3 (upd H3 t (.tup [y])) := Same.one ht
          have ht1 : (upd H3 t (.tup [y])) t = some (.tup [y]) := upd_same
          generalize upd H3 t (.tup [y]) = H4 at st ht1 ⊢
          have hb4 := hb3.same st
          have hq4 : q ≤ 2 := by
            have : (if m + 1 = 2 then 3 else 2) ≤ 3 := by split <;> decide
            omega
          refine ⟨_, rfl, _, rfl, by omega, by omega, fun D hD => ?_⟩
          have en : ((2 : Int) + (q : Int)).toNat = 2 + q := by omega
          rw [en]
          refine lc_it (walk_range (lo := 0) (n := 2 + q)) (fun i H' => Same H4 H' ∧ ∃ (us : List V) (ss : List Sen), ss.length = i ∧ Paired (SenAt H' L m) us ss ∧ (∀ s ∈ ss, szS m s ≤ szB m) ∧ H' D = some (.lst us)) ⟨Same.one hD, [], [], rfl, .nil, (fun l hl => nomatch hl), upd_same⟩ (fun _ _ _ _ => trivial) (fun i x H5 H6 hi p yy => ?_) fun H5 p => ?_
          · obtain ⟨rfl, rfl⟩ := yy
            obtain ⟨sm, us, ss, hl, hps, hs, hDl⟩ := p
            refine ⟨rfl, yes ?_⟩
            have hul : us.length = ss.length := hps.length
            refine ⟨_, rfl, _, rfl, _, rfl, _, _, rfl, rfl, b, L, (by show [V.ref b, tx L, V.int (((m + 1 : Nat) : Int) - 1)] = _; rw [em]), hb4.same sm, l1, l2, by omega, fun v s H7 s7 hv hsz => ⟨_, s7 _ _ hDl, small' (by omega), Same.put (sm.trans s7) hD, us ++ [v], ss ++ [s], by rw [List.length_append, hl]; rfl, ?_, fun s' hs' => ?_, upd_same⟩⟩
            · have tp : TupS H7 (upd H7 D (.lst (us ++ [v]))) := TupS.lst (s7 _ _ hDl)
              exact Paired.snoc (L2.Paired.mapP hps fun _ _ h => SenAt.tupS tp (SenAt.same s7 h)) (SenAt.tupS tp hv)
            · rcases List.mem_append.mp hs' with h | h
              · exact hs s' h
              · rw [List.mem_singleton.mp h]
                exact hsz
          · obtain ⟨sm, us, ss, hl, hps, hs, hDl⟩ := p
            have hul : us.length = ss.length := hps.length
            refine ⟨D, _, rfl, .inl ⟨SqL.of hDl, fun t2 ht2 => ?_⟩⟩
            have s5 : Same H5 (upd H5 t2 (.tup us)) := Same.one ht2
            have sAll : Same H (upd H5 t2 (.tup us)) := s1.trans (sa.trans (s2.trans (s3.trans (st.trans (sm.trans s5)))))
            refine ⟨t, t2, _, _, rfl, rfl, SqT.of ((sm.trans s5) _ _ ht1), SqT.of upd_same, by simp, small (by show 1 + us.length ≤ _; omega), fun e => ?_, fun _ p hp => ?_⟩
            · rw [e] at hul
              simp at hul
              omega
            · refine k (.ref p) (.con wb ss) _ (sAll.trans (Same.one hp)) ⟨p, us, rfl, by rw [upd_same, ewb]; rfl, by omega, by omega, L2.Paired.mapP hps fun _ _ h => SenAt.same (s5.trans (Same.one hp)) h⟩ ?_
              show 1 + (ss.map fun s => szS m s).sum ≤ 1 + (if m = 1 then 4 else 3) * szB m
              have h1 := sum_le hs
              have h2 : ss.length ≤ (if m = 1 then 4 else 3) := by
                by_cases e : m = 1
                · rw [if_pos e]
                  omega
                · rw [if_neg e]
                  rw [if_neg (by omega)] at hq
                  omega
              have h3 := Nat.mul_le_mul_right (szB m) h2
              omega
end
end Rg

end
section
set_option Elab.async false
set_option linter.all false
set_option maxRecDepth 100000
set_option maxHeartbeats 4000000
namespace Rg
open PySem PySem.Spec PyProof.Rows L2 LamX
section
variable {P : Program} {w : World} {K : PySem.W.Frag} {mg : Str → Option Value} {base : Heap} {T : List (Addr × Str)}
/-! _law_aim -/
def spAim (T : List (Addr × Str)) : Sp := fun vs H Q _ => ∃ (b : Addr) (L : Lit), vs = [.ref b, tx L] ∧ BagAt H b ∧ 1 ≤ L.length ∧ L.length ≤ 4 ∧ Tabs T H ∧
  ∀ (p A : Addr) (v : V) (s : Sen) (H' : Hp), Sx T H H' → H' p = some (.tup [v, .ref A]) → SenAt H' L 2 v s → szS 2 s ≤ 20 → H' A = some (.lst (((setsOf L).filter fun l => holdsS 2 s l).map tx)) → Q (.ref p) H'
theorem sc_aim : FnScope ["_law_bag_here", "_law_lamps", "_law_sentence_here", "_law_lit"] ["_law_bag_here", "_law_lamps"] (defScope (top 56)) := ⟨rfl, rfl, rfl, by decide +kernel, rfl, by decide +kernel, by decide +kernel⟩
theorem c_aim {f : Addr} {fd : FuncData} (D : Df K mg "_law_aim" (top 56) f fd) (B : Bl mg) (c1 : C8.Cal P w K mg base 1 "_law_pull" spPull []) (c2 : C8.Cal P w K mg base 3 "_law_sets" (spLSets T) []) (c3 : C8.Cal P w K mg base 6 "_law_sentence" (spSent 3) []) (c4 : C8.Cal P w K mg base 4 "_law_holds" (spHolds 3) []) : C8.Cal P w K mg base 7 "_law_aim" (spAim T) [] := by
  refine cal_of D (fun _ _ _ _ _ _ us hl => match us, hl with | [_, _], _ => rfl) sc_aim (fun vs H Q E h => ?_) (fun cdv A outer s H vs Q E hr h => ?_)
  · obtain ⟨b, x, rfl, _⟩ := h
    rfl
  · obtain ⟨b, L, rfl, hb, l1, l4, hTb, k⟩ := h
    have hsl := sets16 l4
    obtain ⟨t2, h2, rd2⟩ : ∃ t2, PSs ((cxOf C8.CX0 P w K mg base ["_law_bag_here", "_law_lamps", "_law_sentence_here", "_law_lit"] "_law_aim" (defScope (top 56)) f cdv A outer s H E).nox) ((defBody (top 56)).drop 1) t2 ∧
        ∀ (D' : Ends) (v : V) (s : Sen) (H1 : Hp), Sx T H H1 → SenAt H1 L 2 v s → szS 2 s ≤ 20 → (∀ (p A : Addr) (H' : Hp), Sx T H H' → H' p = some (.tup [v, .ref A]) → SenAt H' L 2 v s → H' A = some (.lst (((setsOf L).filter fun l => holdsS 2 s l).map tx)) → D'.rt (.ref p) H') → t2 D' [some (.ref b), some (tx L), some v, none] H1 := by
      refine ⟨_, pss_one (ps_ret (pe_tup (pa_cons (pv 2) (pa_cons (pe_lc (own := [("_law_lit", 3)]) (g := gName 3) rfl sc_aim.nd (pi_list (C8.pe_c c2 hr (by decide) (by rfl) (pa_cons (pv 1) pa_nil))) (blkOk_by (own := [("_law_lit", 3)]) (N := ["_law_bag_here", "_law_lamps", "_law_sentence_here", "_law_lit"]) (sc := defScope (top 56)) (by decide +kernel))
          (fun _ _ _ _ _ => pg_name (i := 3) sc_aim.nd rfl (Or.inl rfl)) (fun _ _ _ _ _ => pts_one (pt_val (C8.pe_c c4 hr (by decide) (by rfl) (pa_cons (pv 2) (pa_cons (pv 3) pa_nil))))) (fun _ _ _ _ _ => pv 3)) pa_nil)))), fun D' v sn H1 s1 hs hsz fin => ?_⟩
      refine ⟨_, rfl, _, rfl, L, rfl, l4, s1.t hTb, fun H2 a s2 ha => ?_⟩
      have s3 : Sx T H1 (upd H2 a (.lst ((setsOf L).map tx))) := s2.trans (Sx.of (Same.one ha))
      have ha3 : (upd H2 a (.lst ((setsOf L).map tx))) a = some (.lst ((setsOf L).map tx)) := upd_same
      generalize upd H2 a (.lst ((setsOf L).map tx)) = H3 at s3 ha3 ⊢
      have hs3 : SenAt H3 L 2 v sn := SenAt.tupS s3.tupS hs
      refine ⟨a, rfl, ⟨_, SqL.of ha3⟩, fun D hD => ?_⟩
      refine lc_val same_ok walk_list (fun i => (((setsOf L).take i).filter fun l => holdsS 2 sn l).map tx) hD rfl (fun i hi => ?_) (fun H' r => SqL.of (r _ _ ha3)) (fun N i y H4 H5 hi r yy keep skip => ?_) fun H4 r hDl => ?_
      · exact Nat.lt_of_le_of_lt (fm_take_len _ _ _ _) (small' (by omega))
      · obtain ⟨rfl, hy⟩ := yy
        obtain ⟨l, hl, rfl⟩ := map_at hy
        refine ⟨rfl, ?_⟩
        refine ⟨_, rfl, _, rfl, v, l, L, sn, rfl, SenAt.same r hs3, l4, fun H6 s6 => ?_⟩
        cases hh : holdsS 2 sn l with
        | true => exact ⟨_, rfl, iteT ⟨_, rfl, keep _ _ s6 (fm_take_yes hl hh)⟩⟩
        | false => exact ⟨_, rfl, iteF (skip _ s6 (fm_take_no hl hh))⟩
      · rw [List.length_map, List.take_length] at hDl
        refine ⟨by show 2 ≤ sizeLine; decide, fun p hp => ?_⟩
        exact fin p D _ (s1.trans (s3.trans (Sx.of (r.trans (Same.one hp))))) upd_same (SenAt.same (r.trans (Same.one hp)) hs3) ((Same.one hp) _ _ hDl)
    refine ⟨_, pss_cons (ps_if (pt_cmpR op_eq (C8.pe_c c1 hr (by decide) (by rfl) (pa_cons (pv 0) (pa_cons pe_int pa_nil))) pe_int (nomark _))
      (pss_one (ps_set (i := 2) sc_aim.nd rfl (Or.inr rfl) (pe_op op_catT (pe_tup (pa_cons pe_str pa_nil)) (pe_callTy call_tuple_of (by rfl) B.tuple (by decide +kernel) (pa_cons
        (pe_lc (own := [("_law_lit", 3)]) (g := gName 3) rfl sc_aim.nd (pi_list (C8.pe_c c2 hr (by decide) (by rfl) (pa_cons (pv 1) pa_nil))) (blkOk_by (own := [("_law_lit", 3)]) (N := ["_law_bag_here", "_law_lamps", "_law_sentence_here", "_law_lit"]) (sc := defScope (top 56)) (by decide +kernel))
          (fun _ _ _ _ _ => pg_name (i := 3) sc_aim.nd rfl (Or.inl rfl)) (fun _ _ _ _ _ => pts_one (pt_cmpR op_eq (C8.pe_c c1 hr (by decide) (by rfl) (pa_cons (pv 0) (pa_cons pe_int pa_nil))) pe_int (nomark _))) (fun _ _ _ _ _ => pv 3)) pa_nil)))))
      (pss_one (ps_set (i := 2) sc_aim.nd rfl (Or.inr rfl) (C8.pe_c c3 hr (by decide) (by rfl) (pa_cons (pv 0) (pa_cons (pv 1) (pa_cons pe_int pa_nil))))))) h2, ?_⟩
    refine ⟨_, rfl, b, 3, rfl, hb, by decide, by decide, fun r H1 s1 _ => ?_⟩
    have hb1 := hb.same s1
    refine ⟨rfl, _, rfl, ite2 (fun h => ?_) fun h0 => ?_⟩
    · refine ⟨by show 1 ≤ sizeLine; decide, fun t ht => ?_⟩
      have st : Same H1 (upd H1 t (.tup [.str "sets"])) := Same.one ht
      have ht1 : (upd H1 t (.tup [.str "sets"])) t = some (.tup [.str "sets"]) := upd_same
      generalize upd H1 t (.tup [.str "sets"]) = H2 at st ht1 ⊢
      refine ⟨_, rfl, L, rfl, l4, hTb.ext (s1.trans st), fun H3 a s3 ha => ?_⟩
      have s4 : Sx T H2 (upd H3 a (.lst ((setsOf L).map tx))) := s3.trans (Sx.of (Same.one ha))
      have ha3 : (upd H3 a (.lst ((setsOf L).map tx))) a = some (.lst ((setsOf L).map tx)) := upd_same
      generalize upd H3 a (.lst ((setsOf L).map tx)) = H4 at s4 ha3 ⊢
      have hb4 := s4.bag (hb1.same st)
      refine ⟨a, rfl, ⟨_, SqL.of ha3⟩, fun D hD => ?_⟩
      refine lc_it walk_list (fun i H' => Same H4 H' ∧ ∃ ls : List Lit, ls.length ≤ i ∧ (∀ l ∈ ls, l.Sublist L) ∧ H' D = some (.lst (ls.map tx))) ⟨Same.one hD, [], Nat.le_refl _, (fun l hl => nomatch hl), upd_same⟩ (fun i H' _ p => SqL.of (p.1 _ _ ha3)) (fun i y H5 H6 hi p yy => ?_) fun H5 p => ?_
      · obtain ⟨rfl, hy⟩ := yy
        obtain ⟨l, hl, rfl⟩ := map_at hy
        obtain ⟨sm, ls, hll, hls, hDl⟩ := p
        rw [List.length_map] at hi
        refine ⟨rfl, ?_⟩
        refine ⟨_, rfl, b, 2, rfl, hb4.same sm, by decide, by decide, fun r H7 s7 _ => ?_⟩
        refine ⟨rfl, _, rfl, ite2 (fun h => ?_) fun h => ?_⟩
        · refine ⟨_, rfl, _, s7 _ _ hDl, by rw [List.length_map]; exact small' (by omega), Same.put (sm.trans s7) hD, ls ++ [l], by rw [List.length_append]; show ls.length + 1 ≤ i + 1; omega, fun l' hl' => ?_, by rw [upd_same, List.map_append]; rfl⟩
          rcases List.mem_append.mp hl' with h | h
          · exact hls l' h
          · rw [List.mem_singleton.mp h]
            exact mem_setsOf.mp (List.mem_of_getElem? hl)
        · exact ⟨sm.trans s7, ls, by omega, hls, s7 _ _ hDl⟩
      · obtain ⟨sm, ls, hll, hls, hDl⟩ := p
        rw [List.length_map] at hll
        refine ⟨D, _, rfl, .inl ⟨SqL.of hDl, fun t2 ht2 => ?_⟩⟩
        have s5 : Same H5 (upd H5 t2 (.tup (ls.map tx))) := Same.one ht2
        have ht5 := (sm.trans s5) _ _ (s4.tup ht1)
        have sAll : Sx T H (upd H5 t2 (.tup (ls.map tx))) := (Sx.of (s1.trans st)).trans (s4.trans (Sx.of (sm.trans s5)))
        refine ⟨t, t2, _, _, rfl, rfl, SqT.of ht5, SqT.of upd_same, by simp, small (by rw [List.length_map]; show 1 + ls.length ≤ _; omega), fun e => ?_, fun _ p hp => ?_⟩
        · have e2 : ls = [] := List.map_eq_nil_iff.mp e
          subst e2
          exact rd2 _ _ (.sets []) _ sAll (by rw [senSets]; exact ⟨t, rfl, ht5, by decide, fun l hl => nomatch hl⟩) (by rw [szSets]; decide) fun p A H' a1 a2 a3 a4 => k p A _ _ H' a1 a2 a3 (by rw [szSets]; decide) a4
        · exact rd2 _ _ (.sets ls) _ (sAll.trans (Sx.of (Same.one hp))) (by rw [senSets]; exact ⟨p, rfl, upd_same, by omega, hls⟩) (by rw [szSets]; decide) fun p A H' a1 a2 a3 a4 => k p A _ _ H' a1 a2 a3 (by rw [szSets]; decide) a4
    · refine ⟨_, rfl, _, rfl, b, L, rfl, hb1, l1, by omega, by decide, fun v sn H2 s2 hs hsz => ?_⟩
      have h17 : szS 2 sn ≤ 20 := Nat.le_trans hsz (by decide)
      exact rd2 _ v sn H2 (Sx.of (s1.trans s2)) hs h17 fun p A H' a1 a2 a3 a4 => k p A _ _ H' a1 a2 a3 h17 a4
end
end Rg

end
section
set_option Elab.async false
set_option linter.all false
set_option maxRecDepth 100000
set_option maxHeartbeats 4000000
namespace Rg
open PySem PySem.Spec PyProof.Rows L2 LamX
theorem rising_lex : ∀ (p : Lit) (ls : List Lit), risingS (SX.S p) (ls.map SX.S) = true → (p :: ls).Pairwise fun a b => lexB a b = true
  | p, [], _ => List.pairwise_singleton _ _
  | p, x :: r, h => by
    have h : (!ltCps (SX.S x).cps.toList (SX.S p).cps.toList && risingS (SX.S x) (r.map SX.S)) = true := h
    rw [Bool.and_eq_true, ltCps_eq] at h
    have ih := rising_lex x r h.2
    have hpx : lexB p x = true := by
      have h1 : ¬ (x < p) := by simpa using h.1
      exact decide_eq_true h1
    refine List.pairwise_cons.mpr ⟨fun y hy => ?_, ih⟩
    rcases List.mem_cons.mp hy with e | hy
    · rw [e]
      exact hpx
    · exact lexB_trans _ _ _ hpx ((List.pairwise_cons.mp ih).1 y hy)
theorem sorted_lex {ls : List Lit} (h : sortedS (ls.map SX.S) = true) : ls.Pairwise fun a b => lexB a b = true := by
  cases ls with
  | nil => exact List.Pairwise.nil
  | cons x r => exact rising_lex x r h
theorem perm_lits {ys : List Str} {ls : List Lit} (h : ys.Perm (ls.map SX.S)) : ∃ zs : List Lit, ys = zs.map SX.S ∧ zs.Perm ls := by
  refine ⟨ys.map fun y => y.cps.toList, ?_, ?_⟩
  · rw [List.map_map]
    have : (SX.S ∘ fun y : Str => y.cps.toList) = id := by
      funext y
      show (⟨y.cps.toList.toArray⟩ : Str) = y
      rw [Array.toArray_toList]
    rw [this, List.map_id]
  · have := h.map fun y => y.cps.toList
    rw [List.map_map] at this
    have e : ((fun y : Str => y.cps.toList) ∘ SX.S) = id := by
      funext l
      show l.toArray.toList = l
      rw [List.toList_toArray]
    rw [e, List.map_id] at this
    exact this
theorem cr_anyK {X : Cx} (K : PySem.W.Frag) (hc : X.calm = true) (h : X.K = K := by rfl) : CallR X (.builtin "any") (rAny K) := h ▸ cr_any hc
theorem opInK {X : Cx} (K : PySem.W.Frag) (h : X.K = K := by rfl) : OpR X (compareOp .In) (rIn K false) := h ▸ op_in_seq
section
variable {P : Program} {w : World} {K : PySem.W.Frag} {mg : Str → Option Value} {base : Heap} {T : List (Addr × Str)}
/-! _law_parts -/
def spParts (T : List (Addr × Str)) : Sp := fun vs H Q _ => ∃ (t : Addr) (X : Lit) (Tr : List Lit), vs = [.ref t, tx X] ∧ H t = some (.lst (Tr.map tx)) ∧ X.length ≤ 4 ∧ Tabs T H ∧ ∀ (p : Addr) (H' : Hp), Sx T H H' → H' p = some (.lst ((parts Tr X).map tx)) → Q (.ref p) H'
theorem sc_parts : FnScope ["_law_true", "_law_lit", "_law_other", "_law_one", "_law_two"] ["_law_true", "_law_lit"] (defScope (top 57)) := ⟨rfl, rfl, rfl, by decide +kernel, rfl, by decide +kernel, by decide +kernel⟩
theorem c_parts {f : Addr} {fd : FuncData} (D : Df K mg "_law_parts" (top 57) f fd) (B : Bl mg) (c1 : C8.Cal P w K mg base 3 "_law_sets" (spLSets T) []) (c2 : C8.Cal P w K mg base 1 "_law_within" spWithin []) : C8.Cal P w K mg base 4 "_law_parts" (spParts T) [] := by
  refine cal_of D (fun _ _ _ _ _ _ us hl => match us, hl with | [_, _], _ => rfl) sc_parts (fun vs H Q E h => ?_) (fun cdv A outer s H vs Q E hr h => ?_)
  · obtain ⟨t, X, Tr, rfl, _⟩ := h
    rfl
  · obtain ⟨t, X, Tr, rfl, ht, l4, hTb, k⟩ := h
    have hsl := sets16 l4
    refine ⟨_, pss_cons (ps_set (i := 2) sc_parts.nd rfl (Or.inr rfl)
        (pe_lc (own := [("_law_one", 3)]) (g := gName 3) rfl sc_parts.nd (pi_list (C8.pe_c c1 hr (by decide) (by rfl) (pa_cons (pv 1) pa_nil))) (blkOk_by (own := [("_law_one", 3)]) (N := ["_law_true", "_law_lit", "_law_other", "_law_one", "_law_two"]) (sc := defScope (top 57)) (by decide +kernel))
          (fun _ _ _ _ _ => pg_name (i := 3) sc_parts.nd rfl (Or.inl rfl)) (fun _ _ _ _ _ => pts_one (pt_cmpR op_ne (pe_cmpR (opInK K) (pv 3) (pv 0) rfl) (pe_cmpR (opInK K) (pv 1) (pv 0) rfl) (nomark _))) (fun _ _ _ _ _ => pv 3)))
      (pss_one (ps_ret (pe_callB cr_sortedS (by rfl) B.sorted (by decide +kernel) (pa_cons
        (pe_lc (own := [("_law_one", 3)]) (g := gName 3) rfl sc_parts.nd (pi_list (pv 2)) (blkOk_by (own := [("_law_one", 3)]) (N := ["_law_true", "_law_lit", "_law_other", "_law_one", "_law_two"]) (sc := defScope (top 57)) (by decide +kernel))
          (fun _ _ _ _ _ => pg_name (i := 3) sc_parts.nd rfl (Or.inr rfl))
          (fun _ _ _ _ _ => pts_one (pt_not (pt_val (pe_callB (cr_anyK K rfl) (by rfl) B.any (by decide +kernel) (pa_cons
            (pe_lc (own := [("_law_two", 4)]) (g := gName 4) rfl sc_parts.nd (pi_listK K (pv 2)) (blkOk_by (own := [("_law_two", 4)]) (N := ["_law_true", "_law_lit", "_law_other", "_law_one", "_law_two"]) (sc := reSc (defScope (top 57)) (lcSc (rArg (bodyAt (top 57) 1)))) (by decide +kernel)) (fun _ _ _ _ _ => pg_name (i := 4) sc_parts.nd rfl (Or.inl rfl)) (fun _ _ _ _ _ => pts_nil)
              (fun _ _ _ _ _ => pe_and (pe_cmpR op_ne (pv 3) (pv 4) (nomark _)) (pe_one (C8.pe_c c2 hr (by decide) (by rfl) (pa_cons (pv 3) (pa_cons (pv 4) pa_nil)))))) pa_nil)))))
          (fun _ _ _ _ _ => pv 3)) pa_nil)))), ?_⟩
    refine ⟨_, rfl, X, rfl, l4, hTb, fun H1 a s1 ha => ?_⟩
    have s2 : Sx T H (upd H1 a (.lst ((setsOf X).map tx))) := s1.trans (Sx.of (Same.one ha))
    have ha2 : (upd H1 a (.lst ((setsOf X).map tx))) a = some (.lst ((setsOf X).map tx)) := upd_same
    generalize upd H1 a (.lst ((setsOf X).map tx)) = H2 at s2 ha2 ⊢
    have ht2 := s2.lst ht
    refine ⟨a, rfl, ⟨_, SqL.of ha2⟩, fun D1 hD1 => ?_⟩
    refine lc_val same_ok walk_list (fun i => (((setsOf X).take i).filter fun one => decide (one ∈ Tr) != decide (X ∈ Tr)).map tx) hD1 rfl (fun i hi => ?_) (fun H' r => SqL.of (r _ _ ha2)) (fun N i y H4 H5 hi r yy keep skip => ?_) fun H3 r3 hO => ?_
    · exact Nat.lt_of_le_of_lt (fm_take_len _ _ _ _) (small' (by omega))
    · obtain ⟨rfl, hy⟩ := yy
      obtain ⟨l, hl, rfl⟩ := map_at hy
      refine ⟨rfl, ?_⟩
      refine ⟨_, rfl, _, rfl, t, _, rfl, .inl (SqL.of (r _ _ ht2)), rfl, flat_tx Tr, _, rfl, _, rfl, t, _, rfl, .inl (SqL.of (r _ _ ht2)), rfl, flat_tx Tr, ?_⟩
      rw [inV_tx, inV_tx]
      refine ⟨rfl, _, rfl, ite2 (fun h => ?_) fun h => ?_⟩
      · exact ⟨_, rfl, keep _ _ (Same.refl _) (fm_take_yes hl (by simpa [bne] using h))⟩
      · exact skip _ (Same.refl _) (fm_take_no hl (by simpa [bne] using h))
    · rw [List.length_map, List.take_length] at hO
      have hO : H3 D1 = some (.lst ((unlike Tr X).map tx)) := hO
      have hol : (unlike Tr X).length ≤ 16 := Nat.le_trans (List.length_filter_le _ _) hsl
      have hlen : ∀ l ∈ unlike Tr X, l.length ≤ 4 := fun l hl => Nat.le_trans (mem_unlike.mp hl).1.length_le l4
      refine ⟨_, rfl, D1, rfl, ⟨_, SqL.of hO⟩, fun D2 hD2 => ?_⟩
      refine lc_val same_ok walk_list (fun i => (((unlike Tr X).take i).filter (keepP (unlike Tr X))).map tx) hD2 rfl (fun i hi => ?_) (fun H' r => SqL.of (r _ _ hO)) (fun N i y H4 H5 hi r yy keep skip => ?_) fun H4 r4 hP => ?_
      · exact Nat.lt_of_le_of_lt (fm_take_len _ _ _ _) (small' (by omega))
      · obtain ⟨rfl, hy⟩ := yy
        obtain ⟨l, hl, rfl⟩ := map_at hy
        refine ⟨rfl, ?_⟩
        refine ⟨_, rfl, D1, rfl, ⟨_, SqL.of (r _ _ hO)⟩, fun D3 hD3 => ?_⟩
        refine lc_val same_ok walk_list (fun j => ((unlike Tr X).take j).map fun two => V.bl (!decide (l = two) && within l two)) hD3 rfl (fun j hj => ?_) (fun H' r2 => SqL.of ((r.trans r2) _ _ hO)) (fun N2 j y H6 H7 hj r2 yy keep2 skip2 => ?_) fun H6 r6 hD6 => ?_
        · exact Nat.lt_of_le_of_lt (m_take_len _ _ _) (small' (by omega))
        · obtain ⟨rfl, hy2⟩ := yy
          obtain ⟨two, h2, rfl⟩ := map_at hy2
          refine ⟨rfl, yes ?_⟩
          have e1 : decide (tx l = tx two) = decide (l = two) := by
            refine decide_eq_decide.mpr ⟨fun h => ?_, fun h => by rw [h]⟩
            have : (SX.S l).cps.toList = (SX.S two).cps.toList := congrArg (fun v => match v with | V.str z => z.cps.toList | _ => []) h
            simpa [SX.S] using this
          refine ⟨_, rfl, _, rfl, rfl, !decide (l = two), ?_, ?_⟩
          · rw [e1]
          · cases hd : decide (l = two) with
            | true =>
              refine iteF (keep2 _ _ (Same.refl _) ?_)
              rw [map_take_succ h2, hd]
              rfl
            | false =>
              refine iteT ⟨_, rfl, _, rfl, l, two, rfl, by have := hlen l (List.mem_of_getElem? hl); omega, fun H8 s8 => keep2 _ _ s8 ?_⟩
              rw [map_take_succ h2, hd]
              rfl
        · rw [List.length_map, List.take_length] at hD6
          refine ⟨D3, (unlike Tr X).map fun two => !decide (l = two) && within l two, rfl, SqL.of (by rw [hD6, List.map_map]; rfl), ?_⟩
          have e : ((unlike Tr X).map fun two => !decide (l = two) && within l two).any id = (unlike Tr X).any fun two => !decide (l = two) && within l two := by rw [List.any_map]; rfl
          rw [e]
          refine ⟨_, rfl, ?_⟩
          cases hh : (unlike Tr X).any fun two => !decide (l = two) && within l two with
          | true => exact iteF (skip _ r6 (fm_take_no hl (by unfold keepP; rw [hh]; rfl)))
          | false => exact iteT ⟨_, rfl, keep _ _ r6 (fm_take_yes hl (by unfold keepP; rw [hh]; rfl))⟩
      · rw [List.length_map, List.take_length] at hP
        refine ⟨D2, ((unlike Tr X).filter (keepP (unlike Tr X))).map SX.S, rfl, SqL.of (by rw [hP, List.map_map]; rfl), by rw [List.length_map]; have := List.length_filter_le (keepP (unlike Tr X)) (unlike Tr X); omega, fun ys p py oy hp => ?_⟩
        obtain ⟨zs, rfl, pz⟩ := perm_lits py
        refine k p _ (s2.trans (Sx.of (r3.trans (r4.trans (Same.one hp))))) ?_
        rw [upd_same, List.map_map, parts_unique pz (sorted_lex oy)]
        rfl
end
end Rg

end
section
set_option Elab.async false
set_option linter.all false
set_option maxRecDepth 100000
set_option maxHeartbeats 4000000
namespace Rg
open PySem PySem.Spec PyProof.Rows L2 LamX
def BrAt (H : Hp) (v : V) (b : List Lit) : Prop := ∃ t, v = .ref t ∧ H t = some (.tup (b.map tx))
theorem BrAt.tupS {H H' : Hp} {v : V} {b : List Lit} (e : TupS H H') (h : BrAt H v b) : BrAt H' v b := by
  obtain ⟨t, r, h⟩ := h
  exact ⟨t, r, e _ _ h⟩
theorem br_dp {K : PySem.W.Frag} {H : Hp} {v : V} {b : List Lit} (h : BrAt H v b ∧ ∀ l ∈ b, ∀ c ∈ l, c < 1114112) : ∃ d, Dp K H v d ∧ d.canLay0 = true ∧ d.depth ≤ 1 := by
  obtain ⟨⟨t, rfl, ht⟩, hb⟩ := h
  obtain ⟨x, y, z⟩ := txs_dp (K := K) (H := H) hb
  exact ⟨.tuple (b.map fun l => .str (SX.S l)), .tup (SqT.of ht) x, y, by show PyData.depthAll _ + 1 ≤ 1; omega⟩
theorem dpAll_len {K : PySem.W.Frag} {H : Hp} : ∀ (us : List V) (ds : List PyData), DpAll K H us ds → us.length = ds.length
  | [], ds, h => by
    cases h
    rfl
  | u :: us, ds, h => by
    cases h with
    | cons a r => rw [List.length_cons, List.length_cons, dpAll_len us _ r]
def brTo (Tr : List Lit) (X : Lit) (i : Nat) : List (List Lit) := ((parts Tr X).take i).flatMap fun p => (br Tr p).map (X :: ·)
theorem brTo_succ {Tr : List Lit} {X p : Lit} {i : Nat} (h : (parts Tr X)[i]? = some p) : brTo Tr X (i + 1) = brTo Tr X i ++ (br Tr p).map (X :: ·) := by
  unfold brTo
  rw [take_get_succ h, List.flatMap_append]
  simp
theorem brTo_all {Tr : List Lit} {X : Lit} : brTo Tr X (parts Tr X).length = brL Tr X := by
  unfold brTo
  rw [List.take_length]
  rfl
theorem brL_len {Tr : List Lit} {X : Lit} (nd : X.Nodup) (h4 : X.length ≤ 4) : (brL Tr X).length ≤ 24 := by
  by_cases e : brL Tr X = []
  · rw [e]
    decide
  · have := br_count24 (T := Tr) nd h4
    rw [br_eq, if_neg e] at this
    exact this
theorem brTo_len {Tr : List Lit} {X : Lit} (nd : X.Nodup) (h4 : X.length ≤ 4) (i : Nat) : (brTo Tr X i).length ≤ 24 := by
  have h := brL_len (Tr := Tr) nd h4
  have e : brL Tr X = brTo Tr X i ++ ((parts Tr X).drop i).flatMap fun p => (br Tr p).map (X :: ·) := by
    unfold brTo
    rw [← List.flatMap_append, List.take_append_drop]
    rfl
  rw [e, List.length_append] at h
  omega
theorem opCatTK {X : Cx} (K : PySem.W.Frag) (h : X.K = K := by rfl) : OpR X (binaryOp .Add) (rCatT K) := h ▸ op_catT
section
variable {P : Program} {w : World} {K : PySem.W.Frag} {mg : Str → Option Value} {base : Heap} {T : List (Addr × Str)}
/-! _law_branches -/
def spBr (T : List (Addr × Str)) : Nat → Sp
  | 0 => fun _ _ _ _ => False
  | n + 1 => fun vs H Q _ => ∃ (t : Addr) (X : Lit) (Tr : List Lit), vs = [.ref t, tx X] ∧ H t = some (.lst (Tr.map tx)) ∧ X.length ≤ n ∧ X.length ≤ 4 ∧ Ok X ∧ Tabs T H ∧
    ∀ (p : Addr) (H' : Hp) (us : List V), Sx T H H' → H' p = some (.lst us) → Paired (BrAt H') us (br Tr X) → Q (.ref p) H'
theorem sc_br : FnScope ["_law_true", "_law_lit", "_law_found", "_law_part", "_law_rest"] ["_law_true", "_law_lit"] (defScope (top 58)) := ⟨rfl, rfl, rfl, by decide +kernel, rfl, by decide +kernel, by decide +kernel⟩
theorem c_br {f : Addr} {fd : FuncData} (D : Df K mg "_law_branches" (top 58) f fd) (B : Bl mg) (c1 : C8.Cal P w K mg base 4 "_law_parts" (spParts T) []) : ∀ n, C8.Cal P w K mg base (n + 4) "_law_branches" (spBr T n) []
  | 0 => cal_none (ps := ["_law_true", "_law_lit"]) D (fun _ _ _ _ _ _ us hl => match us, hl with | [_, _], _ => rfl)
  | n + 1 => by
    have cr := c_br D B c1 n
    refine cal_of D (fun _ _ _ _ _ _ us hl => match us, hl with | [_, _], _ => rfl) sc_br (fun vs H Q E h => ?_) (fun cdv A outer s H vs Q E hr h => ?_)
    · obtain ⟨t, X, Tr, rfl, _⟩ := h
      rfl
    · obtain ⟨t, X, Tr, rfl, ht, hn, l4, ok, hTb, k⟩ := h
      have nd := ris_nodup ok.ris
      refine ⟨_, pss_cons (ps_set (i := 2) sc_br.nd rfl (Or.inl rfl) (pe_lst pa_nil))
        (pss_cons (ps_for PassesOwn.never rfl (pi_list (C8.pe_c c1 hr (by omega) (by rfl) (pa_cons (pv 0) (pa_cons (pv 1) pa_nil)))) (pg_name (i := 3) sc_br.nd rfl (Or.inl rfl))
          (pss_one (ps_set (i := 2) sc_br.nd rfl (Or.inl rfl) (pe_op op_cat (pv 2)
            (pe_lc (own := [("_law_rest", 4)]) (g := gName 4) rfl sc_br.nd (pi_list (C8.pe_c cr hr (Nat.le_refl _) (by rfl) (pa_cons (pv 0) (pa_cons (pv 3) pa_nil)))) (blkOk_by (own := [("_law_rest", 4)]) (N := ["_law_true", "_law_lit", "_law_found", "_law_part", "_law_rest"]) (sc := defScope (top 58)) (by decide +kernel))
              (fun _ _ _ _ _ => pg_name (i := 4) sc_br.nd rfl (Or.inl rfl)) (fun _ _ _ _ _ => pts_nil) (fun _ _ _ _ _ => pe_op (opCatTK K) (pe_tup (pa_cons (pv 1) pa_nil)) (pv 4)))))))
        (pss_one (ps_ret (pe_ifExp (pt_cmpR (op_neD hr.units) (pv 2) (pe_lst pa_nil) (nomark _)) (pv 2) (pe_lst (pa_cons (pe_tup (pa_cons (pv 1) pa_nil)) pa_nil)))))), ?_⟩
      refine ⟨by show 0 ≤ sizeLine; decide, fun F0 hF0 => ?_⟩
      refine ⟨_, rfl, _, rfl, t, X, Tr, rfl, (Same.one hF0) _ _ ht, l4, hTb.ext (Same.one hF0), fun a H1 s1 ha => ?_⟩
      have s01 : Sx T H H1 := (Sx.of (Same.one hF0)).trans s1
      have hF1 : H1 F0 = some (.lst []) := s1.lst upd_same
      refine ⟨a, rfl, ⟨_, SqL.of ha⟩, ?_⟩
      have pl : (parts Tr X).length ≤ 1000 := by
        have h1 := sets16 l4
        have h2 : (parts Tr X).length ≤ (setsOf X).length := by
          unfold parts
          rw [List.length_mergeSort]
          exact Nat.le_trans (List.length_filter_le _ _) (List.length_filter_le _ _)
        omega
      refine for_it walk_list (fun i σ H' => ∃ (F : Addr) (us : List V) (x : Option V), σ = [some (.ref t), some (tx X), some (.ref F), x, none] ∧ Sx T H1 H' ∧ H' F = some (.lst us) ∧ Paired (BrAt H') us (brTo Tr X i)) ⟨F0, [], none, rfl, Sx.refl _, hF1, .nil⟩ (fun i σ H' _ p => (let ⟨_, _, _, _, sm, _⟩ := p; SqL.of (sm.lst ha))) (fun i v σ H2 H3 hi p yy => ?_) fun σ H2 p => ?_
      · obtain ⟨F, us, x, rfl, sm, hF, hp⟩ := p
        obtain ⟨rfl, hv⟩ := yy
        obtain ⟨Y, hY, rfl⟩ := map_at hv
        have hYp := List.mem_of_getElem? hY
        have hYX := parts_sub hYp
        have hYl := parts_lt hYp
        refine ⟨_, rfl, ?_⟩
        cases n with
        | zero => omega
        | succ n =>
          refine ⟨_, rfl, _, rfl, t, Y, Tr, rfl, (s01.trans sm).lst ht, by omega, by omega, ok.sub hYX, (s01.trans sm).t hTb, fun b H4 ws s4 hb hw => ?_⟩
          refine ⟨b, rfl, ⟨_, SqL.of hb⟩, fun Dn hDn => ?_⟩
          have hwl : ws.length = (br Tr Y).length := hw.length
          have h24 := br_count24 (T := Tr) (X := Y) (ris_nodup (ok.sub hYX).ris) (by omega)
          refine lc_it walk_list (fun j H' => Same H4 H' ∧ ∃ zs, H' Dn = some (.lst zs) ∧ Paired (BrAt H') zs (((br Tr Y).take j).map (X :: ·))) ⟨Same.one hDn, [], upd_same, .nil⟩ (fun j H' _ p => SqL.of (p.1 _ _ hb)) (fun j y H5 H6 hj p yy => ?_) fun H5 p => ?_
          · obtain ⟨rfl, hy⟩ := yy
            obtain ⟨s5, zs, hz, hzp⟩ := p
            obtain ⟨rest, hrest, tr, rfl, htr⟩ := paired_get hw hy
            have hzl : zs.length = _ := hzp.length
            rw [List.length_map] at hzl
            have htl : ((br Tr Y).take j).length ≤ (br Tr Y).length := List.length_take_le' _ _
            obtain ⟨rr, err⟩ := br_head (List.mem_of_getElem? hrest)
            refine ⟨rfl, yes ?_⟩
            refine ⟨_, rfl, by show 1 ≤ sizeLine; decide, fun t1 ht1 => ?_⟩
            have st1 : Same H6 (upd H6 t1 (.tup [tx X])) := Same.one ht1
            have hl5 := br_len Y.length Y (Nat.le_refl _) rest (List.mem_of_getElem? hrest)
            refine ⟨_, rfl, t1, tr, _, _, rfl, rfl, SqT.of upd_same, SqT.of (st1 _ _ (s5 _ _ htr)), by simp, small (by rw [List.length_map]; show 1 + rest.length ≤ _; omega), fun e => ?_, fun _ p hp => ?_⟩
            · rw [err] at e
              cases e
            · have sp : Same H6 (upd (upd H6 t1 (.tup [tx X])) p (.tup ([tx X] ++ rest.map tx))) := st1.trans (Same.one hp)
              have hpv : (upd (upd H6 t1 (.tup [tx X])) p (.tup ([tx X] ++ rest.map tx))) p = some (.tup ([tx X] ++ rest.map tx)) := upd_same
              generalize upd (upd H6 t1 (.tup [tx X])) p (.tup ([tx X] ++ rest.map tx)) = H7 at sp hpv ⊢
              refine ⟨zs, sp _ _ hz, small' (by omega), Same.put (s5.trans sp) hDn, zs ++ [.ref p], upd_same, ?_⟩
              have tp : TupS H7 (upd H7 Dn (.lst (zs ++ [.ref p]))) := TupS.lst (sp _ _ hz)
              rw [map_take_succ hrest]
              exact Paired.snoc (L2.Paired.mapP hzp fun _ _ h => BrAt.tupS ((TupS.of sp).trans tp) h) ⟨p, rfl, tp _ _ hpv⟩
          · obtain ⟨s5, zs, hz, hzp⟩ := p
            rw [hwl, List.take_length] at hzp
            have hF5 := s5 _ _ (s4.lst hF)
            have hul : us.length = _ := hp.length
            have hzl : zs.length = _ := hzp.length
            rw [List.length_map] at hzl
            have bl := brTo_len (Tr := Tr) nd l4 i
            refine ⟨F, Dn, us, zs, rfl, rfl, hF5, hz, small (by omega), fun q hq => ?_⟩
            refine ⟨q, us ++ zs, _, rfl, sm.trans (s4.trans (Sx.of (s5.trans (Same.one hq)))), upd_same, ?_⟩
            rw [brTo_succ hY]
            exact paired_app (L2.Paired.mapP hp fun _ _ h => BrAt.tupS ((s4.tupS).trans (TupS.of (s5.trans (Same.one hq)))) h) (L2.Paired.mapP hzp fun _ _ h => BrAt.tupS (TupS.of (Same.one hq)) h)
      · obtain ⟨F, us, x, rfl, sm, hF, hp⟩ := p
        rw [List.length_map, brTo_all] at hp
        have hul : us.length = _ := hp.length
        refine ⟨_, rfl, by show 0 ≤ sizeLine; decide, fun e0 he0 => ?_⟩
        have sE : Same H2 (upd H2 e0 (.lst [])) := Same.one he0
        have hall : Paired (fun v b => BrAt (upd H2 e0 (.lst [])) v b ∧ ∀ l ∈ b, ∀ c ∈ l, c < 1114112) us (brL Tr X) := by
          have go : ∀ {us : List V} {bs : List (List Lit)}, Paired (BrAt H2) us bs → (∀ b ∈ bs, ∀ l ∈ b, ∀ c ∈ l, c < 1114112) → Paired (fun v b => BrAt (upd H2 e0 (.lst [])) v b ∧ ∀ l ∈ b, ∀ c ∈ l, c < 1114112) us bs := fun {us bs} h => by
            induction h with
            | nil => exact fun _ => .nil
            | cons a b ih => exact fun hb => .cons ⟨BrAt.tupS (TupS.of sE) a, hb _ List.mem_cons_self⟩ (ih fun q hq => hb q (List.mem_cons_of_mem _ hq))
          refine go hp fun b hb l hl c hc => abc_lo c (ok.abc c ?_)
          have hne : brL Tr X ≠ [] := List.ne_nil_of_mem hb
          have hb2 : b ∈ br Tr X := by rw [br_eq, if_neg hne]; exact hb
          exact (br_sub X.length X (Nat.le_refl _) b hb2 l hl).subset hc
        obtain ⟨ds, da, db, dc⟩ := all_dp (K := K) (n := 1) (fun u q h => br_dp h) hall
        have dsh : SeqAt.shaped (.list ds) = true := by
          unfold SeqAt.shaped
          have e1 : (PyData.list ds).canLay0 = true := db
          have e2 : (PyData.list ds).depth ≤ 64 := by show PyData.depthAll ds + 1 ≤ 64; omega
          rw [e1, decide_eq_true e2]
          rfl
        refine ⟨.list ds, .list [], .lst (SqL.of (sE _ _ hF)) da, .lst (SqL.of upd_same) .nil, dsh, rfl, _, rfl, ?_⟩
        rw [eqv_nil]
        have hdl : ds.length = us.length := (dpAll_len us ds da).symm
        by_cases e : brL Tr X = []
        · have hd0 : ds = [] := List.length_eq_zero_iff.mp (by rw [hdl, hul, e]; rfl)
          rw [hd0]
          refine iteF ?_
          refine ⟨_, rfl, by show 1 ≤ sizeLine; decide, fun t1 ht1 => ⟨by show 1 ≤ sizeLine; decide, fun q hq => ?_⟩⟩
          refine k q _ [.ref t1] (s01.trans (sm.trans (Sx.of ((sE.trans (Same.one ht1)).trans (Same.one hq))))) upd_same ?_
          rw [br_eq, if_pos e]
          exact .cons ⟨t1, rfl, (Same.one hq) _ _ upd_same⟩ .nil
        · have hd0 : decide (ds = []) = false := decide_eq_false fun z => e (List.length_eq_zero_iff.mp (by rw [← hul, ← hdl, z]; rfl))
          rw [hd0]
          refine iteT ⟨_, rfl, ?_⟩
          refine k F _ us (s01.trans (sm.trans (Sx.of sE))) (sE _ _ hF) ?_
          rw [br_eq, if_neg e]
          exact L2.Paired.mapP hall fun _ _ h => h.1
end
end Rg

end
section
set_option Elab.async false
set_option linter.all false
set_option maxRecDepth 100000
set_option maxHeartbeats 4000000
namespace Rg
open PySem PySem.Spec PyProof.Rows L2 LamX
def cutF (many : Int) (p : Int × Int) : Int × Int := (p.1, if many - 1 < p.2 then many - 1 else p.2)
theorem StepAt.tupS {H H' : Hp} {v : V} {p : Int × Int} (e : TupS H H') (h : StepAt H v p) : StepAt H' v p := by
  obtain ⟨t, r, h⟩ := h
  exact ⟨t, r, e _ _ h⟩
section
variable {P : Program} {w : World} {K : PySem.W.Frag} {mg : Str → Option Value} {base : Heap} {T : List (Addr × Str)}
/-! _law_cut -/
def spCut : Sp := fun vs H Q _ => ∃ (v : V) (many : Int) (ps : List (Int × Int)), vs = [v, .int many] ∧ RowAt H v ps ∧ ps.length ≤ 1000 ∧ ∀ (v' : V) (H' : Hp) (D : Addr), Same H H' → H D = none → v' = .ref D → RowAt H' v' (ps.map (cutF many)) → Q v' H'
theorem sc_cut : FnScope ["_law_row", "_law_many", "_law_step"] ["_law_row", "_law_many"] (defScope (top 64)) := ⟨rfl, rfl, rfl, by decide +kernel, rfl, by decide +kernel, by decide +kernel⟩
theorem c_cut {f : Addr} {fd : FuncData} (D : Df K mg "_law_cut" (top 64) f fd) (B : Bl mg) : C8.Cal P w K mg base 1 "_law_cut" spCut [] := by
  refine cal_of D (fun _ _ _ _ _ _ us hl => match us, hl with | [_, _], _ => rfl) sc_cut (fun vs H Q E h => ?_) (fun cdv A outer s H vs Q E hr h => ?_)
  · obtain ⟨v, many, ps, rfl, _⟩ := h
    rfl
  · obtain ⟨v, many, ps, rfl, ⟨a, us, rfl, ha, hp⟩, hl, k⟩ := h
    have hul : us.length = ps.length := hp.length
    refine ⟨_, pss_one (ps_ret (pe_lc (own := [("_law_step", 2)]) (g := gName 2) rfl sc_cut.nd (pi_list (pv 0)) (blkOk_by (own := [("_law_step", 2)]) (N := ["_law_row", "_law_many", "_law_step"]) (sc := defScope (top 64)) (by decide +kernel))
        (fun _ _ _ _ _ => pg_name (i := 2) sc_cut.nd rfl (Or.inl rfl)) (fun _ _ _ _ _ => pts_nil) (fun _ _ _ _ _ => pe_tup (pa_cons (pe_ix (ixT K) (pv 2) pe_int (fun _ _ => rfl)) (pa_cons (pe_callB (call_min2 rfl) (by rfl) B.min (by decide +kernel) (pa_cons (pe_ix (ixT K) (pv 2) pe_int (fun _ _ => rfl)) (pa_cons (pe_op op_sub (pv 1) pe_int) pa_nil))) pa_nil))))), ?_⟩
    refine ⟨_, rfl, a, rfl, ⟨_, SqL.of ha⟩, fun Dn hDn => ?_⟩
    refine lc_it walk_list (fun i H' => Same H H' ∧ ∃ zs, H' Dn = some (.lst zs) ∧ Paired (StepAt H') zs ((ps.take i).map (cutF many))) ⟨Same.one hDn, [], upd_same, .nil⟩ (fun j H' _ p => SqL.of (p.1 _ _ ha)) (fun j y H1 H2 hj p yy => ?_) fun H1 p => ?_
    · obtain ⟨rfl, hy⟩ := yy
      obtain ⟨s1, zs, hz, hzp⟩ := p
      obtain ⟨q, hq, t, rfl, ht⟩ := paired_get hp hy
      have hzl : zs.length = _ := hzp.length
      rw [List.length_map] at hzl
      have htl : (ps.take j).length ≤ ps.length := List.length_take_le' _ _
      refine ⟨rfl, yes ?_⟩
      refine ⟨_, rfl, _, _, _, _, rfl, rfl, SqT.of (s1 _ _ ht), atI_nat (j := 0) rfl, _, rfl, _, _, _, _, rfl, rfl, SqT.of (s1 _ _ ht), atI_nat (j := 1) rfl, _, rfl, _, _, rfl, rfl, _, _, rfl, by show 2 ≤ sizeLine; decide, fun p hp => ?_⟩
      have sp : Same H2 (upd H2 p (.tup [.int q.1, .int (if many - 1 < q.2 then many - 1 else q.2)])) := Same.one hp
      have hpv : (upd H2 p (.tup [.int q.1, .int (if many - 1 < q.2 then many - 1 else q.2)])) p = some (.tup [.int q.1, .int (if many - 1 < q.2 then many - 1 else q.2)]) := upd_same
      refine ⟨zs, sp _ _ hz, small' (by omega), Same.put (s1.trans sp) hDn, zs ++ [.ref p], upd_same, ?_⟩
      have tp : TupS (upd H2 p (.tup [.int q.1, .int (if many - 1 < q.2 then many - 1 else q.2)])) (upd (upd H2 p (.tup [.int q.1, .int (if many - 1 < q.2 then many - 1 else q.2)])) Dn (.lst (zs ++ [.ref p]))) := TupS.lst (sp _ _ hz)
      rw [map_take_succ hq]
      exact Paired.snoc (L2.Paired.mapP hzp fun _ _ h => StepAt.tupS ((TupS.of sp).trans tp) h) ⟨p, rfl, tp _ _ hpv⟩
    · obtain ⟨s1, zs, hz, hzp⟩ := p
      rw [hul, List.take_length] at hzp
      exact k (.ref Dn) _ Dn s1 hDn rfl ⟨Dn, zs, rfl, hz, hzp⟩
/-! _law_drawn_steps -/
def spDrawn (T : List (Addr × Str)) : Sp := fun vs H Q _ => ∃ (b : Addr) (L : Lit) (rooms high : Nat), vs = [.ref b, tx L, .int rooms, .int high] ∧ BagAt H b ∧ L.length ≤ 4 ∧ Tabs T H ∧ 1 ≤ rooms ∧ rooms ≤ 1000 ∧ 1 ≤ high ∧ high ≤ 1000 ∧
  ∀ (v : V) (rs : Rows') (H' : Hp), Sx T H H' → RowsAt H' v rs → rs.length = rooms → (∀ r ∈ rs, r.length = (setsOf L).length ∧ ∀ p ∈ r, 0 ≤ p.1 ∧ p.1 < high ∧ 0 ≤ p.2 ∧ p.2 < rooms) → Q v H'
theorem sc_drawn : FnScope ["_law_bag_here", "_law_lamps", "_law_rooms", "_law_high", "_law_sets_here", "_law_found", "_law_room", "_law_lit"] ["_law_bag_here", "_law_lamps", "_law_rooms", "_law_high"] (defScope (top 62)) := ⟨rfl, rfl, rfl, by decide +kernel, rfl, by decide +kernel, by decide +kernel⟩
theorem c_drawn {f : Addr} {fd : FuncData} (D : Df K mg "_law_drawn_steps" (top 62) f fd) (B : Bl mg) (c1 : C8.Cal P w K mg base 1 "_law_pull" spPull []) (c2 : C8.Cal P w K mg base 3 "_law_sets" (spLSets T) []) : C8.Cal P w K mg base 4 "_law_drawn_steps" (spDrawn T) [] := by
  refine cal_of D (fun _ _ _ _ _ _ us hl => match us, hl with | [_, _, _, _], _ => rfl) sc_drawn (fun vs H Q E h => ?_) (fun cdv A outer s H vs Q E hr h => ?_)
  · obtain ⟨b, L, rooms, high, rfl, _⟩ := h
    rfl
  · obtain ⟨b, L, rooms, high, rfl, hb, l4, hTb, r1, r2, h1, h2, k⟩ := h
    have hsl := sets16 l4
    refine ⟨_, pss_cons (ps_set (i := 4) sc_drawn.nd rfl (Or.inl rfl) (C8.pe_c c2 hr (by decide) (by rfl) (pa_cons (pv 1) pa_nil)))
      (pss_cons (ps_set (i := 5) sc_drawn.nd rfl (Or.inl rfl) (pe_lst pa_nil))
      (pss_cons (ps_for PassesOwn.never rfl (pi_range1 (by rfl) B.range (pa_cons (pv 2) pa_nil)) (pg_name (i := 6) sc_drawn.nd rfl (Or.inl rfl))
        (pss_one (ps_expr (pe_bm PySem.F.plainAttrs_list PySem.F.slot_list_append PySem.F.type_list_append mt_append (pv 5) (pa_cons
          (pe_lc (own := [("_law_lit", 7)]) (g := gName 7) rfl sc_drawn.nd (pi_list (pv 4)) (blkOk_by (own := [("_law_lit", 7)]) (N := ["_law_bag_here", "_law_lamps", "_law_rooms", "_law_high", "_law_sets_here", "_law_found", "_law_room", "_law_lit"]) (sc := defScope (top 62)) (by decide +kernel))
            (fun _ _ _ _ _ => pg_name (i := 7) sc_drawn.nd rfl (Or.inl rfl)) (fun _ _ _ _ _ => pts_nil) (fun _ _ _ _ _ => pe_tup (pa_cons (C8.pe_c c1 hr (by decide) (by rfl) (pa_cons (pv 0) (pa_cons (pv 3) pa_nil))) (pa_cons (C8.pe_c c1 hr (by decide) (by rfl) (pa_cons (pv 0) (pa_cons (pv 2) pa_nil))) pa_nil)))) pa_nil)))))
      (pss_one (ps_ret (pv 5))))), ?_⟩
    refine ⟨_, rfl, L, rfl, l4, hTb, fun H1 a s1 ha => ?_⟩
    have s2 : Sx T H (upd H1 a (.lst ((setsOf L).map tx))) := s1.trans (Sx.of (Same.one ha))
    have ha2 : (upd H1 a (.lst ((setsOf L).map tx))) a = some (.lst ((setsOf L).map tx)) := upd_same
    generalize upd H1 a (.lst ((setsOf L).map tx)) = H2 at s2 ha2 ⊢
    refine ⟨by show 0 ≤ sizeLine; decide, fun F hF => ?_⟩
    have hb2 := s2.bag hb
    refine ⟨_, rfl, _, rfl, by omega, by omega, ?_⟩
    refine for_it (walk_range (lo := 0) (n := rooms)) (fun i σ H' => ∃ (us : List V) (rs : Rows') (x : Option V), σ = [some (.ref b), some (tx L), some (.int rooms), some (.int high), some (.ref a), some (.ref F), x, none] ∧ Same H2 H' ∧ H' F = some (.lst us) ∧ Paired (fun v r => RowAt H' v r ∧ v ≠ .ref F) us rs ∧ rs.length = i ∧ ∀ r ∈ rs, r.length = (setsOf L).length ∧ ∀ p ∈ r, 0 ≤ p.1 ∧ p.1 < high ∧ 0 ≤ p.2 ∧ p.2 < rooms)
      ⟨[], [], none, rfl, Same.one hF, upd_same, .nil, rfl, fun r hr => nomatch hr⟩ (fun _ _ _ _ _ => trivial) (fun i v σ H3 H4 hi p yy => ?_) fun σ H3 p => ?_
    · obtain ⟨us, rs, x, rfl, sm, hFl, hps, hrl, hrs⟩ := p
      obtain ⟨rfl, rfl⟩ := yy
      have hul : us.length = rs.length := hps.length
      refine ⟨_, rfl, .inl ⟨rfl, _, SqL.of hFl⟩, ?_⟩
      refine ⟨_, rfl, a, rfl, ⟨_, SqL.of (sm _ _ ha2)⟩, fun Dn hDn => ?_⟩
      refine lc_it walk_list (fun j H' => Same H4 H' ∧ ∃ zs qs, H' Dn = some (.lst zs) ∧ Paired (StepAt H') zs qs ∧ qs.length = j ∧ ∀ p ∈ qs, 0 ≤ p.1 ∧ p.1 < (high : Int) ∧ 0 ≤ p.2 ∧ p.2 < (rooms : Int)) ⟨Same.one hDn, [], [], upd_same, .nil, rfl, fun p hp => nomatch hp⟩ (fun j H' _ p => SqL.of ((sm.trans p.1) _ _ ha2)) (fun j y H5 H6 hj p yy => ?_) fun H5 p => ?_
      · obtain ⟨rfl, hy⟩ := yy
        obtain ⟨s5, zs, qs, hz, hzp, hql, hq⟩ := p
        rw [List.length_map] at hj
        have hzl : zs.length = qs.length := hzp.length
        refine ⟨rfl, yes ?_⟩
        refine ⟨_, rfl, _, rfl, b, high, rfl, hb2.same (sm.trans s5), h1, h2, fun m H7 s7 hm => ?_⟩
        refine ⟨_, rfl, _, rfl, b, rooms, rfl, hb2.same (sm.trans (s5.trans s7)), r1, r2, fun g H8 s8 hg => ?_⟩
        refine ⟨by show 2 ≤ sizeLine; decide, fun p hp => ?_⟩
        have sp : Same H8 (upd H8 p (.tup [.int m, .int g])) := Same.one hp
        have hpv : (upd H8 p (.tup [.int m, .int g])) p = some (.tup [.int (m : Nat), .int (g : Nat)]) := upd_same
        generalize upd H8 p (.tup [.int m, .int g]) = H9 at sp hpv ⊢
        have s79 : Same H6 H9 := s7.trans (s8.trans sp)
        refine ⟨zs, s79 _ _ hz, small' (by omega), Same.put (s5.trans s79) hDn, zs ++ [.ref p], qs ++ [((m : Int), (g : Int))], upd_same, ?_, by rw [List.length_append, hql]; rfl, fun q hq' => ?_⟩
        · have tp : TupS H9 (upd H9 Dn (.lst (zs ++ [.ref p]))) := TupS.lst (s79 _ _ hz)
          exact Paired.snoc (L2.Paired.mapP hzp fun _ _ h => StepAt.tupS ((TupS.of s79).trans tp) h) ⟨p, rfl, tp _ _ hpv⟩
        · rcases List.mem_append.mp hq' with h | h
          · exact hq q h
          · rw [List.mem_singleton.mp h]
            exact ⟨by show (0 : Int) ≤ m; omega, by show (m : Int) < high; omega, by show (0 : Int) ≤ g; omega, by show (g : Int) < rooms; omega⟩
      · obtain ⟨s5, zs, qs, hz, hzp, hql, hq⟩ := p
        rw [List.length_map] at hql
        have hF5 := s5 _ _ hFl
        have hDF : Dn ≠ F := fun e => by
          rw [e, hFl] at hDn
          cases hDn
        refine ⟨F, _, _, rfl, rfl, hF5, small' (by omega), ?_⟩
        refine ⟨us ++ [.ref Dn], rs ++ [qs], _, rfl, Same.put (sm.trans s5) hF, upd_same, ?_, by rw [List.length_append, hrl]; rfl, fun r hr' => ?_⟩
        · refine Paired.snoc (L2.Paired.mapP hps fun v r h => ⟨RowAt.put hF5 (h.1.same s5) h.2, h.2⟩) ⟨RowAt.put hF5 ⟨Dn, zs, rfl, hz, hzp⟩ (fun e => hDF (V.ref.inj e)), fun e => hDF (V.ref.inj e)⟩
        · rcases List.mem_append.mp hr' with h | h
          · exact hrs r h
          · rw [List.mem_singleton.mp h]
            exact ⟨hql, hq⟩
    · obtain ⟨us, rs, x, rfl, sm, hFl, hps, hrl, hrs⟩ := p
      exact ⟨_, rfl, k (.ref F) rs _ (s2.trans (Sx.of sm)) ⟨F, us, rfl, hFl, L2.Paired.mapP hps fun _ _ h => h.1⟩ hrl hrs⟩
end
end Rg

end
section
set_option Elab.async false
set_option linter.all false
set_option maxRecDepth 100000
set_option maxHeartbeats 4000000
namespace Rg
open PySem PySem.Spec PyProof.Rows L2 LamX
theorem eqV_tx (a b : Lit) : eqV (tx a) (tx b) = decide (a = b) := by
  show (SX.S a == SX.S b) = decide (a = b)
  by_cases h : a = b
  · rw [h]
    simp
  · rw [decide_eq_false h]
    have : SX.S a ≠ SX.S b := fun q => h (by simpa [SX.S] using congrArg (fun s : Str => s.cps.toList) q)
    exact beq_eq_false_iff_ne.mpr this
/-- a set's place among the sets -/
theorem idx_tx {ls : List Lit} (nd : ls.Nodup) {j : Nat} {l : Lit} (h : ls[j]? = some l) : ∀ (m : Nat) (z : V), m < j → (ls.map tx)[m]? = some z → eqV z (tx l) = false := fun m z hm hz => by
  obtain ⟨l', hl', rfl⟩ := map_at hz
  rw [eqV_tx]
  refine decide_eq_false fun e => ?_
  subst e
  obtain ⟨q1, e1⟩ := List.getElem?_eq_some_iff.mp h
  obtain ⟨q2, e2⟩ := List.getElem?_eq_some_iff.mp hl'
  have a := nd.idxOf_getElem j q1
  have b := nd.idxOf_getElem m q2
  rw [e1] at a
  rw [e2] at b
  omega
theorem cr_maxK {X : Cx} (K : PySem.W.Frag) (hc : X.calm = true) (h : X.K = K := by rfl) : CallR X (.builtin "max") (rMax K) := h ▸ cr_max hc
theorem run_take {nx : Int → Lit → Int} {r : Int} {ds : List Lit} {i : Nat} {d : Lit} (h : ds[i]? = some d) : run nx r (ds.take (i + 1)) = nx (run nx r (ds.take i)) d := by
  rw [take_get_succ h, run_append]
  rfl
theorem nums_take {nx nu : Int → Lit → Int} {r : Int} {ds : List Lit} {i : Nat} {d : Lit} (h : ds[i]? = some d) : nums nx nu r (ds.take (i + 1)) = nums nx nu r (ds.take i) ++ [nu (run nx r (ds.take i)) d] := by
  rw [take_get_succ h, nums_append]
  rfl
section
variable {P : Program} {w : World} {K : PySem.W.Frag} {mg : Str → Option Value} {base : Heap} {T : List (Addr × Str)}
/-! _law_tells -/
def spTells (T : List (Addr × Str)) : Sp := fun vs H Q _ => ∃ (L : Lit) (v : V) (A B : Addr) (rs : Rows') (lead ring : List Lit) (m : Int), vs = [tx L, v, .ref A, .ref B] ∧ RowsAt H v rs ∧ RowsOk L rs ∧ Ok L ∧ L.length ≤ 4 ∧ H A = some (.lst (lead.map tx)) ∧ H B = some (.lst (ring.map tx)) ∧ (∀ d ∈ lead ++ ring, d.Sublist L) ∧ ring ≠ [] ∧ ring.length ≤ 1010000 ∧ Tabs T H ∧
  run (nxT L rs) (run (nxT L rs) 0 lead) ring = run (nxT L rs) 0 lead ∧ IsMax m (nums (nxT L rs) (nuT L rs) (run (nxT L rs) 0 lead) ring) ∧ ∀ H', Sx T H H' → Q (.bl (decide (m % 2 = 0))) H'
theorem sc_tells : FnScope ["_law_lamps", "_law_steps_here", "_law_lead", "_law_ring", "_law_sets_here", "_law_room", "_law_seen", "_law_numbers", "_law_lit", "_law_row", "_law_step"] ["_law_lamps", "_law_steps_here", "_law_lead", "_law_ring"] (defScope (top 61)) := ⟨rfl, rfl, rfl, by decide +kernel, rfl, by decide +kernel, by decide +kernel⟩
/-- a step, as it is read -/
theorem step_read {H : Hp} {v : V} {L : Lit} {rs : Rows'} (h : RowsAt H v rs) (ro : RowsOk L rs) (nd : L.Nodup) {r : Int} (h0 : 0 ≤ r) (hr : r < rs.length) {D : Lit} (hD : D.Sublist L) :
    ∃ (a : Addr) (us : List V) (i j : Nat) (b : Addr) (qs : List V) (t : Addr), v = .ref a ∧ H a = some (.lst us) ∧ r = (i : Int) ∧ us[i]? = some (.ref b) ∧ H b = some (.lst qs) ∧ (setsOf L)[j]? = some D ∧ qs[j]? = some (.ref t) ∧ H t = some (.tup [.int (nuT L rs r D), .int (nxT L rs r D)]) := by
  obtain ⟨a, us, rfl, ha, hp⟩ := h
  obtain ⟨i, j, row, p, rfl, h1, h2, h3, e⟩ := stp_ex ro h0 hr hD nd
  obtain ⟨u, hu, b, qs, rfl, hb, hq⟩ := paired_at hp h1
  obtain ⟨x, hx, t, rfl, ht⟩ := paired_at hq h3
  refine ⟨a, us, i, j, b, qs, t, rfl, ha, rfl, hu, hb, h2, hx, ?_⟩
  unfold nuT nxT
  rw [e]
  exact ht
theorem c_tells {f : Addr} {fd : FuncData} (D : Df K mg "_law_tells" (top 61) f fd) (B : Bl mg) (c1 : C8.Cal P w K mg base 3 "_law_sets" (spLSets T) []) : C8.Cal P w K mg base 4 "_law_tells" (spTells T) [] := by
  refine cal_of D (fun _ _ _ _ _ _ us hl => match us, hl with | [_, _, _, _], _ => rfl) sc_tells (fun vs H Q E h => ?_) (fun cdv A outer s H vs Q E hr h => ?_)
  · obtain ⟨L, v, A, B', rs, lead, ring, m, rfl, _⟩ := h
    rfl
  · obtain ⟨L, v, A1, B1, rs, lead, ring, m, rfl, hrs, ro, ok, l4, hA, hB, hds, hne, hrl, hTb, hrun, hmax, k⟩ := h
    have nd := ris_nodup ok.ris
    have snd := setsOf_nodup nd
    have hpos := List.length_pos_iff.mpr ro.ne
    have hleadL : ∀ d ∈ lead, d.Sublist L := fun d hd => hds d (List.mem_append_left _ hd)
    have hringL : ∀ d ∈ ring, d.Sublist L := fun d hd => hds d (List.mem_append_right _ hd)
    refine ⟨_, pss_cons (ps_asg (pe_tup (pa_cons (C8.pe_c c1 hr (by decide) (by rfl) (pa_cons (pv 0) pa_nil)) (pa_cons pe_int (pa_cons (pe_lst pa_nil) (pa_cons (pe_lst pa_nil) pa_nil)))))
        (pg_tup rfl (pgs_cons (pg_name (i := 4) sc_tells.nd rfl (Or.inl rfl)) (pgs_cons (pg_name (i := 5) sc_tells.nd rfl (Or.inl rfl)) (pgs_cons (pg_name (i := 6) sc_tells.nd rfl (Or.inl rfl)) (pgs_cons (pg_name (i := 7) sc_tells.nd rfl (Or.inl rfl)) pgs_nil))))))
      (pss_cons (ps_for PassesOwn.never rfl (pi_list (pv 2)) (pg_name (i := 8) sc_tells.nd rfl (Or.inl rfl))
        (pss_one (ps_set (i := 5) sc_tells.nd rfl (Or.inl rfl) (pe_ix ix_tup (pe_ix ix_list (pe_ix ix_list (pv 1) (pv 5) (fun _ _ => rfl)) (pe_bm PySem.F.plainAttrs_list PySem.F.slot_list_index PySem.F.type_list_index mt_index (pv 4) (pa_cons (pv 8) pa_nil)) (fun _ _ => rfl)) pe_int (fun _ _ => rfl)))))
      (pss_cons (ps_while PassesOwn.never (pt_cmpR op_notIn_seq (pv 5) (pv 6) rfl)
        (pss_cons (ps_expr (pe_bm PySem.F.plainAttrs_list PySem.F.slot_list_append PySem.F.type_list_append mt_append (pv 6) (pa_cons (pv 5) pa_nil)))
        (pss_cons (ps_set (i := 9) sc_tells.nd rfl (Or.inl rfl) (pe_lst pa_nil))
        (pss_cons (ps_for PassesOwn.never rfl (pi_list (pv 3)) (pg_name (i := 8) sc_tells.nd rfl (Or.inl rfl))
          (pss_cons (ps_set (i := 10) sc_tells.nd rfl (Or.inl rfl) (pe_ix ix_list (pe_ix ix_list (pv 1) (pv 5) (fun _ _ => rfl)) (pe_bm PySem.F.plainAttrs_list PySem.F.slot_list_index PySem.F.type_list_index mt_index (pv 4) (pa_cons (pv 8) pa_nil)) (fun _ _ => rfl)))
          (pss_cons (ps_expr (pe_bm PySem.F.plainAttrs_list PySem.F.slot_list_append PySem.F.type_list_append mt_append (pv 9) (pa_cons (pe_ix ix_tup (pv 10) pe_int (fun _ _ => rfl)) pa_nil)))
          (pss_one (ps_set (i := 5) sc_tells.nd rfl (Or.inl rfl) (pe_ix ix_tup (pv 10) pe_int (fun _ _ => rfl)))))))
        (pss_one (ps_expr (pe_bm PySem.F.plainAttrs_list PySem.F.slot_list_append PySem.F.type_list_append mt_append (pv 7) (pa_cons (pv 9) pa_nil))))))))
      (pss_one (ps_ret (pe_cmpR op_eq (pe_op op_mod (pe_callTy call_int1 (by rfl) B.int (by decide +kernel) (pa_cons (pe_callB (cr_max rfl) (by rfl) B.max (by decide +kernel) (pa_cons
        (pe_lc (own := [("_law_row", 9)]) (g := gName 9) rfl sc_tells.nd (pi_list (pe_slice sl_list (pv 7) (po_some (pe_bm PySem.F.plainAttrs_list PySem.F.slot_list_index PySem.F.type_list_index mt_index (pv 6) (pa_cons (pv 5) pa_nil))) po_none)) (blkOk_by (own := [("_law_row", 9)]) (N := ["_law_lamps", "_law_steps_here", "_law_lead", "_law_ring", "_law_sets_here", "_law_room", "_law_seen", "_law_numbers", "_law_lit", "_law_row", "_law_step"]) (sc := defScope (top 61)) (by decide +kernel))
          (fun _ _ _ _ _ => pg_name (i := 9) sc_tells.nd rfl (Or.inl rfl)) (fun _ _ _ _ _ => pts_nil) (fun _ _ _ _ _ => pe_callB (cr_maxK K rfl) (by rfl) B.max (by decide +kernel) (pa_cons (pv 9) pa_nil))) pa_nil)) pa_nil)) pe_int) pe_int (nomark _)))))), ?_⟩
    refine ⟨_, rfl, L, rfl, l4, hTb, fun H1 S s1 hS => ?_⟩
    have s2 : Sx T H (upd H1 S (.lst ((setsOf L).map tx))) := s1.trans (Sx.of (Same.one hS))
    have hS2 : (upd H1 S (.lst ((setsOf L).map tx))) S = some (.lst ((setsOf L).map tx)) := upd_same
    generalize upd H1 S (.lst ((setsOf L).map tx)) = H2 at s2 hS2 ⊢
    refine ⟨by show 0 ≤ sizeLine; decide, fun sn hsn => ⟨by show 0 ≤ sizeLine; decide, fun nb hnb => ⟨by show 4 ≤ sizeLine; decide, fun t ht => ?_⟩⟩⟩
    have hsnb : sn ≠ nb := ne_of_none upd_same hnb
    have sa : Same H2 (upd (upd H2 sn (.lst [])) nb (.lst [])) := (Same.one hsn).trans (Same.one hnb)
    have sb : Same (upd (upd H2 sn (.lst [])) nb (.lst [])) (upd (upd (upd H2 sn (.lst [])) nb (.lst [])) t (.tup [.ref S, .int 0, .ref sn, .ref nb])) := Same.one ht
    have hsn3 : (upd (upd (upd H2 sn (.lst [])) nb (.lst [])) t (.tup [.ref S, .int 0, .ref sn, .ref nb])) sn = some (.lst []) := sb _ _ (by rw [upd_ne hsnb]; exact upd_same)
    have hnb3 : (upd (upd (upd H2 sn (.lst [])) nb (.lst [])) t (.tup [.ref S, .int 0, .ref sn, .ref nb])) nb = some (.lst []) := sb _ _ upd_same
    refine ⟨t, _, rfl, SqT.of upd_same, rfl, _, _, rfl, _, _, rfl, _, _, rfl, _, _, rfl, rfl, ?_⟩
    have s3 : Same H2 (upd (upd (upd H2 sn (.lst [])) nb (.lst [])) t (.tup [.ref S, .int 0, .ref sn, .ref nb])) := sa.trans sb
    generalize upd (upd (upd H2 sn (.lst [])) nb (.lst [])) t (.tup [.ref S, .int 0, .ref sn, .ref nb]) = H3 at s3 hsn3 hnb3 ⊢
    have s03 : Sx T H H3 := s2.trans (Sx.of s3)
    have hnH : H2 nb = none := none_of (Same.one hsn) hnb
    have rows : ∀ {H' : Hp}, Stay H3 H' → RowsAt H' v rs := fun s => (hrs.stay s03.stay).stay s
    have inB : ∀ (ds : List Lit) (r : Int), 0 ≤ r → r < rs.length → (∀ d ∈ ds, d.Sublist L) → 0 ≤ run (nxT L rs) r ds ∧ run (nxT L rs) r ds < rs.length := fun ds r h0 h1 hd => run_in ro nd ds r h0 h1 hd
    refine ⟨_, rfl, A1, rfl, ⟨_, SqL.of (s03.lst hA)⟩, ?_⟩
    refine for_it walk_list (fun i σ H' => ∃ x8, σ = [some (tx L), some v, some (.ref A1), some (.ref B1), some (.ref S), some (.int (run (nxT L rs) 0 (lead.take i))), some (.ref sn), some (.ref nb), x8, none, none] ∧ H' = H3) ⟨none, rfl, rfl⟩ (fun i σ H' _ p => (let ⟨_, _, e⟩ := p; by rw [e]; exact SqL.of (s03.lst hA))) (fun i y σ H4 H5 hi p yy => ?_) fun σ H4 p => ?_
    · obtain ⟨x8, rfl, rfl⟩ := p
      obtain ⟨rfl, hy⟩ := yy
      obtain ⟨d, hd, rfl⟩ := map_at hy
      have hdL := hleadL d (List.mem_of_getElem? hd)
      obtain ⟨b0, b1⟩ := inB (lead.take i) 0 (Int.le_refl 0) (by omega) fun d h => hleadL d (List.mem_of_mem_take h)
      obtain ⟨a, us, i', j, b, qs, t, rfl, ha, er, hu, hb, hj, hq, htt⟩ := step_read (rows ⟨fun _ _ h => h, fun _ _ h => h⟩) ro nd b0 b1 hdL
      refine ⟨_, rfl, _, rfl, _, _, _, _, rfl, rfl, SqL.of ha, (by rw [er]; exact atI_nat (j := i') hu), _, rfl, .inl ⟨rfl, _, SqL.of (s3 _ _ hS2)⟩, _, rfl, S, _, _, j, _, rfl, rfl, SqL.of (s3 _ _ hS2), rfl, flat_tx _, (by rw [List.getElem?_map, hj]; rfl), (by rw [eqV_tx]; exact decide_eq_true rfl), idx_tx snd hj, _, _, _, _, rfl, rfl, SqL.of hb, atI_nat (j := j) hq, _, _, _, _, rfl, rfl, SqT.of htt, atI_nat (j := 1) rfl, ?_⟩
      refine ⟨some (tx d), ?_, rfl⟩
      rw [run_take hd]
      rfl
    · obtain ⟨x8, rfl, rfl⟩ := p
      rw [List.length_map, List.take_length]
      obtain ⟨r0, r1⟩ := inB lead 0 (Int.le_refl 0) (by omega) hleadL
      generalize run (nxT L rs) 0 lead = r at hrun hmax r0 r1 ⊢
      have hsH : H2 sn = none := hsn
      have rows2 : ∀ {H' : Hp}, Same H2 H' → RowsAt H' v rs := fun s => (hrs.stay s2.stay).stay (Stay.of s)
      refine ⟨fun n σ H' => (n = 1 ∧ ∃ x8, σ = [some (tx L), some v, some (.ref A1), some (.ref B1), some (.ref S), some (.int r), some (.ref sn), some (.ref nb), x8, none, none] ∧ H' = H4) ∨
        (n = 0 ∧ ∃ x8 x9 x10 R, σ = [some (tx L), some v, some (.ref A1), some (.ref B1), some (.ref S), some (.int r), some (.ref sn), some (.ref nb), x8, x9, x10] ∧ Same H2 H' ∧ H' sn = some (.lst [.int r]) ∧ H' nb = some (.lst [.ref R]) ∧ H' R = some (.lst ((nums (nxT L rs) (nuT L rs) r ring).map V.int))), ⟨1, .inl ⟨rfl, x8, rfl, rfl⟩⟩, ?_⟩
      rintro n σ H' (⟨rfl, x8, rfl, rfl⟩ | ⟨rfl, x8, x9, x10, R, rfl, sm, hsn', hnb', hR⟩)
      · refine ⟨_, rfl, _, rfl, sn, _, rfl, .inl (SqL.of hsn3), rfl, rfl, _, rfl, iteT ?_⟩
        refine ⟨fun σ' H'' => ∃ x8 x9 x10 R, σ' = [some (tx L), some v, some (.ref A1), some (.ref B1), some (.ref S), some (.int r), some (.ref sn), some (.ref nb), x8, x9, x10] ∧ Same H2 H'' ∧ H'' sn = some (.lst [.int r]) ∧ H'' nb = some (.lst [.ref R]) ∧ H'' R = some (.lst ((nums (nxT L rs) (nuT L rs) r ring).map V.int)), fun σ' H'' q => ⟨0, by decide, .inr ⟨rfl, q⟩⟩, ?_⟩
        refine ⟨_, rfl, .inl ⟨rfl, _, SqL.of hsn3⟩, _, rfl, sn, _, _, rfl, rfl, hsn3, by decide, ?_⟩
        have s4 : Same H2 (upd H' sn (.lst ([] ++ [.int r]))) := Same.put s3 hsH
        have hsn4 : (upd H' sn (.lst ([] ++ [.int r]))) sn = some (.lst [.int r]) := upd_same
        have hnb4 : (upd H' sn (.lst ([] ++ [.int r]))) nb = some (.lst []) := by rw [upd_ne hsnb.symm]; exact hnb3
        generalize upd H' sn (.lst ([] ++ [.int r])) = H5 at s4 hsn4 hnb4 ⊢
        refine ⟨by show 0 ≤ sizeLine; decide, fun R hR => ?_⟩
        have s5 : Same H5 (upd H5 R (.lst [])) := Same.one hR
        have hR2 : H2 R = none := none_of s4 hR
        have hRs : R ≠ sn := (ne_of_none hsn4 hR).symm
        have hRn : R ≠ nb := (ne_of_none hnb4 hR).symm
        refine ⟨_, rfl, B1, rfl, ⟨_, SqL.of ((s4.trans s5) _ _ (s2.lst hB))⟩, ?_⟩
        refine for_it walk_list (fun j σ H'' => ∃ x8 x10, σ = [some (tx L), some v, some (.ref A1), some (.ref B1), some (.ref S), some (.int (run (nxT L rs) r (ring.take j))), some (.ref sn), some (.ref nb), x8, some (.ref R), x10] ∧ Same H2 H'' ∧ H'' sn = some (.lst [.int r]) ∧ H'' nb = some (.lst []) ∧ H'' R = some (.lst ((nums (nxT L rs) (nuT L rs) r (ring.take j)).map V.int)))
          ⟨x8, none, rfl, s4.trans s5, s5 _ _ hsn4, s5 _ _ hnb4, upd_same⟩ (fun j σ H'' _ p => (let ⟨_, _, _, sm, _⟩ := p; SqL.of (sm _ _ (s2.lst hB)))) (fun j y σ H6 H7 hj p yy => ?_) fun σ H6 p => ?_
        · obtain ⟨x8, x10, rfl, sm, h1, h2, h3⟩ := p
          obtain ⟨rfl, hy⟩ := yy
          obtain ⟨d, hd, rfl⟩ := map_at hy
          have hdL := hringL d (List.mem_of_getElem? hd)
          rw [List.length_map] at hj
          obtain ⟨b0, b1⟩ := inB (ring.take j) r r0 r1 fun d h => hringL d (List.mem_of_mem_take h)
          obtain ⟨a, us, i', jj, b, qs, t, ev, ha, er, hu, hb, hjj, hq, htt⟩ := step_read (rows2 sm) ro nd b0 b1 hdL
          cases ev
          refine ⟨_, rfl, _, rfl, _, _, _, _, rfl, rfl, SqL.of ha, (by rw [er]; exact atI_nat (j := i') hu), _, rfl, .inl ⟨rfl, _, SqL.of (sm _ _ hS2)⟩, _, rfl, S, _, _, jj, _, rfl, rfl, SqL.of (sm _ _ hS2), rfl, flat_tx _, (by rw [List.getElem?_map, hjj]; rfl), (by rw [eqV_tx]; exact decide_eq_true rfl), idx_tx snd hjj, _, _, _, _, rfl, rfl, SqL.of hb, atI_nat (j := jj) hq, ?_⟩
          have nl : (nums (nxT L rs) (nuT L rs) r (ring.take j)).length ≤ 1010000 := by
            rw [nums_len]
            have := List.length_take_le' j ring
            omega
          refine ⟨_, rfl, .inl ⟨rfl, _, SqL.of h3⟩, _, rfl, _, _, _, _, rfl, rfl, SqT.of htt, atI_nat (j := 0) rfl, R, _, _, rfl, rfl, h3, by rw [List.length_map, sizeLine_eq]; omega, ?_⟩
          have s7 : Same H2 (upd H7 R (.lst ((nums (nxT L rs) (nuT L rs) r (ring.take j)).map V.int ++ [.int (nuT L rs (run (nxT L rs) r (ring.take j)) d)]))) := Same.put sm hR2
          have tt : TupS H7 (upd H7 R (.lst ((nums (nxT L rs) (nuT L rs) r (ring.take j)).map V.int ++ [.int (nuT L rs (run (nxT L rs) r (ring.take j)) d)]))) := TupS.lst h3
          refine ⟨_, rfl, _, _, _, _, rfl, rfl, SqT.of (tt _ _ htt), atI_nat (j := 1) rfl, ?_⟩
          refine ⟨some (tx d), some (.ref t), ?_, s7, by rw [upd_ne hRs.symm]; exact h1, by rw [upd_ne hRn.symm]; exact h2, ?_⟩
          · rw [run_take hd]
            rfl
          · rw [upd_same, nums_take hd, List.map_append]
            rfl
        · obtain ⟨x8, x10, rfl, sm, h1, h2, h3⟩ := p
          rw [List.length_map, List.take_length] at h3 ⊢
          rw [hrun]
          refine ⟨_, rfl, .inl ⟨rfl, _, SqL.of h2⟩, _, rfl, nb, _, _, rfl, rfl, h2, by decide, ?_⟩
          refine ⟨x8, _, x10, R, rfl, Same.put sm hnH, by rw [upd_ne hsnb]; exact h1, upd_same, by rw [upd_ne hRn]; exact h3⟩
      · have hin : inV (.int r) [.int r] = true := by
          unfold inV
          simp [eqV]
        refine ⟨_, rfl, _, rfl, sn, _, rfl, .inl (SqL.of hsn'), rfl, rfl, false, congrArg V.bl (by rw [hin]; rfl), iteF ?_⟩
        refine ⟨_, rfl, _, rfl, .inl ⟨rfl, _, SqL.of hsn'⟩, _, rfl, sn, _, _, 0, _, rfl, rfl, SqL.of hsn', rfl, rfl, rfl, (by show (r == r) = true; simp), (fun m z hm => absurd hm (Nat.not_lt_zero _)), _, rfl, nb, _, rfl, SqL.of hnb', fun p hp => ?_⟩
        have ec : cutV [V.ref R] (some ((0 : Nat) : Int)) none = [V.ref R] := rfl
        rw [ec]
        have s6 : Same H' (upd H' p (.lst [.ref R])) := Same.one hp
        refine ⟨p, rfl, ⟨_, SqL.of upd_same⟩, fun Dn hDn => ?_⟩
        refine lc_val same_ok walk_list (fun i => ([m].take i).map V.int) hDn rfl (fun i hi => ?_) (fun H'' r => SqL.of (r _ _ upd_same)) (fun N i y H7 H8 hi r7 yy keep skip => ?_) fun H7 r7 hD7 => ?_
        · exact Nat.lt_of_le_of_lt (m_take_len _ _ _) (small' (by show 1 ≤ 1000000; decide))
        · obtain ⟨rfl, hy⟩ := yy
          have hi0 : i = 0 := by
            have : i < 1 := hi
            omega
          subst hi0
          have hy : some (V.ref R) = some y := hy
          cases hy
          refine ⟨rfl, yes ?_⟩
          refine ⟨_, rfl, R, _, rfl, SqL.of ((s6.trans r7) _ _ hR), ?_, fun m' h1 h2 => keep _ _ (Same.refl _) ?_⟩
          · rw [nums_len]
            exact List.length_pos_iff.mpr hne
          · rw [hmax.uniq ⟨h1, h2⟩]
            rfl
        · have hD7 : H7 Dn = some (.lst ([m].map V.int)) := hD7
          refine ⟨Dn, [m], rfl, SqL.of hD7, (by show 0 < 1; decide), fun m' h1 _ => .inl ⟨_, rfl, _, _, rfl, rfl, (by show (0 : Int) < 2; decide), rfl, ?_⟩⟩
          rw [List.mem_singleton.mp h1]
          have e0 : decide (V.int (m % 2) = V.int 0) = decide (m % 2 = 0) := by simp
          show Q (.bl (decide (V.int (m % 2) = V.int 0))) H7
          rw [e0]
          exact k _ (s2.trans (Sx.of (sm.trans (s6.trans r7))))
end
end Rg

end
section
set_option Elab.async false
set_option linter.all false
set_option maxRecDepth 100000
set_option maxHeartbeats 4000000
namespace Rg
open PySem PySem.Spec PyProof.Rows L2 LamX
theorem isiK {X : Cx} (K : PySem.W.Frag) (h : X.K = K := by rfl) : CallR X (.builtin "isinstance") (rIsi K) := h ▸ call_isi
section
variable {P : Program} {w : World} {K : PySem.W.Frag} {mg : Str → Option Value} {base : Heap} {T : List (Addr × Str)}
def spUnionW : Sp := fun vs H Q _ => ∃ (a : Addr) (ls : List Lit), vs = [V.ref a] ∧ H a = some (.lst (ls.map tx)) ∧ ls.length ≤ 2000000 ∧ ∀ H', Same H H' → Q (tx (un abc ls)) H'
theorem c_lunionW {f : Addr} {fd : FuncData} (D : Df K mg "_law_union" (top 50) f fd) (B : Bl mg) : C8.Cal P w K mg base 1 "_law_union" spUnionW [] := by
  refine cal_of D (fun _ _ _ _ _ _ us hl => match us, hl with | [_], _ => rfl) sc_lunion (fun vs H Q E h => ?_) (fun cdv A outer s H vs Q E hr h => ?_)
  · obtain ⟨l, m, rfl, _⟩ := h
    rfl
  · obtain ⟨a, ls, rfl, ha, hlen, k⟩ := h
    refine ⟨_, pss_one (ps_ret (pe_join pe_str
      (pe_lc (own := [("_law_letter", 1)]) (g := gName 1) (tt := tB (tCB (rAny K) (tCons (tLc (iList K (tVar 0)) (gName 2) tYes (tOp rSign (tVar 1) (tVar 2)) [2]) tNil))) rfl sc_lunion.nd (pi_str pe_str) (blkOk_by (own := [("_law_letter", 1)]) (N := ["_law_sets_here", "_law_letter", "_law_lit"]) (sc := defScope (top 50)) (by decide +kernel)) (fun _ _ _ _ _ => pg_name (i := 1) sc_lunion.nd rfl (Or.inr rfl))
        (fun _ _ _ _ _ => pts_one (pt_val (pe_callB (cr_any rfl) (by rfl) B.any (by decide +kernel) (pa_cons
          (pe_lc (own := [("_law_lit", 2)]) (g := gName 2) rfl sc_lunion.nd (pi_list (pv 0)) (blkOk_by (own := [("_law_lit", 2)]) (N := ["_law_sets_here", "_law_letter", "_law_lit"]) (sc := reSc (defScope (top 50)) (lcSc (rArg (bodyAt (top 50) 0)))) (by decide +kernel)) (fun _ _ _ _ _ => pg_name (i := 2) sc_lunion.nd rfl (Or.inl rfl)) (fun _ _ _ _ _ => pts_nil)
            (fun _ _ _ _ _ => pe_cmpR op_in_sign (pv 1) (pv 2) rfl)) pa_nil))))
        (fun _ _ _ _ _ => pv 1)))), ?_⟩
    refine ⟨⟨_, rfl⟩, _, rfl, fun D hD => ?_⟩
    refine lc_val same_ok walk_str (fun i => ((abc.take i).filter fun c => ls.any fun d => decide (c ∈ d)).map fun c => V.str ⟨#[c]⟩) hD rfl (fun i hi => ?_) (fun _ _ => trivial) (fun N i x H1 H2 hi r y keep skip => ?_) fun H1 r1 hDl => ?_
    · exact Nat.lt_of_le_of_lt (fm_take_len _ _ _ _) (small' (by decide))
    · obtain ⟨rfl, c, hc, rfl⟩ := y
      have hc' : abc[i]? = some c := by
        rw [← abc_list, Array.getElem?_toList]
        exact hc
      refine ⟨rfl, ?_⟩
      refine ⟨_, rfl, a, rfl, ⟨_, SqL.of (r _ _ ha)⟩, fun D2 hD2 => ?_⟩
      refine lc_val same_ok walk_list (fun j => (ls.take j).map fun d => V.bl (decide (c ∈ d))) hD2 rfl (fun j hj => ?_) (fun H3 r3 => SqL.of ((r.trans r3) _ _ ha)) (fun N2 j x H3 H4 hj r3 y keep2 skip2 => ?_) fun H3 r3 hDl2 => ?_
      · rw [List.length_map] at hj
        exact Nat.lt_of_le_of_lt (m_take_len _ _ _) (by rw [sizeLine_eq]; omega)
      · obtain ⟨rfl, hx⟩ := y
        rw [List.getElem?_map] at hx
        cases hy : ls[j]? with
        | none => rw [hy] at hx; cases hx
        | some d =>
          rw [hy] at hx
          have hx : some (tx d) = some x := hx
          cases hx
          refine ⟨rfl, yes ?_⟩
          exact ⟨_, rfl, _, rfl, c, _, rfl, rfl, keep2 _ _ (Same.refl _) (map_take_succ hy)⟩
      · rw [List.length_map, List.take_length] at hDl2
        refine ⟨D2, ls.map fun d => decide (c ∈ d), rfl, SqL.of (by rw [hDl2, List.map_map]; rfl), ?_⟩
        have e : (ls.map fun d => decide (c ∈ d)).any id = ls.any fun d => decide (c ∈ d) := by rw [List.any_map]; rfl
        rw [e]
        refine ⟨_, rfl, ?_⟩
        refine ite2 (fun h => ?_) (fun h => ?_)
        · exact ⟨_, rfl, keep _ _ r3 (fm_take_yes hc' h)⟩
        · exact skip _ r3 (fm_take_no hc' (by simpa using h))
    · have en : (Str.ofString "abcdefghijklmnopqrstuvwxyz").cps.size = abc.length := by rw [← abc_list, Array.length_toList]
      rw [en, List.take_length] at hDl
      refine ⟨_, D, (un abc ls).map fun c => (⟨#[c]⟩ : Str), rfl, rfl, .inl (SqL.of (by rw [hDl, List.map_map]; rfl)), ?_, ?_⟩
      · have h1 : ((un abc ls).map fun c => (⟨#[c]⟩ : Str)).length ≤ 26 := by
          rw [List.length_map]
          exact (un_sub abc ls).length_le
        have h2 : ∀ l : List Nat, ((l.map fun c => (⟨#[c]⟩ : Str)).map (·.length)).sum = l.length := fun l => by
          rw [List.map_map]
          exact (sum_const _ 1 l fun _ _ => rfl).trans (Nat.mul_one _)
        rw [h2]
        have h3 : (un abc ls).length ≤ 26 := (un_sub abc ls).length_le
        have h4 : (Str.ofString "").length = 0 := rfl
        rw [h4]
        omega
      · rw [join_signs]
        exact k _ r1
/-! _law_wrongly_told -/
def spWrongly (T : List (Addr × Str)) : Sp := fun vs H Q _ => ∃ (L : Lit) (v : V) (t F A B : Addr) (rs : Rows') (Tr lead ring : List Lit), vs = [tx L, v, .ref t, .ref F] ∧ RowsAt H v rs ∧ RowsOk L rs ∧ Ok L ∧ L.length ≤ 4 ∧ H t = some (.lst (Tr.map tx)) ∧ H F = some (.tup [.ref A, .ref B]) ∧ H A = some (.lst (lead.map tx)) ∧ H B = some (.lst (ring.map tx)) ∧ (∀ d ∈ lead ++ ring, d.Sublist L) ∧ ring ≠ [] ∧ lead.length ≤ 2000 ∧ ring.length ≤ 1010000 ∧ Tabs T H ∧
  BadRow L Tr rs lead ring ∧ ∀ H', Sx T H H' → Q (.bl true) H'
theorem sc_wrongly : FnScope ["_law_lamps", "_law_rows", "_law_true", "_law_found", "_law_lead", "_law_ring", "_law_part", "_law_lit"] ["_law_lamps", "_law_rows", "_law_true", "_law_found"] (defScope (top 63)) := ⟨rfl, rfl, rfl, by decide +kernel, rfl, by decide +kernel, by decide +kernel⟩
theorem c_wrongly {f : Addr} {fd : FuncData} (D : Df K mg "_law_wrongly_told" (top 63) f fd) (B : Bl mg) (c1 : C8.Cal P w K mg base 4 "_law_tells" (spTells T) []) (c2 : C8.Cal P w K mg base 1 "_law_union" spUnionW []) (c3 : C8.Cal P w K mg base 2 "_law_is_set" spSet []) : C8.Cal P w K mg base 5 "_law_wrongly_told" (spWrongly T) [] := by
  refine cal_of D (fun _ _ _ _ _ _ us hl => match us, hl with | [_, _, _, _], _ => rfl) sc_wrongly (fun vs H Q E h => ?_) (fun cdv A outer s H vs Q E hr h => ?_)
  · obtain ⟨L, v, t, F, A, B', rs, Tr, lead, ring, rfl, _⟩ := h
    rfl
  · obtain ⟨L, v, t, F, A1, B1, rs, Tr, lead, ring, rfl, hrs, ro, ok, l4, ht, hF, hA, hB, hds, hne, hll, hrl, hTb, bad, k⟩ := h
    obtain ⟨b1, m, b2, b3⟩ := bad
    have hdl : ∀ d ∈ lead ++ ring, d.Sublist L := hds
    refine ⟨_, pss_cons (ps_if (pw_or (pt_not (pt_val (pe_callB call_isi (by rfl) B.isi (by decide +kernel) (pa_cons (pv 3) (pa_cons (pe_bltn (v := .ty "tuple") (by rfl) B.tuple (by decide +kernel) rfl) pa_nil)))))
        (pw_or (pt_cmpR op_ne (pe_callB call_len_seq (by rfl) B.len boot_len (pa_cons (pv 3) pa_nil)) pe_int (nomark _))
        (pw_or1 (pt_not (pt_val (pe_callB (cr_all rfl) (by rfl) B.all (by decide +kernel) (pa_cons
          (pe_lc (own := [("_law_part", 6)]) (g := gName 6) rfl sc_wrongly.nd (pi_tup (pv 3)) (blkOk_by (own := [("_law_part", 6)]) (N := ["_law_lamps", "_law_rows", "_law_true", "_law_found", "_law_lead", "_law_ring", "_law_part", "_law_lit"]) (sc := defScope (top 63)) (by decide +kernel)) (fun _ _ _ _ _ => pg_name (i := 6) sc_wrongly.nd rfl (Or.inl rfl)) (fun _ _ _ _ _ => pts_nil)
            (fun _ _ _ _ _ => pe_callB (isiK K) (by rfl) B.isi (by decide +kernel) (pa_cons (pv 6) (pa_cons (pe_bltn (v := .ty "list") (by rfl) B.list (by decide +kernel) rfl) pa_nil)))) pa_nil))))))).pt pss_never pss_nil)
      (pss_cons (ps_asg (pv 3) (pg_tup rfl (pgs_cons (pg_name (i := 4) sc_wrongly.nd rfl (Or.inl rfl)) (pgs_cons (pg_name (i := 5) sc_wrongly.nd rfl (Or.inl rfl)) pgs_nil))))
      (pss_cons (ps_if (pw_or (pt_cmpR (op_eqD hr.units) (pv 5) (pe_lst pa_nil) (nomark _)) (pw_or1 (pt_not (pt_val (pe_callB (cr_all rfl) (by rfl) B.all (by decide +kernel) (pa_cons
          (pe_lc (own := [("_law_lit", 7)]) (g := gName 7) rfl sc_wrongly.nd (pi_list (pe_op op_cat (pv 4) (pv 5))) (blkOk_by (own := [("_law_lit", 7)]) (N := ["_law_lamps", "_law_rows", "_law_true", "_law_found", "_law_lead", "_law_ring", "_law_part", "_law_lit"]) (sc := defScope (top 63)) (by decide +kernel)) (fun _ _ _ _ _ => pg_name (i := 7) sc_wrongly.nd rfl (Or.inl rfl)) (fun _ _ _ _ _ => pts_nil)
            (fun _ _ _ _ _ => C8.pe_c c3 hr (by decide) (by rfl) (pa_cons (pv 7) (pa_cons (pv 0) pa_nil)))) pa_nil)))))).pt pss_never pss_nil)
      (pss_one (ps_ret (pe_cmpR op_ne (C8.pe_c c1 hr (by decide) (by rfl) (pa_cons (pv 0) (pa_cons (pv 1) (pa_cons (pv 4) (pa_cons (pv 5) pa_nil))))) (pe_cmpR op_in_seq (C8.pe_c c2 hr (by decide) (by rfl) (pa_cons (pv 5) pa_nil)) (pv 2) rfl) (nomark _)))))), ?_⟩
    refine ⟨_, rfl, _, _, _, _, true, rfl, .ty "tuple", .base (.tup hF), kit_ty (by decide +kernel), true, rfl, iteF ?_⟩
    refine ⟨_, rfl, _, _, rfl, .inr (SqT.of hF), rfl, _, rfl, iteF ?_⟩
    refine ⟨_, rfl, F, rfl, ⟨_, SqT.of hF⟩, fun D1 hD1 => ?_⟩
    refine lc_val same_ok walk_tup (fun j => List.replicate j (V.bl true)) hD1 rfl (fun j hj => ?_) (fun H3 r => SqT.of (r _ _ hF)) (fun N j x H3 H4 hj r y keep skip => ?_) fun H3 r3 hDl => ?_
    · rw [List.length_replicate]
      have : j < 2 := hj
      exact small' (by omega)
    · obtain ⟨rfl, hx⟩ := y
      refine ⟨rfl, yes ?_⟩
      have hj2 : j < 2 := hj
      have isl : ∃ (a : Addr) (xs : List V), x = .ref a ∧ H4 a = some (.lst xs) := by
        rcases (show j = 0 ∨ j = 1 by omega) with e | e
        · subst e
          have hx : some (V.ref A1) = some x := hx
          cases hx
          exact ⟨A1, _, rfl, r _ _ hA⟩
        · subst e
          have hx : some (V.ref B1) = some x := hx
          cases hx
          exact ⟨B1, _, rfl, r _ _ hB⟩
      obtain ⟨a, xs, rfl, hax⟩ := isl
      refine ⟨_, rfl, _, _, _, _, true, rfl, .ty "list", .base (.lst hax), kit_ty (by decide +kernel), keep _ _ (Same.refl _) ?_⟩
      rw [List.replicate_succ']
    · refine ⟨_, [true, true], rfl, SqL.of hDl, true, rfl, iteF ?_⟩
      refine ⟨_, rfl, F, _, rfl, SqT.of (r3 _ _ hF), rfl, _, _, rfl, _, _, rfl, rfl, ?_⟩
      have hA3 := r3 _ _ hA
      have hB3 := r3 _ _ hB
      refine ⟨_, rfl, by show 0 ≤ sizeLine; decide, fun e0 he0 => ?_⟩
      have sE : Same H3 (upd H3 e0 (.lst [])) := Same.one he0
      have rlo : ∀ l ∈ ring, ∀ c ∈ l, c < 1114112 := fun l hl c hc => abc_lo c (ok.abc c ((hds l (List.mem_append_right _ hl)).subset hc))
      obtain ⟨da, db, dc⟩ := txs_dp (K := K) (H := upd H3 e0 (.lst [])) rlo
      have dsh : SeqAt.shaped (.list (ring.map fun l => .str (SX.S l))) = true := by
        unfold SeqAt.shaped
        have e1 : (PyData.list (ring.map fun l => .str (SX.S l))).canLay0 = true := db
        have e2 : (PyData.list (ring.map fun l => .str (SX.S l))).depth ≤ 64 := by show PyData.depthAll _ + 1 ≤ 64; omega
        rw [e1, decide_eq_true e2]
        rfl
      refine ⟨.list (ring.map fun l => .str (SX.S l)), .list [], .lst (SqL.of (sE _ _ hB3)) da, .lst (SqL.of upd_same) .nil, dsh, rfl, _, rfl, ?_⟩
      rw [eqv_nil, decide_eq_false (fun e => hne (List.map_eq_nil_iff.mp e))]
      refine iteF ?_
      have s5 : Same H (upd H3 e0 (.lst [])) := r3.trans sE
      generalize upd H3 e0 (.lst []) = H5 at s5 ⊢
      refine ⟨_, rfl, _, rfl, A1, B1, _, _, rfl, rfl, s5 _ _ hA, s5 _ _ hB, by rw [List.length_map, List.length_map, sizeLine_eq]; omega, fun C1 hC1 => ?_⟩
      have s6 : Same H5 (upd H5 C1 (.lst (lead.map tx ++ ring.map tx))) := Same.one hC1
      have hC6 : (upd H5 C1 (.lst (lead.map tx ++ ring.map tx))) C1 = some (.lst ((lead ++ ring).map tx)) := by
        rw [upd_same, List.map_append]
      generalize upd H5 C1 (.lst (lead.map tx ++ ring.map tx)) = H6 at s6 hC6 ⊢
      refine ⟨C1, rfl, ⟨_, SqL.of hC6⟩, fun D2 hD2 => ?_⟩
      refine lc_val same_ok walk_list (fun j => List.replicate j (V.bl true)) hD2 rfl (fun j hj => ?_) (fun H3 r => SqL.of (r _ _ hC6)) (fun N j x H7 H8 hj r y keep skip => ?_) fun H7 r7 hD7 => ?_
      · rw [List.length_map, List.length_append] at hj
        rw [List.length_replicate, sizeLine_eq]
        omega
      · obtain ⟨rfl, hx⟩ := y
        obtain ⟨l, hl, rfl⟩ := map_at hx
        have hlL := hds l (List.mem_of_getElem? hl)
        refine ⟨rfl, yes ?_⟩
        refine ⟨_, rfl, _, rfl, l, L, rfl, ok.sub hlL, sub_mem hlL, fun H9 s9 => keep _ _ s9 ?_⟩
        rw [List.replicate_succ']
      · refine ⟨_, List.replicate ((lead ++ ring).map tx).length true, rfl, SqL.of (by rw [hD7, List.map_replicate]), ?_⟩
        have e2 : (List.replicate ((lead ++ ring).map tx).length true).all id = true := by simp [List.all_replicate]
        rw [e2]
        refine ⟨_, rfl, iteF ?_⟩
        have s7 : Same H H7 := s5.trans (s6.trans r7)
        refine ⟨_, rfl, _, rfl, _, rfl, _, rfl, L, v, A1, B1, rs, lead, ring, m, rfl, hrs.same s7, ro, ok, l4, s7 _ _ hA, s7 _ _ hB, hds, hne, hrl, hTb.ext s7, b1, b2, fun H8 s8 => ?_⟩
        have hB8 := s8.lst (s7 _ _ hB)
        refine ⟨_, rfl, B1, ring, rfl, hB8, by omega, fun H9 s9 => ?_⟩
        refine ⟨_, rfl, t, _, rfl, .inl (SqL.of (s9 _ _ (s8.lst (s7 _ _ ht)))), rfl, flat_tx Tr, rfl, ?_⟩
        rw [inV_tx, un_abc ok (fun d hd => hds d (List.mem_append_right _ hd))]
        have e3 : (!decide (V.bl (decide (m % 2 = 0)) = V.bl (decide (un L ring ∈ Tr)))) = true := by
          have : decide (m % 2 = 0) ≠ decide (un L ring ∈ Tr) := fun e => b3 (decide_eq_decide.mp e)
          simp [this]
        show Q (.bl (!decide (V.bl (decide (m % 2 = 0)) = V.bl (decide (un L ring ∈ Tr))))) H9
        rw [e3]
        exact k _ ((Sx.of s7).trans (s8.trans (Sx.of s9)))
end
end Rg

end
section
set_option Elab.async false
set_option linter.all false
set_option maxRecDepth 100000
set_option maxHeartbeats 4000000
namespace Rg
open PySem PySem.Spec PyProof.Rows L2 LamX
theorem cut_to {xs : List V} (k : Nat) : cutV xs none (some (k : Int)) = xs.take k := by
  unfold cutV
  rw [HT.sIx_none, HT.sIx_nat]
  show xs.take (min k xs.length - 0) = xs.take k
  rw [Nat.sub_zero]
  by_cases h : k ≤ xs.length
  · rw [Nat.min_eq_left h]
  · rw [Nat.min_eq_right (by omega), List.take_length, List.take_of_length_le (by omega)]
theorem cut_whole {xs : List V} {k : Nat} (h : HT.sIx xs.length 0 none = 0 ∧ HT.sIx xs.length xs.length (some (k : Int)) = xs.length) : xs.take k = xs := by
  have h2 := h.2
  rw [HT.sIx_nat] at h2
  exact List.take_of_length_le (by omega)
theorem slTupAK {X : Cx} (K : PySem.W.Frag) (h : X.K = K := by rfl) : SlR X (rSlA K) := h ▸ sl_tupA
section
variable {P : Program} {w : World} {K : PySem.W.Frag} {mg : Str → Option Value} {base : Heap} {T : List (Addr × Str)}
/-- a cut of a tuple, whole or not -/
theorem cut_read {H : Hp} {a : Addr} {xs : List V} {k : Nat} {Q : V → Hp → Prop} (h : H a = some (.tup xs)) (q : ∀ (p : Addr) (H' : Hp), Same H H' → H' p = some (.tup (xs.take k)) → Q (.ref p) H') : rSlA K (.ref a) none (some (k : Int)) H Q := by
  refine ⟨a, xs, rfl, SqT.of h, fun hw => q a H (Same.refl _) (by rw [cut_whole hw]; exact h), fun _ p hp => ?_⟩
  rw [cut_to]
  exact q p _ (Same.one hp) upd_same
theorem room65 {k : Nat} {A : Around} (hr : Room k A) : A.units + 65 < cLine := by
  have := hr.un
  omega
/-! _law_behind -/
def spBehind (T : List (Addr × Str)) : Sp := fun vs H Q _ => ∃ (t Rr : Addr) (us : List V) (Tr : List Lit) (L : Lit) (at_ k : Nat) (b : List Lit), vs = [.ref t, .ref Rr, .int at_, .int k] ∧ H t = some (.lst (Tr.map tx)) ∧ H Rr = some (.lst us) ∧ Paired (BrAt H) us (br Tr L) ∧ Ok L ∧ L.length ≤ 4 ∧ (br Tr L)[at_]? = some b ∧ k < b.length ∧ Tabs T H ∧
  ∀ (g : Nat) (H' : Hp), Sx T H H' → g < (br Tr L).length → Q (.int g) H'
theorem sc_behind : FnScope ["_law_true", "_law_rows", "_law_at", "_law_depth", "_law_row", "_law_parts_here", "_law_place", "_law_part", "_law_other"] ["_law_true", "_law_rows", "_law_at", "_law_depth"] (defScope (top 59)) := ⟨rfl, rfl, rfl, by decide +kernel, rfl, by decide +kernel, by decide +kernel⟩
def dBr (b : List Lit) : PyData := .tuple (b.map fun l => .str (SX.S l))
theorem dBr_lay {b : List Lit} (h : ∀ l ∈ b, ∀ c ∈ l, c < 1114112) : (dBr b).canLay0 = true := (txs_dp (K := []) (H := fun _ => none) h).2.1
theorem dBrs {K : PySem.W.Frag} {H : Hp} : ∀ {us : List V} {bs : List (List Lit)}, Paired (BrAt H) us bs → (∀ b ∈ bs, ∀ l ∈ b, ∀ c ∈ l, c < 1114112) → DpAll K H us (bs.map dBr) ∧ PyData.canLayAll0 (bs.map dBr) = true ∧ PyData.depthAll (bs.map dBr) ≤ 1
  | _, _, .nil, _ => ⟨.nil, rfl, Nat.zero_le _⟩
  | _, _, .cons h r, hb => by
    obtain ⟨x, y, z⟩ := dBrs (K := K) r fun b hm => hb b (List.mem_cons_of_mem _ hm)
    obtain ⟨t, rfl, ht⟩ := h
    obtain ⟨a, b', c⟩ := txs_dp (K := K) (H := H) (hb _ List.mem_cons_self)
    refine ⟨.cons (.tup (SqT.of ht) a) x, lay_cons (dBr_lay (hb _ List.mem_cons_self)) y, dep_cons ?_ z⟩
    show PyData.depthAll _ + 1 ≤ 1
    omega
theorem c_behind {f : Addr} {fd : FuncData} (D : Df K mg "_law_behind" (top 59) f fd) (B : Bl mg) (c1 : C8.Cal P w K mg base 4 "_law_parts" (spParts T) []) : C8.Cal P w K mg base 5 "_law_behind" (spBehind T) [] := by
  refine cal_of D (fun _ _ _ _ _ _ us hl => match us, hl with | [_, _, _, _], _ => rfl) sc_behind (fun vs H Q E h => ?_) (fun cdv A outer s H vs Q E hr h => ?_)
  · obtain ⟨t, Rr, us, Tr, L, at_, k, b, rfl, _⟩ := h
    rfl
  · obtain ⟨t, Rr, us, Tr, L, at_, d, b, rfl, ht, hR, hp, ok, l4, hb, hd, hTb, k⟩ := h
    have hu := hr.units
    have nd := ris_nodup ok.ris
    have clo : ∀ l : Lit, l.Sublist L → ∀ c ∈ l, c < 1114112 := fun l hl c hc => abc_lo c (ok.abc c (hl.subset hc))
    have hbm := List.mem_of_getElem? hb
    have bsub : ∀ b' ∈ br Tr L, ∀ Y ∈ b', Y.Sublist L := br_sub L.length L (Nat.le_refl _)
    obtain ⟨u, huat, tb, rfl, htb⟩ := paired_at hp hb
    have h24 := br_count24 (T := Tr) nd l4
    have hul : us.length = (br Tr L).length := hp.length
    have hZ : b[d]? = some b[d] := List.getElem?_eq_getElem hd
    generalize b[d] = Z at hZ
    have hZL := bsub b hbm Z (List.mem_of_getElem? hZ)
    have hatl : at_ < (br Tr L).length := (List.getElem?_eq_some_iff.mp hb).1
    obtain ⟨t2, h2, rd2⟩ : ∃ t2, PSs ((cxOf C8.CX0 P w K mg base ["_law_true", "_law_rows", "_law_at", "_law_depth", "_law_row", "_law_parts_here", "_law_place", "_law_part", "_law_other"] "_law_behind" (defScope (top 59)) f cdv A outer s H E).nox) ((defBody (top 59)).drop 5) t2 ∧
        ∀ (D' : Ends) (W2 : Lit) (x5 x6 : Option V) (H1 : Hp), W2 ∈ parts Tr Z → d + 1 < b.length → Sx T H H1 → (∀ (g : Nat) (H' : Hp), Sx T H H' → g < (br Tr L).length → D'.rt (.int g) H') → t2 D' [some (.ref t), some (.ref Rr), some (.int at_), some (.int d), some (.ref tb), x5, x6, some (tx W2), none] H1 := by
      refine ⟨_, pss_one (ps_ret (pe_bm PySem.F.plainAttrs_list PySem.F.slot_list_index PySem.F.type_list_index (mt_indexD (room65 hr))
        (pe_lc (own := [("_law_other", 8)]) (g := gName 8) rfl sc_behind.nd (pi_list (pv 1)) (blkOk_by (own := [("_law_other", 8)]) (N := ["_law_true", "_law_rows", "_law_at", "_law_depth", "_law_row", "_law_parts_here", "_law_place", "_law_part", "_law_other"]) (sc := defScope (top 59)) (by decide +kernel)) (fun _ _ _ _ _ => pg_name (i := 8) sc_behind.nd rfl (Or.inl rfl)) (fun _ _ _ _ _ => pts_nil)
          (fun _ _ _ _ _ => pe_slice (slTupAK K) (pv 8) po_none (po_some (pe_op op_add (pv 3) pe_int))))
        (pa_cons (pe_op op_catT (pe_slice sl_tupA (pv 4) po_none (po_some (pe_op op_add (pv 3) pe_int))) (pe_tup (pa_cons (pv 7) pa_nil))) pa_nil))), fun D' W2 x5 x6 H1 hW hdl s1 fin => ?_⟩
      have hR1 := s1.lst hR
      have hp1 : Paired (BrAt H1) us (br Tr L) := L2.Paired.mapP hp fun _ _ h => BrAt.tupS s1.tupS h
      refine ⟨_, rfl, Rr, rfl, ⟨_, SqL.of hR1⟩, fun Dn hDn => ?_⟩
      refine lc_it walk_list (fun i H' => Same H1 H' ∧ ∃ zs, H' Dn = some (.lst zs) ∧ Paired (BrAt H') zs (((br Tr L).take i).map fun b => b.take (d + 2))) ⟨Same.one hDn, [], upd_same, .nil⟩ (fun i H' _ p => SqL.of (p.1 _ _ hR1)) (fun i y H2 H3 hi p yy => ?_) fun H2 p => ?_
      · obtain ⟨rfl, hy⟩ := yy
        obtain ⟨s2, zs, hz, hzp⟩ := p
        obtain ⟨b', hb', tb', rfl, htb'⟩ := paired_get hp1 hy
        have hzl : zs.length = _ := hzp.length
        rw [List.length_map] at hzl
        have htl : ((br Tr L).take i).length ≤ (br Tr L).length := List.length_take_le' _ _
        refine ⟨rfl, yes ?_⟩
        refine ⟨_, rfl, _, rfl, _, _, rfl, rfl, _, rfl, ?_⟩
        refine cut_read (k := d + 2) (s2 _ _ htb') fun p H4 s4 hp4 => ?_
        refine ⟨zs, s4 _ _ hz, small' (by omega), Same.put (s2.trans s4) hDn, zs ++ [.ref p], upd_same, ?_⟩
        have tp : TupS H4 (upd H4 Dn (.lst (zs ++ [.ref p]))) := TupS.lst (s4 _ _ hz)
        rw [map_take_succ hb']
        exact Paired.snoc (L2.Paired.mapP hzp fun _ _ h => BrAt.tupS ((TupS.of s4).trans tp) h) ⟨p, rfl, tp _ _ (by rw [hp4, List.map_take])⟩
      · obtain ⟨s2, zs, hz, hzp⟩ := p
        rw [hul, List.take_length] at hzp
        refine ⟨.inl ⟨rfl, _, SqL.of hz⟩, ?_⟩
        refine ⟨_, rfl, _, rfl, _, _, rfl, rfl, _, rfl, ?_⟩
        refine cut_read (k := d + 1) (s2 _ _ (s1.tup htb)) fun p1 H4 s4 hp4 => ?_
        refine ⟨_, rfl, by show 1 ≤ sizeLine; decide, fun t1 ht1 => ?_⟩
        have st : Same H4 (upd H4 t1 (.tup [tx W2])) := Same.one ht1
        have hbl := br_len L.length L (Nat.le_refl _) b hbm
        have hne : (b.map tx).take (d + 1) ≠ [] := fun e => by
          have h1 := congrArg List.length e
          rw [List.length_take, List.length_map, List.length_nil] at h1
          omega
        refine ⟨p1, t1, _, _, rfl, rfl, SqT.of (st _ _ hp4), SqT.of upd_same, hne, small (by rw [List.length_take, List.length_map]; show _ + 1 ≤ _; omega), fun e => (nomatch e), fun _ q hq => ?_⟩
        have sq : Same H4 (upd (upd H4 t1 (.tup [tx W2])) q (.tup ((b.map tx).take (d + 1) ++ [tx W2]))) := st.trans (Same.one hq)
        have hqv : (upd (upd H4 t1 (.tup [tx W2])) q (.tup ((b.map tx).take (d + 1) ++ [tx W2]))) q = some (.tup ((b.take (d + 1) ++ [W2]).map tx)) := by
          rw [upd_same, List.map_append, List.map_take]
          rfl
        generalize upd (upd H4 t1 (.tup [tx W2])) q (.tup ((b.map tx).take (d + 1) ++ [tx W2])) = H5 at sq hqv ⊢
        have s5 := s4.trans sq
        have hzp5 : Paired (BrAt H5) zs ((br Tr L).map fun b => b.take (d + 2)) := L2.Paired.mapP hzp fun _ _ h => BrAt.tupS (TupS.of s5) h
        have lo1 : ∀ b' ∈ (br Tr L).map (fun b => b.take (d + 2)), ∀ l ∈ b', ∀ c ∈ l, c < 1114112 := fun b' hb' l hl => by
          obtain ⟨b2, hb2, rfl⟩ := List.mem_map.mp hb'
          exact clo l (bsub b2 hb2 l (List.mem_of_mem_take hl))
        obtain ⟨da, db, dc⟩ := dBrs (K := K) hzp5 lo1
        have hW2L : W2.Sublist L := (parts_sub hW).trans hZL
        have lo2 : ∀ l ∈ b.take (d + 1) ++ [W2], ∀ c ∈ l, c < 1114112 := fun l hl => by
          rcases List.mem_append.mp hl with h | h
          · exact clo l (bsub b hbm l (List.mem_of_mem_take h))
          · rw [List.mem_singleton.mp h]
            exact clo W2 hW2L
        have dsh : SeqAt.shaped (.list (((br Tr L).map fun b => b.take (d + 2)).map dBr)) = true := by
          unfold SeqAt.shaped
          have e1 : (PyData.list (((br Tr L).map fun b => b.take (d + 2)).map dBr)).canLay0 = true := db
          have e2 : (PyData.list (((br Tr L).map fun b => b.take (d + 2)).map dBr)).depth ≤ 64 := by show PyData.depthAll _ + 1 ≤ 64; omega
          rw [e1, decide_eq_true e2]
          rfl
        obtain ⟨ta, tb2, tc⟩ := txs_dp (K := K) (H := H5) lo2
        have tsh : SeqAt.shaped (dBr (b.take (d + 1) ++ [W2])) = true := by
          unfold SeqAt.shaped
          have e2 : (dBr (b.take (d + 1) ++ [W2])).depth ≤ 64 := by show PyData.depthAll _ + 1 ≤ 64; omega
          rw [dBr_lay lo2, decide_eq_true e2]
          rfl
        have ex : ∃ z ∈ ((br Tr L).map fun b => b.take (d + 2)).map dBr, PyData.eqv z (dBr (b.take (d + 1) ++ [W2])) = true := by
          obtain ⟨_, hall⟩ := br_turn L.length L (Nat.le_refl _) b hbm d Z hZ hdl
          obtain ⟨b2, hb2, e2⟩ := hall W2 hW
          refine ⟨dBr (b.take (d + 1) ++ [W2]), List.mem_map.mpr ⟨_, List.mem_map.mpr ⟨b2, hb2, e2⟩, rfl⟩, PySem.SeqAt.eqv_refl _ (dBr_lay lo2)⟩
        obtain ⟨zz, hzz, ezz⟩ := ex
        have jl : (((br Tr L).map fun b => b.take (d + 2)).map dBr).findIdx (fun z => PyData.eqv z (dBr (b.take (d + 1) ++ [W2]))) < (((br Tr L).map fun b => b.take (d + 2)).map dBr).length := List.findIdx_lt_length_of_exists ⟨zz, hzz, ezz⟩
        refine ⟨Dn, .ref q, dBr (b.take (d + 1) ++ [W2]), ((br Tr L).map fun b => b.take (d + 2)).map dBr, _, _, rfl, rfl, Dp.lst (ds := ((br Tr L).map fun b => b.take (d + 2)).map dBr) (SqL.of (s5 _ _ hz)) da, .tup (SqT.of hqv) ta, dsh, tsh, List.getElem?_eq_getElem jl, List.findIdx_getElem (w := jl), fun m z' hm hz' => ?_, fin _ H5 (s1.trans (Sx.of (s2.trans s5))) ?_⟩
        · have hm2 := List.not_of_lt_findIdx hm
          obtain ⟨hml, em⟩ := List.getElem?_eq_some_iff.mp hz'
          rw [← em]
          simpa using hm2
        · rw [List.length_map, List.length_map] at jl
          exact jl
    refine ⟨_, pss_cons (ps_set (i := 4) sc_behind.nd rfl (Or.inl rfl) (pe_ix ix_list (pv 1) (pv 2) (fun _ _ => rfl)))
      (pss_cons (ps_if (pt_cmpR op_eq (pv 3) (pe_op op_sub (pe_callB call_len_seq (by rfl) B.len boot_len (pa_cons (pv 4) pa_nil)) pe_int) (nomark _)) (pss_one (ps_ret (pv 2))) pss_nil)
      (pss_cons (ps_set (i := 5) sc_behind.nd rfl (Or.inl rfl) (C8.pe_c c1 hr (by decide) (by rfl) (pa_cons (pv 0) (pa_cons (pe_ix ix_tup (pv 4) (pv 3) (fun _ _ => rfl)) pa_nil))))
      (pss_cons (ps_set (i := 6) sc_behind.nd rfl (Or.inl rfl) (pe_op op_add (pe_bm PySem.F.plainAttrs_list PySem.F.slot_list_index PySem.F.type_list_index mt_index (pv 5) (pa_cons (pe_ix ix_tup (pv 4) (pe_op op_add (pv 3) pe_int) (fun _ _ => rfl)) pa_nil)) pe_int))
      (pss_cons (ps_set (i := 7) sc_behind.nd rfl (Or.inl rfl) (pe_ifExp (pt_cmpR op_lt (pv 6) (pe_callB call_len_seq (by rfl) B.len boot_len (pa_cons (pv 5) pa_nil)) (nomark _)) (pe_ix ix_list (pv 5) (pv 6) (fun _ _ => rfl)) (pe_ix ix_list (pv 5) pe_int (fun _ _ => rfl)))) h2)))), ?_⟩
    refine ⟨_, rfl, _, rfl, _, _, _, _, rfl, rfl, SqL.of hR, atI_nat (j := at_) huat, ?_⟩
    refine ⟨_, rfl, _, rfl, _, _, rfl, .inr (SqT.of htb), _, _, rfl, rfl, rfl, _, rfl, ite2 (fun h => ?_) fun h => ?_⟩
    · exact ⟨_, rfl, k at_ H (Sx.refl _) hatl⟩
    · have hdl : d + 1 < b.length := by
        have h1 : ¬ ((d : Int) = (b.map tx).length - 1) := fun e => h (decide_eq_true (congrArg V.int e))
        rw [List.length_map] at h1
        omega
      have hW : b[d + 1]? = some b[d + 1] := List.getElem?_eq_getElem hdl
      generalize b[d + 1] = W at hW
      have hWp : W ∈ parts Tr Z := (br_turn L.length L (Nat.le_refl _) b hbm d Z hZ hdl).1 W hW
      refine ⟨_, rfl, _, rfl, _, rfl, _, _, _, _, rfl, rfl, SqT.of htb, atI_nat (j := d) (by rw [List.getElem?_map, hZ]; rfl), t, Z, Tr, rfl, ht, Nat.le_trans hZL.length_le l4, hTb, fun pa H1 s1 hpa => ?_⟩
      obtain ⟨j, hj⟩ := List.getElem?_of_mem hWp
      have pnd := parts_nodup (T := Tr) (ris_nodup (ok.sub hZL).ris)
      refine ⟨_, rfl, .inl ⟨rfl, _, SqL.of hpa⟩, _, rfl, _, rfl, _, _, rfl, rfl, _, _, _, _, rfl, rfl, SqT.of (s1.tup htb), atI_nat (j := d + 1) (by rw [List.getElem?_map, hW]; rfl), pa, _, _, j, _, rfl, rfl, SqL.of hpa, rfl, flat_tx _, (by rw [List.getElem?_map, hj]; rfl), (by rw [eqV_tx]; exact decide_eq_true rfl), idx_tx pnd hj, _, _, rfl, rfl, ?_⟩
      refine ⟨_, rfl, _, rfl, _, _, rfl, .inl (SqL.of hpa), _, _, rfl, rfl, _, rfl, ite2 (fun h => ?_) fun h => ?_⟩
      · have hlt : j + 1 < (parts Tr Z).length := by
          have h := of_decide_eq_true h
          rw [List.length_map] at h
          omega
        refine ⟨_, rfl, _, rfl, _, _, _, _, rfl, rfl, SqL.of hpa, atI_nat (j := j + 1) (by rw [List.getElem?_map, List.getElem?_eq_getElem hlt]; rfl), ?_⟩
        exact rd2 _ _ _ _ H1 (List.getElem_mem hlt) hdl s1 k
      · have hlt : 0 < (parts Tr Z).length := List.length_pos_of_mem hWp
        refine ⟨_, rfl, _, _, _, _, rfl, rfl, SqL.of hpa, atI_nat (j := 0) (by rw [List.getElem?_map, List.getElem?_eq_getElem hlt]; rfl), ?_⟩
        exact rd2 _ _ _ _ H1 (List.getElem_mem hlt) hdl s1 k
end
end Rg

end
section
set_option Elab.async false
set_option linter.all false
set_option maxRecDepth 100000
set_option maxHeartbeats 4000000
namespace Rg
open PySem PySem.Spec PyProof.Rows L2 LamX
def rLenQ (K : PySem.W.Frag) : List V → Hp → VK → Prop := fun xs H Q => ∃ (p : Addr) (ys : List V), xs = [V.ref p] ∧ (SqL K H p ys ∨ SqT K H p ys) ∧ Q (V.int ys.length) H
theorem lenSeqK {X : Cx} (K : PySem.W.Frag) (h : X.K = K := by rfl) : CallR X (.builtin "len") (rLenQ K) := by
  subst h
  exact call_len_seq
theorem ixLK {X : Cx} (K : PySem.W.Frag) (h : X.K = K := by rfl) : IxR X (rIxL K) := h ▸ ix_list
section
variable {P : Program} {w : World} {K : PySem.W.Frag} {mg : Str → Option Value} {base : Heap} {T : List (Addr × Str)}
/-! _law_steps -/
def LStepOk (n : Nat) (p : Int × Int) : Prop := 0 ≤ p.1 ∧ p.1 ≤ 5 ∧ 0 ≤ p.2 ∧ p.2 < n
def spSteps (T : List (Addr × Str)) : Sp := fun vs H Q _ => ∃ (t : Addr) (Tr : List Lit) (L : Lit), vs = [tx L, .ref t] ∧ H t = some (.lst (Tr.map tx)) ∧ Ok L ∧ L.length ≤ 4 ∧ Tabs T H ∧
  ∀ (v : V) (rs : Rows') (H' : Hp), Sx T H H' → RowsAt H' v rs → rs.length = (br Tr L).length → (∀ r ∈ rs, r.length = (setsOf L).length ∧ ∀ p ∈ r, LStepOk (br Tr L).length p) → Q v H'
theorem sc_steps : FnScope ["_law_lamps", "_law_true", "_law_rows", "_law_top", "_law_found", "_law_at", "_law_steps_here", "_law_lit", "_law_depth", "_law_row", "_law_k"] ["_law_lamps", "_law_true"] (defScope (top 60)) := ⟨rfl, rfl, rfl, by decide +kernel, rfl, by decide +kernel, by decide +kernel⟩
theorem c_steps {f : Addr} {fd : FuncData} (D : Df K mg "_law_steps" (top 60) f fd) (B : Bl mg) (c1 : C8.Cal P w K mg base 9 "_law_branches" (spBr T 5) []) (c2 : C8.Cal P w K mg base 3 "_law_sets" (spLSets T) []) (c3 : C8.Cal P w K mg base 1 "_law_within" spWithin []) (c4 : C8.Cal P w K mg base 5 "_law_behind" (spBehind T) []) : C8.Cal P w K mg base 10 "_law_steps" (spSteps T) [] := by
  refine cal_of D (fun _ _ _ _ _ _ us hl => match us, hl with | [_, _], _ => rfl) sc_steps (fun vs H Q E h => ?_) (fun cdv A outer s H vs Q E hr h => ?_)
  · obtain ⟨t, Tr, L, rfl, _⟩ := h
    rfl
  · obtain ⟨t, Tr, L, rfl, ht, ok, l4, hTb, k⟩ := h
    have nd := ris_nodup ok.ris
    have hsl := sets16 l4
    have h24 := br_count24 (T := Tr) nd l4
    obtain ⟨t2, h2, rd2⟩ : ∃ t2, PSs ((cxOf C8.CX0 P w K mg base ["_law_lamps", "_law_true", "_law_rows", "_law_top", "_law_found", "_law_at", "_law_steps_here", "_law_lit", "_law_depth", "_law_row", "_law_k"] "_law_steps" (defScope (top 60)) f cdv A outer s H E).nox) ((defBody (top 60)).drop 3) t2 ∧
        ∀ (D' : Ends) (Rr : Addr) (us : List V) (tp : Int) (H1 : Hp) (x9 : Option V), Sx T H H1 → H1 Rr = some (.lst us) → Paired (BrAt H1) us (br Tr L) → (∀ b ∈ br Tr L, (b.length : Int) - 1 ≤ tp) → tp ≤ 5 → (∀ (v : V) (rs : Rows') (H' : Hp), Sx T H H' → RowsAt H' v rs → rs.length = (br Tr L).length → (∀ r ∈ rs, r.length = (setsOf L).length ∧ ∀ p ∈ r, LStepOk (br Tr L).length p) → D'.rt v H') →
          t2 D' [some (tx L), some (.ref t), some (.ref Rr), some (.int tp), none, none, none, none, none, x9, none] H1 := by
      refine ⟨_, pss_cons (ps_set (i := 4) sc_steps.nd rfl (Or.inl rfl) (pe_lst pa_nil))
        (pss_cons (ps_for PassesOwn.never rfl (pi_range1 (by rfl) B.range (pa_cons (pe_callB call_len_seq (by rfl) B.len boot_len (pa_cons (pv 2) pa_nil)) pa_nil)) (pg_name (i := 5) sc_steps.nd rfl (Or.inr rfl))
          (pss_cons (ps_set (i := 6) sc_steps.nd rfl (Or.inl rfl) (pe_lst pa_nil))
          (pss_cons (ps_for PassesOwn.never rfl (pi_list (C8.pe_c c2 hr (by decide) (by rfl) (pa_cons (pv 0) pa_nil))) (pg_name (i := 7) sc_steps.nd rfl (Or.inr rfl))
            (pss_cons (ps_set (i := 8) sc_steps.nd rfl (Or.inl rfl) (pe_callB (cr_max rfl) (by rfl) B.max (by decide +kernel) (pa_cons
              (pe_lc (own := [("_law_k", 10)]) (g := gName 10) rfl sc_steps.nd (pi_range1 (by rfl) B.range (pa_cons (pe_callB call_len_seq (by rfl) B.len boot_len (pa_cons (pe_ix ix_list (pv 2) (pv 5) (fun _ _ => rfl)) pa_nil)) pa_nil)) (blkOk_by (own := [("_law_k", 10)]) (N := ["_law_lamps", "_law_true", "_law_rows", "_law_top", "_law_found", "_law_at", "_law_steps_here", "_law_lit", "_law_depth", "_law_row", "_law_k"]) (sc := defScope (top 60)) (by decide +kernel)) (fun _ _ _ _ _ => pg_name (i := 10) sc_steps.nd rfl (Or.inl rfl))
                (fun _ _ _ _ _ => pts_one (pt_val (C8.pe_c c3 hr (by decide) (by rfl) (pa_cons (pv 7) (pa_cons (pe_ix (ixT K) (pe_ix (ixLK K) (pv 2) (pv 5) (fun _ _ => rfl)) (pv 10) (fun _ _ => rfl)) pa_nil))))) (fun _ _ _ _ _ => pv 10)) pa_nil)))
            (pss_one (ps_expr (pe_bm PySem.F.plainAttrs_list PySem.F.slot_list_append PySem.F.type_list_append mt_append (pv 6) (pa_cons (pe_tup (pa_cons (pe_op op_sub (pv 3) (pv 8)) (pa_cons (C8.pe_c c4 hr (by decide) (by rfl) (pa_cons (pv 1) (pa_cons (pv 2) (pa_cons (pv 5) (pa_cons (pv 8) pa_nil))))) pa_nil))) pa_nil))))))
          (pss_one (ps_expr (pe_bm PySem.F.plainAttrs_list PySem.F.slot_list_append PySem.F.type_list_append mt_append (pv 4) (pa_cons (pv 6) pa_nil)))))))
        (pss_one (ps_ret (pv 4)))), fun D' Rr us tp H1 x9 s1 hR hp htp ht5 fin => ?_⟩
      have hul : us.length = (br Tr L).length := hp.length
      refine ⟨by show 0 ≤ sizeLine; decide, fun F hF => ?_⟩
      have sF : Same H1 (upd H1 F (.lst [])) := Same.one hF
      have hF1 : (upd H1 F (.lst [])) F = some (.lst []) := upd_same
      refine ⟨_, rfl, _, _, rfl, .inl (SqL.of (sF _ _ hR)), _, rfl, by omega, by omega, ?_⟩
      have en : ((us.length : Nat) : Int).toNat = (br Tr L).length := by omega
      rw [en]
      refine for_it (walk_range (lo := 0) (n := (br Tr L).length)) (fun i σ H' => ∃ (x5 x6 x7 x8 : Option V) (vs : List V) (rs : Rows'), σ = [some (tx L), some (.ref t), some (.ref Rr), some (.int tp), some (.ref F), x5, x6, x7, x8, x9, none] ∧ Sx T H1 H' ∧ H' F = some (.lst vs) ∧ Paired (fun v r => RowAt H' v r ∧ v ≠ .ref F) vs rs ∧ rs.length = i ∧ ∀ r ∈ rs, r.length = (setsOf L).length ∧ ∀ p ∈ r, LStepOk (br Tr L).length p)
        ⟨none, none, none, none, [], [], rfl, Sx.of sF, hF1, .nil, rfl, fun r hr => nomatch hr⟩ (fun _ _ _ _ _ => trivial) (fun i v σ H2 H3 hi p yy => ?_) fun σ H2 p => ?_
      · obtain ⟨x5, x6, x7, x8, vs, rs, rfl, sm, hFv, hps, hrl, hrs⟩ := p
        obtain ⟨rfl, ey⟩ := yy
        have hvl : vs.length = rs.length := hps.length
        have e0 : (0 : Int) + (i : Nat) = ((i : Nat) : Int) := by omega
        have ey2 : v = V.int ((i : Nat) : Int) := by
          rw [ey]
          show V.int ((0 : Int) + (i : Nat)) = _
          rw [e0]
        subst ey2
        obtain ⟨b, hb⟩ : ∃ b, (br Tr L)[i]? = some b := ⟨_, List.getElem?_eq_getElem hi⟩
        have hbm := List.mem_of_getElem? hb
        obtain ⟨u, hu, tb, rfl, htb⟩ := paired_at hp hb
        have hbl := br_len L.length L (Nat.le_refl _) b hbm
        obtain ⟨rr, hbr⟩ := br_head hbm
        have hb1 : 1 ≤ b.length := by rw [hbr]; simp
        refine ⟨by show 0 ≤ sizeLine; decide, fun G hG => ?_⟩
        have sG : Same H3 (upd H3 G (.lst [])) := Same.one hG
        have hG1 : (upd H3 G (.lst [])) G = some (.lst []) := upd_same
        have hFG : F ≠ G := ne_of_none hFv hG
        have hG3 : H3 G = none := hG
        refine ⟨_, rfl, L, rfl, l4, (sm.t (s1.t hTb)).ext sG, fun H4 a s4 ha => ?_⟩
        have s5 : Sx T (upd H3 G (.lst [])) (upd H4 a (.lst ((setsOf L).map tx))) := s4.trans (Sx.of (Same.one ha))
        have ha5 : (upd H4 a (.lst ((setsOf L).map tx))) a = some (.lst ((setsOf L).map tx)) := upd_same
        generalize upd H4 a (.lst ((setsOf L).map tx)) = H5 at s5 ha5 ⊢
        have s35 : Sx T H3 H5 := (Sx.of sG).trans s5
        refine ⟨a, rfl, ⟨_, SqL.of ha5⟩, ?_⟩
        refine for_it walk_list (fun j σ H' => ∃ (x7 x8 : Option V) (zs : List V) (qs : List (Int × Int)), σ = [some (tx L), some (.ref t), some (.ref Rr), some (.int tp), some (.ref F), some (.int (i : Nat)), some (.ref G), x7, x8, x9, none] ∧ Sx T H3 H' ∧ H' a = some (.lst ((setsOf L).map tx)) ∧ H' G = some (.lst zs) ∧ Paired (StepAt H') zs qs ∧ qs.length = j ∧ ∀ p ∈ qs, LStepOk (br Tr L).length p)
          ⟨_, _, [], [], rfl, s35, ha5, s5.lst hG1, .nil, rfl, fun p hp => nomatch hp⟩ (fun j σ H' _ p => (let ⟨_, _, _, _, _, _, ha, _⟩ := p; SqL.of ha)) (fun j y σ H6 H7 hj p yy => ?_) fun σ H6 p => ?_
        · obtain ⟨x7, x8, zs, qs, rfl, sm6, ha6, hGz, hzp, hql, hq⟩ := p
          obtain ⟨rfl, hy⟩ := yy
          obtain ⟨l, hl, rfl⟩ := map_at hy
          have hlL := mem_setsOf.mp (List.mem_of_getElem? hl)
          rw [List.length_map] at hj
          have hzl : zs.length = qs.length := hzp.length
          have s16 : Sx T H1 H7 := sm.trans sm6
          have hR7 := s16.lst hR
          have htb7 := s16.tup htb
          refine ⟨_, rfl, _, rfl, _, _, _, _, rfl, rfl, SqL.of hR7, atI_nat (j := i) hu, _, _, rfl, .inr (SqT.of htb7), _, rfl, by omega, by rw [List.length_map]; omega, fun Dn hDn => ?_⟩
          have en2 : (((b.map tx).length : Nat) : Int).toNat = b.length := by rw [List.length_map]; omega
          rw [en2]
          refine lc_val same_ok (walk_range (lo := 0) (n := b.length)) (fun m => ((List.range m).filter fun k => within l (b.getD k [])).map fun k => V.int ((k : Nat) : Int)) hDn rfl (fun m hm => ?_) (fun _ _ => trivial) (fun N m y H8 H9 hm r yy keep skip => ?_) fun H8 r8 hD8 => ?_
          · rw [List.length_map]
            have := List.length_filter_le (fun k => within l (b.getD k [])) (List.range m)
            rw [List.length_range] at this
            exact small' (by omega)
          · obtain ⟨rfl, ey⟩ := yy
            have e1 : (0 : Int) + (m : Nat) = ((m : Nat) : Int) := by omega
            have ey2 : y = V.int ((m : Nat) : Int) := by
              rw [ey]
              show V.int ((0 : Int) + (m : Nat)) = _
              rw [e1]
            subst ey2
            have hbm2 : b[m]? = some (b.getD m []) := by
              rw [List.getD_eq_getElem?_getD, List.getElem?_eq_getElem hm]
              rfl
            have hlen4 := Nat.le_trans hlL.length_le l4
            refine ⟨rfl, ?_⟩
            refine ⟨_, rfl, _, rfl, _, rfl, _, _, _, _, rfl, rfl, SqL.of (r _ _ hR7), atI_nat (j := i) hu, _, rfl, _, _, _, _, rfl, rfl, SqT.of (r _ _ htb7), atI_nat (j := m) (by rw [List.getElem?_map, hbm2]; rfl), l, b.getD m [], rfl, by omega, fun H10 s10 => ?_⟩
            cases hh : within l (b.getD m []) with
            | true => exact ⟨_, rfl, iteT ⟨_, rfl, keep _ _ s10 (by rw [List.range_succ, List.filter_append, filt_yes (p := fun k => within l (b.getD k [])) hh, List.map_append]; rfl)⟩⟩
            | false => exact ⟨_, rfl, iteF (skip _ s10 (by rw [List.range_succ, List.filter_append, filt_no (p := fun k => within l (b.getD k [])) (by rw [hh]; decide), List.append_nil]))⟩
          · have mem0 : 0 ∈ (List.range b.length).filter fun k => within l (b.getD k []) := by
              refine List.mem_filter.mpr ⟨List.mem_range.mpr (by omega), ?_⟩
              rw [hbr]
              show within l L = true
              exact within_iff.mpr (sub_mem hlL)
            refine ⟨Dn, ((List.range b.length).filter fun k => within l (b.getD k [])).map fun k => ((k : Nat) : Int), rfl, SqL.of (by rw [hD8, List.map_map]; rfl), by rw [List.length_map]; exact List.length_pos_of_mem mem0, fun dm hdm _ => ?_⟩
            obtain ⟨d, hd, rfl⟩ := List.mem_map.mp hdm
            have hdb : d < b.length := List.mem_range.mp (List.mem_filter.mp hd).1
            have s18 : Sx T H1 H8 := s16.trans (Sx.of r8)
            have hG8 := r8 _ _ hGz
            refine ⟨_, rfl, .inl ⟨rfl, _, SqL.of hG8⟩, ?_⟩
            refine ⟨_, rfl, _, rfl, _, _, rfl, rfl, _, rfl, _, rfl, _, rfl, _, rfl, t, Rr, us, Tr, L, i, d, b, rfl, (s1.trans s18).lst ht, s18.lst hR, L2.Paired.mapP hp fun _ _ h => BrAt.tupS s18.tupS h, ok, l4, hb, hdb, (s1.trans s18).t hTb, fun g H9 s9 hg => ?_⟩
            refine ⟨by show 2 ≤ sizeLine; decide, fun p hp2 => ?_⟩
            have sp : Same H9 (upd H9 p (.tup [.int (tp - (d : Nat)), .int (g : Nat)])) := Same.one hp2
            have hpv : (upd H9 p (.tup [.int (tp - (d : Nat)), .int (g : Nat)])) p = some (.tup [.int (tp - (d : Nat)), .int (g : Nat)]) := upd_same
            generalize upd H9 p (.tup [.int (tp - (d : Nat)), .int (g : Nat)]) = H10 at sp hpv ⊢
            have s8x : Sx T H8 H10 := s9.trans (Sx.of sp)
            have hG10 := s8x.lst hG8
            refine ⟨G, _, _, rfl, rfl, hG10, small' (by omega), ?_⟩
            have s3x : Sx T H3 H10 := sm6.trans ((Sx.of r8).trans s8x)
            have haG : a ≠ G := fun e => by
              rw [e, hGz] at ha6
              have h1 := Option.some.inj ha6
              injection h1 with h2
              have h3 := congrArg List.length h2
              rw [List.length_map] at h3
              omega
            have tpS : TupS H10 (upd H10 G (.lst (zs ++ [.ref p]))) := TupS.lst hG10
            refine ⟨_, _, zs ++ [.ref p], qs ++ [(tp - (d : Nat), ((g : Nat) : Int))], rfl, s3x.put hG3 (.inr ⟨_, hG10⟩), by rw [upd_ne haG]; exact s8x.lst (r8 _ _ ha6), upd_same, ?_, by rw [List.length_append, hql]; rfl, fun q hq' => ?_⟩
            · exact Paired.snoc (L2.Paired.mapP hzp fun _ _ h => StepAt.tupS (((TupS.of r8).trans s8x.tupS).trans tpS) h) ⟨p, rfl, tpS _ _ hpv⟩
            · rcases List.mem_append.mp hq' with h | h
              · exact hq q h
              · rw [List.mem_singleton.mp h]
                have h1 := htp b hbm
                exact ⟨by show 0 ≤ tp - (d : Int); omega, by show tp - (d : Int) ≤ 5; omega, by show (0 : Int) ≤ g; omega, by show (g : Int) < _; omega⟩
        · obtain ⟨x7, x8, zs, qs, rfl, sm6, ha6, hGz, hzp, hql, hq⟩ := p
          rw [List.length_map] at hql
          have hF6 := sm6.lst hFv
          refine ⟨_, rfl, .inl ⟨rfl, _, SqL.of hF6⟩, _, rfl, F, _, _, rfl, rfl, hF6, small' (by omega), ?_⟩
          have hGF : V.ref G ≠ V.ref F := fun e => hFG (V.ref.inj e).symm
          refine ⟨_, _, _, _, vs ++ [.ref G], rs ++ [qs], rfl, (sm.trans sm6).put hF (.inr ⟨_, hF6⟩), upd_same, ?_, by rw [List.length_append, hrl]; rfl, fun r hr' => ?_⟩
          · exact Paired.snoc (L2.Paired.mapP hps fun v r h => ⟨RowAt.put hF6 (h.1.stay sm6.stay) h.2, h.2⟩) ⟨RowAt.put hF6 ⟨G, zs, rfl, hGz, hzp⟩ hGF, hGF⟩
          · rcases List.mem_append.mp hr' with h | h
            · exact hrs r h
            · rw [List.mem_singleton.mp h]
              exact ⟨hql, hq⟩
      · obtain ⟨x5, x6, x7, x8, vs, rs, rfl, sm, hFv, hps, hrl, hrs⟩ := p
        exact ⟨_, rfl, fin (.ref F) rs _ (s1.trans sm) ⟨F, vs, rfl, hFv, L2.Paired.mapP hps fun _ _ h => h.1⟩ hrl hrs⟩
    refine ⟨_, pss_cons (ps_set (i := 2) sc_steps.nd rfl (Or.inr rfl) (C8.pe_c c1 hr (by decide) (by rfl) (pa_cons (pv 1) (pa_cons (pv 0) pa_nil))))
      (pss_cons (ps_set (i := 3) sc_steps.nd rfl (Or.inl rfl) (pe_op op_sub (pe_callB (cr_max rfl) (by rfl) B.max (by decide +kernel) (pa_cons
        (pe_lc (own := [("_law_row", 9)]) (g := gName 9) rfl sc_steps.nd (pi_list (pv 2)) (blkOk_by (own := [("_law_row", 9)]) (N := ["_law_lamps", "_law_true", "_law_rows", "_law_top", "_law_found", "_law_at", "_law_steps_here", "_law_lit", "_law_depth", "_law_row", "_law_k"]) (sc := defScope (top 60)) (by decide +kernel)) (fun _ _ _ _ _ => pg_name (i := 9) sc_steps.nd rfl (Or.inl rfl)) (fun _ _ _ _ _ => pts_nil)
          (fun _ _ _ _ _ => pe_callB (lenSeqK K) (by rfl) B.len boot_len (pa_cons (pv 9) pa_nil))) pa_nil)) pe_int))
      (pss_cons (ps_if (pt_cmpR op_ne (pe_cmpR op_eq (pe_op op_mod (pe_callTy call_int1 (by rfl) B.int (by decide +kernel) (pa_cons (pv 3) pa_nil)) pe_int) pe_int (nomark _)) (pe_cmpR op_in_seq (pv 0) (pv 1) rfl) (nomark _)) (pss_one (ps_set (i := 3) sc_steps.nd rfl (Or.inl rfl) (pe_op op_add (pv 3) pe_int))) pss_nil) h2)), ?_⟩
    refine ⟨_, rfl, _, rfl, t, L, Tr, rfl, ht, l4, l4, ok, hTb, fun Rr H1 us s1 hR hp => ?_⟩
    have hul : us.length = (br Tr L).length := hp.length
    refine ⟨_, rfl, Rr, rfl, ⟨_, SqL.of hR⟩, fun Dn hDn => ?_⟩
    refine lc_val same_ok walk_list (fun i => ((br Tr L).take i).map fun b => V.int ((b.length : Nat) : Int)) hDn rfl (fun i hi => ?_) (fun H' r => SqL.of (r _ _ hR)) (fun N i y H4 H5 hi r yy keep skip => ?_) fun H4 r4 hD4 => ?_
    · exact Nat.lt_of_le_of_lt (m_take_len _ _ _) (small' (by omega))
    · obtain ⟨rfl, hy⟩ := yy
      obtain ⟨b, hb, tb, rfl, htb⟩ := paired_get hp hy
      refine ⟨rfl, yes ?_⟩
      refine ⟨_, rfl, _, _, rfl, .inr (SqT.of (r _ _ htb)), keep _ _ (Same.refl _) ?_⟩
      rw [map_take_succ hb, List.length_map]
    · rw [hul, List.take_length] at hD4
      refine ⟨Dn, (br Tr L).map fun b => ((b.length : Nat) : Int), rfl, SqL.of (by rw [hD4, List.map_map]; rfl), by rw [List.length_map]; exact List.length_pos_iff.mpr (br_ne Tr L), fun mx h1 h2' => ?_⟩
      obtain ⟨b, hb, rfl⟩ := List.mem_map.mp h1
      have hb5 := br_len L.length L (Nat.le_refl _) b hb
      have hle : ∀ b' ∈ br Tr L, ((b'.length : Nat) : Int) ≤ ((b.length : Nat) : Int) := fun b' hb' => h2' _ (List.mem_map.mpr ⟨b', hb', rfl⟩)
      have s4 : Sx T H H4 := s1.trans (Sx.of r4)
      refine ⟨_, _, rfl, rfl, ?_⟩
      refine ⟨_, rfl, .inl ⟨_, rfl, _, _, rfl, rfl, (by show (0 : Int) < 2; decide), rfl, _, rfl, _, rfl, t, _, rfl, .inl (SqL.of (s4.lst ht)), rfl, flat_tx Tr, rfl, _, rfl, ite2 (fun h => ?_) fun h => ?_⟩⟩
      · refine ⟨_, rfl, _, _, rfl, rfl, ?_⟩
        exact rd2 _ Rr us _ H4 _ s4 (r4 _ _ hR) (L2.Paired.mapP hp fun _ _ h => BrAt.tupS (TupS.of r4) h) (fun b' hb' => by have := hle b' hb'; show _ ≤ ((b.length : Int) - 1) + 1; omega) (by show ((b.length : Int) - 1) + 1 ≤ 5; omega) k
      · exact rd2 _ Rr us _ H4 _ s4 (r4 _ _ hR) (L2.Paired.mapP hp fun _ _ h => BrAt.tupS (TupS.of r4) h) (fun b' hb' => by have := hle b' hb'; show _ ≤ (b.length : Int) - 1; omega) (by show (b.length : Int) - 1 ≤ 5; omega) k
end
end Rg

end
section
set_option Elab.async false
set_option linter.all false
set_option maxRecDepth 100000
set_option maxHeartbeats 4000000
namespace Rg
open PySem PySem.Spec PyProof.Rows L2 LamX
def forBody : Stmt → List Stmt
  | .For (body := b) .. => b
  | _ => []
def GoodAt (H : Hp) (L : Lit) (Tr : List Lit) (v : V) : Prop := ∃ rs, RowsAt H v rs ∧ RowsOk L rs ∧ Small L Tr rs
def SomeAt (H : Hp) (S : Addr) (L : Lit) (Tr : List Lit) (n : Nat) : Prop := ∃ cur, H S = some (.lst cur) ∧ cur.length ≤ n ∧ ∀ v ∈ cur, GoodAt H L Tr v
theorem GoodAt.stay {H H' : Hp} {L : Lit} {Tr : List Lit} {v : V} (e : Stay H H') (h : GoodAt H L Tr v) : GoodAt H' L Tr v := by
  obtain ⟨rs, a, b⟩ := h
  exact ⟨rs, a.stay e, b⟩
theorem SomeAt.stay {H H' : Hp} {S : Addr} {L : Lit} {Tr : List Lit} {n : Nat} (e : Stay H H') (h : SomeAt H S L Tr n) : SomeAt H' S L Tr n := by
  obtain ⟨cur, a, b, c⟩ := h
  exact ⟨cur, e.2 _ _ a, b, fun v hv => (c v hv).stay e⟩
theorem sets_pos (L : Lit) : 1 ≤ (setsOf L).length := by
  rw [setsOf_len]
  exact Nat.one_le_two_pow
theorem paired_head {α β : Type} {F : α → β → Prop} {x : α} {xs : List α} {ys : List β} (h : Paired F (x :: xs) ys) : ∃ y, F x y := by
  cases h with
  | cons a _ => exact ⟨_, a⟩
/-- the list of the chosen tellers' steps is none of its own lists -/
theorem some_ne {H : Hp} {S : Addr} {L : Lit} {Tr : List Lit} {cur : List V} (hS : H S = some (.lst cur)) (hc : ∀ v ∈ cur, GoodAt H L Tr v) {v : V} {rs : Rows'} (h : RowsAt H v rs) (ro : RowsOk L rs) : v ≠ .ref S ∧ ∀ u r, RowAt H u r → r.length = (setsOf L).length → u ≠ .ref S := by
  have rowNe : ∀ u r, RowAt H u r → r.length = (setsOf L).length → u ≠ .ref S := fun u r hu hl e => by
    obtain ⟨b, qs, rfl, hb, hq⟩ := hu
    obtain rfl : b = S := V.ref.inj e
    rw [hS] at hb
    have hb2 := Option.some.inj hb
    injection hb2 with hb3
    subst hb3
    have hql := hq.length
    have := sets_pos L
    cases cur with
    | nil =>
      rw [List.length_nil] at hql
      omega
    | cons c0 cs =>
      obtain ⟨p, t, et, ht⟩ := paired_head hq
      obtain ⟨rs', ⟨a', vs', ea, ha', _⟩, _⟩ := hc c0 List.mem_cons_self
      rw [et] at ea
      cases ea
      rw [ht] at ha'
      cases ha'
  refine ⟨fun e => ?_, rowNe⟩
  obtain ⟨a, vs, rfl, ha, hp⟩ := h
  obtain rfl : a = S := V.ref.inj e
  rw [hS] at ha
  have hb2 := Option.some.inj ha
  injection hb2 with hb3
  subst hb3
  cases cur with
  | nil =>
    have := hp.length
    exact ro.ne (List.length_eq_zero_iff.mp this.symm)
  | cons c0 cs =>
    obtain ⟨rs', ⟨a', vs', ea, ha', hp'⟩, ro', _⟩ := hc c0 List.mem_cons_self
    cases rs with
    | nil => cases hp
    | cons r0 rs =>
      cases hp with
      | cons h0 _ =>
        obtain ⟨b, qs, eb, hb, hq⟩ := h0
        rw [ea] at eb
        cases eb
        rw [ha'] at hb
        have hb4 := Option.some.inj hb
        injection hb4 with hb5
        subst hb5
        have hl := ro.len r0 List.mem_cons_self
        have := sets_pos L
        have hql := hq.length
        cases vs' with
        | nil =>
          rw [List.length_nil] at hql
          omega
        | cons q0 qq =>
          obtain ⟨p, t, et, ht⟩ := paired_head hq
          obtain ⟨r', b2, qs2, e2, h2, _⟩ := paired_head hp'
          rw [et] at e2
          cases e2
          rw [ht] at h2
          cases h2
theorem good_put {H : Hp} {S : Addr} {L : Lit} {Tr : List Lit} {cur new : List V} (hS : H S = some (.lst cur)) (hc : ∀ v ∈ cur, GoodAt H L Tr v) {v : V} (h : GoodAt H L Tr v) : GoodAt (upd H S (.lst new)) L Tr v := by
  obtain ⟨rs, hr, ro, sm⟩ := h
  obtain ⟨n1, n2⟩ := some_ne hS hc hr ro
  obtain ⟨a, vs, rfl, ha, hp⟩ := hr
  refine ⟨rs, ⟨a, vs, rfl, by rw [upd_ne (fun e => n1 (by rw [e]))]; exact ha, ?_⟩, ro, sm⟩
  have go : ∀ {vs : List V} {rs' : Rows'}, Paired (RowAt H) vs rs' → (∀ r ∈ rs', r ∈ rs) → Paired (RowAt (upd H S (.lst new))) vs rs' := fun {vs rs'} h => by
    induction h with
    | nil => exact fun _ => .nil
    | cons a b ih => exact fun hr => .cons (RowAt.put hS a (n2 _ _ a (ro.len _ (hr _ List.mem_cons_self)))) (ih fun r hr' => hr r (List.mem_cons_of_mem _ hr'))
  exact go hp fun r hr => hr
theorem some_put {H : Hp} {S : Addr} {L : Lit} {Tr : List Lit} {cur : List V} {n : Nat} (hS : H S = some (.lst cur)) (hn : cur.length ≤ n) (hc : ∀ v ∈ cur, GoodAt H L Tr v) {v : V} (h : GoodAt H L Tr v) : SomeAt (upd H S (.lst (cur ++ [v]))) S L Tr (n + 1) := by
  refine ⟨cur ++ [v], upd_same, by rw [List.length_append]; show cur.length + 1 ≤ n + 1; omega, fun u hu => ?_⟩
  rcases List.mem_append.mp hu with q | q
  · exact good_put hS hc (hc u q)
  · rw [List.mem_singleton.mp q]
    exact good_put hS hc h
theorem lamps_ok : ∀ y ∈ [V.str (Str.ofString "ab"), V.str (Str.ofString "abc"), V.str (Str.ofString "xyz"), V.str (Str.ofString "bd"), V.str (Str.ofString "abcd")], ∃ L : Lit, y = tx L ∧ Ok L ∧ 1 ≤ L.length ∧ L.length ≤ 4 := fun y hy => by
  simp only [List.mem_cons, List.not_mem_nil, or_false] at hy
  rcases hy with rfl | rfl | rfl | rfl | rfl
  · exact ⟨[97, 98], congrArg V.str (by decide +kernel), ⟨by decide +kernel, by decide +kernel⟩, by decide, by decide⟩
  · exact ⟨[97, 98, 99], congrArg V.str (by decide +kernel), ⟨by decide +kernel, by decide +kernel⟩, by decide, by decide⟩
  · exact ⟨[120, 121, 122], congrArg V.str (by decide +kernel), ⟨by decide +kernel, by decide +kernel⟩, by decide, by decide⟩
  · exact ⟨[98, 100], congrArg V.str (by decide +kernel), ⟨by decide +kernel, by decide +kernel⟩, by decide, by decide⟩
  · exact ⟨[97, 98, 99, 100], congrArg V.str (by decide +kernel), ⟨by decide +kernel, by decide +kernel⟩, by decide, by decide⟩
theorem paired_take {α β : Type} {F : α → β → Prop} : ∀ {xs : List α} {ys : List β}, Paired F xs ys → ∀ n, Paired F (xs.take n) (ys.take n)
  | _, _, .nil, n => by
    rw [List.take_nil, List.take_nil]
    exact .nil
  | _, _, .cons a r, 0 => .nil
  | _, _, .cons a r, n + 1 => .cons a (paired_take r n)
/-- a new instance, made -/
theorem same_made {H H' : Hp} {x dx C : Addr} (hx : H x = none) (hdx : H dx = none) (b : But x (upd (upd H dx (.own x)) x (.ins C dx [])) H') : Same H H' := fun a o e => by
  have n1 := ne_of_none e hx
  have n2 := ne_of_none e hdx
  exact b a o n1 (by rw [upd_ne n1, upd_ne n2]; exact e)
section
variable {P : Program} {w : World} {K : PySem.W.Frag} {mg : Str → Option Value} {base : Heap} {T : List (Addr × Str)}
/-! law -/
def spLaw (K : PySem.W.Frag) (T : List (Addr × Str)) : Sp := fun vs H Q _ => ∃ (a : Addr) (ns : List Int), vs = [.ref a] ∧ SqL K H a (ns.map V.int) ∧ Tabs T H ∧ ∀ H', Q (.bl true) H'
theorem sc_law : FnScope ["_law_script", "_law_bag_here", "_law_turn", "_law_lamps", "_law_sentence_here", "_law_true", "_law_goal", "_law_steps_here", "_law_some", "_law_many", "_law_height", "_law_rows", "_law_found", "_law_row"] ["_law_script"] (defScope (top 65)) := ⟨rfl, rfl, rfl, by decide +kernel, rfl, by decide +kernel, by decide +kernel⟩
theorem c_law {CG CT : Addr} {f : Addr} {fd : FuncData} (D : Df K mg "law" (top 65) f fd) (B : Bl mg) (c1 : C8.Cal P w K mg base 1 "_law_bag" (spBag K) []) (c2 : C8.Cal P w K mg base 2 "_law_of" spOf []) (c3 : C8.Cal P w K mg base 7 "_law_aim" (spAim T) []) (c4 : C8.Mak P w K mg base 5 "Goal" CG (spGInit CG) [])
    (c5 : C8.Cal P w K mg base 10 "_law_steps" (spSteps T) []) (c6 : C8.Cal P w K mg base 1 "_law_pull" spPull []) (c7 : C8.Cal P w K mg base 4 "_law_drawn_steps" (spDrawn T) []) (c8 : C8.Cal P w K mg base 1 "_law_cut" spCut []) (c9 : C8.Cal P w K mg base 9 "_law_branches" (spBr T 5) [])
    (c10 : C8.Cal P w K mg base 5 "wrong_row" (spRow CT CG) []) (c11 : C8.Mak P w K mg base 5 "Teller" CT (spTInit CT) []) (c12 : C8.Cal P w K mg base 5 "_law_wrongly_told" (spWrongly T) []) : FnOk P w K mg base C8.CX0 11 f fd ["_law_script"] (spLaw K T) := by
  refine fn_m D.fn sc_law (fun vs H Q E h => ?_) (fun cdv A outer s H vs Q E hr h => ?_)
  · obtain ⟨a, ns, rfl, _⟩ := h
    rfl
  · obtain ⟨a, ns, rfl, ha, hTb, k⟩ := h
    -- the last loop of a turn
    obtain ⟨t7, h7, rd7⟩ : ∃ t7, PSs ((cxOf C8.CX0 P w K mg base ["_law_script", "_law_bag_here", "_law_turn", "_law_lamps", "_law_sentence_here", "_law_true", "_law_goal", "_law_steps_here", "_law_some", "_law_many", "_law_height", "_law_rows", "_law_found", "_law_row"] "law" (defScope (top 65)) f cdv A outer s H E).nox) ((forBody (bodyAt (top 65) 1)).drop 7) t7 ∧
        ∀ (D' : Ends) (b y At S : Addr) (L : Lit) (Tr : List Lit) (H1 : Hp) (x0 x2 x4 x7 x9 x10 x11 x12 : Option V), BagAt H1 b → Tabs T H1 → GoalAt CG H1 y L Tr → H1 At = some (.lst (Tr.map tx)) → SomeAt H1 S L Tr 10 → Ok L → 1 ≤ L.length → L.length ≤ 4 →
          (∀ (H' : Hp) (x11 x12 : Option V), BagAt H' b → Tabs T H' → D'.nx [x0, some (.ref b), x2, some (tx L), x4, some (.ref At), some (.ref y), x7, some (.ref S), x9, x10, x11, x12, none] H') →
          t7 D' [x0, some (.ref b), x2, some (tx L), x4, some (.ref At), some (.ref y), x7, some (.ref S), x9, x10, x11, x12, none] H1 := by
      refine ⟨_, pss_one (ps_for PassesOwn.never rfl (pi_list (pv 8)) (pg_name (i := 11) sc_law.nd rfl (Or.inl rfl))
        (pss_cons (ps_set (i := 12) sc_law.nd rfl (Or.inl rfl) (C8.pe_c c10 hr (by decide) (by rfl) (pa_cons (C8.pe_mk c11 hr (by decide) (by rfl) (pa_cons (pv 3) (pa_cons (pv 11) pa_nil))) (pa_cons (pv 6) pa_nil))))
        (pss_one (ps_if (pw_or (pt_cmp (pc_isN (pv 12))) (pw_or1 (pt_not (pt_val (C8.pe_c c12 hr (by decide) (by rfl) (pa_cons (pv 3) (pa_cons (pv 11) (pa_cons (pv 5) (pa_cons (pv 12) pa_nil))))))))).pt pss_never pss_nil)))),
        fun D' b y At S L Tr H1 x0 x2 x4 x7 x9 x10 x11 x12 hb hT hg hAt hS ok l1 l4 fin => ?_⟩
      obtain ⟨cur, hSl, _, hc⟩ := hS
      refine ⟨_, rfl, S, rfl, ⟨_, SqL.of hSl⟩, ?_⟩
      refine for_it walk_list (fun i σ H' => ∃ (x11 x12 : Option V), σ = [x0, some (.ref b), x2, some (tx L), x4, some (.ref At), some (.ref y), x7, some (.ref S), x9, x10, x11, x12, none] ∧ Sx T H1 H') ⟨x11, x12, rfl, Sx.refl _⟩ (fun i σ H' _ p => (let ⟨_, _, _, sm⟩ := p; SqL.of (sm.lst hSl))) (fun i v σ H2 H3 hi p yy => ?_) fun σ H2 p => ?_
      · obtain ⟨x11, x12, rfl, sm⟩ := p
        obtain ⟨rfl, hv⟩ := yy
        obtain ⟨rs, hrs, ro, small⟩ := hc v (List.mem_of_getElem? hv)
        have hrs3 := hrs.stay sm.stay
        refine ⟨_, rfl, _, rfl, fun x dx hx hdx hne => ?_⟩
        have sM : Same H3 (upd (upd H3 dx (.own x)) x (.ins CT dx [])) := same_made hx hdx fun _ _ _ h => h
        refine ⟨x, dx, L, v, rs, rfl, upd_same, hrs3.same sM, ro, ok, l1, l4, fun H4 but tell => ⟨rfl, ?_⟩⟩
        have s4 : Same H3 H4 := same_made hx hdx but
        refine ⟨_, rfl, x, y, L, Tr, rs, rfl, tell, (sm.goal hg).same s4, ro, ok, l4, small, fun p A1 B1 H5 lead ring s5 hp hA hB hds hne' hll hrl bad => ?_⟩
        have s15 : Sx T H1 H5 := sm.trans (Sx.of (s4.trans s5))
        refine ⟨_, rfl, _, rfl, iteF ?_⟩
        refine ⟨_, rfl, _, rfl, _, rfl, _, rfl, L, v, At, p, A1, B1, rs, Tr, lead, ring, rfl, hrs.stay s15.stay, ro, ok, l4, s15.lst hAt, hp, hA, hB, hds, hne', hll, hrl, s15.t hT, bad, fun H6 s6 => ⟨_, rfl, iteF ⟨_, _, rfl, s15.trans s6⟩⟩⟩
      · obtain ⟨x11, x12, rfl, sm⟩ := p
        exact fin H2 x11 x12 (sm.bag hb) (sm.t hT)
    -- the height, and the loop
    obtain ⟨t5, h5, rd5⟩ : ∃ t5, PSs ((cxOf C8.CX0 P w K mg base ["_law_script", "_law_bag_here", "_law_turn", "_law_lamps", "_law_sentence_here", "_law_true", "_law_goal", "_law_steps_here", "_law_some", "_law_many", "_law_height", "_law_rows", "_law_found", "_law_row"] "law" (defScope (top 65)) f cdv A outer s H E).nox) ((forBody (bodyAt (top 65) 1)).drop 5) t5 ∧
        ∀ (D' : Ends) (b y At S : Addr) (L : Lit) (Tr : List Lit) (H0 H1 : Hp) (x0 x2 x4 x7 x9 x10 x11 x12 : Option V), BagAt H0 b → Tabs T H0 → GoalAt CG H0 y L Tr → H0 At = some (.lst (Tr.map tx)) → H0 S = none → Sx T H0 H1 → SomeAt H1 S L Tr 5 → Ok L → 1 ≤ L.length → L.length ≤ 4 →
          (∀ (H' : Hp) (x10 x11 x12 : Option V), BagAt H' b → Tabs T H' → D'.nx [x0, some (.ref b), x2, some (tx L), x4, some (.ref At), some (.ref y), x7, some (.ref S), x9, x10, x11, x12, none] H') →
          t5 D' [x0, some (.ref b), x2, some (tx L), x4, some (.ref At), some (.ref y), x7, some (.ref S), x9, x10, x11, x12, none] H1 := by
      refine ⟨_, pss_cons (ps_set (i := 10) sc_law.nd rfl (Or.inl rfl) (pe_callB (cr_max rfl) (by rfl) B.max (by decide +kernel) (pa_cons
          (pe_lc (own := [("_law_row", 13)]) (g := gName 13) rfl sc_law.nd (pi_list (C8.pe_c c9 hr (by decide) (by rfl) (pa_cons (pv 5) (pa_cons (pv 3) pa_nil)))) (blkOk_by (own := [("_law_row", 13)]) (N := ["_law_script", "_law_bag_here", "_law_turn", "_law_lamps", "_law_sentence_here", "_law_true", "_law_goal", "_law_steps_here", "_law_some", "_law_many", "_law_height", "_law_rows", "_law_found", "_law_row"]) (sc := defScope (top 65)) (by decide +kernel)) (fun _ _ _ _ _ => pg_name (i := 13) sc_law.nd rfl (Or.inl rfl)) (fun _ _ _ _ _ => pts_nil)
            (fun _ _ _ _ _ => pe_callB (lenSeqK K) (by rfl) B.len boot_len (pa_cons (pv 13) pa_nil))) pa_nil)))
        (pss_cons (ps_if (pt_cmpR op_gt (pv 10) pe_int (nomark _))
          (pss_one (ps_expr (pe_bm PySem.F.plainAttrs_list PySem.F.slot_list_append PySem.F.type_list_append mt_append (pv 8) (pa_cons (C8.pe_c c7 hr (by decide) (by rfl) (pa_cons (pv 1) (pa_cons (pv 3) (pa_cons (pe_op op_add pe_int (C8.pe_c c6 hr (by decide) (by rfl) (pa_cons (pv 1) (pa_cons pe_int pa_nil)))) (pa_cons (pe_op op_sub (pv 10) pe_int) pa_nil))))) pa_nil)))) pss_nil) h7),
        fun D' b y At S L Tr H0 H1 x0 x2 x4 x7 x9 x10 x11 x12 hb hT hg hAt hS0 s1 hS ok l1 l4 fin => ?_⟩
      have nd := ris_nodup ok.ris
      have h24 := br_count24 (T := Tr) nd l4
      refine ⟨_, rfl, _, rfl, At, L, Tr, rfl, s1.lst hAt, l4, l4, ok, s1.t hT, fun R H2 us s2 hR hp => ?_⟩
      have hul : us.length = (br Tr L).length := hp.length
      refine ⟨R, rfl, ⟨_, SqL.of hR⟩, fun Dn hDn => ?_⟩
      refine lc_val same_ok walk_list (fun i => ((br Tr L).take i).map fun b => V.int ((b.length : Nat) : Int)) hDn rfl (fun i hi => ?_) (fun H' r => SqL.of (r _ _ hR)) (fun N i y H4 H5 hi r yy keep skip => ?_) fun H4 r4 hD4 => ?_
      · exact Nat.lt_of_le_of_lt (m_take_len _ _ _) (small' (by omega))
      · obtain ⟨rfl, hy⟩ := yy
        obtain ⟨b, hb, tb, rfl, htb⟩ := paired_get hp hy
        refine ⟨rfl, yes ?_⟩
        refine ⟨_, rfl, _, _, rfl, .inr (SqT.of (r _ _ htb)), keep _ _ (Same.refl _) ?_⟩
        rw [map_take_succ hb, List.length_map]
      · rw [hul, List.take_length] at hD4
        refine ⟨Dn, (br Tr L).map fun b => ((b.length : Nat) : Int), rfl, SqL.of (by rw [hD4, List.map_map]; rfl), by rw [List.length_map]; exact List.length_pos_iff.mpr (br_ne Tr L), fun mx h1 _ => ?_⟩
        obtain ⟨bb, hbb, rfl⟩ := List.mem_map.mp h1
        have hb5 := br_len L.length L (Nat.le_refl _) bb hbb
        have s4 : Sx T H0 H4 := s1.trans (s2.trans (Sx.of r4))
        have hS4 : SomeAt H4 S L Tr 5 := hS.stay (s2.trans (Sx.of r4)).stay
        refine ⟨_, rfl, _, _, rfl, rfl, _, rfl, ite2 (fun h => ?_) fun h => ?_⟩
        · have h2 : 1 < bb.length := by
            have h := of_decide_eq_true h
            omega
          obtain ⟨cur, hSl, hcl, hcg⟩ := hS4
          refine ⟨_, rfl, .inl ⟨rfl, _, SqL.of hSl⟩, ?_⟩
          refine ⟨_, rfl, _, rfl, _, rfl, b, 5, rfl, s4.bag hb, by decide, by decide, fun q H5 s5 hq => ⟨_, _, rfl, rfl, _, rfl, _, _, rfl, rfl, ?_⟩⟩
          have e1 : (1 : Int) + (q : Int) = ((1 + q : Nat) : Int) := by omega
          have e2 : ((bb.length : Nat) : Int) - 1 = ((bb.length - 1 : Nat) : Int) := by omega
          have s05 : Sx T H0 H5 := s4.trans (Sx.of s5)
          refine ⟨b, L, 1 + q, bb.length - 1, by show [V.ref b, tx L, V.int ((1 : Int) + (q : Int)), V.int (((bb.length : Nat) : Int) - 1)] = _; rw [e1, e2], s05.bag hb, l4, s05.t hT, by omega, by omega, by omega, by omega, fun v rs H6 s6 hrs hrl hro => ?_⟩
          have s56 : Stay H4 H6 := (Stay.of s5).trans s6.stay
          have hSl6 := s56.2 _ _ hSl
          have hcg6 : ∀ u ∈ cur, GoodAt H6 L Tr u := fun u hu => (hcg u hu).stay s56
          have good : GoodAt H6 L Tr v := by
            refine ⟨rs, hrs, ⟨fun e => ?_, by omega, fun r hr => (hro r hr).1, fun r hr p hp => ?_⟩, .inr ⟨((bb.length - 1 : Nat) : Int), fun r hr q hq => ((hro r hr).2 q hq).2.1, bb, hbb, by omega⟩⟩
            · rw [e] at hrl
              have : 0 = 1 + q := hrl
              omega
            · have := (hro r hr).2 p hp
              refine ⟨this.1, by omega, this.2.2.1, ?_⟩
              rw [hrl]
              exact this.2.2.2
          refine ⟨S, _, _, rfl, rfl, hSl6, small' (by omega), ?_⟩
          have s07 : Sx T H0 (upd H6 S (.lst (cur ++ [v]))) := (s05.trans s6).put hS0 (.inr ⟨_, hSl6⟩)
          have hS7 := some_put hSl6 hcl hcg6 good
          obtain ⟨cur7, a7, b7, c7'⟩ := hS7
          exact rd7 _ b y At S L Tr _ _ _ _ _ _ _ _ _ (s07.bag hb) (s07.t hT) (s07.goal hg) (s07.lst hAt) ⟨cur7, a7, by omega, c7'⟩ ok l1 l4 fun H' x11 x12 => fin H' _ x11 x12
        · obtain ⟨cur7, a7, b7, c7'⟩ := hS4
          exact rd7 _ b y At S L Tr _ _ _ _ _ _ _ _ _ (s4.bag hb) (s4.t hT) (s4.goal hg) (s4.lst hAt) ⟨cur7, a7, by omega, c7'⟩ ok l1 l4 fun H' x11 x12 => fin H' _ x11 x12
    refine ⟨_, pss_cons (ps_set (i := 1) sc_law.nd rfl (Or.inl rfl) (C8.pe_c c1 hr (by decide) (by rfl) (pa_cons (pv 0) pa_nil)))
      (pss_cons (ps_for PassesOwn.never rfl (pi_range1 (by rfl) B.range (pa_cons pe_int pa_nil)) (pg_name (i := 2) sc_law.nd rfl (Or.inl rfl))
        (pss_cons (ps_set (i := 3) sc_law.nd rfl (Or.inl rfl) (C8.pe_c c2 hr (by decide) (by rfl) (pa_cons (pv 1) (pa_cons (pe_lst (pa_cons pe_str (pa_cons pe_str (pa_cons pe_str (pa_cons pe_str (pa_cons pe_str pa_nil)))))) pa_nil))))
        (pss_cons (ps_asg (C8.pe_c c3 hr (by decide) (by rfl) (pa_cons (pv 1) (pa_cons (pv 3) pa_nil))) (pg_tup rfl (pgs_cons (pg_name (i := 4) sc_law.nd rfl (Or.inl rfl)) (pgs_cons (pg_name (i := 5) sc_law.nd rfl (Or.inl rfl)) pgs_nil))))
        (pss_cons (ps_par (i := 6) (j := 7) rfl sc_law.nd rfl rfl (by decide) rfl rfl (pa_cons (C8.pe_mk c4 hr (by decide) (by rfl) (pa_cons (pv 3) (pa_cons (pv 4) pa_nil))) (pa_cons (C8.pe_c c5 hr (by decide) (by rfl) (pa_cons (pv 3) (pa_cons (pv 5) pa_nil))) pa_nil)) rfl)
        (pss_cons (ps_set (i := 8) sc_law.nd rfl (Or.inl rfl) (pe_lst pa_nil))
        (pss_cons (ps_if (pt_cmpR op_gt (pe_callB call_len_seq (by rfl) B.len boot_len (pa_cons (pv 7) pa_nil)) pe_int (nomark _))
          (pss_cons (ps_set (i := 9) sc_law.nd rfl (Or.inr rfl) (pe_op op_add pe_int (C8.pe_c c6 hr (by decide) (by rfl) (pa_cons (pv 1) (pa_cons (pe_op op_sub (pe_callB call_len_seq (by rfl) B.len boot_len (pa_cons (pv 7) pa_nil)) pe_int) pa_nil)))))
          (pss_cons (ps_expr (pe_bm PySem.F.plainAttrs_list PySem.F.slot_list_append PySem.F.type_list_append mt_append (pv 8) (pa_cons (C8.pe_c c7 hr (by decide) (by rfl) (pa_cons (pv 1) (pa_cons (pv 3) (pa_cons (pv 9) (pa_cons pe_int pa_nil))))) pa_nil)))
          (pss_one (ps_expr (pe_bm PySem.F.plainAttrs_list PySem.F.slot_list_append PySem.F.type_list_append mt_append (pv 8) (pa_cons (pe_lc (own := [("_law_row", 13)]) (g := gName 13) rfl sc_law.nd (pi_list (pe_slice sl_list (pv 7) po_none (po_some (pv 9)))) (blkOk_by (own := [("_law_row", 13)]) (N := ["_law_script", "_law_bag_here", "_law_turn", "_law_lamps", "_law_sentence_here", "_law_true", "_law_goal", "_law_steps_here", "_law_some", "_law_many", "_law_height", "_law_rows", "_law_found", "_law_row"]) (sc := defScope (top 65)) (by decide +kernel)) (fun _ _ _ _ _ => pg_name (i := 13) sc_law.nd rfl (Or.inl rfl)) (fun _ _ _ _ _ => pts_nil)
            (fun _ _ _ _ _ => C8.pe_c c8 hr (by decide) (by rfl) (pa_cons (pv 13) (pa_cons (pv 9) pa_nil)))) pa_nil)))))) pss_nil) h5))))))
      (pss_one (ps_ret pe_bl))), ?_⟩
    refine ⟨_, rfl, a, ns, rfl, ha, fun b H1 s1 hb => ?_⟩
    refine ⟨_, rfl, by decide, by decide, ?_⟩
    refine for_it (walk_range (lo := 0) (n := 4)) (fun i σ H' => ∃ (x2 x3 x4 x5 x6 x7 x8 x9 x10 x11 x12 : Option V), σ = [some (.ref a), some (.ref b), x2, x3, x4, x5, x6, x7, x8, x9, x10, x11, x12, none] ∧ BagAt H' b ∧ Tabs T H')
      ⟨none, none, none, none, none, none, none, none, none, none, none, rfl, hb, hTb.ext s1⟩ (fun _ _ _ _ _ => trivial) (fun i v σ H2 H3 hi p yy => ?_) fun σ H2 p => k _
    obtain ⟨x2, x3, x4, x5, x6, x7, x8, x9, x10, x11, x12, rfl, hb3, hT3⟩ := p
    obtain ⟨rfl, rfl⟩ := yy
    refine ⟨_, rfl, by show 5 ≤ sizeLine; decide, fun l hl => ?_⟩
    have sl : Same H3 (upd H3 l (.lst [.str "ab", .str "abc", .str "xyz", .str "bd", .str "abcd"])) := Same.one hl
    refine ⟨b, .ref l, rfl, hb3.same sl, .inr ⟨l, _, rfl, upd_same, by show 1 ≤ 5; decide, by show 5 ≤ 1000; decide, fun yv H4 s4 hy => ?_⟩⟩
    obtain ⟨L, rfl, ok, l1, l4⟩ := lamps_ok yv hy
    have s34 : Same H3 H4 := sl.trans s4
    have nd := ris_nodup ok.ris
    refine ⟨_, rfl, _, rfl, b, L, rfl, hb3.same s34, l1, l4, hT3.ext s34, fun p At v sn H5 s5 hp hs hsz hA => ?_⟩
    refine ⟨p, _, rfl, SqT.of hp, rfl, _, _, rfl, _, _, rfl, rfl, ?_⟩
    have s35 : Sx T H3 H5 := (Sx.of s34).trans s5
    refine ⟨_, rfl, _, rfl, fun x dx hx hdx hne => ?_⟩
    have sM : Same H5 (upd (upd H5 dx (.own x)) x (.ins CG dx [])) := same_made hx hdx fun _ _ _ h => h
    refine ⟨x, dx, L, v, sn, rfl, upd_same, SenAt.same sM hs, hsz, ok, l1, l4, fun H6 but hg => ⟨rfl, ?_⟩⟩
    have s56 : Same H5 H6 := same_made hx hdx but
    have s36 : Sx T H3 H6 := s35.trans (Sx.of s56)
    generalize hTr : ((setsOf L).filter fun l => holdsS 2 sn l) = Tr at hA hg
    refine ⟨_, rfl, _, rfl, At, Tr, L, rfl, s56 _ _ hA, ok, l4, s36.t hT3, fun sv rs H7 s7 hrs hrl hro => ?_⟩
    refine ⟨_, _, rfl, ?_⟩
    obtain ⟨a7, us, rfl, ha7, hp7⟩ := hrs
    have hul : us.length = rs.length := hp7.length
    have s37 : Sx T H3 H7 := s36.trans s7
    have h24 := br_count24 (T := Tr) nd l4
    refine ⟨by show 0 ≤ sizeLine; decide, fun S hS => ?_⟩
    have sS : Same H7 (upd H7 S (.lst [])) := Same.one hS
    have hS8 : (upd H7 S (.lst [])) S = some (.lst []) := upd_same
    have hb7 := s37.bag hb3
    have hT7 := s37.t hT3
    have hg7 : GoalAt CG H7 x L Tr := s7.goal hg
    have hA7 : H7 At = some (.lst (Tr.map tx)) := s7.lst (s56 _ _ hA)
    generalize upd H7 S (.lst []) = H8 at sS hS8 ⊢
    have s78 : Sx T H7 H8 := Sx.of sS
    refine ⟨_, rfl, _, _, rfl, .inl (SqL.of (sS _ _ ha7)), _, _, rfl, rfl, _, rfl, ite2 (fun h => ?_) fun h => ?_⟩
    · have hlt : 1 < us.length := by
        have h := of_decide_eq_true h
        omega
      have el : ((us.length : Nat) : Int) - 1 = ((us.length - 1 : Nat) : Int) := by omega
      refine ⟨_, rfl, _, rfl, _, _, rfl, .inl (SqL.of (sS _ _ ha7)), _, _, rfl, rfl, b, us.length - 1, by show [V.ref b, V.int (((us.length : Nat) : Int) - 1)] = _; rw [el], s78.bag hb7, by omega, by omega, fun r H9 s9 hr9 => ⟨_, _, rfl, rfl, ?_⟩⟩
      have em : (1 : Int) + (r : Int) = ((1 + r : Nat) : Int) := by omega
      have s79 : Sx T H7 H9 := s78.trans (Sx.of s9)
      have hS9 := s9 _ _ hS8
      refine ⟨_, rfl, .inl ⟨rfl, _, SqL.of hS9⟩, ?_⟩
      refine ⟨_, rfl, _, rfl, _, rfl, b, L, 1 + r, 6, by show [V.ref b, tx L, V.int ((1 : Int) + (r : Int)), V.int 6] = _; rw [em]; rfl, s79.bag hb7, l4, s79.t hT7, by omega, by omega, by decide, by decide, fun v1 rs1 H10 s10 hrs1 hrl1 hro1 => ?_⟩
      have hS10 := s10.lst hS9
      have good1 : GoodAt H10 L Tr v1 := by
        refine ⟨rs1, hrs1, ⟨fun e => ?_, by omega, fun r hr => (hro1 r hr).1, fun r hr p hp => ?_⟩, .inl (by omega)⟩
        · rw [e] at hrl1
          have : 0 = 1 + r := hrl1
          omega
        · have := (hro1 r hr).2 p hp
          refine ⟨this.1, by have := this.2.1; omega, this.2.2.1, ?_⟩
          rw [hrl1]
          exact this.2.2.2
      refine ⟨S, _, _, rfl, rfl, hS10, by decide, ?_⟩
      have s711 : Sx T H7 (upd H10 S (.lst ([] ++ [v1]))) := (s79.trans s10).put hS (.inr ⟨_, hS10⟩)
      have sa11 := some_put (n := 0) hS10 (by decide) (fun u hu => nomatch hu) good1
      generalize upd H10 S (.lst ([] ++ [v1])) = H11 at s711 sa11 ⊢
      obtain ⟨cur, hS11, hcl, hcg⟩ := sa11
      refine ⟨_, rfl, .inl ⟨rfl, _, SqL.of hS11⟩, ?_⟩
      refine ⟨_, rfl, _, rfl, ((1 + r : Nat) : Int), by show V.int ((1 : Int) + (r : Int)) = _; rw [em], a7, us, rfl, SqL.of (s711.lst ha7), fun pc hpc => ?_⟩
      rw [cut_to]
      have s12 : Same H11 (upd H11 pc (.lst (us.take (1 + r)))) := Same.one hpc
      have hpc12 : (upd H11 pc (.lst (us.take (1 + r)))) pc = some (.lst (us.take (1 + r))) := upd_same
      generalize upd H11 pc (.lst (us.take (1 + r))) = H12 at s12 hpc12 ⊢
      have s712 : Sx T H7 H12 := s711.trans (Sx.of s12)
      have hp12 : Paired (RowAt H12) (us.take (1 + r)) (rs.take (1 + r)) := paired_take (L2.Paired.mapP hp7 fun _ _ h => h.stay s712.stay) _
      have htl : (rs.take (1 + r)).length = 1 + r := by rw [List.length_take]; omega
      have hutl : (us.take (1 + r)).length = 1 + r := by rw [List.length_take]; omega
      refine ⟨pc, rfl, ⟨_, SqL.of hpc12⟩, fun Dn hDn => ?_⟩
      refine lc_it walk_list (fun i H' => Same H12 H' ∧ ∃ zs, H' Dn = some (.lst zs) ∧ Paired (fun v r' => RowAt H' v r' ∧ v ≠ .ref Dn) zs (((rs.take (1 + r)).take i).map fun row => row.map (cutF ((1 : Int) + (r : Int))))) ⟨Same.one hDn, [], upd_same, .nil⟩ (fun i H' _ p => SqL.of (p.1 _ _ hpc12)) (fun i y H13 H14 hi p yy => ?_) fun H13 p => ?_
      · obtain ⟨rfl, hy⟩ := yy
        obtain ⟨s13, zs, hz, hzp⟩ := p
        obtain ⟨row, hrow, hra⟩ := paired_get hp12 hy
        have hrm := List.mem_of_mem_take (List.mem_of_getElem? hrow)
        have hzl : zs.length = _ := hzp.length
        rw [List.length_map] at hzl
        have hzl2 : ((rs.take (1 + r)).take i).length ≤ (rs.take (1 + r)).length := List.length_take_le' _ _
        have h16 := sets16 l4
        refine ⟨rfl, yes ?_⟩
        refine ⟨_, rfl, _, rfl, y, (1 : Int) + (r : Int), row, rfl, hra.same s13, by rw [(hro row hrm).1]; omega, fun v' H15 D' s15 hD' ev hra' => ?_⟩
        subst ev
        have hz15 := s15 _ _ hz
        have hne : V.ref D' ≠ V.ref Dn := fun e => by
          have e := V.ref.inj e
          rw [e, hz] at hD'
          cases hD'
        refine ⟨zs, hz15, small' (by omega), Same.put (s13.trans s15) hDn, zs ++ [.ref D'], upd_same, ?_⟩
        rw [map_take_succ hrow]
        exact Paired.snoc (L2.Paired.mapP hzp fun v r h => ⟨RowAt.put hz15 (h.1.same s15) h.2, h.2⟩) ⟨RowAt.put hz15 hra' hne, hne⟩
      · obtain ⟨s13, zs, hz, hzp⟩ := p
        rw [hutl, List.take_of_length_le (by omega)] at hzp
        have hS13 := (s12.trans s13) _ _ hS11
        have hcg13 : ∀ u ∈ cur, GoodAt H13 L Tr u := fun u hu => (hcg u hu).stay (Stay.of (s12.trans s13))
        have good2 : GoodAt H13 L Tr (.ref Dn) := by
          refine ⟨(rs.take (1 + r)).map fun row => row.map (cutF ((1 : Int) + (r : Int))), ⟨Dn, zs, rfl, hz, L2.Paired.mapP hzp fun _ _ h => h.1⟩, ⟨fun e => ?_, by rw [List.length_map]; omega, fun r' hr' => ?_, fun r' hr' q hq => ?_⟩, .inl (by rw [List.length_map]; omega)⟩
          · have := congrArg List.length e
            rw [List.length_map, List.length_nil] at this
            omega
          · obtain ⟨row, hrow, rfl⟩ := List.mem_map.mp hr'
            rw [List.length_map]
            exact (hro row (List.mem_of_mem_take hrow)).1
          · obtain ⟨row, hrow, rfl⟩ := List.mem_map.mp hr'
            obtain ⟨q0, hq0, rfl⟩ := List.mem_map.mp hq
            have h1 := (hro row (List.mem_of_mem_take hrow)).2 q0 hq0
            rw [List.length_map, htl]
            unfold cutF
            refine ⟨h1.1, by have := h1.2.1; show q0.1 ≤ 99; omega, ?_, ?_⟩
            · show 0 ≤ (if (1 : Int) + (r : Int) - 1 < q0.2 then (1 : Int) + (r : Int) - 1 else q0.2)
              have := h1.2.2.1
              split <;> omega
            · show (if (1 : Int) + (r : Int) - 1 < q0.2 then (1 : Int) + (r : Int) - 1 else q0.2) < ((1 + r : Nat) : Int)
              split <;> omega
        refine ⟨S, _, _, rfl, rfl, hS13, small' (by omega), ?_⟩
        have s714 : Sx T H7 (upd H13 S (.lst (cur ++ [.ref Dn]))) := (s712.trans (Sx.of s13)).put hS (.inr ⟨_, hS13⟩)
        obtain ⟨cur2, ca, cb, cc⟩ := some_put hS13 hcl hcg13 good2
        exact rd5 _ b x At S L Tr H7 _ _ _ _ _ _ _ _ _ hb7 hT7 hg7 hA7 hS s714 ⟨cur2, ca, by omega, cc⟩ ok l1 l4 fun H' x10 x11 x12 hb' hT' => ⟨_, _, _, _, _, _, _, _, _, _, _, rfl, hb', hT'⟩
    · exact rd5 _ b x At S L Tr H7 _ _ _ _ _ _ _ _ _ hb7 hT7 hg7 hA7 hS s78 ⟨[], hS8, by decide, fun u hu => nomatch hu⟩ ok l1 l4 fun H' x10 x11 x12 hb' hT' => ⟨_, _, _, _, _, _, _, _, _, _, _, rfl, hb', hT'⟩
end
end Rg

end
section
set_option Elab.async false
set_option linter.all false
set_option maxRecDepth 100000
set_option maxHeartbeats 4000000
namespace Rg
open PySem PySem.Spec PyProof.Rows L2 LamX
abbrev Lw : PySem.W.OpenLaw := PySem.Challenge.rw_relitgoals_k46_whole_smaller_tellers_are
section
variable {P : Program} {w : World} {K : PySem.W.Frag} {mg : Str → Option Value} {base : Heap}
theorem propL_of {x f fld qual : Str} (h : getB K x f fld qual = true) (c : Cls K (He.ga K x)) (n : NoAttr K (He.ga K x) fld) : PropL P w K mg base (He.ga K x) f fld := by
  unfold getB at h
  split at h
  · rename_i p hp
    rw [Bool.and_eq_true, Bool.and_eq_true] at h
    obtain ⟨⟨h1, h2⟩, h3⟩ := h
    split at h3
    · rename_i g rest hg
      split at h3
      · rename_i oc od fd osl hl
        obtain ⟨nm, qn, params, body, scope, globals, closure, defaults, kwd, doc, pm, ann, code, ct, blt⟩ := fd
        simp only [Bool.and_eq_true, decide_eq_true_eq] at h3
        obtain ⟨⟨⟨⟨⟨⟨⟨⟨a1, a2⟩, a3⟩, a4⟩, a5⟩, a6⟩, a7⟩, a8⟩, a9⟩ := h3
        split at a8
        · rename_i ar
          split at a9
          · rename_i sn p1 gn p2 p3
            rw [decide_eq_true_eq] at a8
            rw [Bool.and_eq_true, decide_eq_true_eq, decide_eq_true_eq] at a9
            obtain ⟨rfl, rfl⟩ := a9
            obtain ⟨an, at_⟩ := ar
            have a8 : an = "self" := a8
            subst a8 a2 a3 a5
            have a4 : closure = [] := List.isEmpty_iff.mp a4
            subst a4
            have a6 : defaults = .none := by
              cases defaults <;> first | rfl | cases a6
            subst a6
            refine ⟨p, g, _, ⟨hp, He.eqO_ok h1, of_decide_eq_true h2, rest, hg⟩, fn_getter (k := 0) (name := nm) (qual := qn) (N := ["self"]) hl a1 (C8.fnScope_by a7) rfl rfl c n, .all fun us hl => ?_⟩
            match us, hl with
            | [_], _ => rfl
          · cases a9
        · cases a8
      · cases h3
    · cases h3
  · cases h
theorem all_facts {h : Heap} {f : Addr} (KX : K.In h) (G : h.Ns mainGlobals mg) (hlaw : mg ("law" : Str) = some (.ref f)) (cx : He.SaysX hfa hfn [] [("_law_sets", none)] hex w h K) : LawAtS Lw w K C8.CX0 11 63 "_law_script" mg f h := by
  have c0 : He.SaysD hfa hfn K := cx.t.d
  obtain ⟨fd0, F0⟩ := c0.def_ 0 (d := ⟨("is_integer", none), "is_integer", "is_integer", defArgs (top 10), defBody (top 10), defScope (top 10), [], []⟩) rfl
  have D0 : Df K mg "is_integer" (top 10) (He.ga K "is_integer") fd0 := ⟨F0, He.glo_ok KX G (c0.fact 0 (f := .glo "is_integer") rfl)⟩
  obtain ⟨fd1, F1⟩ := c0.def_ 1 (d := ⟨("is_rising", none), "is_rising", "is_rising", defArgs (top 11), defBody (top 11), defScope (top 11), [], []⟩) rfl
  have D1 : Df K mg "is_rising" (top 11) (He.ga K "is_rising") fd1 := ⟨F1, He.glo_ok KX G (c0.fact 1 (f := .glo "is_rising") rfl)⟩
  obtain ⟨fd2, F2⟩ := c0.def_ 2 (d := ⟨("is_lamps", none), "is_lamps", "is_lamps", defArgs (top 12), defBody (top 12), defScope (top 12), [], []⟩) rfl
  have D2 : Df K mg "is_lamps" (top 12) (He.ga K "is_lamps") fd2 := ⟨F2, He.glo_ok KX G (c0.fact 2 (f := .glo "is_lamps") rfl)⟩
  obtain ⟨fd3, F3⟩ := c0.def_ 3 (d := ⟨("is_set", none), "is_set", "is_set", defArgs (top 13), defBody (top 13), defScope (top 13), [], []⟩) rfl
  have D3 : Df K mg "is_set" (top 13) (He.ga K "is_set") fd3 := ⟨F3, He.glo_ok KX G (c0.fact 3 (f := .glo "is_set") rfl)⟩
  obtain ⟨fd4, F4⟩ := c0.def_ 4 (d := ⟨("need_lamps", none), "need_lamps", "need_lamps", defArgs (top 14), defBody (top 14), defScope (top 14), [], []⟩) rfl
  have D4 : Df K mg "need_lamps" (top 14) (He.ga K "need_lamps") fd4 := ⟨F4, He.glo_ok KX G (c0.fact 4 (f := .glo "need_lamps") rfl)⟩
  obtain ⟨fd5, F5⟩ := c0.def_ 5 (d := ⟨("need_same_lamps", none), "need_same_lamps", "need_same_lamps", defArgs (top 15), defBody (top 15), defScope (top 15), [], []⟩) rfl
  have D5 : Df K mg "need_same_lamps" (top 15) (He.ga K "need_same_lamps") fd5 := ⟨F5, He.glo_ok KX G (c0.fact 5 (f := .glo "need_same_lamps") rfl)⟩
  obtain ⟨fd6, F6⟩ := c0.def_ 6 (d := ⟨("size_and_letters", none), "size_and_letters", "size_and_letters", defArgs (top 16), defBody (top 16), defScope (top 16), [], []⟩) rfl
  have D6 : Df K mg "size_and_letters" (top 16) (He.ga K "size_and_letters") fd6 := ⟨F6, He.glo_ok KX G (c0.fact 6 (f := .glo "size_and_letters") rfl)⟩
  obtain ⟨fd7, F7⟩ := c0.def_ 7 (d := ⟨("sets_of", none), "sets_of", "sets_of", defArgs (top 17), defBody (top 17), defScope (top 17), [], []⟩) rfl
  have D7 : Df K mg "sets_of" (top 17) (He.ga K "sets_of") fd7 := ⟨F7, He.glo_ok KX G (c0.fact 7 (f := .glo "sets_of") rfl)⟩
  obtain ⟨fd8, F8⟩ := c0.def_ 8 (d := ⟨("union", none), "union", "union", defArgs (top 18), defBody (top 18), defScope (top 18), [], []⟩) rfl
  have D8 : Df K mg "union" (top 18) (He.ga K "union") fd8 := ⟨F8, He.glo_ok KX G (c0.fact 8 (f := .glo "union") rfl)⟩
  obtain ⟨fd9, F9⟩ := c0.def_ 9 (d := ⟨("is_within", none), "is_within", "is_within", defArgs (top 19), defBody (top 19), defScope (top 19), [], []⟩) rfl
  have D9 : Df K mg "is_within" (top 19) (He.ga K "is_within") fd9 := ⟨F9, He.glo_ok KX G (c0.fact 9 (f := .glo "is_within") rfl)⟩
  obtain ⟨fd10, F10⟩ := c0.def_ 10 (d := ⟨("leaving_edges", none), "leaving_edges", "leaving_edges", defArgs (top 21), defBody (top 21), defScope (top 21), [], []⟩) rfl
  have D10 : Df K mg "leaving_edges" (top 21) (He.ga K "leaving_edges") fd10 := ⟨F10, He.glo_ok KX G (c0.fact 10 (f := .glo "leaving_edges") rfl)⟩
  obtain ⟨fd11, F11⟩ := c0.def_ 11 (d := ⟨("path", none), "path", "path", defArgs (top 22), defBody (top 22), defScope (top 22), [], []⟩) rfl
  have D11 : Df K mg "path" (top 22) (He.ga K "path") fd11 := ⟨F11, He.glo_ok KX G (c0.fact 11 (f := .glo "path") rfl)⟩
  obtain ⟨fd12, F12⟩ := c0.def_ 12 (d := ⟨("reached", none), "reached", "reached", defArgs (top 23), defBody (top 23), defScope (top 23), [], []⟩) rfl
  have D12 : Df K mg "reached" (top 23) (He.ga K "reached") fd12 := ⟨F12, He.glo_ok KX G (c0.fact 12 (f := .glo "reached") rfl)⟩
  obtain ⟨fd13, F13⟩ := c0.def_ 13 (d := ⟨("strong_parts", none), "strong_parts", "strong_parts", defArgs (top 24), defBody (top 24), defScope (top 24), [], []⟩) rfl
  have D13 : Df K mg "strong_parts" (top 24) (He.ga K "strong_parts") fd13 := ⟨F13, He.glo_ok KX G (c0.fact 13 (f := .glo "strong_parts") rfl)⟩
  obtain ⟨fd14, F14⟩ := c0.def_ 14 (d := ⟨("ring_through", none), "ring_through", "ring_through", defArgs (top 25), defBody (top 25), defScope (top 25), [], []⟩) rfl
  have D14 : Df K mg "ring_through" (top 25) (He.ga K "ring_through") fd14 := ⟨F14, He.glo_ok KX G (c0.fact 14 (f := .glo "ring_through") rfl)⟩
  obtain ⟨fd15, F15⟩ := c0.def_ 15 (d := ⟨("lamps_of", none), "lamps_of", "lamps_of", defArgs (top 26), defBody (top 26), defScope (top 26), [], []⟩) rfl
  have D15 : Df K mg "lamps_of" (top 26) (He.ga K "lamps_of") fd15 := ⟨F15, He.glo_ok KX G (c0.fact 15 (f := .glo "lamps_of") rfl)⟩
  obtain ⟨fd16, F16⟩ := c0.def_ 16 (d := ⟨("is_step", none), "is_step", "is_step", defArgs (top 30), defBody (top 30), defScope (top 30), [], []⟩) rfl
  have D16 : Df K mg "is_step" (top 30) (He.ga K "is_step") fd16 := ⟨F16, He.glo_ok KX G (c0.fact 16 (f := .glo "is_step") rfl)⟩
  obtain ⟨fd17, F17⟩ := c0.def_ 17 (d := ⟨("are_steps", none), "are_steps", "are_steps", defArgs (top 31), defBody (top 31), defScope (top 31), [], []⟩) rfl
  have D17 : Df K mg "are_steps" (top 31) (He.ga K "are_steps") fd17 := ⟨F17, He.glo_ok KX G (c0.fact 17 (f := .glo "are_steps") rfl)⟩
  obtain ⟨fd18, F18⟩ := c0.def_ 18 (d := ⟨("wrong_ring", none), "wrong_ring", "wrong_ring", defArgs (top 33), defBody (top 33), defScope (top 33), [], []⟩) rfl
  have D18 : Df K mg "wrong_ring" (top 33) (He.ga K "wrong_ring") fd18 := ⟨F18, He.glo_ok KX G (c0.fact 18 (f := .glo "wrong_ring") rfl)⟩
  obtain ⟨fd19, F19⟩ := c0.def_ 19 (d := ⟨("wrong_row", none), "wrong_row", "wrong_row", defArgs (top 34), defBody (top 34), defScope (top 34), [], []⟩) rfl
  have D19 : Df K mg "wrong_row" (top 34) (He.ga K "wrong_row") fd19 := ⟨F19, He.glo_ok KX G (c0.fact 19 (f := .glo "wrong_row") rfl)⟩
  obtain ⟨fd20, F20⟩ := c0.def_ 20 (d := ⟨("is_part", none), "is_part", "is_part", defArgs (top 38), defBody (top 38), defScope (top 38), [], []⟩) rfl
  have D20 : Df K mg "is_part" (top 38) (He.ga K "is_part") fd20 := ⟨F20, He.glo_ok KX G (c0.fact 20 (f := .glo "is_part") rfl)⟩
  obtain ⟨fd21, F21⟩ := c0.def_ 21 (d := ⟨("inner", none), "inner", "inner", defArgs (top 39), defBody (top 39), defScope (top 39), [], []⟩) rfl
  have D21 : Df K mg "inner" (top 39) (He.ga K "inner") fd21 := ⟨F21, He.glo_ok KX G (c0.fact 21 (f := .glo "inner") rfl)⟩
  obtain ⟨fd22, F22⟩ := c0.def_ 22 (d := ⟨("check_sentence", none), "check_sentence", "check_sentence", defArgs (top 40), defBody (top 40), defScope (top 40), [], []⟩) rfl
  have D22 : Df K mg "check_sentence" (top 40) (He.ga K "check_sentence") fd22 := ⟨F22, He.glo_ok KX G (c0.fact 22 (f := .glo "check_sentence") rfl)⟩
  obtain ⟨fd23, F23⟩ := c0.def_ 23 (d := ⟨("holds_for", none), "holds_for", "holds_for", defArgs (top 41), defBody (top 41), defScope (top 41), [], []⟩) rfl
  have D23 : Df K mg "holds_for" (top 41) (He.ga K "holds_for") fd23 := ⟨F23, He.glo_ok KX G (c0.fact 23 (f := .glo "holds_for") rfl)⟩
  obtain ⟨fd24, F24⟩ := c0.def_ 24 (d := ⟨("holds", none), "holds", "holds", defArgs (top 43), defBody (top 43), defScope (top 43), [], []⟩) rfl
  have D24 : Df K mg "holds" (top 43) (He.ga K "holds") fd24 := ⟨F24, He.glo_ok KX G (c0.fact 24 (f := .glo "holds") rfl)⟩
  obtain ⟨fd25, F25⟩ := c0.def_ 25 (d := ⟨("_law_bag", none), "_law_bag", "_law_bag", defArgs (top 45), defBody (top 45), defScope (top 45), [], []⟩) rfl
  have D25 : Df K mg "_law_bag" (top 45) (He.ga K "_law_bag") fd25 := ⟨F25, He.glo_ok KX G (c0.fact 25 (f := .glo "_law_bag") rfl)⟩
  obtain ⟨fd26, F26⟩ := c0.def_ 26 (d := ⟨("_law_pull", none), "_law_pull", "_law_pull", defArgs (top 46), defBody (top 46), defScope (top 46), [], []⟩) rfl
  have D26 : Df K mg "_law_pull" (top 46) (He.ga K "_law_pull") fd26 := ⟨F26, He.glo_ok KX G (c0.fact 26 (f := .glo "_law_pull") rfl)⟩
  obtain ⟨fd27, F27⟩ := c0.def_ 27 (d := ⟨("_law_of", none), "_law_of", "_law_of", defArgs (top 47), defBody (top 47), defScope (top 47), [], []⟩) rfl
  have D27 : Df K mg "_law_of" (top 47) (He.ga K "_law_of") fd27 := ⟨F27, He.glo_ok KX G (c0.fact 27 (f := .glo "_law_of") rfl)⟩
  obtain ⟨fd28, F28⟩ := c0.def_ 28 (d := ⟨("_law_sets", none), "_law_sets", "_law_sets", defArgs (top 48), defBody (top 48), defScope (top 48), [], []⟩) rfl
  have D28 : Df K mg "_law_sets" (top 48) (He.ga K "_law_sets") fd28 := ⟨F28, He.glo_ok KX G (c0.fact 28 (f := .glo "_law_sets") rfl)⟩
  obtain ⟨fd29, F29⟩ := c0.def_ 29 (d := ⟨("_law_within", none), "_law_within", "_law_within", defArgs (top 49), defBody (top 49), defScope (top 49), [], []⟩) rfl
  have D29 : Df K mg "_law_within" (top 49) (He.ga K "_law_within") fd29 := ⟨F29, He.glo_ok KX G (c0.fact 29 (f := .glo "_law_within") rfl)⟩
  obtain ⟨fd30, F30⟩ := c0.def_ 30 (d := ⟨("_law_union", none), "_law_union", "_law_union", defArgs (top 50), defBody (top 50), defScope (top 50), [], []⟩) rfl
  have D30 : Df K mg "_law_union" (top 50) (He.ga K "_law_union") fd30 := ⟨F30, He.glo_ok KX G (c0.fact 30 (f := .glo "_law_union") rfl)⟩
  obtain ⟨fd31, F31⟩ := c0.def_ 31 (d := ⟨("_law_rising", none), "_law_rising", "_law_rising", defArgs (top 51), defBody (top 51), defScope (top 51), [], []⟩) rfl
  have D31 : Df K mg "_law_rising" (top 51) (He.ga K "_law_rising") fd31 := ⟨F31, He.glo_ok KX G (c0.fact 31 (f := .glo "_law_rising") rfl)⟩
  obtain ⟨fd32, F32⟩ := c0.def_ 32 (d := ⟨("_law_is_set", none), "_law_is_set", "_law_is_set", defArgs (top 52), defBody (top 52), defScope (top 52), [], []⟩) rfl
  have D32 : Df K mg "_law_is_set" (top 52) (He.ga K "_law_is_set") fd32 := ⟨F32, He.glo_ok KX G (c0.fact 32 (f := .glo "_law_is_set") rfl)⟩
  obtain ⟨fd33, F33⟩ := c0.def_ 33 (d := ⟨("_law_lits", none), "_law_lits", "_law_lits", defArgs (top 53), defBody (top 53), defScope (top 53), [], []⟩) rfl
  have D33 : Df K mg "_law_lits" (top 53) (He.ga K "_law_lits") fd33 := ⟨F33, He.glo_ok KX G (c0.fact 33 (f := .glo "_law_lits") rfl)⟩
  obtain ⟨fd34, F34⟩ := c0.def_ 34 (d := ⟨("_law_sentence", none), "_law_sentence", "_law_sentence", defArgs (top 54), defBody (top 54), defScope (top 54), [], []⟩) rfl
  have D34 : Df K mg "_law_sentence" (top 54) (He.ga K "_law_sentence") fd34 := ⟨F34, He.glo_ok KX G (c0.fact 34 (f := .glo "_law_sentence") rfl)⟩
  obtain ⟨fd35, F35⟩ := c0.def_ 35 (d := ⟨("_law_holds", none), "_law_holds", "_law_holds", defArgs (top 55), defBody (top 55), defScope (top 55), [], []⟩) rfl
  have D35 : Df K mg "_law_holds" (top 55) (He.ga K "_law_holds") fd35 := ⟨F35, He.glo_ok KX G (c0.fact 35 (f := .glo "_law_holds") rfl)⟩
  obtain ⟨fd36, F36⟩ := c0.def_ 36 (d := ⟨("_law_aim", none), "_law_aim", "_law_aim", defArgs (top 56), defBody (top 56), defScope (top 56), [], []⟩) rfl
  have D36 : Df K mg "_law_aim" (top 56) (He.ga K "_law_aim") fd36 := ⟨F36, He.glo_ok KX G (c0.fact 36 (f := .glo "_law_aim") rfl)⟩
  obtain ⟨fd37, F37⟩ := c0.def_ 37 (d := ⟨("_law_parts", none), "_law_parts", "_law_parts", defArgs (top 57), defBody (top 57), defScope (top 57), [], []⟩) rfl
  have D37 : Df K mg "_law_parts" (top 57) (He.ga K "_law_parts") fd37 := ⟨F37, He.glo_ok KX G (c0.fact 37 (f := .glo "_law_parts") rfl)⟩
  obtain ⟨fd38, F38⟩ := c0.def_ 38 (d := ⟨("_law_branches", none), "_law_branches", "_law_branches", defArgs (top 58), defBody (top 58), defScope (top 58), [], []⟩) rfl
  have D38 : Df K mg "_law_branches" (top 58) (He.ga K "_law_branches") fd38 := ⟨F38, He.glo_ok KX G (c0.fact 38 (f := .glo "_law_branches") rfl)⟩
  obtain ⟨fd39, F39⟩ := c0.def_ 39 (d := ⟨("_law_behind", none), "_law_behind", "_law_behind", defArgs (top 59), defBody (top 59), defScope (top 59), [], []⟩) rfl
  have D39 : Df K mg "_law_behind" (top 59) (He.ga K "_law_behind") fd39 := ⟨F39, He.glo_ok KX G (c0.fact 39 (f := .glo "_law_behind") rfl)⟩
  obtain ⟨fd40, F40⟩ := c0.def_ 40 (d := ⟨("_law_steps", none), "_law_steps", "_law_steps", defArgs (top 60), defBody (top 60), defScope (top 60), [], []⟩) rfl
  have D40 : Df K mg "_law_steps" (top 60) (He.ga K "_law_steps") fd40 := ⟨F40, He.glo_ok KX G (c0.fact 40 (f := .glo "_law_steps") rfl)⟩
  obtain ⟨fd41, F41⟩ := c0.def_ 41 (d := ⟨("_law_tells", none), "_law_tells", "_law_tells", defArgs (top 61), defBody (top 61), defScope (top 61), [], []⟩) rfl
  have D41 : Df K mg "_law_tells" (top 61) (He.ga K "_law_tells") fd41 := ⟨F41, He.glo_ok KX G (c0.fact 41 (f := .glo "_law_tells") rfl)⟩
  obtain ⟨fd42, F42⟩ := c0.def_ 42 (d := ⟨("_law_drawn_steps", none), "_law_drawn_steps", "_law_drawn_steps", defArgs (top 62), defBody (top 62), defScope (top 62), [], []⟩) rfl
  have D42 : Df K mg "_law_drawn_steps" (top 62) (He.ga K "_law_drawn_steps") fd42 := ⟨F42, He.glo_ok KX G (c0.fact 42 (f := .glo "_law_drawn_steps") rfl)⟩
  obtain ⟨fd43, F43⟩ := c0.def_ 43 (d := ⟨("_law_wrongly_told", none), "_law_wrongly_told", "_law_wrongly_told", defArgs (top 63), defBody (top 63), defScope (top 63), [], []⟩) rfl
  have D43 : Df K mg "_law_wrongly_told" (top 63) (He.ga K "_law_wrongly_told") fd43 := ⟨F43, He.glo_ok KX G (c0.fact 43 (f := .glo "_law_wrongly_told") rfl)⟩
  obtain ⟨fd44, F44⟩ := c0.def_ 44 (d := ⟨("_law_cut", none), "_law_cut", "_law_cut", defArgs (top 64), defBody (top 64), defScope (top 64), [], []⟩) rfl
  have D44 : Df K mg "_law_cut" (top 64) (He.ga K "_law_cut") fd44 := ⟨F44, He.glo_ok KX G (c0.fact 44 (f := .glo "_law_cut") rfl)⟩
  obtain ⟨fd45, F45⟩ := c0.def_ 45 (d := ⟨("law", none), "law", "law", defArgs (top 65), defBody (top 65), defScope (top 65), [], []⟩) rfl
  have D45 : Df K mg "law" (top 65) (He.ga K "law") fd45 := ⟨F45, He.glo_ok KX G (c0.fact 45 (f := .glo "law") rfl)⟩
  obtain ⟨fd46, D46⟩ := c0.def_ 46 (d := ⟨("Teller", some "__init__"), "__init__", "Teller.__init__", defArgs (meth 32 0), defBody (meth 32 0), defScope (meth 32 0), [], []⟩) rfl
  obtain ⟨fd47, D47⟩ := c0.def_ 47 (d := ⟨("Teller", some "numbers"), "numbers", "Teller.numbers", defArgs (meth 32 4), defBody (meth 32 4), defScope (meth 32 4), [], []⟩) rfl
  obtain ⟨fd48, D48⟩ := c0.def_ 48 (d := ⟨("Teller", some "edges"), "edges", "Teller.edges", defArgs (meth 32 7), defBody (meth 32 7), defScope (meth 32 7), [], []⟩) rfl
  obtain ⟨fd49, D49⟩ := c0.def_ 49 (d := ⟨("Goal", some "__init__"), "__init__", "Goal.__init__", defArgs (meth 42 0), defBody (meth 42 0), defScope (meth 42 0), [], []⟩) rfl
  obtain ⟨fd50, D50⟩ := c0.def_ 50 (d := ⟨("Goal", some "__call__"), "__call__", "Goal.__call__", defArgs (meth 42 5), defBody (meth 42 5), defScope (meth 42 5), [], []⟩) rfl
  have mGoal : mg "Goal" = some (.ref (He.ga K "Goal")) := He.glo_ok KX G (c0.fact 46 (f := .glo "Goal") rfl)
  have mTeller : mg "Teller" = some (.ref (He.ga K "Teller")) := He.glo_ok KX G (c0.fact 47 (f := .glo "Teller") rfl)
  have fr0 : mg "len" = none := He.free_ok KX G (c0.fact 48 (f := .free "len") rfl)
  have fr1 : mg "all" = none := He.free_ok KX G (c0.fact 49 (f := .free "all") rfl)
  have fr2 : mg "any" = none := He.free_ok KX G (c0.fact 50 (f := .free "any") rfl)
  have fr3 : mg "zip" = none := He.free_ok KX G (c0.fact 51 (f := .free "zip") rfl)
  have fr4 : mg "isinstance" = none := He.free_ok KX G (c0.fact 52 (f := .free "isinstance") rfl)
  have fr5 : mg "str" = none := He.free_ok KX G (c0.fact 53 (f := .free "str") rfl)
  have fr6 : mg "int" = none := He.free_ok KX G (c0.fact 54 (f := .free "int") rfl)
  have fr7 : mg "bool" = none := He.free_ok KX G (c0.fact 55 (f := .free "bool") rfl)
  have fr8 : mg "tuple" = none := He.free_ok KX G (c0.fact 56 (f := .free "tuple") rfl)
  have fr9 : mg "list" = none := He.free_ok KX G (c0.fact 57 (f := .free "list") rfl)
  have fr10 : mg "sorted" = none := He.free_ok KX G (c0.fact 58 (f := .free "sorted") rfl)
  have fr11 : mg "max" = none := He.free_ok KX G (c0.fact 59 (f := .free "max") rfl)
  have fr12 : mg "min" = none := He.free_ok KX G (c0.fact 60 (f := .free "min") rfl)
  have fr13 : mg "abs" = none := He.free_ok KX G (c0.fact 61 (f := .free "abs") rfl)
  have fr14 : mg "range" = none := He.free_ok KX G (c0.fact 62 (f := .free "range") rfl)
  have fr15 : mg "enumerate" = none := He.free_ok KX G (c0.fact 63 (f := .free "enumerate") rfl)
  have B : Bl mg := ⟨fr0, fr1, fr2, fr3, fr4, fr5, fr6, fr7, fr8, fr9, fr10, fr11, fr12, fr13, fr14, fr15⟩
  have Ct : Cs mg := ⟨He.str_ok KX G (c0.fact 64 (f := .str "LETTERS" (SX.S abc)) rfl), He.int_ok KX G (c0.fact 65 (f := .int "MOST_LAMPS" 4) rfl), He.int_ok KX G (c0.fact 66 (f := .int "MOST_ROOMS" 40) rfl), He.int_ok KX G (c0.fact 67 (f := .int "MOST_NUMBER" 99) rfl), He.int_ok KX G (c0.fact 68 (f := .int "MOST_PARTS" 20) rfl), He.int_ok KX G (c0.fact 69 (f := .int "MOST_SETS" 16) rfl)⟩
  have clG := He.cls_ok (c0.fact 70 (f := .cls "Goal") rfl)
  have clT := He.cls_ok (c0.fact 71 (f := .cls "Teller") rfl)
  have mkG := He.mkr_ok (c0.fact 72 (f := .mkr "Goal") rfl)
  have mkT := He.mkr_ok (c0.fact 73 (f := .mkr "Teller") rfl)
  have meC := He.meth_ok (c0.fact 74 (f := .meth "Goal" "__call__") rfl)
  have meE := He.meth_ok (c0.fact 75 (f := .meth "Teller" "edges") rfl)
  have meN := He.meth_ok (c0.fact 76 (f := .meth "Teller" "numbers") rfl)
  have GC : GCls K (He.ga K "Goal") := ⟨clG, He.noat_ok (c0.fact 77 (f := .noat "Goal" "own_lamps") rfl), He.noat_ok (c0.fact 78 (f := .noat "Goal" "own_sentence") rfl), He.noat_ok (c0.fact 79 (f := .noat "Goal" "own_sets") rfl)⟩
  have TC : TCls K (He.ga K "Teller") := ⟨clT, He.noat_ok (c0.fact 80 (f := .noat "Teller" "own_lamps") rfl), He.noat_ok (c0.fact 81 (f := .noat "Teller" "own_steps") rfl), He.noat_ok (c0.fact 82 (f := .noat "Teller" "own_sets") rfl)⟩
  have hx := cx.more
  unfold hex at hx
  rw [Bool.and_eq_true, Bool.and_eq_true] at hx
  obtain ⟨⟨xG, xT⟩, xC⟩ := hx
  have co : StX.CallO K (He.ga K "Goal") (He.ma K (He.ga K "Goal") "__call__") := ⟨meC.at_, meC.fn, xC⟩
  have lawf : He.ga K "law" = f := by
    have e := hlaw.symm.trans D45.mgf
    cases e
    rfl
  have hcode : ∃ c, fd28.code = .ref c ∧ He.codeOf K ("_law_sets", none) = c := by
    obtain ⟨oc, od, dV, kV, doc, pm, an, cdv, ct, osl, e, lk, hcd, _, _⟩ := D28.fn.ex
    subst e
    obtain ⟨c, ec⟩ := He.codeIn_ref hcd
    exact ⟨c, ec, He.codeOf_eq (p := ("_law_sets", none)) lk ec⟩
  obtain ⟨cc, hcc, ecc⟩ := hcode
  have tf0 : (("_law_sets", none) : Str × Option Str) ∈ [((("_law_sets" : Str), (none : Option Str)))] := List.Mem.head _
  refine ⟨fd45, [He.cT K ("_law_sets", none)], spLaw K [(He.tabOf K (He.codeOf K ("_law_sets", none)), lamQ)], fun p hp => ?_, fun p hp => ?_, fun p hp => ?_, fun s u => ?_, fun H a ns _ _ hT hS => ?_, fun base KB GB hTB => ?_⟩
  · rw [List.mem_singleton.mp hp]
    exact cx.empty _ tf0
  · rw [List.mem_singleton.mp hp]
    exact cx.out _ tf0
  · rw [List.mem_singleton.mp hp]
    exact PySem.W.codeHd_of_K KX (cx.hd _ tf0)
  · exact FunD.bindsA (ps := ["_law_script"]) D45.fn (fun _ _ _ _ _ _ us hl => match us, hl with | [_], _ => rfl) s [u] rfl
  · refine ⟨a, ns, rfl, hS, fun p hp => ?_, fun _ => rfl⟩
    rw [List.mem_singleton.mp hp]
    exact TabS.nil (hT _ (List.Mem.head _))
  · have TB : TabB base mg cc (He.tabOf K (He.codeOf K ("_law_sets", none))) := by
      have := hTB _ (List.Mem.head _)
      rw [← ecc]
      exact this
    have prG : PropL Lw.prog w K mg base (He.ga K "Goal") "lamps" "own_lamps" := propL_of xG clG GC.nL
    have prT : PropL Lw.prog w K mg base (He.ga K "Teller") "lamps" "own_lamps" := propL_of xT clT TC.nL
    have k_int := c_integer (P := Lw.prog) (w := w) (base := base) D0 B
    have k_ris := c_rising (P := Lw.prog) (w := w) (base := base) D1 B Ct
    have k_set := c_set D3 B k_ris
    have k_needl := c_needLamps D4 (c_lamps D2 B Ct k_ris)
    have k_within := c_within (P := Lw.prog) (w := w) (base := base) D9 B
    have k_sets := c_setsOf D7 B (c_size (P := Lw.prog) (w := w) (base := base) D6 B) ⟨_, D6.mgf⟩
    have k_are := c_areSteps D17 B (c_step D16 B Ct k_int)
    have k_union := c_union (P := Lw.prog) (w := w) (base := base) D8 B
    have k_leav := c_leaving (P := Lw.prog) (w := w) (base := base) D10
    have k_reach := c_reached D12 B k_leav
    have k_path := c_path D11 B k_leav
    have k_strong := c_strong D13 B k_reach
    have k_ring := c_ring D14 k_path
    have k_wring := c_wrong D18 B k_strong (c_lampsOf D15 k_union) k_within
    have k_hfor := c_holdsFor (P := Lw.prog) (w := w) (base := base) D23 B 3
    have k_lholds := c_lholds (P := Lw.prog) (w := w) (base := base) D35 B 3
    have k_part := c_part D20 B Ct k_int k_set
    have k_inner := c_inner (P := Lw.prog) (w := w) (base := base) D21 B
    have k_check := c_check D22 Ct k_needl k_part k_inner
    have k_goal := c_ginit GC mkG mGoal D49 B k_check k_sets k_hfor
    have k_gholds := c_gholds GC prG D24 k_set
    have k_gcall := c_gcall co D50 k_gholds
    have k_same := c_same TC GC prT prG D5
    have k_teller := c_tinit TC mkT mTeller D46 B Ct k_needl k_sets k_are
    have k_edges := c_edges TC meE D48 B k_reach
    have k_numbers := c_numbers (P := Lw.prog) (w := w) (base := base) TC meN D47 B
    have k_row := c_row TC GC prG D19 k_same k_edges k_sets k_numbers k_gcall k_wring k_ring k_path
    have k_pull := c_pull (P := Lw.prog) (w := w) (base := base) D26 B
    have k_lsets := c_lsets (P := Lw.prog) (w := w) D28 B hcc TB
    have k_bag := c_bag (P := Lw.prog) (w := w) (base := base) D25 B
    have k_of := c_of D27 B k_pull
    have k_lits := c_lits D33 B k_pull
    have k_sent := c_sent D34 B k_pull k_of k_lits 3
    have k_aim := c_aim D36 B k_pull k_lsets k_sent k_lholds
    have k_lwithin := c_lwithin (P := Lw.prog) (w := w) (base := base) D29 B
    have k_parts := c_parts D37 B k_lsets k_lwithin
    have k_br := c_br D38 B k_parts 5
    have k_behind := c_behind D39 B k_parts
    have k_steps := c_steps D40 B k_br k_lsets k_lwithin k_behind
    have k_tells := c_tells D41 B k_lsets
    have k_cut := c_cut (P := Lw.prog) (w := w) (base := base) D44 B
    have k_drawn := c_drawn D42 B k_pull k_lsets
    have k_lrising := c_lrising (P := Lw.prog) (w := w) (base := base) D31 B
    have k_lset := c_lset D32 B k_lrising k_lwithin
    have k_lunion := c_lunionW (P := Lw.prog) (w := w) (base := base) D30 B
    have k_wrongly := c_wrongly D43 B k_tells k_lunion k_lset
    rw [← lawf]
    exact c_law D45 B k_bag k_of k_aim k_goal k_steps k_pull k_drawn k_cut k_br k_row k_teller k_wrongly
end
end Rg

end
section
set_option Elab.async false
set_option linter.all false
set_option maxRecDepth 100000
set_option maxHeartbeats 0
open PySem PySem.W PySem.Calls PyProof.Rows
theorem PySem.Challenge.cw_relitgoals_k46_whole_smaller_tellers_are_holds : PySem.Challenge.rw_relitgoals_k46_whole_smaller_tellers_are.Holds := by
  w_on; o_law
  refine HandSHeadRun.head_any (r := OpenLaw.row PySem.Challenge.rw_relitgoals_k46_whole_smaller_tellers_are) (q := view (OpenLaw.row PySem.Challenge.rw_relitgoals_k46_whole_smaller_tellers_are).prog [65]) (H := Rg.hk) (ob := Rg.ob) (M := 20000) (loose := Rg.loose) (d := HandSHeadRun.topDef (OpenLaw.row PySem.Challenge.rw_relitgoals_k46_whole_smaller_tellers_are).prog 65) (kwd := []) Rg.ob_eq
    (by kernel_rfl) (fun s => by kernel_rfl) Rg.run_eq (by kernel_rfl) (by kernel_rfl) (by kernel_rfl) (by rfl) (by first | assumption | decide +kernel) (by decide +kernel) ⟨rfl, rfl, rfl, rfl, rfl, by decide +kernel⟩ ?hw ?hc
  case hw => w_witness2
  case hc =>
    refine LamX.walk_ofTsE (l := PySem.Challenge.rw_relitgoals_k46_whole_smaller_tellers_are) (n := 63) (k := 11) (x := "_law_script") (CX := fun _ => C8.CX0) rfl (by decide) (by kernel_rfl) ⟨rfl, by decide, by decide⟩ ?F (fun _ _ _ _ _ z => z)
    intro w mg fa h Y G hmg0
    obtain ⟨K, KX, c⟩ := Y
    have hmg : mg ("law" : PySem.Str) = some (.ref fa) := by
      have e : (HandSHeadRun.topDef (OpenLaw.row PySem.Challenge.rw_relitgoals_k46_whole_smaller_tellers_are).prog 65).name = ("law" : PySem.Str) := by kernel_rfl
      rw [← e]
      exact hmg0
    exact ⟨K, KX, Rg.all_facts KX G hmg c⟩

end
