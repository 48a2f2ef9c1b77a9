import PyProof.Rows.All
import Wide.All
import OpenK.AllK
import Wide.FinOn
import HandS.ForMost
import HandS.Defaults
import HandS.IsInst
import HandS.TupAny
import HandS.TupMul
import HandS.Deep
import HandS.Strs
import HandS.SetFor
import PySem.Challenge.RW_holdfills_k19_whole_networks
import HandS.Iter
import KE.GoesMore
import PyProof.EnumMake
import PyProof.ConsumeS
import KE.DataMinMax
import KE.SortData
import HandS.RaiseMore
import PyProof.ReprLen
import PyProof.FitsInt
import HandS.Dict
import HandS.ExcInit
import HandS.ExcField
import KE.KExcSuper
import HandS.HeadWalk
import HandS.TryMany
import HandS.Lambda
import HandS.Head0
import HandS.Head1
import HandS.Head2
import HandS.HeadEnd
import HandS.HeadHook1
import HandS.HeadHook2
import HandS.HeadHook3
import HandS.HeadHook4
set_option linter.all false
namespace Net
/-! ### strictly ascending lists are told by their members -/
section
variable {α : Type} {lt : α → α → Prop}
theorem pw_mem_eq (irr : ∀ a, ¬ lt a a) (asym : ∀ a b, lt a b → ¬ lt b a) : ∀ {l m : List α}, l.Pairwise lt → m.Pairwise lt → (∀ x, x ∈ l ↔ x ∈ m) → l = m
  | [], [], _, _, _ => rfl
  | [], b :: m, _, _, h => absurd ((h b).mpr (List.mem_cons_self ..)) (by simp)
  | a :: l, [], _, _, h => absurd ((h a).mp (List.mem_cons_self ..)) (by simp)
  | a :: l, b :: m, hl, hm, h => by
    have hl' := List.pairwise_cons.mp hl
    have hm' := List.pairwise_cons.mp hm
    have hab : a = b := by
      rcases List.mem_cons.mp ((h a).mp (List.mem_cons_self ..)) with e | e
      · exact e
      · rcases List.mem_cons.mp ((h b).mpr (List.mem_cons_self ..)) with e2 | e2
        · exact e2.symm
        · exact absurd (hm'.1 a e) (asym _ _ (hl'.1 b e2))
    subst hab
    have hr : ∀ x, x ∈ l ↔ x ∈ m := fun x => by
      constructor
      · intro hx
        rcases List.mem_cons.mp ((h x).mp (List.mem_cons_of_mem _ hx)) with e | e
        · subst e
          exact absurd (hl'.1 x hx) (irr x)
        · exact e
      · intro hx
        rcases List.mem_cons.mp ((h x).mpr (List.mem_cons_of_mem _ hx)) with e | e
        · subst e
          exact absurd (hm'.1 x hx) (irr x)
        · exact e
    rw [pw_mem_eq irr asym hl'.2 hm'.2 hr]
end

abbrev PS := List Int
abbrev Lot := List PS
/-- strictly ascending -/
abbrev SS (s : PS) : Prop := s.Pairwise (· < ·)
theorem ss_eq {s t : PS} (hs : SS s) (ht : SS t) (h : ∀ x, x ∈ s ↔ x ∈ t) : s = t := pw_mem_eq (lt := fun a b : Int => a < b) (fun a => Int.lt_irrefl a) (fun a b h1 h2 => Int.lt_irrefl a (Int.lt_trans h1 h2)) hs ht h
theorem lot_eq {s t : Lot} (hs : s.Pairwise (· < ·)) (ht : t.Pairwise (· < ·)) (h : ∀ x, x ∈ s ↔ x ∈ t) : s = t :=
  pw_mem_eq (lt := fun a b : PS => a < b) (fun a => List.lt_irrefl a) (fun a b h1 h2 => List.lt_irrefl a (List.lt_trans h1 h2)) hs ht h

/-- all of one within another -/
def within (a b : PS) : Bool := a.all fun p => b.contains p
theorem within_iff {a b : PS} : within a b = true ↔ ∀ p ∈ a, p ∈ b := by simp [within]
theorem within_refl (a : PS) : within a a = true := within_iff.mpr fun _ h => h
theorem within_trans {a b c : PS} (h1 : within a b = true) (h2 : within b c = true) : within a c = true := within_iff.mpr fun p h => within_iff.mp h2 p (within_iff.mp h1 p h)
theorem within_antisymm {a b : PS} (ha : SS a) (hb : SS b) (h1 : within a b = true) (h2 : within b a = true) : a = b := ss_eq ha hb fun x => ⟨within_iff.mp h1 x, within_iff.mp h2 x⟩
/-- strictly ascending, the one within the other, and no longer: the same -/
theorem within_len {a b : PS} (ha : SS a) (hb : SS b) (h : within a b = true) : a.length ≤ b.length := by
  induction b generalizing a with
  | nil =>
    cases a with
    | nil => exact Nat.le_refl _
    | cons x a => exact absurd (within_iff.mp h x (List.mem_cons_self ..)) (by simp)
  | cons y b ih =>
    cases a with
    | nil => exact Nat.zero_le _
    | cons x a =>
      have ha' := List.pairwise_cons.mp ha
      have hb' := List.pairwise_cons.mp hb
      have : within a b = true := within_iff.mpr fun p hp => by
        rcases List.mem_cons.mp (within_iff.mp h p (List.mem_cons_of_mem _ hp)) with e | e
        · subst e
          have h1 : x < p := ha'.1 p hp
          rcases List.mem_cons.mp (within_iff.mp h x (List.mem_cons_self ..)) with e2 | e2
          · omega
          · have := hb'.1 x e2
            omega
        · exact e
      have := ih ha'.2 hb'.2 this
      simp only [List.length_cons]
      omega
theorem within_len_eq {a b : PS} (ha : SS a) (hb : SS b) (h : within a b = true) (hl : b.length ≤ a.length) : a = b := by
  induction b generalizing a with
  | nil =>
    cases a with
    | nil => rfl
    | cons x a => exact absurd (within_iff.mp h x (List.mem_cons_self ..)) (by simp)
  | cons y b ih =>
    cases a with
    | nil => simp at hl
    | cons x a =>
      have ha' := List.pairwise_cons.mp ha
      have hb' := List.pairwise_cons.mp hb
      have hw : within a b = true := within_iff.mpr fun p hp => by
        rcases List.mem_cons.mp (within_iff.mp h p (List.mem_cons_of_mem _ hp)) with e | e
        · subst e
          have h1 : x < p := ha'.1 p hp
          rcases List.mem_cons.mp (within_iff.mp h x (List.mem_cons_self ..)) with e2 | e2
          · omega
          · have := hb'.1 x e2
            omega
        · exact e
      have e := ih ha'.2 hb'.2 hw (by simpa using hl)
      subst e
      rcases List.mem_cons.mp (within_iff.mp h x (List.mem_cons_self ..)) with e2 | e2
      · rw [e2]
      · exact absurd (ha'.1 x e2) (Int.lt_irrefl x)

/-! ### least sets -/
def insL (x : PS) : Lot → Lot
  | [] => [x]
  | y :: r => if x ≤ y then x :: y :: r else y :: insL x r
def sortLot (sets : Lot) : Lot := sets.foldr insL []
theorem mem_insL {x z : PS} : ∀ {l : Lot}, z ∈ insL x l ↔ z = x ∨ z ∈ l
  | [] => by simp [insL]
  | y :: r => by
    unfold insL
    by_cases h : x ≤ y
    · rw [if_pos h]
      simp
    · rw [if_neg h, List.mem_cons, mem_insL (l := r), List.mem_cons]
      constructor
      · rintro (q | q | q)
        · exact .inr (.inl q)
        · exact .inl q
        · exact .inr (.inr q)
      · rintro (q | q | q)
        · exact .inr (.inl q)
        · exact .inl q
        · exact .inr (.inr q)
theorem pw_insL {x : PS} : ∀ {l : Lot}, l.Pairwise (· ≤ ·) → (insL x l).Pairwise (· ≤ ·)
  | [], _ => by simp [insL]
  | y :: r, h => by
    have h' := List.pairwise_cons.mp h
    unfold insL
    by_cases c : x ≤ y
    · rw [if_pos c]
      refine List.pairwise_cons.mpr ⟨fun z hz => ?_, h⟩
      rcases List.mem_cons.mp hz with e | e
      · subst e
        exact c
      · exact List.le_trans c (h'.1 z e)
    · rw [if_neg c]
      refine List.pairwise_cons.mpr ⟨fun z hz => ?_, pw_insL h'.2⟩
      rcases mem_insL.mp hz with e | e
      · subst e
        exact (List.le_total _ _).resolve_left c
      · exact h'.1 z e
theorem perm_insL {x : PS} : ∀ {l : Lot}, (insL x l).Perm (x :: l)
  | [] => by simp [insL]
  | y :: r => by
    unfold insL
    by_cases c : x ≤ y
    · rw [if_pos c]
    · rw [if_neg c]
      exact ((perm_insL (l := r)).cons y).trans (List.Perm.swap ..)
theorem perm_sortLot : ∀ (sets : Lot), (sortLot sets).Perm sets
  | [] => List.Perm.refl _
  | x :: r => (perm_insL (l := sortLot r)).trans ((perm_sortLot r).cons x)
theorem mem_sortLot {sets : Lot} {x : PS} : x ∈ sortLot sets ↔ x ∈ sets := (perm_sortLot sets).mem_iff
theorem pw_sortLot : ∀ (sets : Lot), (sortLot sets).Pairwise (· ≤ ·)
  | [] => List.Pairwise.nil
  | x :: r => pw_insL (pw_sortLot r)
/-- any sorted arrangement is this one -/
theorem sortLot_of {sets l : Lot} (hp : l.Perm sets) (hs : l.Pairwise (· ≤ ·)) : l = sortLot sets :=
  (hp.trans (perm_sortLot sets).symm).eq_of_pairwise (fun a b _ _ h1 h2 => List.le_antisymm h1 h2) hs (pw_sortLot sets)
/-- item is kept: met first, and nothing else is within it -/
def kept (sets : Lot) (item : PS) : Bool := (sets.filter fun less => decide (less ≠ item) && within less item).isEmpty
def leastStep (sets : Lot) (found : Lot) (item : PS) : Lot := if !found.contains item && kept sets item then found ++ [item] else found
def leastSets (sets : Lot) : Lot := (sortLot sets).foldl (leastStep sets) []
theorem kept_iff {sets : Lot} {item : PS} : kept sets item = true ↔ ∀ less ∈ sets, within less item = true → less = item := by
  unfold kept
  rw [List.isEmpty_iff, List.filter_eq_nil_iff]
  constructor
  · intro h less hl hw
    have := h less hl
    by_cases e : less = item
    · exact e
    · exact absurd (by simp [e, hw]) this
  · intro h less hl hc
    simp only [Bool.and_eq_true, decide_eq_true_eq] at hc
    exact hc.1 (h less hl hc.2)
theorem fold_least (sets : Lot) : ∀ (l acc : Lot), acc.Pairwise (· < ·) → l.Pairwise (· ≤ ·) → (∀ a ∈ acc, ∀ b ∈ l, a ≤ b) →
    (l.foldl (leastStep sets) acc).Pairwise (· < ·) ∧ ∀ x, x ∈ l.foldl (leastStep sets) acc ↔ x ∈ acc ∨ (x ∈ l ∧ kept sets x = true)
  | [], acc, ha, _, _ => ⟨ha, fun x => by simp⟩
  | y :: l, acc, ha, hl, hal => by
    have hl' := List.pairwise_cons.mp hl
    rw [List.foldl_cons]
    by_cases hc : (!acc.contains y && kept sets y) = true
    · have e : leastStep sets acc y = acc ++ [y] := by unfold leastStep; rw [if_pos hc]
      rw [e]
      simp only [Bool.and_eq_true, Bool.not_eq_true', List.contains_eq_mem, decide_eq_false_iff_not] at hc
      have hlt : ∀ a ∈ acc, a < y := fun a h => by
        have h1 := hal a h y (List.mem_cons_self ..)
        have h2 : a ≠ y := fun e => hc.1 (e ▸ h)
        apply Classical.byContradiction
        intro q
        exact h2 (List.le_antisymm h1 (List.not_lt.mp q))
      obtain ⟨h1, h2⟩ := fold_least sets l (acc ++ [y]) (List.pairwise_append.mpr ⟨ha, by simp, fun a h b hb => by
        rw [List.mem_singleton] at hb
        subst hb
        exact hlt a h⟩) hl'.2 (fun a h b hb => by
        rcases List.mem_append.mp h with q | q
        · exact hal a q b (List.mem_cons_of_mem _ hb)
        · rw [List.mem_singleton] at q
          subst q
          exact hl'.1 b hb)
      refine ⟨h1, fun x => ?_⟩
      rw [h2 x]
      constructor
      · rintro (h | h)
        · rcases List.mem_append.mp h with q | q
          · exact .inl q
          · rw [List.mem_singleton] at q
            subst q
            exact .inr ⟨List.mem_cons_self .., hc.2⟩
        · exact .inr ⟨List.mem_cons_of_mem _ h.1, h.2⟩
      · rintro (h | ⟨h, k⟩)
        · exact .inl (List.mem_append_left _ h)
        · rcases List.mem_cons.mp h with q | q
          · subst q
            exact .inl (List.mem_append_right _ (by simp))
          · exact .inr ⟨q, k⟩
    · have e : leastStep sets acc y = acc := by unfold leastStep; rw [if_neg hc]
      rw [e]
      obtain ⟨h1, h2⟩ := fold_least sets l acc ha hl'.2 (fun a h b hb => hal a h b (List.mem_cons_of_mem _ hb))
      refine ⟨h1, fun x => ?_⟩
      rw [h2 x]
      constructor
      · rintro (h | h)
        · exact .inl h
        · exact .inr ⟨List.mem_cons_of_mem _ h.1, h.2⟩
      · rintro (h | ⟨h, k⟩)
        · exact .inl h
        · rcases List.mem_cons.mp h with q | q
          · subst q
            simp only [Bool.and_eq_true, Bool.not_eq_true', List.contains_eq_mem, decide_eq_false_iff_not, k, and_true, Classical.not_not] at hc
            exact .inl hc
          · exact .inr ⟨q, k⟩
theorem pw_least (sets : Lot) : (leastSets sets).Pairwise (· < ·) := (fold_least sets (sortLot sets) [] List.Pairwise.nil (pw_sortLot sets) (fun _ h => absurd h (by simp))).1
theorem mem_least {sets : Lot} {x : PS} : x ∈ leastSets sets ↔ x ∈ sets ∧ ∀ less ∈ sets, within less x = true → less = x := by
  have := (fold_least sets (sortLot sets) [] List.Pairwise.nil (pw_sortLot sets) (fun _ h => absurd h (by simp))).2 x
  rw [← kept_iff]
  show x ∈ (sortLot sets).foldl (leastStep sets) [] ↔ _
  rw [this, mem_sortLot]
  simp
theorem least_sub {sets : Lot} {x : PS} (h : x ∈ leastSets sets) : x ∈ sets := (mem_least.mp h).1

/-! ### what a lot asks -/
/-- one of its sets lies wholly where S says -/
def Up (lot : Lot) (S : Int → Bool) : Bool := lot.any fun s => s.all S
theorem up_iff {lot : Lot} {S : Int → Bool} : Up lot S = true ↔ ∃ s ∈ lot, ∀ p ∈ s, S p = true := by simp [Up]
abbrev AllSS (lot : Lot) : Prop := ∀ s ∈ lot, SS s
/-- in each set a least one -/
theorem least_below {sets : Lot} (h : AllSS sets) : ∀ (n : Nat) (s : PS), s.length ≤ n → s ∈ sets → ∃ t ∈ leastSets sets, within t s = true
  | n, s, hn, hs => by
    by_cases hk : ∀ less ∈ sets, within less s = true → less = s
    · exact ⟨s, mem_least.mpr ⟨hs, hk⟩, within_refl s⟩
    · have : ∃ less ∈ sets, within less s = true ∧ less ≠ s := by
        apply Classical.byContradiction
        intro hne
        apply hk
        intro less hl hw
        apply Classical.byContradiction
        intro hns
        exact hne ⟨less, hl, hw, hns⟩
      obtain ⟨less, hl, hw, hne⟩ := this
      have hlen : less.length < s.length := by
        rcases Nat.lt_or_ge less.length s.length with q | q
        · exact q
        · exact absurd (within_len_eq (h less hl) (h s hs) hw q) hne
      cases n with
      | zero => omega
      | succ n =>
        obtain ⟨t, ht, hts⟩ := least_below h n less (by omega) hl
        exact ⟨t, ht, within_trans hts hw⟩
theorem up_least {sets : Lot} (h : AllSS sets) (S : Int → Bool) : Up (leastSets sets) S = Up sets S := by
  rw [Bool.eq_iff_iff, up_iff, up_iff]
  constructor
  · rintro ⟨s, hs, hS⟩
    exact ⟨s, least_sub hs, hS⟩
  · rintro ⟨s, hs, hS⟩
    obtain ⟨t, ht, hw⟩ := least_below h s.length s (Nat.le_refl _) hs
    exact ⟨t, ht, fun p hp => hS p (within_iff.mp hw p hp)⟩
theorem allSS_least {sets : Lot} (h : AllSS sets) : AllSS (leastSets sets) := fun s hs => h s (least_sub hs)
/-- least sets are told by what is asked -/
theorem mem_least_up {sets : Lot} (h : AllSS sets) {x : PS} (hx : SS x) : x ∈ leastSets sets ↔ Up sets (fun p => x.contains p) = true ∧ ∀ t, SS t → within t x = true → Up sets (fun p => t.contains p) = true → t = x := by
  rw [mem_least]
  constructor
  · rintro ⟨h1, h2⟩
    refine ⟨up_iff.mpr ⟨x, h1, fun p hp => by simpa using hp⟩, fun t ht hw hu => ?_⟩
    obtain ⟨s, hs, hst⟩ := up_iff.mp hu
    have hst' : within s t = true := within_iff.mpr fun p hp => by simpa using hst p hp
    have e := h2 s hs (within_trans hst' hw)
    subst e
    exact within_antisymm ht hx hw hst'
  · rintro ⟨h1, h2⟩
    obtain ⟨s, hs, hsx⟩ := up_iff.mp h1
    have hw : within s x = true := within_iff.mpr fun p hp => by simpa using hsx p hp
    have e := h2 s (h s hs) hw (up_iff.mpr ⟨s, hs, fun p hp => by simpa using hp⟩)
    subst e
    refine ⟨hs, fun less hl hw' => ?_⟩
    exact h2 less (h less hl) hw' (up_iff.mpr ⟨less, hl, fun p hp => by simpa using hp⟩)
theorem canon {A B : Lot} (hA : AllSS A) (hB : AllSS B) (h : ∀ S, Up A S = Up B S) : leastSets A = leastSets B := by
  refine lot_eq (pw_least A) (pw_least B) fun x => ?_
  constructor
  · intro hx
    have ss := hA x (least_sub hx)
    rw [mem_least_up hA ss] at hx
    rw [mem_least_up hB ss]
    exact ⟨by rw [← h]; exact hx.1, fun t ht hw hu => hx.2 t ht hw (by rw [h]; exact hu)⟩
  · intro hx
    have ss := hB x (least_sub hx)
    rw [mem_least_up hB ss] at hx
    rw [mem_least_up hA ss]
    exact ⟨by rw [h]; exact hx.1, fun t ht hw hu => hx.2 t ht hw (by rw [← h]; exact hu)⟩
/-- told by its least sets -/
structure Canon (lot : Lot) : Prop where
  ss : AllSS lot
  least : leastSets lot = lot
theorem Canon.of {sets : Lot} (h : AllSS sets) : Canon (leastSets sets) := ⟨allSS_least h, canon (allSS_least h) h (up_least h)⟩
theorem Canon.eq {A B : Lot} (hA : Canon A) (hB : Canon B) (h : ∀ S, Up A S = Up B S) : A = B := by
  rw [← hA.least, ← hB.least]
  exact canon hA.ss hB.ss h

/-! ### both: the sets of two -/
def ins (x : Int) : PS → PS
  | [] => [x]
  | y :: r => if x < y then x :: y :: r else if x = y then y :: r else y :: ins x r
theorem mem_ins {x z : Int} : ∀ {l : PS}, z ∈ ins x l ↔ z = x ∨ z ∈ l
  | [] => by simp [ins]
  | y :: r => by
    unfold ins
    by_cases h : x < y
    · rw [if_pos h]
      simp
    · rw [if_neg h]
      by_cases e : x = y
      · subst e
        rw [if_pos rfl]
        simp
      · rw [if_neg e, List.mem_cons, mem_ins (l := r), List.mem_cons]
        constructor
        · rintro (q | q | q)
          · exact .inr (.inl q)
          · exact .inl q
          · exact .inr (.inr q)
        · rintro (q | q | q)
          · exact .inr (.inl q)
          · exact .inl q
          · exact .inr (.inr q)
theorem ss_ins {x : Int} : ∀ {l : PS}, SS l → SS (ins x l)
  | [], _ => by simp [ins]
  | y :: r, h => by
    have h' := List.pairwise_cons.mp h
    unfold ins
    by_cases c : x < y
    · rw [if_pos c]
      refine List.pairwise_cons.mpr ⟨fun z hz => ?_, h⟩
      rcases List.mem_cons.mp hz with e | e
      · subst e
        exact c
      · exact Int.lt_trans c (h'.1 z e)
    · rw [if_neg c]
      by_cases e : x = y
      · rw [if_pos e]
        exact h
      · rw [if_neg e]
        refine List.pairwise_cons.mpr ⟨fun z hz => ?_, ss_ins h'.2⟩
        rcases mem_ins.mp hz with e' | e'
        · subst e'
          omega
        · exact h'.1 z e'
/-- the set of a row of places -/
def sset (l : List Int) : PS := l.foldr ins []
theorem ss_sset : ∀ l : List Int, SS (sset l)
  | [] => List.Pairwise.nil
  | _ :: r => ss_ins (ss_sset r)
theorem mem_sset {z : Int} : ∀ {l : List Int}, z ∈ sset l ↔ z ∈ l
  | [] => Iff.rfl
  | x :: r => by
    show z ∈ ins x (sset r) ↔ _
    rw [mem_ins, mem_sset (l := r), List.mem_cons]
theorem sset_of {l m : List Int} (hs : SS m) (h : ∀ k, k ∈ m ↔ k ∈ l) : m = sset l := ss_eq hs (ss_sset l) fun x => (h x).trans mem_sset.symm
/-- the set of two rows of places -/
def uni (a b : PS) : PS := sset (a ++ b)
theorem mem_uni {a b : PS} {x : Int} : x ∈ uni a b ↔ x ∈ a ∨ x ∈ b := by
  unfold uni
  rw [mem_sset, List.mem_append]
theorem ss_uni (a b : PS) : SS (uni a b) := ss_sset _
theorem uni_all {a b : PS} {S : Int → Bool} : (∀ p ∈ uni a b, S p = true) ↔ (∀ p ∈ a, S p = true) ∧ (∀ p ∈ b, S p = true) := by
  constructor
  · intro h
    exact ⟨fun p hp => h p (mem_uni.mpr (.inl hp)), fun p hp => h p (mem_uni.mpr (.inr hp))⟩
  · rintro ⟨h1, h2⟩ p hp
    rcases mem_uni.mp hp with q | q
    · exact h1 p q
    · exact h2 p q

/-! ### least and greatest of lots -/
def unis (found lot : Lot) : Lot := found.flatMap fun near => lot.map fun far => uni near far
theorem ss_unis (found lot : Lot) : AllSS (unis found lot) := fun s hs => by
  simp only [unis, List.mem_flatMap, List.mem_map] at hs
  obtain ⟨n, _, f, _, rfl⟩ := hs
  exact ss_uni n f
theorem up_unis {found lot : Lot} {S : Int → Bool} : Up (unis found lot) S = (Up found S && Up lot S) := by
  rw [Bool.eq_iff_iff, Bool.and_eq_true, up_iff, up_iff, up_iff]
  constructor
  · rintro ⟨s, hs, h⟩
    simp only [unis, List.mem_flatMap, List.mem_map] at hs
    obtain ⟨n, hn, f, hf, rfl⟩ := hs
    exact ⟨⟨n, hn, (uni_all.mp h).1⟩, ⟨f, hf, (uni_all.mp h).2⟩⟩
  · rintro ⟨⟨n, hn, h1⟩, ⟨f, hf, h2⟩⟩
    refine ⟨uni n f, ?_, uni_all.mpr ⟨h1, h2⟩⟩
    simp only [unis, List.mem_flatMap, List.mem_map]
    exact ⟨n, hn, f, hf, rfl⟩
def leastStepOf (found lot : Lot) : Lot := leastSets (unis found lot)
def leastOf (lots : List Lot) : Lot := lots.foldl leastStepOf [[]]
def greatestOf (lots : List Lot) : Lot := leastSets lots.flatten
theorem up_fold_least {S : Int → Bool} : ∀ (lots : List Lot) (found : Lot), Up (lots.foldl leastStepOf found) S = (Up found S && lots.all fun l => Up l S)
  | [], found => by simp
  | l :: r, found => by
    rw [List.foldl_cons, up_fold_least r]
    unfold leastStepOf
    rw [up_least (ss_unis found l), up_unis, List.all_cons, Bool.and_assoc]
theorem up_leastOf (lots : List Lot) (S : Int → Bool) : Up (leastOf lots) S = lots.all fun l => Up l S := by
  unfold leastOf
  rw [up_fold_least]
  simp [Up]
theorem fold_least_canon : ∀ (lots : List Lot) (found : Lot), Canon found → Canon (lots.foldl leastStepOf found)
  | [], _, h => h
  | l :: r, found, _ => fold_least_canon r _ (Canon.of (ss_unis found l))
theorem canon_nil : Canon [[]] := ⟨fun s hs => by rw [List.mem_singleton] at hs; subst hs; exact List.Pairwise.nil, by decide⟩
theorem canon_leastOf (lots : List Lot) : Canon (leastOf lots) := fold_least_canon lots [[]] canon_nil
theorem allSS_flatten {lots : List Lot} (h : ∀ l ∈ lots, AllSS l) : AllSS lots.flatten := fun s hs => by
  obtain ⟨l, hl, hs⟩ := List.mem_flatten.mp hs
  exact h l hl s hs
theorem canon_greatestOf {lots : List Lot} (h : ∀ l ∈ lots, AllSS l) : Canon (greatestOf lots) := Canon.of (allSS_flatten h)
theorem up_flatten (lots : List Lot) (S : Int → Bool) : Up lots.flatten S = lots.any fun l => Up l S := by
  rw [Bool.eq_iff_iff, up_iff, List.any_eq_true]
  constructor
  · rintro ⟨s, hs, h⟩
    obtain ⟨l, hl, hs⟩ := List.mem_flatten.mp hs
    exact ⟨l, hl, up_iff.mpr ⟨s, hs, h⟩⟩
  · rintro ⟨l, hl, h⟩
    obtain ⟨s, hs, h⟩ := up_iff.mp h
    exact ⟨s, List.mem_flatten.mpr ⟨l, hl, hs⟩, h⟩
theorem up_greatestOf {lots : List Lot} (h : ∀ l ∈ lots, AllSS l) (S : Int → Bool) : Up (greatestOf lots) S = lots.any fun l => Up l S := by
  unfold greatestOf
  rw [up_least (allSS_flatten h), up_flatten]
end Net

set_option linter.all false
namespace Net
/-! ### networks -/
def getL (lots : List Lot) (i : Int) : Lot := lots.getD i.toNat []
def netStep (lots : List Lot) (st : Int × Int) : List Lot :=
  (lots.set st.1.toNat (leastOf [getL lots st.1, getL lots st.2])).set st.2.toNat (greatestOf [getL lots st.1, getL lots st.2])
def initLots (n : Nat) : List Lot := (List.range n).map fun (p : Nat) => [[(p : Int)]]
def netLots (n : Nat) (steps : List (Int × Int)) : List Lot := steps.foldl netStep (initLots n)
def StepOk (n : Nat) (st : Int × Int) : Prop := 0 ≤ st.1 ∧ st.1 < st.2 ∧ st.2 < n
structure GoodL (n : Nat) (lot : Lot) : Prop where
  canon : Canon lot
  ne : lot ≠ []
  sets : ∀ s ∈ lot, s ≠ [] ∧ ∀ p ∈ s, 0 ≤ p ∧ p < (n : Int)
structure GoodLots (n : Nat) (lots : List Lot) : Prop where
  len : lots.length = n
  all : ∀ l ∈ lots, GoodL n l
theorem GoodLots.get {n : Nat} {lots : List Lot} (h : GoodLots n lots) {i : Int} (h0 : 0 ≤ i) (h1 : i < n) : GoodL n (getL lots i) := by
  have hl : i.toNat < lots.length := by rw [h.len]; omega
  unfold getL
  rw [List.getD_eq_getElem?_getD, List.getElem?_eq_getElem hl]
  exact h.all _ (List.getElem_mem hl)
theorem leastSets_ne {sets : Lot} (hs : AllSS sets) (h : sets ≠ []) : leastSets sets ≠ [] := fun e => by
  obtain ⟨s, hs'⟩ := List.exists_mem_of_ne_nil _ h
  obtain ⟨t, ht, _⟩ := least_below hs s.length s (Nat.le_refl _) hs'
  rw [e] at ht
  exact absurd ht (by simp)
theorem leastOf2 (a b : Lot) : leastOf [a, b] = leastStepOf (leastStepOf [[]] a) b := rfl
theorem good_least {n : Nat} {a b : Lot} (ha : GoodL n a) (hb : GoodL n b) : GoodL n (leastOf [a, b]) := by
  refine ⟨canon_leastOf _, ?_, fun s hs => ?_⟩
  · rw [leastOf2]
    obtain ⟨x, hx⟩ := List.exists_mem_of_ne_nil _ ha.ne
    obtain ⟨y, hy⟩ := List.exists_mem_of_ne_nil _ hb.ne
    have n1 : unis [[]] a ≠ [] := fun e => by
      have : uni [] x ∈ unis [[]] a := by simp only [unis, List.mem_flatMap, List.mem_map]; exact ⟨[], by simp, x, hx, rfl⟩
      rw [e] at this
      exact absurd this (by simp)
    obtain ⟨z, hz⟩ := List.exists_mem_of_ne_nil _ (leastSets_ne (ss_unis _ _) n1)
    refine leastSets_ne (ss_unis _ _) fun e => ?_
    have : uni z y ∈ unis (leastStepOf [[]] a) b := by simp only [unis, List.mem_flatMap, List.mem_map]; exact ⟨z, hz, y, hy, rfl⟩
    rw [e] at this
    exact absurd this (by simp)
  · rw [leastOf2] at hs
    have h1 := least_sub hs
    simp only [unis, List.mem_flatMap, List.mem_map] at h1
    obtain ⟨z, hz, y, hy, rfl⟩ := h1
    have h2 := least_sub hz
    simp only [unis, List.mem_flatMap, List.mem_map] at h2
    obtain ⟨w, hw, x, hx, rfl⟩ := h2
    rw [List.mem_singleton] at hw
    subst hw
    obtain ⟨yne, hyp⟩ := hb.sets y hy
    obtain ⟨xne, hxp⟩ := ha.sets x hx
    obtain ⟨q, hq⟩ := List.exists_mem_of_ne_nil _ yne
    refine ⟨fun e => ?_, fun p hp => ?_⟩
    · have : q ∈ uni (uni [] x) y := mem_uni.mpr (.inr hq)
      rw [e] at this
      exact absurd this (by simp)
    · rcases mem_uni.mp hp with q | q
      · rcases mem_uni.mp q with q | q
        · exact absurd q (by simp)
        · exact hxp p q
      · exact hyp p q
theorem good_greatest {n : Nat} {a b : Lot} (ha : GoodL n a) (hb : GoodL n b) : GoodL n (greatestOf [a, b]) := by
  have hss : ∀ l ∈ [a, b], AllSS l := fun l hl => by
    simp only [List.mem_cons, List.not_mem_nil, or_false] at hl
    rcases hl with e | e
    · subst e; exact ha.canon.ss
    · subst e; exact hb.canon.ss
  refine ⟨canon_greatestOf hss, ?_, fun s hs => ?_⟩
  · refine leastSets_ne (allSS_flatten hss) ?_
    obtain ⟨x, hx⟩ := List.exists_mem_of_ne_nil _ ha.ne
    intro e
    have : x ∈ [a, b].flatten := List.mem_flatten.mpr ⟨a, by simp, hx⟩
    rw [e] at this
    exact absurd this (by simp)
  · have h1 := least_sub hs
    obtain ⟨l, hl, hs3⟩ := List.mem_flatten.mp h1
    simp only [List.mem_cons, List.not_mem_nil, or_false] at hl
    rcases hl with e | e
    · subst e; exact ha.sets s hs3
    · subst e; exact hb.sets s hs3
theorem good_step {n : Nat} {lots : List Lot} {st : Int × Int} (h : GoodLots n lots) (hs : StepOk n st) : GoodLots n (netStep lots st) := by
  obtain ⟨h0, h1, h2⟩ := hs
  have ga := h.get h0 (by omega)
  have gb := h.get (i := st.2) (by omega) h2
  refine ⟨by simp [netStep, h.len], fun l hl => ?_⟩
  rcases List.mem_or_eq_of_mem_set hl with q | q
  · rcases List.mem_or_eq_of_mem_set q with q | q
    · exact h.all l q
    · subst q; exact good_least ga gb
  · subst q; exact good_greatest ga gb
theorem canon_one (p : Int) : Canon [[p]] := ⟨fun s hs => by rw [List.mem_singleton] at hs; subst hs; simp, by
  refine lot_eq (pw_least _) (by simp) fun x => ?_
  rw [mem_least]
  constructor
  · exact fun h => h.1
  · intro h
    refine ⟨h, fun less hl _ => ?_⟩
    rw [List.mem_singleton] at h hl
    rw [h, hl]⟩
theorem good_init (n : Nat) : GoodLots n (initLots n) := by
  refine ⟨by simp [initLots], fun l hl => ?_⟩
  simp only [initLots, List.mem_map, List.mem_range] at hl
  obtain ⟨p, hp, rfl⟩ := hl
  refine ⟨canon_one _, by simp, fun s hs => ?_⟩
  rw [List.mem_singleton] at hs
  subst hs
  refine ⟨by simp, fun q hq => ?_⟩
  rw [List.mem_singleton] at hq
  subst hq
  omega
theorem good_fold {n : Nat} : ∀ (steps : List (Int × Int)) (lots : List Lot), GoodLots n lots → (∀ st ∈ steps, StepOk n st) → GoodLots n (steps.foldl netStep lots)
  | [], _, h, _ => h
  | st :: r, lots, h, hs => good_fold r _ (good_step h (hs st (List.mem_cons_self ..))) fun t ht => hs t (List.mem_cons_of_mem _ ht)
theorem good_net {n : Nat} {steps : List (Int × Int)} (hs : ∀ st ∈ steps, StepOk n st) : GoodLots n (netLots n steps) := good_fold steps _ (good_init n) hs

/-! ### exchanges of truth values, of numbers -/
def exB (row : List Bool) (st : Int × Int) : List Bool :=
  (row.set st.1.toNat (row.getD st.1.toNat false && row.getD st.2.toNat false)).set st.2.toNat (row.getD st.1.toNat false || row.getD st.2.toNat false)
def exStep (row : List Int) (st : Int × Int) : List Int :=
  if row.getD st.2.toNat 0 < row.getD st.1.toNat 0 then (row.set st.1.toNat (row.getD st.2.toNat 0)).set st.2.toNat (row.getD st.1.toNat 0) else row
def exs (row : List Int) (steps : List (Int × Int)) : List Int := steps.foldl exStep row
theorem exStep_len (row : List Int) (st : Int × Int) : (exStep row st).length = row.length := by
  unfold exStep
  split <;> simp
theorem exs_len : ∀ (steps : List (Int × Int)) (row : List Int), (exs row steps).length = row.length
  | [], _ => rfl
  | st :: r, row => by
    show (exs (exStep row st) r).length = _
    rw [exs_len r, exStep_len]
def vals (lots : List Lot) (S : Int → Bool) : List Bool := lots.map fun l => Up l S
theorem vals_get {lots : List Lot} {S : Int → Bool} {i : Int} (h : i.toNat < lots.length) : (vals lots S).getD i.toNat false = Up (getL lots i) S := by
  unfold vals getL
  rw [List.getD_eq_getElem?_getD, List.getD_eq_getElem?_getD, List.getElem?_map, List.getElem?_eq_getElem h]
  rfl
theorem vals_step {n : Nat} {lots : List Lot} {st : Int × Int} (h : GoodLots n lots) (hs : StepOk n st) (S : Int → Bool) : vals (netStep lots st) S = exB (vals lots S) st := by
  obtain ⟨h0, h1, h2⟩ := hs
  have ga := h.get h0 (by omega)
  have gb := h.get (i := st.2) (by omega) h2
  have hss : ∀ l ∈ [getL lots st.1, getL lots st.2], AllSS l := fun l hl => by
    simp only [List.mem_cons, List.not_mem_nil, or_false] at hl
    rcases hl with e | e
    · subst e; exact ga.canon.ss
    · subst e; exact gb.canon.ss
  unfold exB
  rw [vals_get (by rw [h.len]; omega), vals_get (by rw [h.len]; omega)]
  unfold netStep vals
  rw [List.map_set, List.map_set, up_leastOf, up_greatestOf hss]
  simp [List.all_cons, List.any_cons]
theorem vals_fold {n : Nat} (S : Int → Bool) : ∀ (steps : List (Int × Int)) (lots : List Lot), GoodLots n lots → (∀ st ∈ steps, StepOk n st) → vals (steps.foldl netStep lots) S = steps.foldl exB (vals lots S)
  | [], _, _, _ => rfl
  | st :: r, lots, h, hs => by
    have h1 := hs st (List.mem_cons_self ..)
    rw [List.foldl_cons, List.foldl_cons, vals_fold S r _ (good_step h h1) (fun t ht => hs t (List.mem_cons_of_mem _ ht)), vals_step h h1]
def bitsOf (n : Nat) (S : Int → Bool) : List Bool := (List.range n).map fun (p : Nat) => S (p : Int)
theorem vals_init (n : Nat) (S : Int → Bool) : vals (initLots n) S = bitsOf n S := by
  unfold vals initLots bitsOf
  rw [List.map_map]
  refine List.map_congr_left fun p _ => ?_
  simp [Up]
theorem vals_net {n : Nat} {steps : List (Int × Int)} (hs : ∀ st ∈ steps, StepOk n st) (S : Int → Bool) : vals (netLots n steps) S = steps.foldl exB (bitsOf n S) := by
  unfold netLots
  rw [vals_fold S steps _ (good_init n) hs, vals_init]
/-- the row of what is at least x -/
def thr (x : Int) (row : List Int) : List Bool := row.map fun y => decide (x ≤ y)
theorem thr_get {x : Int} {row : List Int} {i : Nat} (h : i < row.length) : (thr x row).getD i false = decide (x ≤ row.getD i 0) := by
  unfold thr
  rw [List.getD_eq_getElem?_getD, List.getD_eq_getElem?_getD, List.getElem?_map, List.getElem?_eq_getElem h]
  rfl
theorem thr_step {n : Nat} {row : List Int} {st : Int × Int} (hl : row.length = n) (hs : StepOk n st) (x : Int) : thr x (exStep row st) = exB (thr x row) st := by
  obtain ⟨h0, h1, h2⟩ := hs
  have l1 : st.1.toNat < row.length := by omega
  have l2 : st.2.toNat < row.length := by omega
  have ne : st.1.toNat ≠ st.2.toNat := by omega
  unfold exB
  rw [thr_get l1, thr_get l2]
  have e1 : row.getD st.1.toNat 0 = row[st.1.toNat] := by rw [List.getD_eq_getElem?_getD, List.getElem?_eq_getElem l1]; rfl
  have e2 : row.getD st.2.toNat 0 = row[st.2.toNat] := by rw [List.getD_eq_getElem?_getD, List.getElem?_eq_getElem l2]; rfl
  unfold exStep
  rw [e1, e2]
  by_cases c : row[st.2.toNat] < row[st.1.toNat]
  · rw [if_pos c]
    unfold thr
    rw [List.map_set, List.map_set]
    congr 2
    · by_cases q : x ≤ row[st.2.toNat]
      · have : x ≤ row[st.1.toNat] := by omega
        simp [q, this]
      · simp [q]
    · by_cases q : x ≤ row[st.1.toNat]
      · simp [q]
      · have : ¬ x ≤ row[st.2.toNat] := by omega
        simp [q, this]
  · rw [if_neg c]
    have c' : row[st.1.toNat] ≤ row[st.2.toNat] := by omega
    refine List.ext_getElem (by simp) fun i hi1 hi2 => ?_
    have hi : i < row.length := by simpa [thr] using hi1
    have ei : (thr x row)[i] = decide (x ≤ row[i]) := by simp [thr]
    rw [ei, List.getElem_set]
    split
    · rename_i q
      subst q
      by_cases q : x ≤ row[st.2.toNat]
      · simp [q]
      · have : ¬ x ≤ row[st.1.toNat] := by omega
        simp [q, this]
    · rw [List.getElem_set]
      split
      · rename_i q
        subst q
        by_cases q : x ≤ row[st.1.toNat]
        · have : x ≤ row[st.2.toNat] := by omega
          simp [q, this]
        · simp [q]
      · simp [thr]
theorem thr_exs {n : Nat} (x : Int) : ∀ (steps : List (Int × Int)) (row : List Int), row.length = n → (∀ st ∈ steps, StepOk n st) → thr x (exs row steps) = steps.foldl exB (thr x row)
  | [], _, _, _ => rfl
  | st :: r, row, hl, hs => by
    have h1 := hs st (List.mem_cons_self ..)
    show thr x (exs (exStep row st) r) = r.foldl exB (exB (thr x row) st)
    rw [thr_exs x r _ (by rw [exStep_len, hl]) (fun t ht => hs t (List.mem_cons_of_mem _ ht)), thr_step hl h1]

/-! ### what a lot leads a row to -/
def minL : List Int → Int
  | [] => 0
  | x :: r => r.foldl (fun a b => if b < a then b else a) x
def maxL : List Int → Int
  | [] => 0
  | x :: r => r.foldl (fun a b => if a < b then b else a) x
theorem fold_min : ∀ (r : List Int) (x y : Int), y ≤ r.foldl (fun a b => if b < a then b else a) x ↔ y ≤ x ∧ ∀ z ∈ r, y ≤ z
  | [], x, y => by simp
  | b :: r, x, y => by
    rw [List.foldl_cons, fold_min r]
    simp only [List.mem_cons, forall_eq_or_imp]
    by_cases c : b < x
    · rw [if_pos c]
      constructor
      · rintro ⟨h1, h2⟩
        exact ⟨by omega, h1, h2⟩
      · rintro ⟨_, h1, h2⟩
        exact ⟨h1, h2⟩
    · rw [if_neg c]
      constructor
      · rintro ⟨h1, h2⟩
        exact ⟨h1, by omega, h2⟩
      · rintro ⟨h1, _, h2⟩
        exact ⟨h1, h2⟩
theorem fold_max : ∀ (r : List Int) (x y : Int), y ≤ r.foldl (fun a b => if a < b then b else a) x ↔ y ≤ x ∨ ∃ z ∈ r, y ≤ z
  | [], x, y => by simp
  | b :: r, x, y => by
    rw [List.foldl_cons, fold_max r]
    simp only [List.mem_cons, exists_eq_or_imp]
    by_cases c : x < b
    · rw [if_pos c]
      constructor
      · rintro (h | h)
        · exact .inr (.inl h)
        · exact .inr (.inr h)
      · rintro (h | h | h)
        · exact .inl (by omega)
        · exact .inl h
        · exact .inr h
    · rw [if_neg c]
      constructor
      · rintro (h | h)
        · exact .inl h
        · exact .inr (.inr h)
      · rintro (h | h | h)
        · exact .inl h
        · exact .inl (by omega)
        · exact .inr h
theorem le_minL {l : List Int} (h : l ≠ []) (y : Int) : y ≤ minL l ↔ ∀ z ∈ l, y ≤ z := by
  cases l with
  | nil => exact absurd rfl h
  | cons x r =>
    unfold minL
    rw [fold_min]
    simp
theorem le_maxL {l : List Int} (h : l ≠ []) (y : Int) : y ≤ maxL l ↔ ∃ z ∈ l, y ≤ z := by
  cases l with
  | nil => exact absurd rfl h
  | cons x r =>
    unfold maxL
    rw [fold_max]
    simp
theorem int_eq_of_le {a b : Int} (h : ∀ x, x ≤ a ↔ x ≤ b) : a = b := Int.le_antisymm ((h a).mp (Int.le_refl a)) ((h b).mpr (Int.le_refl b))
/-- a least thing, a greatest thing of a row -/
theorem minL_of {l : List Int} {m : Int} (hm : m ∈ l) (h : ∀ y ∈ l, m ≤ y) : m = minL l := int_eq_of_le fun x => by
  rw [le_minL (List.ne_nil_of_mem hm)]
  exact ⟨fun hx z hz => Int.le_trans hx (h z hz), fun hx => hx m hm⟩
theorem maxL_of {l : List Int} {m : Int} (hm : m ∈ l) (h : ∀ y ∈ l, y ≤ m) : m = maxL l := int_eq_of_le fun x => by
  rw [le_maxL (List.ne_nil_of_mem hm)]
  exact ⟨fun hx => ⟨m, hm, hx⟩, fun ⟨z, hz, hx⟩ => Int.le_trans hx (h z hz)⟩
def level (lot : Lot) (row : List Int) : Int := maxL (lot.map fun s => minL (s.map fun p => row.getD p.toNat 0))
theorem le_level {lot : Lot} {row : List Int} (hne : lot ≠ []) (hs : ∀ s ∈ lot, s ≠ []) (x : Int) : x ≤ level lot row ↔ Up lot (fun p => decide (x ≤ row.getD p.toNat 0)) = true := by
  unfold level
  rw [le_maxL (by simpa using hne), up_iff]
  constructor
  · rintro ⟨z, hz, hx⟩
    obtain ⟨s, hs', rfl⟩ := List.mem_map.mp hz
    refine ⟨s, hs', fun p hp => ?_⟩
    rw [le_minL (by simpa using hs s hs')] at hx
    exact decide_eq_true (hx _ (List.mem_map.mpr ⟨p, hp, rfl⟩))
  · rintro ⟨s, hs', h⟩
    refine ⟨_, List.mem_map.mpr ⟨s, hs', rfl⟩, ?_⟩
    rw [le_minL (by simpa using hs s hs')]
    intro z hz
    obtain ⟨p, hp, rfl⟩ := List.mem_map.mp hz
    exact of_decide_eq_true (h p hp)
def risen (lots : List Lot) (row : List Int) : List Int := lots.map fun l => level l row
theorem thr_bits {n : Nat} {row : List Int} (hl : row.length = n) (x : Int) : bitsOf n (fun p => decide (x ≤ row.getD p.toNat 0)) = thr x row := by
  subst hl
  unfold bitsOf thr
  refine List.ext_getElem (by simp) fun i h1 h2 => ?_
  have hi : i < row.length := by simpa using h2
  simp [hi]
/-- THE LAW OF NETWORKS: for all rows of things the riser leads where the exchanges lead -/
theorem risen_net {n : Nat} {steps : List (Int × Int)} (hs : ∀ st ∈ steps, StepOk n st) {row : List Int} (hl : row.length = n) : risen (netLots n steps) row = exs row steps := by
  have g := good_net hs
  refine List.ext_getElem (by simp [risen, exs_len, g.len, hl]) fun i h1 h2 => ?_
  have hi : i < (netLots n steps).length := by simpa [risen] using h1
  have gl := g.all _ (List.getElem_mem hi)
  refine int_eq_of_le fun x => ?_
  have e1 : (risen (netLots n steps) row)[i] = level (netLots n steps)[i] row := by simp [risen]
  rw [e1, le_level gl.ne (fun s hs' => (gl.sets s hs').1)]
  have e2 : (vals (netLots n steps) (fun p => decide (x ≤ row.getD p.toNat 0)))[i]? = some (Up (netLots n steps)[i] (fun p => decide (x ≤ row.getD p.toNat 0))) := by
    unfold vals
    rw [List.getElem?_map, List.getElem?_eq_getElem hi]
    rfl
  rw [vals_net hs, thr_bits hl, ← thr_exs x steps row hl hs] at e2
  have e3 : (thr x (exs row steps))[i]? = some (decide (x ≤ (exs row steps)[i])) := by
    unfold thr
    rw [List.getElem?_map, List.getElem?_eq_getElem h2]
    rfl
  rw [e3] at e2
  rw [← Option.some.inj e2]
  simp
end Net

set_option linter.all false
set_option maxRecDepth 10000
namespace Net
/-! ### at most six sets -/
def subs4 : Lot := [[], [0], [1], [2], [3], [0, 1], [0, 2], [0, 3], [1, 2], [1, 3], [2, 3], [0, 1, 2], [0, 1, 3], [0, 2, 3], [1, 2, 3], [0, 1, 2, 3]]
theorem in_subs4 {s : PS} (h : SS s) (hp : ∀ p ∈ s, 0 ≤ p ∧ p < 4) : s ∈ subs4 := by
  have e : s = [0, 1, 2, 3].filter fun p => s.contains p := by
    refine ss_eq h ((show SS [0, 1, 2, 3] by decide).filter _) fun x => ?_
    simp only [List.mem_filter, List.mem_cons, List.not_mem_nil, or_false, List.contains_eq_mem, decide_eq_true_eq]
    constructor
    · intro hx
      have := hp x hx
      exact ⟨by omega, hx⟩
    · exact fun hx => hx.2
  rw [e]
  generalize (fun p : Int => s.contains p) = f
  have key : ∀ b0 b1 b2 b3 : Bool, ((if b0 = true then [(0 : Int)] else []) ++ (if b1 = true then [1] else []) ++ (if b2 = true then [2] else []) ++ (if b3 = true then [3] else [])) ∈ subs4 := by decide
  have q := key (f 0) (f 1) (f 2) (f 3)
  have e2 : [0, 1, 2, 3].filter f = ((if f 0 = true then [(0 : Int)] else []) ++ (if f 1 = true then [1] else []) ++ (if f 2 = true then [2] else []) ++ (if f 3 = true then [3] else [])) := by
    simp only [List.filter_cons, List.filter_nil]
    cases f 0 <;> cases f 1 <;> cases f 2 <;> cases f 3 <;> rfl
  rw [e2]
  exact q
/-- six chains hold all sets of four places -/
def chain : PS → Nat
  | [] => 0 | [0] => 0 | [0, 1] => 0 | [0, 1, 2] => 0 | [0, 1, 2, 3] => 0
  | [1] => 1 | [1, 2] => 1 | [1, 2, 3] => 1
  | [2] => 2 | [0, 2] => 2 | [0, 2, 3] => 2
  | [3] => 3 | [0, 3] => 3 | [0, 1, 3] => 3
  | [1, 3] => 4
  | [2, 3] => 5
  | _ => 6
theorem chain_comp : ∀ a ∈ subs4, ∀ b ∈ subs4, chain a = chain b → (within a b || within b a) = true := by decide +kernel
theorem chain_lt : ∀ a ∈ subs4, chain a < 6 := by decide
theorem len_six {n : Nat} {lot : Lot} (hn : n ≤ 4) (g : GoodL n lot) : lot.length ≤ 6 := by
  have hin : ∀ s ∈ lot, s ∈ subs4 := fun s hs => in_subs4 (g.canon.ss s hs) fun p hp => by
    have := (g.sets s hs).2 p hp
    omega
  have min : ∀ s ∈ lot, ∀ t ∈ lot, within t s = true → t = s := fun s hs t ht hw => by
    have hs' : s ∈ leastSets lot := by rw [g.canon.least]; exact hs
    exact (mem_least.mp hs').2 t ht hw
  have pw : lot.Pairwise (· < ·) := by
    have := pw_least lot
    rw [g.canon.least] at this
    exact this
  have nd : (lot.map chain).Nodup := by
    unfold List.Nodup
    rw [List.pairwise_map]
    refine pw.imp_of_mem fun {a b} ha hb hab e => ?_
    have hc := chain_comp a (hin a ha) b (hin b hb) e
    have : a = b := by
      rw [Bool.or_eq_true] at hc
      rcases hc with q | q
      · exact min b hb a ha q
      · exact (min a ha b hb q).symm
    subst this
    exact List.lt_irrefl a hab
  have := nd.length_le_of_subset (l₂ := List.range 6) fun x hx => by
    obtain ⟨s, hs, rfl⟩ := List.mem_map.mp hx
    exact List.mem_range.mpr (chain_lt s (hin s hs))
  simpa using this
theorem len_set {n : Nat} {lot : Lot} (g : GoodL n lot) {s : PS} (hs : s ∈ lot) : 1 ≤ s.length ∧ s.length ≤ n := by
  obtain ⟨h1, h2⟩ := g.sets s hs
  refine ⟨List.length_pos_iff.mpr h1, ?_⟩
  have hr : SS ((List.range n).map fun (p : Nat) => (p : Int)) := by
    unfold SS
    rw [List.pairwise_map]
    exact List.pairwise_lt_range.imp fun h => by omega
  have := within_len (g.canon.ss s hs) hr (within_iff.mpr fun p hp => by
    have := h2 p hp
    rw [List.mem_map]
    exact ⟨p.toNat, List.mem_range.mpr (by omega), by omega⟩)
  simpa using this

/-! ### equal rows of lots -/
theorem lots_eq {n : Nat} {A B : List Lot} (gA : GoodLots n A) (gB : GoodLots n B) (h : ∀ S, vals A S = vals B S) : A = B := by
  refine List.ext_getElem (by rw [gA.len, gB.len]) fun i h1 h2 => ?_
  refine (gA.all _ (List.getElem_mem h1)).canon.eq (gB.all _ (List.getElem_mem h2)).canon fun S => ?_
  have e := congrArg (fun l => l[i]?) (h S)
  simp only [vals, List.getElem?_map, List.getElem?_eq_getElem h1, List.getElem?_eq_getElem h2, Option.map_some, Option.some.injEq] at e
  exact e
/-! ### one exchange twice -/
theorem getD_set {α : Type} {l : List α} {i j : Nat} {x d : α} (h : i < l.length) : (l.set i x).getD j d = if i = j then x else l.getD j d := by
  rw [List.getD_eq_getElem?_getD, List.getElem?_set, List.getD_eq_getElem?_getD]
  split
  · rename_i e
    subst e
    rfl
  · rfl
theorem exB_len (row : List Bool) (st : Int × Int) : (exB row st).length = row.length := by simp [exB]
theorem exB_twice {row : List Bool} {st : Int × Int} (hs : StepOk row.length st) : exB (exB row st) st = exB row st := by
  obtain ⟨h0, h1, h2⟩ := hs
  have l1 : st.1.toNat < row.length := by omega
  have l2 : st.2.toNat < row.length := by omega
  have ne : st.1.toNat ≠ st.2.toNat := by omega
  have e1 : (exB row st).getD st.1.toNat false = (row.getD st.1.toNat false && row.getD st.2.toNat false) := by
    unfold exB
    rw [getD_set (by simpa using l2), if_neg (Ne.symm ne), getD_set l1, if_pos rfl]
  have e2 : (exB row st).getD st.2.toNat false = (row.getD st.1.toNat false || row.getD st.2.toNat false) := by
    unfold exB
    rw [getD_set (by simpa using l2), if_pos rfl]
  have e3 : ∀ a b : Bool, ((a && b) && (a || b)) = (a && b) := by decide
  have e4 : ∀ a b : Bool, ((a && b) || (a || b)) = (a || b) := by decide
  have e5 : exB (exB row st) st = ((exB row st).set st.1.toNat ((exB row st).getD st.1.toNat false && (exB row st).getD st.2.toNat false)).set st.2.toNat ((exB row st).getD st.1.toNat false || (exB row st).getD st.2.toNat false) := rfl
  rw [e5, e1, e2, e3, e4]
  unfold exB
  refine List.ext_getElem (by simp) fun i hi1 hi2 => ?_
  simp only [List.getElem_set]
  split
  · rfl
  · split <;> rfl
theorem foldB_len : ∀ (steps : List (Int × Int)) (row : List Bool), (steps.foldl exB row).length = row.length
  | [], _ => rfl
  | st :: r, row => by rw [List.foldl_cons, foldB_len r, exB_len]
theorem net_twice {n : Nat} {steps : List (Int × Int)} {st : Int × Int} (hs : ∀ t ∈ steps, StepOk n t) (h : StepOk n st) (hl : steps.getLast? = some st) : netLots n (steps ++ [st]) = netLots n steps := by
  have hs2 : ∀ t ∈ steps ++ [st], StepOk n t := fun t ht => by
    rcases List.mem_append.mp ht with q | q
    · exact hs t q
    · rw [List.mem_singleton] at q; subst q; exact h
  refine lots_eq (good_net hs2) (good_net hs) fun S => ?_
  rw [vals_net hs2, vals_net hs, List.foldl_append]
  obtain ⟨ini, rfl⟩ : ∃ ini, steps = ini ++ [st] := by
    obtain ⟨ys, hy⟩ := List.getLast?_eq_some_iff.mp hl
    exact ⟨ys, hy⟩
  rw [List.foldl_append]
  show exB (exB (ini.foldl exB (bitsOf n S)) st) st = exB (ini.foldl exB (bitsOf n S)) st
  refine exB_twice ?_
  rw [foldB_len]
  simpa [bitsOf] using h
/-! ### one riser behind another -/
def lotBehind (lot : Lot) (lots : List Lot) : Lot := greatestOf (lot.map fun item => leastOf (item.map fun p => getL lots p))
theorem fold_least_good {n : Nat} : ∀ (lots : List Lot) (found : Lot), GoodL n found → (∀ l ∈ lots, GoodL n l) → GoodL n (lots.foldl leastStepOf found)
  | [], _, h, _ => h
  | l :: r, found, h, hl => by
    refine fold_least_good r _ ?_ fun t ht => hl t (List.mem_cons_of_mem _ ht)
    have gl := hl l (List.mem_cons_self ..)
    refine ⟨Canon.of (ss_unis _ _), ?_, fun s hs => ?_⟩
    · obtain ⟨x, hx⟩ := List.exists_mem_of_ne_nil _ h.ne
      obtain ⟨y, hy⟩ := List.exists_mem_of_ne_nil _ gl.ne
      refine leastSets_ne (ss_unis _ _) fun e => ?_
      have : uni x y ∈ unis found l := by simp only [unis, List.mem_flatMap, List.mem_map]; exact ⟨x, hx, y, hy, rfl⟩
      rw [e] at this
      exact absurd this (by simp)
    · have h1 := least_sub hs
      simp only [unis, List.mem_flatMap, List.mem_map] at h1
      obtain ⟨z, hz, y, hy, rfl⟩ := h1
      obtain ⟨zne, hzp⟩ := h.sets z hz
      obtain ⟨yne, hyp⟩ := gl.sets y hy
      obtain ⟨q, hq⟩ := List.exists_mem_of_ne_nil _ yne
      refine ⟨fun e => ?_, fun p hp => ?_⟩
      · have : q ∈ uni z y := mem_uni.mpr (.inr hq)
        rw [e] at this
        exact absurd this (by simp)
      · rcases mem_uni.mp hp with q | q
        · exact hzp p q
        · exact hyp p q
theorem good_first {n : Nat} {l : Lot} (h : GoodL n l) : leastStepOf [[]] l = l := by
  refine (Canon.of (ss_unis [[]] l)).eq h.canon fun S => ?_
  rw [up_least (ss_unis _ _), up_unis]
  simp [Up]
theorem good_leastOf {n : Nat} {lots : List Lot} (hne : lots ≠ []) (h : ∀ l ∈ lots, GoodL n l) : GoodL n (leastOf lots) := by
  cases lots with
  | nil => exact absurd rfl hne
  | cons l r =>
    have gl := h l (List.mem_cons_self ..)
    unfold leastOf
    rw [List.foldl_cons, good_first gl]
    exact fold_least_good r l gl fun t ht => h t (List.mem_cons_of_mem _ ht)
theorem good_greatestOf {n : Nat} {lots : List Lot} (hne : lots ≠ []) (h : ∀ l ∈ lots, GoodL n l) : GoodL n (greatestOf lots) := by
  have hss : ∀ l ∈ lots, AllSS l := fun l hl => (h l hl).canon.ss
  refine ⟨canon_greatestOf hss, ?_, fun s hs => ?_⟩
  · refine leastSets_ne (allSS_flatten hss) ?_
    obtain ⟨l, hl⟩ := List.exists_mem_of_ne_nil _ hne
    obtain ⟨x, hx⟩ := List.exists_mem_of_ne_nil _ (h l hl).ne
    intro e
    have : x ∈ lots.flatten := List.mem_flatten.mpr ⟨l, hl, hx⟩
    rw [e] at this
    exact absurd this (by simp)
  · obtain ⟨l, hl, hs'⟩ := List.mem_flatten.mp (least_sub hs)
    exact (h l hl).sets s hs'
theorem good_behind {n : Nat} {lot : Lot} {lots : List Lot} (gl : GoodL n lot) (g : GoodLots n lots) : GoodL n (lotBehind lot lots) := by
  unfold lotBehind
  refine good_greatestOf (by simpa using gl.ne) fun l hl => ?_
  obtain ⟨item, hi, rfl⟩ := List.mem_map.mp hl
  refine good_leastOf (by simpa using (gl.sets item hi).1) fun t ht => ?_
  obtain ⟨p, hp, rfl⟩ := List.mem_map.mp ht
  have := (gl.sets item hi).2 p hp
  exact g.get this.1 this.2
theorem up_behind {n : Nat} {lot : Lot} {lots : List Lot} (gl : GoodL n lot) (g : GoodLots n lots) (S : Int → Bool) : Up (lotBehind lot lots) S = Up lot (fun p => Up (getL lots p) S) := by
  unfold lotBehind
  have hss : ∀ l ∈ (lot.map fun item => leastOf (item.map fun p => getL lots p)), AllSS l := fun l hl => by
    obtain ⟨item, hi, rfl⟩ := List.mem_map.mp hl
    exact (canon_leastOf _).ss
  rw [up_greatestOf hss, List.any_map]
  unfold Up
  congr 1
  funext item
  show Up (leastOf (item.map fun p => getL lots p)) S = _
  rw [up_leastOf, List.all_map]
  rfl
def behind (first second : List Lot) : List Lot := second.map fun lot => lotBehind lot first
theorem good_behinds {n : Nat} {A B : List Lot} (gA : GoodLots n A) (gB : GoodLots n B) : GoodLots n (behind A B) := by
  refine ⟨by simp [behind, gB.len], fun l hl => ?_⟩
  obtain ⟨t, ht, rfl⟩ := List.mem_map.mp hl
  exact good_behind (gB.all t ht) gA
theorem bits_vals {n : Nat} {A : List Lot} (gA : GoodLots n A) (S : Int → Bool) : bitsOf n (fun p => Up (getL A p) S) = vals A S := by
  have e := gA.len
  subst e
  unfold bitsOf vals getL
  refine List.ext_getElem (by simp) fun i h1 h2 => ?_
  have hi : i < A.length := by simpa using h2
  simp [hi]
theorem net_behind {n : Nat} {near far : List (Int × Int)} (hn : ∀ t ∈ near, StepOk n t) (hf : ∀ t ∈ far, StepOk n t) : behind (netLots n near) (netLots n far) = netLots n (near ++ far) := by
  have hs : ∀ t ∈ near ++ far, StepOk n t := fun t ht => (List.mem_append.mp ht).elim (hn t) (hf t)
  have gA := good_net hn
  have gB := good_net hf
  refine lots_eq (good_behinds gA gB) (good_net hs) fun S => ?_
  have e : vals (behind (netLots n near) (netLots n far)) S = vals (netLots n far) (fun p => Up (getL (netLots n near) p) S) := by
    unfold vals behind
    rw [List.map_map]
    refine List.map_congr_left fun l hl => ?_
    exact up_behind (gB.all l hl) gA S
  rw [e, vals_net hf, bits_vals gA, vals_net hn, vals_net hs, List.foldl_append]
/-! ### sorted rows -/
def insI (x : Int) : List Int → List Int
  | [] => [x]
  | y :: r => if x ≤ y then x :: y :: r else y :: insI x r
def sortI (l : List Int) : List Int := l.foldr insI []
theorem perm_insI {x : Int} : ∀ {l : List Int}, (insI x l).Perm (x :: l)
  | [] => by simp [insI]
  | y :: r => by
    unfold insI
    by_cases c : x ≤ y
    · rw [if_pos c]
    · rw [if_neg c]
      exact ((perm_insI (l := r)).cons y).trans (List.Perm.swap ..)
theorem perm_sortI : ∀ (l : List Int), (sortI l).Perm l
  | [] => List.Perm.refl _
  | x :: r => (perm_insI (l := sortI r)).trans ((perm_sortI r).cons x)
theorem pw_insI {x : Int} : ∀ {l : List Int}, l.Pairwise (· ≤ ·) → (insI x l).Pairwise (· ≤ ·)
  | [], _ => by simp [insI]
  | y :: r, h => by
    have h' := List.pairwise_cons.mp h
    unfold insI
    by_cases c : x ≤ y
    · rw [if_pos c]
      refine List.pairwise_cons.mpr ⟨fun z hz => ?_, h⟩
      rcases List.mem_cons.mp hz with e | e
      · subst e; exact c
      · exact Int.le_trans c (h'.1 z e)
    · rw [if_neg c]
      refine List.pairwise_cons.mpr ⟨fun z hz => ?_, pw_insI h'.2⟩
      rcases List.mem_cons.mp (perm_insI.mem_iff.mp hz) with e | e
      · subst e; omega
      · exact h'.1 z e
theorem pw_sortI : ∀ (l : List Int), (sortI l).Pairwise (· ≤ ·)
  | [] => List.Pairwise.nil
  | x :: r => pw_insI (pw_sortI r)
theorem sortI_of {l m : List Int} (hp : m.Perm l) (hs : m.Pairwise (· ≤ ·)) : m = sortI l := (hp.trans (perm_sortI l).symm).eq_of_pairwise (fun a b _ _ h1 h2 => Int.le_antisymm h1 h2) hs (pw_sortI l)
theorem exStep_sorted {n : Nat} {row : List Int} (hl : row.length = n) (h : row.Pairwise (· ≤ ·)) {st : Int × Int} (hs : StepOk n st) : exStep row st = row := by
  obtain ⟨h0, h1, h2⟩ := hs
  have l1 : st.1.toNat < row.length := by omega
  have l2 : st.2.toNat < row.length := by omega
  have e1 : row.getD st.1.toNat 0 = row[st.1.toNat] := by rw [List.getD_eq_getElem?_getD, List.getElem?_eq_getElem l1]; rfl
  have e2 : row.getD st.2.toNat 0 = row[st.2.toNat] := by rw [List.getD_eq_getElem?_getD, List.getElem?_eq_getElem l2]; rfl
  have := List.pairwise_iff_getElem.mp h st.1.toNat st.2.toNat l1 l2 (by omega)
  unfold exStep
  rw [e1, e2, if_neg (by omega)]
theorem exs_sorted {n : Nat} : ∀ (steps : List (Int × Int)) (row : List Int), row.length = n → row.Pairwise (· ≤ ·) → (∀ t ∈ steps, StepOk n t) → exs row steps = row
  | [], _, _, _, _ => rfl
  | st :: r, row, hl, h, hs => by
    show exs (exStep row st) r = row
    rw [exStep_sorted hl h (hs st (List.mem_cons_self ..))]
    exact exs_sorted r row hl h fun t ht => hs t (List.mem_cons_of_mem _ ht)
/-! ### rows of zeros and ones -/
def rowsStep (things : List Int) (found : List (List Int)) : List (List Int) := found.flatMap fun row => things.map fun t => row ++ [t]
def rowsOf (things : List Int) : Nat → List (List Int)
  | 0 => [[]]
  | n + 1 => rowsStep things (rowsOf things n)
abbrev bitRows (n : Nat) : List (List Int) := rowsOf [0, 1] n
theorem mem_rowsOf {things : List Int} : ∀ {n : Nat} {row : List Int}, row ∈ rowsOf things n ↔ row.length = n ∧ ∀ x ∈ row, x ∈ things
  | 0, row => by
    simp only [rowsOf, List.mem_singleton]
    constructor
    · rintro rfl; simp
    · rintro ⟨h, _⟩; exact List.length_eq_zero_iff.mp h
  | n + 1, row => by
    simp only [rowsOf, rowsStep, List.mem_flatMap, List.mem_map]
    constructor
    · rintro ⟨r, hr, t, ht, rfl⟩
      obtain ⟨h1, h2⟩ := mem_rowsOf.mp hr
      refine ⟨by simp [h1], fun x hx => ?_⟩
      rcases List.mem_append.mp hx with q | q
      · exact h2 x q
      · rw [List.mem_singleton] at q; subst q; exact ht
    · rintro ⟨h1, h2⟩
      have hne : row ≠ [] := fun e => by rw [e] at h1; simp at h1
      refine ⟨row.dropLast, mem_rowsOf.mpr ⟨by rw [List.length_dropLast, h1]; rfl, fun x hx => h2 x (List.dropLast_subset _ hx)⟩, row.getLast hne, h2 _ (List.getLast_mem hne), List.dropLast_concat_getLast hne⟩
def b2 (b : Bool) : Int := if b then 1 else 0
theorem thr_b2 (l : List Bool) : thr 1 (l.map b2) = l := by
  unfold thr
  rw [List.map_map]
  conv => rhs; rw [← List.map_id l]
  refine List.map_congr_left fun b _ => ?_
  cases b <;> decide
theorem bits_mem (n : Nat) (S : Int → Bool) : (bitsOf n S).map b2 ∈ bitRows n := by
  rw [mem_rowsOf]
  refine ⟨by simp [bitsOf], fun x hx => ?_⟩
  obtain ⟨b, _, rfl⟩ := List.mem_map.mp hx
  cases b <;> simp [b2]
/-- a row of lots that sorts: what is asked -/
theorem vals_sorts {n : Nat} {steps : List (Int × Int)} (hs : ∀ t ∈ steps, StepOk n t) (h : ∀ row ∈ bitRows n, exs row steps = sortI row) (S : Int → Bool) : vals (netLots n steps) S = thr 1 (sortI ((bitsOf n S).map b2)) := by
  rw [vals_net hs, ← h _ (bits_mem n S), thr_exs 1 steps _ (by simp [bitsOf]) hs, thr_b2]
/-! ### the sorter -/
def subsets (n : Nat) : List (List Int) := (List.range n).foldl (fun found (spot : Nat) => found ++ found.map fun some => some ++ [(spot : Int)]) [[]]
def lawSets (n : Nat) : Lot := sortLot ((subsets n).filter fun s => decide (s ≠ []))
def sorterLots (n : Nat) : List Lot := (List.range n).map fun (p : Nat) => (lawSets n).filter fun s => decide ((s.length : Int) = (n : Int) - (p : Int))
def goodB (n : Nat) (lot : Lot) : Bool := (lot.all fun s => decide (s.Pairwise (· < ·))) && decide (leastSets lot = lot) && !lot.isEmpty && lot.all fun s => !s.isEmpty && s.all fun p => decide (0 ≤ p ∧ p < (n : Int))
theorem goodB_ok {n : Nat} {lot : Lot} (h : goodB n lot = true) : GoodL n lot := by
  simp only [goodB, Bool.and_eq_true, List.all_eq_true, decide_eq_true_eq, Bool.not_eq_true', List.isEmpty_eq_false_iff] at h
  obtain ⟨⟨⟨h1, h2⟩, h3⟩, h4⟩ := h
  exact ⟨⟨h1, h2⟩, h3, h4⟩
theorem good_sorter : ∀ n ∈ [2, 3, 4], GoodLots n (sorterLots n) := by
  have k : ∀ n ∈ [2, 3, 4], (sorterLots n).length = n ∧ (sorterLots n).all (goodB n) = true := by decide +kernel
  intro n hn
  obtain ⟨h1, h2⟩ := k n hn
  exact ⟨h1, fun l hl => goodB_ok (List.all_eq_true.mp h2 l hl)⟩
def ofRow (row : List Int) (p : Int) : Bool := decide (row.getD p.toNat 0 = 1)
theorem sorter_rows : ∀ n ∈ [2, 3, 4], ∀ row ∈ bitRows n, vals (sorterLots n) (ofRow row) = thr 1 (sortI row) := by decide +kernel
theorem up_congr {n : Nat} {lot : Lot} (h : ∀ s ∈ lot, ∀ p ∈ s, 0 ≤ p ∧ p < (n : Int)) {S T : Int → Bool} (e : ∀ p : Int, 0 ≤ p → p < n → S p = T p) : Up lot S = Up lot T := by
  rw [Bool.eq_iff_iff, up_iff, up_iff]
  constructor
  · rintro ⟨s, hs, hS⟩
    exact ⟨s, hs, fun p hp => by rw [← e p (h s hs p hp).1 (h s hs p hp).2]; exact hS p hp⟩
  · rintro ⟨s, hs, hS⟩
    exact ⟨s, hs, fun p hp => by rw [e p (h s hs p hp).1 (h s hs p hp).2]; exact hS p hp⟩
theorem vals_congr {n : Nat} {A : List Lot} (g : GoodLots n A) {S T : Int → Bool} (e : ∀ p : Int, 0 ≤ p → p < n → S p = T p) : vals A S = vals A T :=
  List.map_congr_left fun l hl => up_congr (fun s hs => ((g.all l hl).sets s hs).2) e
theorem ofRow_bits (n : Nat) (S : Int → Bool) (p : Int) (h0 : 0 ≤ p) (h1 : p < n) : ofRow ((bitsOf n S).map b2) p = S p := by
  unfold ofRow bitsOf
  have hp : p.toNat < n := by omega
  have e : ((p.toNat : Nat) : Int) = p := by omega
  simp only [List.map_map, List.getD_eq_getElem?_getD, List.getElem?_map, List.getElem?_range hp, Option.map_some, Option.getD_some, Function.comp_apply, e]
  cases S p <;> decide
theorem vals_sorter {n : Nat} (hn : n ∈ [2, 3, 4]) (S : Int → Bool) : vals (sorterLots n) S = thr 1 (sortI ((bitsOf n S).map b2)) := by
  rw [← sorter_rows n hn _ (bits_mem n S)]
  exact vals_congr (good_sorter n hn) fun p h0 h1 => (ofRow_bits n S p h0 h1).symm
/-- THE LAW OF SORTERS -/
theorem net_sorter {n : Nat} (hn : n ∈ [2, 3, 4]) {steps : List (Int × Int)} (hs : ∀ t ∈ steps, StepOk n t) (h : ∀ row ∈ bitRows n, exs row steps = sortI row) : netLots n steps = sorterLots n :=
  lots_eq (good_net hs) (good_sorter n hn) fun S => by rw [vals_sorts hs h, vals_sorter hn]
def stepB (n : Nat) (t : Int × Int) : Bool := decide (0 ≤ t.1 ∧ t.1 < t.2 ∧ t.2 < (n : Int))
theorem stepB_ok {n : Nat} {t : Int × Int} (h : stepB n t = true) : StepOk n t := of_decide_eq_true (p := 0 ≤ t.1 ∧ t.1 < t.2 ∧ t.2 < (n : Int)) h
def sortsB (n : Nat) (steps : List (Int × Int)) : Bool := steps.all (stepB n) && (bitRows n).all fun row => decide (exs row steps = sortI row)
theorem sortsB_ok {n : Nat} (hn : n ∈ [2, 3, 4]) {steps : List (Int × Int)} (h : sortsB n steps = true) : (∀ t ∈ steps, StepOk n t) ∧ netLots n steps = sorterLots n := by
  simp only [sortsB, Bool.and_eq_true, List.all_eq_true, decide_eq_true_eq] at h
  have hs : ∀ t ∈ steps, StepOk n t := fun t ht => stepB_ok (h.1 t ht)
  exact ⟨hs, net_sorter hn hs h.2⟩
def three : List (Int × Int) := [(0, 1), (1, 2), (0, 1)]
def four : List (Int × Int) := [(0, 1), (2, 3), (0, 2), (1, 3), (1, 2)]
theorem net_three : (∀ t ∈ three, StepOk 3 t) ∧ netLots 3 three = sorterLots 3 := sortsB_ok (by simp) (by decide +kernel)
theorem net_four : (∀ t ∈ four, StepOk 4 t) ∧ netLots 4 four = sorterLots 4 := sortsB_ok (by simp) (by decide +kernel)
theorem net_two : (∀ t ∈ [((0 : Int), (1 : Int))], StepOk 2 t) ∧ netLots 2 [(0, 1)] = sorterLots 2 := sortsB_ok (by simp) (by decide +kernel)
theorem net_sixty : (∀ t ∈ List.replicate 60 ((0 : Int), (1 : Int)), StepOk 2 t) ∧ netLots 2 (List.replicate 60 (0, 1)) = sorterLots 2 := sortsB_ok (by simp) (by decide +kernel)
/-- a sorted network with more is sorted -/
theorem net_more {n : Nat} (hn : n ∈ [2, 3, 4]) {steps more : List (Int × Int)} (h : sortsB n steps = true) (hm : ∀ t ∈ more, StepOk n t) : (∀ t ∈ steps ++ more, StepOk n t) ∧ netLots n (steps ++ more) = sorterLots n := by
  simp only [sortsB, Bool.and_eq_true, List.all_eq_true, decide_eq_true_eq] at h
  have hs : ∀ t ∈ steps ++ more, StepOk n t := fun t ht => (List.mem_append.mp ht).elim (fun q => stepB_ok (h.1 t q)) (hm t)
  refine ⟨hs, net_sorter hn hs fun row hr => ?_⟩
  have e : exs row (steps ++ more) = exs (exs row steps) more := by
    unfold exs
    rw [List.foldl_append]
  rw [e, h.2 row hr]
  refine exs_sorted more _ ?_ (pw_sortI row) hm
  rw [(perm_sortI row).length_eq]
  exact (mem_rowsOf.mp hr).1
theorem three_sorts : sortsB 3 three = true := by decide +kernel
end Net

set_option Elab.async false
set_option linter.all false
set_option maxRecDepth 100000
set_option maxHeartbeats 4000000
/-! Values told by data: a layer over HandS. -/
namespace Hd
open PySem PySem.Spec PyProof.Rows L2

/-! ### data without lists -/
mutual
def noL : PyData → Bool
  | .list _ => false
  | .dict _ => false
  | .tuple xs => noLs xs
  | .none => true
  | .bool _ => true
  | .int _ => true
  | .str _ => true
def noLs : List PyData → Bool
  | [] => true
  | x :: xs => noL x && noLs xs
end
theorem noLs_cons {x : PyData} {xs : List PyData} : noLs (x :: xs) = (noL x && noLs xs) := by rw [noLs]
theorem noLs_iff : ∀ {xs : List PyData}, noLs xs = true ↔ ∀ x ∈ xs, noL x = true
  | [] => by simp [noLs]
  | x :: xs => by rw [noLs_cons, Bool.and_eq_true, noLs_iff (xs := xs)]; simp
theorem noL_tup {xs : List PyData} : noL (.tuple xs) = noLs xs := by rw [noL]
abbrev Fg := PySem.W.Frag
def TV (K : Fg) (H : Hp) (v : V) (d : PyData) : Prop := Dp K H v d ∧ noL d = true
def TVs (K : Fg) (H : Hp) (vs : List V) (ds : List PyData) : Prop := DpAll K H vs ds ∧ noLs ds = true
/-- tuples and locked objects stay -/
def Tk (H H' : Hp) : Prop := (∀ a xs, H a = some (.tup xs) → H' a = some (.tup xs)) ∧ ∀ a o u, H a = some (.frz o u) → H' a = some (.frz o u)
section
variable {K : Fg} {H H' : Hp}
theorem SqT.tk {a : Addr} {xs : List V} (k : Tk H H') (h : SqT K H a xs) : SqT K H' a xs := by
  rcases h with (h | ⟨o, h⟩) | h
  · exact .inl (.inl (k.1 _ _ h))
  · exact .inl (.inr ⟨o, k.2 _ _ _ h⟩)
  · exact .inr h
mutual
theorem dp_tk (k : Tk H H') : ∀ (d : PyData) (v : V), Dp K H v d → noL d = true → Dp K H' v d
  | .none, _, h, _ => by cases h; exact .non
  | .bool b, _, h, _ => by cases h; exact .bl b
  | .int i, _, h, _ => by cases h; exact .int i
  | .str x, _, h, _ => by cases h; exact .str x
  | .list ds, _, _, n => by rw [noL] at n; cases n
  | .dict kvs, _, _, n => by rw [noL] at n; cases n
  | .tuple ds, _, h, n => by
    rw [noL] at n
    cases h with
    | tup ha hr => exact .tup (SqT.tk k ha) (dpAll_tk k ds _ hr n)
theorem dpAll_tk (k : Tk H H') : ∀ (ds : List PyData) (vs : List V), DpAll K H vs ds → noLs ds = true → DpAll K H' vs ds
  | [], _, h, _ => by cases h; exact .nil
  | d :: ds, _, h, n => by
    rw [noLs_cons, Bool.and_eq_true] at n
    cases h with
    | cons h1 h2 => exact .cons (dp_tk k d _ h1 n.1) (dpAll_tk k ds _ h2 n.2)
end
theorem TV.tk {v : V} {d : PyData} (k : Tk H H') (h : TV K H v d) : TV K H' v d := ⟨dp_tk k d v h.1 h.2, h.2⟩
theorem TVs.tk {vs : List V} {ds : List PyData} (k : Tk H H') (h : TVs K H vs ds) : TVs K H' vs ds := ⟨dpAll_tk k ds vs h.1 h.2, h.2⟩
theorem TVs.nil : TVs K H [] [] := ⟨.nil, by simp [noLs]⟩
theorem TVs.cons {v : V} {d : PyData} {vs : List V} {ds : List PyData} (h : TV K H v d) (hs : TVs K H vs ds) : TVs K H (v :: vs) (d :: ds) := ⟨.cons h.1 hs.1, by rw [noLs_cons, h.2, hs.2]; rfl⟩
theorem TVs.inv {v : V} {d : PyData} {vs : List V} {ds : List PyData} (h : TVs K H (v :: vs) (d :: ds)) : TV K H v d ∧ TVs K H vs ds := by
  obtain ⟨h1, h2⟩ := h
  rw [noLs_cons, Bool.and_eq_true] at h2
  cases h1 with
  | cons a b => exact ⟨⟨a, h2.1⟩, b, h2.2⟩
theorem TVs.length : ∀ {vs : List V} {ds : List PyData}, TVs K H vs ds → vs.length = ds.length
  | [], [], _ => rfl
  | [], _ :: _, h => by cases h.1
  | _ :: _, [], h => by cases h.1
  | _ :: vs, _ :: ds, h => by rw [List.length_cons, List.length_cons, TVs.length h.inv.2]
theorem TVs.get : ∀ {vs : List V} {ds : List PyData} {i : Nat} {d : PyData}, TVs K H vs ds → ds[i]? = some d → ∃ v, vs[i]? = some v ∧ TV K H v d
  | [], [], _, _, _, e => by simp at e
  | [], _ :: _, _, _, h, _ => by cases h.1
  | _ :: _, [], _, _, h, _ => by cases h.1
  | v :: vs, d :: ds, 0, _, h, e => by
    have e2 : d = _ := Option.some.inj e
    subst e2
    exact ⟨v, rfl, h.inv.1⟩
  | v :: vs, d :: ds, i + 1, _, h, e => TVs.get (i := i) h.inv.2 e
theorem TVs.getV : ∀ {vs : List V} {ds : List PyData} {i : Nat} {v : V}, TVs K H vs ds → vs[i]? = some v → ∃ d, ds[i]? = some d ∧ TV K H v d
  | [], [], _, _, _, e => by simp at e
  | [], _ :: _, _, _, h, _ => by cases h.1
  | _ :: _, [], _, _, h, _ => by cases h.1
  | v :: vs, d :: ds, 0, _, h, e => by
    have e2 : v = _ := Option.some.inj e
    subst e2
    exact ⟨d, rfl, h.inv.1⟩
  | v :: vs, d :: ds, i + 1, _, h, e => TVs.getV (i := i) h.inv.2 e
theorem TVs.append : ∀ {vs ws : List V} {ds es : List PyData}, TVs K H vs ds → TVs K H ws es → TVs K H (vs ++ ws) (ds ++ es)
  | [], _, [], _, _, h => h
  | [], _, _ :: _, _, h, _ => by cases h.1
  | _ :: _, _, [], _, h, _ => by cases h.1
  | v :: vs, ws, d :: ds, es, h, h2 => .cons h.inv.1 (TVs.append h.inv.2 h2)
theorem TVs.set : ∀ {vs : List V} {ds : List PyData} {v : V} {d : PyData} (i : Nat), TVs K H vs ds → TV K H v d → TVs K H (vs.set i v) (ds.set i d)
  | [], [], _, _, _, _, _ => .nil
  | [], _ :: _, _, _, _, h, _ => by cases h.1
  | _ :: _, [], _, _, _, h, _ => by cases h.1
  | v :: vs, d :: ds, w, e, 0, h, h2 => .cons h2 h.inv.2
  | v :: vs, d :: ds, w, e, i + 1, h, h2 => .cons h.inv.1 (TVs.set i h.inv.2 h2)
theorem TVs.take : ∀ {vs : List V} {ds : List PyData} (n : Nat), TVs K H vs ds → TVs K H (vs.take n) (ds.take n)
  | _, _, 0, _ => .nil
  | [], [], _ + 1, _ => .nil
  | [], _ :: _, _ + 1, h => by cases h.1
  | _ :: _, [], _ + 1, h => by cases h.1
  | _ :: _, _ :: _, n + 1, h => .cons h.inv.1 (TVs.take n h.inv.2)
theorem TVs.drop : ∀ {vs : List V} {ds : List PyData} (n : Nat), TVs K H vs ds → TVs K H (vs.drop n) (ds.drop n)
  | _, _, 0, h => h
  | [], [], _ + 1, _ => .nil
  | [], _ :: _, _ + 1, h => by cases h.1
  | _ :: _, [], _ + 1, h => by cases h.1
  | _ :: _, _ :: _, n + 1, h => TVs.drop n h.inv.2
theorem TV.int {i : Int} : TV K H (.int i) (.int i) := ⟨.int i, by rw [noL]⟩
theorem TV.bl {b : Bool} : TV K H (.bl b) (.bool b) := ⟨.bl b, by rw [noL]⟩
theorem TV.non : TV K H .non .none := ⟨.non, by rw [noL]⟩
theorem TV.tup {a : Addr} {xs : List V} {ds : List PyData} (h : SqT K H a xs) (hs : TVs K H xs ds) : TV K H (.ref a) (.tuple ds) := ⟨.tup h hs.1, by rw [noL]; exact hs.2⟩
theorem TV.int_inv {v : V} {i : Int} (h : TV K H v (.int i)) : v = .int i := by
  obtain ⟨h, _⟩ := h
  cases h
  rfl
theorem TV.bl_inv {v : V} {b : Bool} (h : TV K H v (.bool b)) : v = .bl b := by
  obtain ⟨h, _⟩ := h
  cases h
  rfl
theorem TV.tup_inv {v : V} {ds : List PyData} (h : TV K H v (.tuple ds)) : ∃ a xs, v = .ref a ∧ SqT K H a xs ∧ TVs K H xs ds := by
  obtain ⟨h, n⟩ := h
  rw [noL] at n
  cases h with
  | tup ha hr => exact ⟨_, _, rfl, ha, hr, n⟩
theorem TVs.ints : ∀ {ns : List Int}, TVs K H (ns.map V.int) (ns.map PyData.int)
  | [] => .nil
  | _ :: _ => .cons .int .ints
theorem TVs.ints_inv : ∀ {vs : List V} {ns : List Int}, TVs K H vs (ns.map PyData.int) → vs = ns.map V.int
  | [], [], _ => rfl
  | [], _ :: _, h => by cases h.1
  | _ :: _, [], h => by cases h.1
  | v :: vs, n :: ns, h => by
    have h1 := h.inv.1.int_inv
    have h2 := TVs.ints_inv (vs := vs) (ns := ns) h.inv.2
    rw [List.map_cons, h1, h2]
end

/-! ### a world: what may change beside one's own -/
structure Wd where
  M : Addr → Prop
  J : Hp → Prop
  loc : ∀ H H' : Hp, J H → (∀ b, M b → H' b = H b) → J H'
  has : ∀ (H : Hp) (b : Addr), J H → M b → (∃ xs, H b = some (.lst xs)) ∨ ∃ kvs, H b = some (.dK kvs)
/-- nothing may change -/
def W0 : Wd := ⟨fun _ => False, fun _ => True, fun _ _ _ _ => trivial, fun _ _ _ h => h.elim⟩
def Kp (W : Wd) (H H' : Hp) : Prop := ∀ b o, H b = some o → ¬ W.M b → H' b = some o
def Gr (W : Wd) (H H' : Hp) : Prop := Kp W H H' ∧ W.J H'
section
variable {W : Wd} {H H' H1 H2 : Hp}
theorem Kp.refl : Kp W H H := fun _ _ h _ => h
theorem Kp.trans (a : Kp W H H1) (b : Kp W H1 H2) : Kp W H H2 := fun c o h n => b c o (a c o h n) n
theorem Gr.refl (j : W.J H) : Gr W H H := ⟨Kp.refl, j⟩
theorem Gr.trans (a : Gr W H H1) (b : Gr W H1 H2) : Gr W H H2 := ⟨a.1.trans b.1, b.2⟩
theorem Gr.of_same (j : W.J H) (s : Same H H') : Gr W H H' := ⟨fun b o h _ => s b o h, W.loc H H' j fun b hb => by
  rcases W.has H b j hb with ⟨xs, h⟩ | ⟨kvs, h⟩
  · rw [h]; exact s _ _ h
  · rw [h]; exact s _ _ h⟩
theorem noM_tup (j : W.J H) {b : Addr} {xs : List V} (h : H b = some (.tup xs)) : ¬ W.M b := fun m => by
  rcases W.has H b j m with ⟨xs, e⟩ | ⟨kvs, e⟩
  · rw [h] at e; cases e
  · rw [h] at e; cases e
theorem noM_frz (j : W.J H) {b : Addr} {o : Obj} {u : HO} (h : H b = some (.frz o u)) : ¬ W.M b := fun m => by
  rcases W.has H b j m with ⟨xs, e⟩ | ⟨kvs, e⟩
  · rw [h] at e; cases e
  · rw [h] at e; cases e
theorem noM_none (j : W.J H) {b : Addr} (h : H b = none) : ¬ W.M b := fun m => by
  rcases W.has H b j m with ⟨xs, e⟩ | ⟨kvs, e⟩
  · rw [h] at e; cases e
  · rw [h] at e; cases e
theorem Kp.tk (j : W.J H) (k : Kp W H H') : Tk H H' := ⟨fun _ _ h => k _ _ h (noM_tup j h), fun _ _ _ h => k _ _ h (noM_frz j h)⟩
theorem same_new {p : Addr} {o : HO} (h : H p = none) : Same H (upd H p o) := fun b x e => by
  rw [upd_ne (ne_of_none e h)]
  exact e
/-- a list is changed: tuples stay -/
theorem tk_lst {p : Addr} {ys zs : List V} (h : H p = some (.lst ys)) : Tk H (upd H p (.lst zs)) := ⟨fun a xs e => by
  rw [upd_ne (ne_of e h (by intro z; cases z))]; exact e, fun a o u e => by rw [upd_ne (ne_of e h (by intro z; cases z))]; exact e⟩
theorem J_upd (j : W.J H) {p : Addr} {o : HO} (m : ¬ W.M p) : W.J (upd H p o) := W.loc H _ j fun b hb => upd_ne fun e => m (e ▸ hb)
/-- free now, free before -/
theorem Kp.free (j : W.J H') (k : Kp W H H') {p : Addr} (h : H' p = none) : H p = none := by
  cases e : H p with
  | none => rfl
  | some o =>
    rw [k p o e (noM_none j h)] at h
    cases h
end

/-! ### lists that are read -/
def LsR (W : Wd) (H : Hp) (q : Addr) (xs : List V) : Prop := Rd H q (.lst xs) ∧ ¬ W.M q
theorem LsR.sq {K : Fg} {W : Wd} {H : Hp} {q : Addr} {xs : List V} (h : LsR W H q xs) : SqL K H q xs := .inl h.1
theorem LsR.kp {W : Wd} {H H' : Hp} {q : Addr} {xs : List V} (k : Kp W H H') (h : LsR W H q xs) : LsR W H' q xs := by
  rcases h with ⟨h | ⟨o, h⟩, m⟩
  · exact ⟨.inl (k _ _ h m), m⟩
  · exact ⟨.inr ⟨o, k _ _ h m⟩, m⟩
theorem LsR.ne {W : Wd} {H : Hp} {q p : Addr} {xs : List V} (h : LsR W H q xs) (n : H p = none) : q ≠ p := fun z => by
  subst z
  rcases h.1 with h | ⟨o, h⟩
  · rw [n] at h; cases h
  · rw [n] at h; cases h
theorem LsR.upd {W : Wd} {H : Hp} {q p : Addr} {xs : List V} {o : HO} (h : LsR W H q xs) (n : q ≠ p) : LsR W (L2.upd H p o) q xs := by
  rcases h with ⟨h | ⟨ob, h⟩, m⟩
  · exact ⟨.inl (by rw [upd_ne n]; exact h), m⟩
  · exact ⟨.inr ⟨ob, by rw [upd_ne n]; exact h⟩, m⟩

/-! ### slots by data -/
inductive SD where
  | d (x : PyData) | s (ds : List PyData) | l (ds : List PyData) | u | r (a : Addr)
def SlotOk (K : Fg) (W : Wd) (H0 H : Hp) (o : Option (Option V)) : SD → Prop
  | .d x => ∃ v, o = some (some v) ∧ TV K H v x
  | .s ds => ∃ q xs, o = some (some (.ref q)) ∧ LsR W H q xs ∧ TVs K H xs ds
  | .l ds => ∃ p xs, o = some (some (.ref p)) ∧ H0 p = none ∧ ¬ W.M p ∧ H p = some (.lst xs) ∧ TVs K H xs ds
  | .u => True
  | .r a => o = some (some (.ref a))
/-- no slot shares one's own list -/
def SepOk (σ : L2.St) (ρ : List SD) : Prop := ∀ (i j : Nat) (p : Addr) (ds : List PyData), ρ[i]? = some (.l ds) → σ[i]? = some (some (.ref p)) → σ[j]? = some (some (.ref p)) → i ≠ j →
  (∀ es, ρ[j]? ≠ some (.l es)) ∧ ∀ es, ρ[j]? ≠ some (.s es)
structure Env (K : Fg) (W : Wd) (H0 : Hp) (σ : L2.St) (H : Hp) (ρ : List SD) : Prop where
  len : σ.length = ρ.length
  j : W.J H
  kp : Kp W H0 H
  slot : ∀ (i : Nat) (sd : SD), ρ[i]? = some sd → SlotOk K W H0 H σ[i]? sd
  sep : SepOk σ ρ
end Hd

set_option Elab.async false
set_option linter.all false
set_option maxRecDepth 100000
set_option maxHeartbeats 4000000
namespace Hd
open PySem PySem.Spec PyProof.Rows L2
section
variable {K : Fg} {W : Wd} {H0 H H' H2 : Hp} {σ : L2.St} {ρ ρ' : List SD}
/-! ### environments: transport -/
theorem Env.gr (e : Env K W H0 σ H ρ) (g : Gr W H H') : Env K W H0 σ H' ρ := by
  refine ⟨e.len, g.2, e.kp.trans g.1, fun i sd hi => ?_, e.sep⟩
  have t := g.1.tk e.j
  have h := e.slot i sd hi
  cases sd with
  | d x => obtain ⟨v, e1, e2⟩ := h; exact ⟨v, e1, e2.tk t⟩
  | s ds => obtain ⟨q, xs, e1, e2, e3⟩ := h; exact ⟨q, xs, e1, e2.kp g.1, e3.tk t⟩
  | l ds => obtain ⟨p, xs, e1, e2, e3, e4, e5⟩ := h; exact ⟨p, xs, e1, e2, e3, g.1 _ _ e4 e3, e5.tk t⟩
  | u => trivial
  | r a => exact h
theorem Env.same (e : Env K W H0 σ H ρ) (s : Same H H') : Env K W H0 σ H' ρ := e.gr (.of_same e.j s)
theorem Env.new (e : Env K W H0 σ H ρ) {p : Addr} (h : H p = none) : H0 p = none ∧ ¬ W.M p := ⟨e.kp.free e.j h, noM_none e.j h⟩
theorem Env.lt (e : Env K W H0 σ H ρ) {i : Nat} {sd : SD} (hi : ρ[i]? = some sd) : i < σ.length := by
  rw [e.len]
  exact (List.getElem?_eq_some_iff.mp hi).1
theorem set_at {α : Type} {l : List α} {i j : Nat} {x y : α} (h : (l.set i x)[j]? = some y) : (i = j ∧ i < l.length ∧ y = x) ∨ (i ≠ j ∧ l[j]? = some y) := by
  rw [List.getElem?_set] at h
  by_cases c : i = j
  · rw [if_pos c] at h
    split at h
    · rename_i hl
      cases h
      exact .inl ⟨c, hl, rfl⟩
    · cases h
  · rw [if_neg c] at h
    exact .inr ⟨c, h⟩
theorem at_set {α : Type} {l : List α} {i : Nat} {x : α} (h : i < l.length) : (l.set i x)[i]? = some x := by
  rw [List.getElem?_set, if_pos rfl, if_pos h]
/-- a datum is put into a slot -/
theorem Env.setD (e : Env K W H0 σ H ρ) {v : V} {x : PyData} (h : TV K H v x) (i : Nat) : Env K W H0 (σ.set i (some v)) H (ρ.set i (.d x)) := by
  refine ⟨by rw [List.length_set, List.length_set, e.len], e.j, e.kp, fun j sd hj => ?_, fun j k p ds hj a b ne => ?_⟩
  · rcases set_at hj with ⟨c, hl, z⟩ | ⟨c, hj⟩
    · subst c z
      exact ⟨v, at_set (by rw [e.len]; exact hl), h⟩
    · have := e.slot j sd hj
      rw [List.getElem?_set_ne c]
      exact this
  · rcases set_at hj with ⟨c, hl, z⟩ | ⟨c, hj⟩
    · cases z
    · rw [List.getElem?_set_ne c] at a
      refine ⟨fun es z => ?_, fun es z => ?_⟩
      · rcases set_at z with ⟨c2, _, z⟩ | ⟨c2, z⟩
        · cases z
        · rw [List.getElem?_set_ne c2] at b
          exact (e.sep j k p ds hj a b ne).1 es z
      · rcases set_at z with ⟨c2, _, z⟩ | ⟨c2, z⟩
        · cases z
        · rw [List.getElem?_set_ne c2] at b
          exact (e.sep j k p ds hj a b ne).2 es z
/-- a slot's list stands at a place that was met -/
theorem Env.ne_new (e : Env K W H0 σ H ρ) {p q : Addr} {j : Nat} {es : List PyData} (hp : H p = none) (hj : ρ[j]? = some (.l es) ∨ ρ[j]? = some (.s es)) (hq : σ[j]? = some (some (.ref q))) : q ≠ p := by
  intro z
  subst z
  rcases hj with hj | hj
  · obtain ⟨p2, ys, a1, _, _, a4, _⟩ := e.slot j _ hj
    rw [hq] at a1
    cases a1
    rw [hp] at a4
    cases a4
  · obtain ⟨q2, ys, a1, a2, _⟩ := e.slot j _ hj
    rw [hq] at a1
    cases a1
    exact a2.ne hp rfl
/-- a new list is put into a slot -/
theorem Env.setL (e : Env K W H0 σ H ρ) (g : Gr W H H') {p : Addr} {xs : List V} {ds : List PyData} (hp : H p = none) (h' : H' p = some (.lst xs)) (h : TVs K H' xs ds) (i : Nat) : Env K W H0 (σ.set i (some (.ref p))) H' (ρ.set i (.l ds)) := by
  have e' := e.gr g
  obtain ⟨n0, nM⟩ := e.new hp
  refine ⟨by rw [List.length_set, List.length_set, e.len], e'.j, e'.kp, fun j sd hj => ?_, fun j k q ds' hj a b ne => ?_⟩
  · rcases set_at hj with ⟨c, hl, z⟩ | ⟨c, hj⟩
    · subst c z
      exact ⟨p, xs, at_set (by rw [e.len]; exact hl), n0, nM, h', h⟩
    · have := e'.slot j sd hj
      rw [List.getElem?_set_ne c]
      exact this
  · rcases set_at a with ⟨c, _, z⟩ | ⟨c, a⟩
    · have c2 : i ≠ k := c ▸ ne
      cases z
      rw [List.getElem?_set_ne c2] at b
      refine ⟨fun es z => ?_, fun es z => ?_⟩
      · rw [List.getElem?_set_ne c2] at z
        exact e.ne_new hp (.inl z) b rfl
      · rw [List.getElem?_set_ne c2] at z
        exact e.ne_new hp (.inr z) b rfl
    · rw [List.getElem?_set_ne c] at hj
      rcases set_at b with ⟨c2, _, z⟩ | ⟨c2, b⟩
      · cases z
        exact absurd rfl (e.ne_new hp (.inl hj) a)
      · rw [List.getElem?_set_ne c2]
        exact e.sep j k q ds' hj a b ne
/-- an own list changes -/
theorem Env.upd (e : Env K W H0 σ H ρ) {i : Nat} {p : Addr} {ds es : List PyData} {ys zs : List V} (hi : ρ[i]? = some (.l ds)) (hs : σ[i]? = some (some (.ref p))) (hp : H p = some (.lst ys)) (h : TVs K H zs es) :
    Env K W H0 σ (L2.upd H p (.lst zs)) (ρ.set i (.l es)) := by
  obtain ⟨p2, xs2, a1, n0, nM, a4, _⟩ := e.slot i _ hi
  rw [hs] at a1
  cases a1
  have t : Tk H (L2.upd H p (.lst zs)) := tk_lst hp
  refine ⟨by rw [List.length_set, e.len], J_upd e.j nM, fun b o hb hm => ?_, fun j sd hj => ?_, fun j k q ds' hj a b ne => ?_⟩
  · have : b ≠ p := fun z => by rw [z, n0] at hb; cases hb
    rw [upd_ne this]
    exact e.kp b o hb hm
  · rcases set_at hj with ⟨c, hl, z⟩ | ⟨c, hj⟩
    · subst c z
      exact ⟨p, zs, hs, n0, nM, upd_same, h.tk t⟩
    · have hsl := e.slot j sd hj
      cases sd with
      | d x => obtain ⟨v, e1, e2⟩ := hsl; exact ⟨v, e1, e2.tk t⟩
      | u => trivial
      | r a => exact hsl
      | l ds' =>
        obtain ⟨p', xs', e1, e2, e3, e4, e5⟩ := hsl
        have : p' ≠ p := fun z => by
          subst z
          exact (e.sep i j p' ds hi hs e1 c).1 ds' hj
        exact ⟨p', xs', e1, e2, e3, by rw [upd_ne this]; exact e4, e5.tk t⟩
      | s ds' =>
        obtain ⟨q, xs', e1, e2, e3⟩ := hsl
        have : q ≠ p := fun z => by
          subst z
          exact (e.sep i j q ds hi hs e1 c).2 ds' hj
        exact ⟨q, xs', e1, e2.upd this, e3.tk t⟩
  · have hj' : ∃ ds2, ρ[j]? = some (.l ds2) := by
      rcases set_at hj with ⟨c, hl, z⟩ | ⟨c, hj⟩
      · exact ⟨ds, c ▸ hi⟩
      · exact ⟨ds', hj⟩
    obtain ⟨ds2, hj'⟩ := hj'
    obtain ⟨s1, s2⟩ := e.sep j k q ds2 hj' a b ne
    refine ⟨fun es' z => ?_, fun es' z => ?_⟩
    · rcases set_at z with ⟨c, _, z⟩ | ⟨c, z⟩
      · exact s1 ds (c ▸ hi)
      · exact s1 es' z
    · rcases set_at z with ⟨c, _, z⟩ | ⟨c, z⟩
      · cases z
      · exact s2 es' z
/-- a list that no slot shares changes -/
theorem Env.updNew (e : Env K W H0 σ H ρ) {p : Addr} {ys zs : List V} (n0 : H0 p = none) (nM : ¬ W.M p) (hp : H p = some (.lst ys)) (hno : ∀ (j : Nat) (es : List PyData), (ρ[j]? = some (.l es) ∨ ρ[j]? = some (.s es)) → σ[j]? ≠ some (some (.ref p))) :
    Env K W H0 σ (L2.upd H p (.lst zs)) ρ := by
  have t : Tk H (L2.upd H p (.lst zs)) := tk_lst hp
  refine ⟨e.len, J_upd e.j nM, fun b o hb hm => ?_, fun j sd hj => ?_, e.sep⟩
  · have : b ≠ p := fun z => by rw [z, n0] at hb; cases hb
    rw [upd_ne this]
    exact e.kp b o hb hm
  · have hsl := e.slot j sd hj
    cases sd with
    | d x => obtain ⟨v, e1, e2⟩ := hsl; exact ⟨v, e1, e2.tk t⟩
    | u => trivial
    | r a => exact hsl
    | l ds' =>
      obtain ⟨p', xs', e1, e2, e3, e4, e5⟩ := hsl
      have : p' ≠ p := fun z => by
        subst z
        exact hno j ds' (.inl hj) e1
      exact ⟨p', xs', e1, e2, e3, by rw [upd_ne this]; exact e4, e5.tk t⟩
    | s ds' =>
      obtain ⟨q, xs', e1, e2, e3⟩ := hsl
      have : q ≠ p := fun z => by
        subst z
        exact hno j ds' (.inr hj) e1
      exact ⟨q, xs', e1, e2.upd this, e3.tk t⟩
/-- less is known -/
def Wk (ρ ρ' : List SD) : Prop := ρ'.length = ρ.length ∧ ∀ (i : Nat) (sd : SD), ρ'[i]? = some sd → sd = .u ∨ ρ[i]? = some sd
theorem Wk.refl : Wk ρ ρ := ⟨rfl, fun _ _ h => .inr h⟩
theorem Env.wk (e : Env K W H0 σ H ρ) (w : Wk ρ ρ') : Env K W H0 σ H ρ' := by
  refine ⟨e.len.trans w.1.symm, e.j, e.kp, fun i sd hi => ?_, fun i j p ds hi a b ne => ?_⟩
  · rcases w.2 i sd hi with z | z
    · subst z; trivial
    · exact e.slot i sd z
  · rcases w.2 i _ hi with z | z
    · cases z
    · obtain ⟨s1, s2⟩ := e.sep i j p ds z a b ne
      refine ⟨fun es q => ?_, fun es q => ?_⟩
      · rcases w.2 j _ q with z | z
        · cases z
        · exact s1 es z
      · rcases w.2 j _ q with z | z
        · cases z
        · exact s2 es z
/-- a decided look -/
def sdU : SD → Bool
  | .u => true
  | _ => false
theorem wk_nil : Wk [] [] := Wk.refl
theorem wk_u {x : SD} (h : Wk ρ ρ') : Wk (x :: ρ) (.u :: ρ') := ⟨by rw [List.length_cons, List.length_cons, h.1], fun i sd hi => by
  cases i with
  | zero => cases hi; exact .inl rfl
  | succ i => exact h.2 i sd hi⟩
theorem wk_same {x : SD} (h : Wk ρ ρ') : Wk (x :: ρ) (x :: ρ') := ⟨by rw [List.length_cons, List.length_cons, h.1], fun i sd hi => by
  cases i with
  | zero => exact .inr hi
  | succ i => exact h.2 i sd hi⟩
/-- an own list is read from now on -/
theorem Env.l_s (e : Env K W H0 σ H ρ) {i : Nat} {ds : List PyData} (hi : ρ[i]? = some (.l ds)) : Env K W H0 σ H (ρ.set i (.s ds)) := by
  obtain ⟨p, xs, a1, n0, nM, a4, a5⟩ := e.slot i _ hi
  refine ⟨by rw [List.length_set, e.len], e.j, e.kp, fun j sd hj => ?_, fun j k q ds' hj a b ne => ?_⟩
  · rcases set_at hj with ⟨c, hl, z⟩ | ⟨c, hj⟩
    · subst c z
      exact ⟨p, xs, a1, ⟨.inl a4, nM⟩, a5⟩
    · exact e.slot j sd hj
  · rcases set_at hj with ⟨c, hl, z⟩ | ⟨c, hj⟩
    · cases z
    · obtain ⟨s1, s2⟩ := e.sep j k q ds' hj a b ne
      refine ⟨fun es' z => ?_, fun es' z => ?_⟩
      · rcases set_at z with ⟨c, _, z⟩ | ⟨c, z⟩
        · cases z
        · exact s1 es' z
      · rcases set_at z with ⟨c, _, z⟩ | ⟨c, z⟩
        · exact s1 ds (c ▸ hi)
        · exact s2 es' z
/-! ### a firmer ground -/
def Up (W : Wd) (H0 H0' : Hp) : Prop := Kp W H0 H0'
/-- what stands now, but one's own lists -/
noncomputable def ground (H : Hp) (σ : L2.St) (ρ : List SD) : Hp := fun b => by
  classical
  exact if ∃ (i : Nat) (ds : List PyData), ρ[i]? = some (.l ds) ∧ σ[i]? = some (some (.ref b)) then none else H b
theorem ground_out {b : Addr} (h : ¬ ∃ (i : Nat) (ds : List PyData), ρ[i]? = some (.l ds) ∧ σ[i]? = some (some (.ref b))) : ground H σ ρ b = H b := by
  unfold ground
  exact if_neg h
theorem ground_in {b : Addr} {i : Nat} {ds : List PyData} (h1 : ρ[i]? = some (.l ds)) (h2 : σ[i]? = some (some (.ref b))) : ground H σ ρ b = none := by
  unfold ground
  exact if_pos ⟨i, ds, h1, h2⟩
theorem ground_sub {b : Addr} {o : HO} (h : ground H σ ρ b = some o) : H b = some o := by
  by_cases c : ∃ (i : Nat) (ds : List PyData), ρ[i]? = some (.l ds) ∧ σ[i]? = some (some (.ref b))
  · obtain ⟨i, ds, h1, h2⟩ := c
    rw [ground_in h1 h2] at h
    cases h
  · rw [ground_out c] at h
    exact h
theorem Env.ground_up (e : Env K W H0 σ H ρ) : Up W H0 (ground H σ ρ) := fun b o hb hm => by
  rw [ground_out]
  · exact e.kp b o hb hm
  · rintro ⟨i, ds, h1, h2⟩
    obtain ⟨p, xs, a1, n0, _⟩ := e.slot i _ h1
    rw [h2] at a1
    cases a1
    rw [n0] at hb
    cases hb
theorem Env.ground (e : Env K W H0 σ H ρ) : Env K W (ground H σ ρ) σ H ρ := by
  refine ⟨e.len, e.j, fun b o hb _ => ground_sub hb, fun i sd hi => ?_, e.sep⟩
  have h := e.slot i sd hi
  cases sd with
  | d x => exact h
  | s ds => exact h
  | u => trivial
  | r a => exact h
  | l ds =>
    obtain ⟨p, xs, a1, _, a3, a4⟩ := h
    exact ⟨p, xs, a1, ground_in hi a1, a3, a4⟩
/-- back to the old ground -/
theorem Env.down {H0' : Hp} (e : Env K W H0' σ H ρ) (u : Up W H0 H0') : Env K W H0 σ H ρ := by
  refine ⟨e.len, e.j, Kp.trans u e.kp, fun i sd hi => ?_, e.sep⟩
  have h := e.slot i sd hi
  cases sd with
  | d x => exact h
  | s ds => exact h
  | u => trivial
  | r a => exact h
  | l ds =>
    obtain ⟨p, xs, a1, a2, a3, a4⟩ := h
    refine ⟨p, xs, a1, ?_, a3, a4⟩
    cases q : H0 p with
    | none => rfl
    | some o =>
      rw [u p o q a3] at a2
      cases a2
end
end Hd

set_option Elab.async false
set_option linter.all false
set_option maxRecDepth 100000
set_option maxHeartbeats 4000000
namespace Hd
open PySem PySem.Spec PyProof.Rows L2
/-! ### what evaluates to what -/
section
variable (K : Fg) (W : Wd) (H0 : Hp)
def ED (te : TE) (ρ : List SD) (x : PyData) : Prop := ∀ σ H, Env K W H0 σ H ρ → ∀ Q : VK, (∀ v H2, Gr W H H2 → TV K H2 v x → Q v H2) → te σ H Q
/-- a list that may be read -/
def EL (te : TE) (ρ : List SD) (ds : List PyData) : Prop := ∀ σ H, Env K W H0 σ H ρ → ∀ Q : VK, (∀ q xs H2, Gr W H H2 → LsR W H2 q xs → TVs K H2 xs ds → Q (.ref q) H2) → te σ H Q
/-- a new list -/
def EN (te : TE) (ρ : List SD) (ds : List PyData) : Prop := ∀ σ H, Env K W H0 σ H ρ → ∀ Q : VK, (∀ p xs H2, Gr W H H2 → H p = none → H2 p = some (.lst xs) → TVs K H2 xs ds → Q (.ref p) H2) → te σ H Q
def ET (tt : TT) (ρ : List SD) (b : Bool) : Prop := ∀ σ H, Env K W H0 σ H ρ → ∀ Q : Bool → Hp → Prop, (∀ H2, Gr W H H2 → Q b H2) → tt σ H Q
inductive AD where
  | d (x : PyData) | s (ds : List PyData) | r (a : Addr)
def AOk (H : Hp) (v : V) : AD → Prop
  | .d x => TV K H v x
  | .s ds => ∃ q xs, v = .ref q ∧ LsR W H q xs ∧ TVs K H xs ds
  | .r a => v = .ref a
def AsOk (H : Hp) (vs : List V) (as : List AD) : Prop := Paired (AOk K W H) vs as
def EA (ta : TA) (ρ : List SD) (as : List AD) : Prop := ∀ σ H, Env K W H0 σ H ρ → ∀ Q : List V → Hp → Prop, (∀ vs H2, Gr W H H2 → AsOk K W H2 vs as → Q vs H2) → ta σ H Q
/-- data alone -/
def EDs (ta : TA) (ρ : List SD) (xs : List PyData) : Prop := ∀ σ H, Env K W H0 σ H ρ → ∀ Q : List V → Hp → Prop, (∀ vs H2, Gr W H H2 → TVs K H2 vs xs → Q vs H2) → ta σ H Q
def Nx (f : L2.St → Hp → Prop) (ρ : List SD) : Prop := ∀ σ H, Env K W H0 σ H ρ → f σ H
end
section
variable {K : Fg} {W : Wd} {H0 H H' H2 : Hp} {σ : L2.St} {ρ ρ' : List SD} {te ta tb tc : TE} {x y z : PyData} {tt tu : TT}
theorem EN.el {ds : List PyData} (h : EN K W H0 te ρ ds) : EL K W H0 te ρ ds := fun σ H e Q q => h σ H e Q fun p xs H2 g hp h2 hs => q p xs H2 g ⟨.inl h2, noM_none e.j hp⟩ hs
theorem ed_wk (w : Wk ρ ρ') (h : ED K W H0 te ρ' x) : ED K W H0 te ρ x := fun σ H e Q q => h σ H (e.wk w) Q q
theorem ed_is (h : ED K W H0 te ρ x) (e : x = y) : ED K W H0 te ρ y := e ▸ h
theorem et_is {a b : Bool} (h : ET K W H0 tt ρ a) (e : a = b) : ET K W H0 tt ρ b := e ▸ h
theorem en_is {ds es : List PyData} (h : EN K W H0 te ρ ds) (e : ds = es) : EN K W H0 te ρ es := e ▸ h
theorem el_is {ds es : List PyData} (h : EL K W H0 te ρ ds) (e : ds = es) : EL K W H0 te ρ es := e ▸ h
/-! ### names, constants -/
theorem ed_var {i : Nat} (h : ρ[i]? = some (.d x)) : ED K W H0 (tVar i) ρ x := fun σ H e Q q => by
  obtain ⟨v, e1, e2⟩ := e.slot i _ h
  exact ⟨v, e1, q v H (Gr.refl e.j) e2⟩
theorem el_vars {i : Nat} {ds : List PyData} (h : ρ[i]? = some (.s ds)) : EL K W H0 (tVar i) ρ ds := fun σ H e Q q => by
  obtain ⟨a, xs, e1, e2, e3⟩ := e.slot i _ h
  exact ⟨.ref a, e1, q a xs H (Gr.refl e.j) e2 e3⟩
theorem el_varl {i : Nat} {ds : List PyData} (h : ρ[i]? = some (.l ds)) : EL K W H0 (tVar i) ρ ds := fun σ H e Q q => by
  obtain ⟨a, xs, e1, _, e2, e3, e4⟩ := e.slot i _ h
  exact ⟨.ref a, e1, q a xs H (Gr.refl e.j) ⟨.inl e3, e2⟩ e4⟩
theorem ed_int {i : Int} : ED K W H0 (tC (.int i)) ρ (.int i) := fun σ H e Q q => q _ H (Gr.refl e.j) .int
theorem ed_bl {b : Bool} : ED K W H0 (tC (.bl b)) ρ (.bool b) := fun σ H e Q q => q _ H (Gr.refl e.j) .bl
theorem ed_non : ED K W H0 (tC .non) ρ .none := fun σ H e Q q => q _ H (Gr.refl e.j) .non
/-! ### operators -/
theorem ed_opI {C : Int → Int → Prop} {g : Int → Int → Int} {i j : Int} (ha : ED K W H0 ta ρ (.int i)) (hb : ED K W H0 tb ρ (.int j)) (hc : C i j) : ED K W H0 (tOp (rI C fun i j => .int (g i j)) ta tb) ρ (.int (g i j)) := fun σ H e Q q =>
  ha σ H e _ fun v H1 g1 t1 => hb σ H1 (e.gr g1) _ fun w H2 g2 t2 => ⟨i, j, t1.int_inv, t2.int_inv, hc, q _ H2 (g1.trans g2) .int⟩
theorem ed_opI0 {g : Int → Int → Int} {i j : Int} (ha : ED K W H0 ta ρ (.int i)) (hb : ED K W H0 tb ρ (.int j)) : ED K W H0 (tOp (rI0 fun i j => .int (g i j)) ta tb) ρ (.int (g i j)) := fun σ H e Q q =>
  ha σ H e _ fun v H1 g1 t1 => hb σ H1 (e.gr g1) _ fun w H2 g2 t2 => ⟨i, j, t1.int_inv, t2.int_inv, q _ H2 (g1.trans g2) .int⟩
theorem ed_opB0 {g : Int → Int → Bool} {i j : Int} (ha : ED K W H0 ta ρ (.int i)) (hb : ED K W H0 tb ρ (.int j)) : ED K W H0 (tOp (rI0 fun i j => .bl (g i j)) ta tb) ρ (.bool (g i j)) := fun σ H e Q q =>
  ha σ H e _ fun v H1 g1 t1 => hb σ H1 (e.gr g1) _ fun w H2 g2 t2 => ⟨i, j, t1.int_inv, t2.int_inv, q _ H2 (g1.trans g2) .bl⟩
/-- == of ints -/
theorem ed_eqI {i j : Int} (ha : ED K W H0 ta ρ (.int i)) (hb : ED K W H0 tb ρ (.int j)) : ED K W H0 (tOp rEq ta tb) ρ (.bool (decide (i = j))) := fun σ H e Q q =>
  ha σ H e _ fun v H1 g1 t1 => hb σ H1 (e.gr g1) _ fun w H2 g2 t2 => by
    rw [t1.int_inv, t2.int_inv]
    refine ⟨rfl, ?_⟩
    have := q (.bl (decide (i = j))) H2 (g1.trans g2) .bl
    rw [dec_int]
    have e2 : (i == j) = decide (i = j) := by simp [BEq.beq]
    rw [e2]
    exact this
theorem ed_neI {i j : Int} (ha : ED K W H0 ta ρ (.int i)) (hb : ED K W H0 tb ρ (.int j)) : ED K W H0 (tOp rNe ta tb) ρ (.bool (!decide (i = j))) := fun σ H e Q q =>
  ha σ H e _ fun v H1 g1 t1 => hb σ H1 (e.gr g1) _ fun w H2 g2 t2 => by
    rw [t1.int_inv, t2.int_inv]
    refine ⟨rfl, ?_⟩
    have := q (.bl (!decide (i = j))) H2 (g1.trans g2) .bl
    rw [dec_int]
    have e2 : (i == j) = decide (i = j) := by simp [BEq.beq]
    rw [e2]
    exact this
/-- a chain of two int comparisons -/
theorem ed_chain {f g : Int → Int → Bool} {i j k : Int} (ha : ED K W H0 ta ρ (.int i)) (hb : ED K W H0 tb ρ (.int j)) (hc : ED K W H0 tc ρ (.int k)) :
    ED K W H0 (tChain (rI0 fun i j => .bl (f i j)) (rI0 fun i j => .bl (g i j)) ta tb tc) ρ (.bool (f i j && g j k)) := fun σ H e Q q =>
  ha σ H e _ fun v H1 g1 t1 => hb σ H1 (e.gr g1) _ fun w H2 g2 t2 => ⟨i, j, t1.int_inv, t2.int_inv, f i j, rfl, by
    cases c : f i j with
    | true =>
      rw [if_pos rfl]
      refine hc σ H2 (e.gr (g1.trans g2)) _ fun u H3 g3 t3 => ?_
      exact ⟨j, k, t2.int_inv, t3.int_inv, q _ H3 ((g1.trans g2).trans g3) (by rw [c]; exact .bl)⟩
    | false =>
      rw [if_neg Bool.false_ne_true]
      exact q _ H2 (g1.trans g2) (by rw [c]; exact .bl)⟩
/-! ### tests -/
theorem et_B {b : Bool} (h : ED K W H0 te ρ (.bool b)) : ET K W H0 (tB te) ρ b := fun σ H e Q q => h σ H e _ fun v H1 g t => ⟨b, t.bl_inv, q H1 g⟩
theorem et_test {b : Bool} (h : ED K W H0 te ρ (.bool b)) : ET K W H0 (tTest te) ρ b := fun σ H e Q q => h σ H e _ fun v H1 g t => ⟨b, t.bl_inv, q H1 g⟩
theorem et_and {a b : Bool} (h1 : ET K W H0 tt ρ a) (h2 : a = true → ET K W H0 tu ρ b) : ET K W H0 (tAnd tt tu) ρ (a && b) := fun σ H e Q q => h1 σ H e _ fun H1 g1 => by
  cases a with
  | true => exact iteT (h2 rfl σ H1 (e.gr g1) Q fun H2 g2 => q H2 (g1.trans g2))
  | false => exact iteF (q H1 g1)
theorem et_or {a b : Bool} (h1 : ET K W H0 tt ρ a) (h2 : a = false → ET K W H0 tu ρ b) : ET K W H0 (tOr tt tu) ρ (a || b) := fun σ H e Q q => h1 σ H e _ fun H1 g1 => by
  cases a with
  | true => exact iteT (q H1 g1)
  | false => exact iteF (h2 rfl σ H1 (e.gr g1) Q fun H2 g2 => q H2 (g1.trans g2))
theorem et_not {a : Bool} (h1 : ET K W H0 tt ρ a) : ET K W H0 (tNot tt) ρ (!a) := fun σ H e Q q => h1 σ H e _ fun H1 g1 => q H1 g1
theorem ed_and {a b : Bool} (h1 : ED K W H0 ta ρ (.bool a)) (h2 : a = true → ED K W H0 tb ρ (.bool b)) : ED K W H0 (tAndV ta tb) ρ (.bool (a && b)) := fun σ H e Q q => h1 σ H e _ fun v H1 g1 t1 => ⟨a, t1.bl_inv, by
  cases a with
  | true => exact iteT (h2 rfl σ H1 (e.gr g1) Q fun w H2 g2 t2 => q w H2 (g1.trans g2) t2)
  | false => exact iteF (q _ H1 g1 .bl)⟩
theorem ed_or {a b : Bool} (h1 : ED K W H0 ta ρ (.bool a)) (h2 : a = false → ED K W H0 tb ρ (.bool b)) : ED K W H0 (tOrV ta tb) ρ (.bool (a || b)) := fun σ H e Q q => h1 σ H e _ fun v H1 g1 t1 => ⟨a, t1.bl_inv, by
  cases a with
  | true => exact iteT (q _ H1 g1 .bl)
  | false => exact iteF (h2 rfl σ H1 (e.gr g1) Q fun w H2 g2 t2 => q w H2 (g1.trans g2) t2)⟩
theorem ed_not {a : Bool} (h1 : ED K W H0 ta ρ (.bool a)) : ED K W H0 (tNotV ta) ρ (.bool (!a)) := fun σ H e Q q => h1 σ H e _ fun v H1 g1 t1 => ⟨a, t1.bl_inv, q _ H1 g1 .bl⟩
theorem ed_if {b : Bool} (h : ET K W H0 tt ρ b) (h1 : b = true → ED K W H0 ta ρ x) (h2 : b = false → ED K W H0 tb ρ x) : ED K W H0 (tIf tt ta tb) ρ x := fun σ H e Q q => h σ H e _ fun H1 g1 => by
  cases b with
  | true => exact iteT (h1 rfl σ H1 (e.gr g1) Q fun w H2 g2 t2 => q w H2 (g1.trans g2) t2)
  | false => exact iteF (h2 rfl σ H1 (e.gr g1) Q fun w H2 g2 t2 => q w H2 (g1.trans g2) t2)
/-! ### arguments -/
theorem AOk.gr {v : V} {a : AD} (j : W.J H) (g : Gr W H H') (h : AOk K W H v a) : AOk K W H' v a := by
  cases a with
  | d x => exact TV.tk (g.1.tk j) h
  | s ds => obtain ⟨q, xs, e1, e2, e3⟩ := h; exact ⟨q, xs, e1, e2.kp g.1, e3.tk (g.1.tk j)⟩
  | r a => exact h
theorem ea_nil : EA K W H0 tNil ρ [] := fun σ H e Q q => q [] H (Gr.refl e.j) .nil
theorem ea_d {tr : TA} {as : List AD} (h : ED K W H0 te ρ x) (hr : EA K W H0 tr ρ as) : EA K W H0 (tCons te tr) ρ (.d x :: as) := fun σ H e Q q =>
  h σ H e _ fun v H1 g1 t1 => hr σ H1 (e.gr g1) _ fun vs H2 g2 a2 => q _ H2 (g1.trans g2) (.cons (AOk.gr (a := .d x) g1.2 g2 t1) a2)
theorem ea_s {tr : TA} {as : List AD} {ds : List PyData} (h : EL K W H0 te ρ ds) (hr : EA K W H0 tr ρ as) : EA K W H0 (tCons te tr) ρ (.s ds :: as) := fun σ H e Q q =>
  h σ H e _ fun p xs H1 g1 l1 t1 => hr σ H1 (e.gr g1) _ fun vs H2 g2 a2 => q _ H2 (g1.trans g2) (.cons (AOk.gr (a := .s ds) g1.2 g2 ⟨p, xs, rfl, l1, t1⟩) a2)
theorem eds_nil : EDs K W H0 tNil ρ [] := fun σ H e Q q => q [] H (Gr.refl e.j) .nil
theorem eds_cons {tr : TA} {xs : List PyData} (h : ED K W H0 te ρ x) (hr : EDs K W H0 tr ρ xs) : EDs K W H0 (tCons te tr) ρ (x :: xs) := fun σ H e Q q =>
  h σ H e _ fun v H1 g1 t1 => hr σ H1 (e.gr g1) _ fun vs H2 g2 a2 => q _ H2 (g1.trans g2) (.cons (t1.tk (g2.1.tk g1.2)) a2)
theorem EDs.one (h : ED K W H0 te ρ x) {Q : List V → Hp → Prop} (e : Env K W H0 σ H ρ) (q : ∀ v H2, Gr W H H2 → TV K H2 v x → Q [v] H2) : tCons te tNil σ H Q := h σ H e _ fun v H1 g t => q v H1 g t
/-! ### displays -/
theorem sz_of {n : Nat} (h : n ≤ 100000) : n ≤ sizeLine := Nat.le_trans h (by decide)
theorem sz_lt {n : Nat} (h : n < 100000) : n < sizeLine := Nat.lt_of_lt_of_le h (by decide)
theorem ed_tup {ts : TA} {xs : List PyData} (h : EDs K W H0 ts ρ xs) (hl : xs.length ≤ 100000) : ED K W H0 (tTup ts) ρ (.tuple xs) := fun σ H e Q q =>
  h σ H e _ fun vs H1 g1 t1 => ⟨by rw [t1.length]; exact sz_of hl, fun p hp => q _ _ (g1.trans (.of_same g1.2 (same_new hp))) (.tup (.inl (.inl upd_same)) (t1.tk (Kp.tk g1.2 (Gr.of_same g1.2 (same_new hp)).1)))⟩
theorem en_lst {ts : TA} {xs : List PyData} (h : EDs K W H0 ts ρ xs) (hl : xs.length ≤ 100000) : EN K W H0 (tLst ts) ρ xs := fun σ H e Q q =>
  h σ H e _ fun vs H1 g1 t1 => ⟨by rw [t1.length]; exact sz_of hl, fun p hp => q p vs _ (g1.trans (.of_same g1.2 (same_new hp))) (g1.1.free g1.2 hp) upd_same (t1.tk (Kp.tk g1.2 (Gr.of_same g1.2 (same_new hp)).1))⟩
/-! ### items, lengths -/
theorem ed_ixT {xs : List PyData} {i : Int} (ha : ED K W H0 ta ρ (.tuple xs)) (hb : ED K W H0 tb ρ (.int i)) (h0 : 0 ≤ i) (hx : xs[i.toNat]? = some x) : ED K W H0 (tOp (rIxT K) ta tb) ρ x := fun σ H e Q q =>
  ha σ H e _ fun v H1 g1 t1 => hb σ H1 (e.gr g1) _ fun w H2 g2 t2 => by
    obtain ⟨a, ys, e1, s1, r1⟩ := (t1.tk (g2.1.tk g1.2)).tup_inv
    obtain ⟨u, e2, r2⟩ := r1.get hx
    exact ⟨a, ys, i, u, e1, t2.int_inv, s1, (by rw [show i = ((i.toNat : Nat) : Int) by omega]; exact atI_nat e2), q u H2 (g1.trans g2) r2⟩
theorem ed_ixL {xs : List PyData} {i : Int} (ha : EL K W H0 ta ρ xs) (hb : ED K W H0 tb ρ (.int i)) (h0 : 0 ≤ i) (hx : xs[i.toNat]? = some x) : ED K W H0 (tOp (rIxL K) ta tb) ρ x := fun σ H e Q q =>
  ha σ H e _ fun a ys H1 g1 l1 t1 => hb σ H1 (e.gr g1) _ fun w H2 g2 t2 => by
    obtain ⟨u, e2, r2⟩ := (t1.tk (g2.1.tk g1.2)).get hx
    exact ⟨a, ys, i, u, rfl, t2.int_inv, (l1.kp g2.1).sq, (by rw [show i = ((i.toNat : Nat) : Int) by omega]; exact atI_nat e2), q u H2 (g1.trans g2) r2⟩
def rLenS (K : Fg) : List V → Hp → VK → Prop := fun xs H Q => ∃ p ys, xs = [.ref p] ∧ (SqL K H p ys ∨ SqT K H p ys) ∧ Q (.int ys.length) H
theorem ed_lenT {xs : List PyData} (ha : ED K W H0 ta ρ (.tuple xs)) : ED K W H0 (tCB (fun xs H Q => ∃ p ys, xs = [.ref p] ∧ (SqL K H p ys ∨ SqT K H p ys) ∧ Q (.int ys.length) H) (tCons ta tNil)) ρ (.int xs.length) := fun σ H e Q q =>
  ha σ H e _ fun v H1 g1 t1 => by
    obtain ⟨a, ys, e1, s1, r1⟩ := t1.tup_inv
    exact ⟨a, ys, by rw [e1], .inr s1, q _ H1 g1 (by rw [r1.length]; exact .int)⟩
theorem ed_lenL {xs : List PyData} (ha : EL K W H0 ta ρ xs) : ED K W H0 (tCB (fun xs H Q => ∃ p ys, xs = [.ref p] ∧ (SqL K H p ys ∨ SqT K H p ys) ∧ Q (.int ys.length) H) (tCons ta tNil)) ρ (.int xs.length) := fun σ H e Q q =>
  ha σ H e _ fun a ys H1 g1 l1 t1 => ⟨a, ys, rfl, .inl l1.sq, q _ H1 g1 (by rw [t1.length]; exact .int)⟩
/-! ### list(x), tuple(x) -/
theorem en_listT {xs : List PyData} (ha : ED K W H0 ta ρ (.tuple xs)) : EN K W H0 (tCB (fun xs H Q => ∃ p ys, xs = [.ref p] ∧ (SqL K H p ys ∨ SqT K H p ys) ∧ ∀ l, H l = none → Q (.ref l) (upd H l (.lst ys))) (tCons ta tNil)) ρ xs := fun σ H e Q q =>
  ha σ H e _ fun v H1 g1 t1 => by
    obtain ⟨a, ys, e1, s1, r1⟩ := t1.tup_inv
    exact ⟨a, ys, by rw [e1], .inr s1, fun l hl => q l ys _ (g1.trans (.of_same g1.2 (same_new hl))) (g1.1.free g1.2 hl) upd_same (r1.tk (Kp.tk g1.2 (Gr.of_same g1.2 (same_new hl)).1))⟩
theorem en_listL {xs : List PyData} (ha : EL K W H0 ta ρ xs) : EN K W H0 (tCB (fun xs H Q => ∃ p ys, xs = [.ref p] ∧ (SqL K H p ys ∨ SqT K H p ys) ∧ ∀ l, H l = none → Q (.ref l) (upd H l (.lst ys))) (tCons ta tNil)) ρ xs := fun σ H e Q q =>
  ha σ H e _ fun a ys H1 g1 l1 t1 => ⟨a, ys, rfl, .inl l1.sq, fun l hl => q l ys _ (g1.trans (.of_same g1.2 (same_new hl))) (g1.1.free g1.2 hl) upd_same (t1.tk (Kp.tk g1.2 (Gr.of_same g1.2 (same_new hl)).1))⟩
theorem ed_tupL {xs : List PyData} (ha : EL K W H0 ta ρ xs) : ED K W H0 (tCB (fun xs H Q => ∃ p ys, xs = [.ref p] ∧ ((SqL K H p ys ∧ ∀ l, H l = none → Q (.ref l) (upd H l (.tup ys))) ∨ (SqT K H p ys ∧ Q (.ref p) H))) (tCons ta tNil)) ρ (.tuple xs) := fun σ H e Q q =>
  ha σ H e _ fun a ys H1 g1 l1 t1 => ⟨a, ys, rfl, .inl ⟨l1.sq, fun l hl => q _ _ (g1.trans (.of_same g1.2 (same_new hl))) (.tup (.inl (.inl upd_same)) (t1.tk (Kp.tk g1.2 (Gr.of_same g1.2 (same_new hl)).1)))⟩⟩
/-! ### == of data -/
theorem TV.dp {v : V} (h : TV K H v x) : Dp K H v x := h.1
theorem LsR.dp {q : Addr} {xs : List V} {ds : List PyData} (l : LsR W H q xs) (h : TVs K H xs ds) : Dp K H (.ref q) (.list ds) := .lst l.sq h.1
theorem ed_eqD (ha : ED K W H0 ta ρ x) (hb : ED K W H0 tb ρ y) (hx : SeqAt.shaped x = true) (hy : SeqAt.shaped y = true) : ED K W H0 (tOp (rEqD K) ta tb) ρ (.bool (PyData.eqv x y)) := fun σ H e Q q =>
  ha σ H e _ fun v H1 g1 t1 => hb σ H1 (e.gr g1) _ fun w H2 g2 t2 => ⟨x, y, (t1.tk (g2.1.tk g1.2)).1, t2.1, hx, hy, q _ H2 (g1.trans g2) .bl⟩
theorem ed_neD (ha : ED K W H0 ta ρ x) (hb : ED K W H0 tb ρ y) (hx : SeqAt.shaped x = true) (hy : SeqAt.shaped y = true) : ED K W H0 (tOp (rNeD K) ta tb) ρ (.bool (!PyData.eqv x y)) := fun σ H e Q q =>
  ha σ H e _ fun v H1 g1 t1 => hb σ H1 (e.gr g1) _ fun w H2 g2 t2 => ⟨x, y, (t1.tk (g2.1.tk g1.2)).1, t2.1, hx, hy, q _ H2 (g1.trans g2) .bl⟩
theorem ed_eqL {xs ys : List PyData} (ha : EL K W H0 ta ρ xs) (hb : EL K W H0 tb ρ ys) (hx : SeqAt.shaped (.list xs) = true) (hy : SeqAt.shaped (.list ys) = true) : ED K W H0 (tOp (rEqD K) ta tb) ρ (.bool (PyData.eqv (.list xs) (.list ys))) := fun σ H e Q q =>
  ha σ H e _ fun a as H1 g1 l1 t1 => hb σ H1 (e.gr g1) _ fun b bs H2 g2 l2 t2 => ⟨.list xs, .list ys, (l1.kp g2.1).dp (t1.tk (g2.1.tk g1.2)), l2.dp t2, hx, hy, q _ H2 (g1.trans g2) .bl⟩
theorem ed_neL {xs ys : List PyData} (ha : EL K W H0 ta ρ xs) (hb : EL K W H0 tb ρ ys) (hx : SeqAt.shaped (.list xs) = true) (hy : SeqAt.shaped (.list ys) = true) : ED K W H0 (tOp (rNeD K) ta tb) ρ (.bool (!PyData.eqv (.list xs) (.list ys))) := fun σ H e Q q =>
  ha σ H e _ fun a as H1 g1 l1 t1 => hb σ H1 (e.gr g1) _ fun b bs H2 g2 l2 t2 => ⟨.list xs, .list ys, (l1.kp g2.1).dp (t1.tk (g2.1.tk g1.2)), l2.dp t2, hx, hy, q _ H2 (g1.trans g2) .bl⟩
/-! ### calls -/
inductive RD where
  | d (x : PyData) | n (ds : List PyData)
def ResOk (K : Fg) (H H2 : Hp) (v : V) : RD → Prop
  | .d x => TV K H2 v x
  | .n ds => ∃ p xs, v = .ref p ∧ H p = none ∧ H2 p = some (.lst xs) ∧ TVs K H2 xs ds
/-- a pure def: from such data that -/
def PSp (K : Fg) (R : List AD → RD → Prop) : Sp := fun vs H Q _ => ∃ as rd, AsOk K W0 H vs as ∧ R as rd ∧ ∀ v H2, Same H H2 → ResOk K H H2 v rd → Q v H2
theorem AOk.w0 {v : V} {a : AD} (h : AOk K W H v a) : AOk K W0 H v a := by
  cases a with
  | d x => exact h
  | s ds => obtain ⟨q, xs, e1, e2, e3⟩ := h; exact ⟨q, xs, e1, ⟨e2.1, fun z => z⟩, e3⟩
  | r a => exact h
theorem AsOk.w0 : ∀ {vs : List V} {as : List AD}, AsOk K W H vs as → AsOk K W0 H vs as
  | _, _, .nil => .nil
  | _, _, .cons a b => .cons a.w0 (AsOk.w0 b)
theorem ed_call {R : List AD → RD → Prop} {E : XK} {ts : TA} {as : List AD} (h : EA K W H0 ts ρ as) (r : R as (.d x)) : ED K W H0 (tCall (PSp K R) [] E ts) ρ x := fun σ H e Q q =>
  h σ H e _ fun vs H1 g1 a1 => ⟨as, .d x, by rw [List.append_nil]; exact a1.w0, r, fun v H2 s t => q v H2 (g1.trans (.of_same g1.2 s)) t⟩
theorem en_call {R : List AD → RD → Prop} {E : XK} {ts : TA} {as : List AD} {ds : List PyData} (h : EA K W H0 ts ρ as) (r : R as (.n ds)) : EN K W H0 (tCall (PSp K R) [] E ts) ρ ds := fun σ H e Q q =>
  h σ H e _ fun vs H1 g1 a1 => ⟨as, .n ds, by rw [List.append_nil]; exact a1.w0, r, fun v H2 s t => by
    obtain ⟨p, xs, e1, e2, e3, e4⟩ := t
    subst e1
    exact q p xs H2 (g1.trans (.of_same g1.2 s)) (g1.1.free g1.2 e2) e3 e4⟩
/-! ### statements -/
abbrev SDo (K : Fg) (W : Wd) (H0 : Hp) (ts : TS) (D : Ends) (ρ : List SD) : Prop := Nx K W H0 (ts D) ρ
def RtOk (K : Fg) (W : Wd) (H0 : Hp) (D : Ends) : RD → Prop
  | .d x => ∀ v H2, Kp W H0 H2 → W.J H2 → TV K H2 v x → D.rt v H2
  | .n ds => ∀ p xs H2, Kp W H0 H2 → W.J H2 → H0 p = none → ¬ W.M p → H2 p = some (.lst xs) → TVs K H2 xs ds → D.rt (.ref p) H2
theorem RtOk.up {D : Ends} {r : RD} (u : Up W H0 H') (h : RtOk K W H0 D r) : RtOk K W H' D r := by
  cases r with
  | d x => exact fun v H2 k j t => h v H2 (Kp.trans u k) j t
  | n ds =>
    refine fun p xs H2 k j n m e t => h p xs H2 (Kp.trans u k) j ?_ m e t
    cases q : H0 p with
    | none => rfl
    | some o => rw [u p o q m] at n; cases n
variable {D : Ends} {ts tv : TS}
theorem s_seq (h : SDo K W H0 ts { D with nx := tv D } ρ) : SDo K W H0 (tSeq ts tv) D ρ := h
theorem s_next (h : Nx K W H0 D.nx ρ) : SDo K W H0 tNext D ρ := h
theorem nx_wk {f : L2.St → Hp → Prop} (w : Wk ρ ρ') (h : Nx K W H0 f ρ') : Nx K W H0 f ρ := fun σ H e => h σ H (e.wk w)
theorem s_asg {i : Nat} (h : ED K W H0 te ρ x) (k : Nx K W H0 D.nx (ρ.set i (.d x))) : SDo K W H0 (tAsg te (gName i)) D ρ := fun σ H e => h σ H e _ fun v H1 g t => k _ _ ((e.gr g).setD t i)
theorem s_asgN {i : Nat} {ds : List PyData} (h : EN K W H0 te ρ ds) (k : Nx K W H0 D.nx (ρ.set i (.l ds))) : SDo K W H0 (tAsg te (gName i)) D ρ := fun σ H e => h σ H e _ fun p xs H1 g hp h1 t => k _ _ (e.setL g hp h1 t i)
theorem s_drop (h : ED K W H0 te ρ x) (k : Nx K W H0 D.nx ρ) : SDo K W H0 (tDrop te) D ρ := fun σ H e => h σ H e _ fun v H1 g t => k _ _ (e.gr g)
theorem s_ret (h : ED K W H0 te ρ x) (r : RtOk K W H0 D (.d x)) : SDo K W H0 (tRet te) D ρ := fun σ H e => h σ H e _ fun v H1 g t => r v H1 (e.kp.trans g.1) g.2 t
theorem s_retN {ds : List PyData} (h : EN K W H0 te ρ ds) (r : RtOk K W H0 D (.n ds)) : SDo K W H0 (tRet te) D ρ := fun σ H e => h σ H e _ fun p xs H1 g hp h1 t => r p xs H1 (e.kp.trans g.1) g.2 (e.new hp).1 (e.new hp).2 h1 t
theorem s_retl {i : Nat} {ds : List PyData} (h : ρ[i]? = some (.l ds)) (r : RtOk K W H0 D (.n ds)) : SDo K W H0 (tRet (tVar i)) D ρ := fun σ H e => by
  obtain ⟨p, xs, a1, a2, a3, a4, a5⟩ := e.slot i _ h
  exact ⟨_, a1, r p xs H e.kp e.j a2 a3 a4 a5⟩
theorem s_if {b : Bool} (h : ET K W H0 tt ρ b) (h1 : b = true → SDo K W H0 ts D ρ) (h2 : b = false → SDo K W H0 tv D ρ) : SDo K W H0 (tIfS tt ts tv) D ρ := fun σ H e => h σ H e _ fun H1 g => by
  cases b with
  | true => exact iteT (h1 rfl σ H1 (e.gr g))
  | false => exact iteF (h2 rfl σ H1 (e.gr g))
/-- the test is false -/
theorem s_unless (h : ET K W H0 tt ρ false) (h2 : Nx K W H0 D.nx ρ) : SDo K W H0 (tIfS tt ts tNext) D ρ := s_if h (fun z => nomatch z) fun _ => h2
/-! ### own lists change -/
theorem s_app {i : Nat} {ds : List PyData} (hi : ρ[i]? = some (.l ds)) (h : ED K W H0 te ρ x) (hl : ds.length < 100000) (k : Nx K W H0 D.nx (ρ.set i (.l (ds ++ [x])))) :
    SDo K W H0 (tDrop (tBM K "list" rAppend (tVar i) (tCons te tNil))) D ρ := fun σ H e => by
  obtain ⟨p, xs, a1, a2, a3, a4, a5⟩ := e.slot i _ hi
  refine ⟨.ref p, a1, .inl ⟨rfl, xs, .inl (.inl a4)⟩, ?_⟩
  refine h σ H e _ fun v H1 g t => ?_
  have t1 := a5.tk (g.1.tk e.j)
  refine ⟨p, xs, v, rfl, rfl, g.1 _ _ a4 a3, by rw [a5.length]; exact sz_lt hl, ?_⟩
  exact k _ _ ((e.gr g).upd hi a1 (g.1 _ _ a4 a3) (t1.append (.cons t .nil)))
theorem s_ext {i : Nat} {ds es : List PyData} (hi : ρ[i]? = some (.l ds)) (h : EN K W H0 te ρ es) (hl : ds.length + es.length ≤ 100000) (k : Nx K W H0 D.nx (ρ.set i (.l (ds ++ es)))) :
    SDo K W H0 (tDrop (tBM K "list" rExtend (tVar i) (tCons te tNil))) D ρ := fun σ H e => by
  obtain ⟨p, xs, a1, a2, a3, a4, a5⟩ := e.slot i _ hi
  refine ⟨.ref p, a1, .inl ⟨rfl, xs, .inl (.inl a4)⟩, ?_⟩
  refine h σ H e _ fun q ys H1 g hq h1 t => ?_
  have t1 := a5.tk (g.1.tk e.j)
  refine ⟨p, q, xs, ys, rfl, rfl, g.1 _ _ a4 a3, h1, by rw [a5.length, t.length]; exact sz_of hl, ?_⟩
  exact k _ _ ((e.gr g).upd hi a1 (g.1 _ _ a4 a3) (t1.append t))
theorem ixN_of {n : Nat} {i : Int} (h0 : 0 ≤ i) (h1 : i < n) : ixN n i = some i.toNat := by
  unfold ixN
  rw [if_pos h0, if_pos h1]
/-- l[e] = v -/
theorem s_setl {i : Nat} {ds : List PyData} {j : Int} (hi : ρ[i]? = some (.l ds)) (h : ED K W H0 te ρ x) (hj : ED K W H0 tb ρ (.int j)) (h0 : 0 ≤ j) (h1 : j < ds.length) (k : Nx K W H0 D.nx (ρ.set i (.l (ds.set j.toNat x)))) :
    SDo K W H0 (tAsg te (gSub (tVar i) tb rSetL)) D ρ := fun σ H e => by
  refine h σ H e _ fun v H1 g t => ?_
  have e1 := e.gr g
  obtain ⟨p, xs, a1, a2, a3, a4, a5⟩ := e1.slot i _ hi
  refine ⟨.ref p, a1, ?_⟩
  refine hj σ H1 e1 _ fun w H2 g2 t2 => ?_
  have tk := g2.1.tk e1.j
  refine ⟨p, xs, j, j.toNat, rfl, t2.int_inv, g2.1 _ _ a4 a3, ixN_of h0 (by rw [a5.length]; exact h1), ?_⟩
  exact k _ _ ((e1.gr g2).upd hi a1 (g2.1 _ _ a4 a3) (TVs.set j.toNat (a5.tk tk) (t.tk tk)))
end
end Hd

set_option Elab.async false
set_option linter.all false
set_option maxRecDepth 100000
set_option maxHeartbeats 4000000
namespace Hd
open PySem PySem.Spec PyProof.Rows L2
section
variable {K : Fg} {W : Wd} {H0 H H' H2 : Hp} {σ : L2.St} {ρ ρ' : List SD} {te ta tb tc tl : TE} {x y z : PyData} {tt tu : TT} {D : Ends} {ts tv : TS} {g : TG}
/-! ### targets -/
/-- what a target does of a datum -/
def TGo (K : Fg) (W : Wd) (g : TG) (x : PyData) (ρ ρ' : List SD) : Prop := ∀ H0 σ H v, Env K W H0 σ H ρ → TV K H v x → ∀ Q : L2.St → Hp → Prop, (∀ σ', Env K W H0 σ' H ρ' → Q σ' H) → g v σ H Q
theorem tg_name {i : Nat} : TGo K W (gName i) x ρ (ρ.set i (.d x)) := fun H0 σ H v e t Q q => q _ (e.setD t i)
theorem tg_two {i j : Nat} {y z : PyData} : TGo K W (gTup K 2 (gCons (gName i) (gCons (gName j) gNil))) (.tuple [y, z]) ρ ((ρ.set i (.d y)).set j (.d z)) := fun H0 σ H v e t Q q => by
  obtain ⟨a, xs, e1, s1, r1⟩ := t.tup_inv
  match xs, r1 with
  | [u, w], r1 =>
    have t1 := r1.inv.1
    have t2 := r1.inv.2.inv.1
    exact ⟨a, [u, w], e1, s1, rfl, u, [w], rfl, w, [], rfl, rfl, q _ ((e.setD t1 i).setD t2 j)⟩
  | [], r1 => cases r1.1
  | [_], r1 => cases r1.inv.2.1
  | _ :: _ :: _ :: _, r1 => cases r1.inv.2.inv.2.1
/-! ### for -/
/-- the ends of a loop's turn -/
abbrev tEnds (K : Fg) (W : Wd) (H0 : Hp) (D : Ends) (ρ : List SD) : Ends := { D with nx := fun σ H => Env K W H0 σ H ρ, ct := fun σ H => Env K W H0 σ H ρ, bk := D.nx }
theorem nx_turn {ρ'' : List SD} (w : Wk ρ ρ'') : Nx K W H0 (fun σ H => Env K W H0 σ H ρ'') ρ := fun σ H e => e.wk w
/-- a loop whose n items are told as things stand at its ground -/
theorem for_core {J : It} {H1 : Hp} (n : Nat) (I : Nat → List SD) (e : Env K W H0 σ H1 (I 0)) (hgo : ∀ i H, i < n → Kp W (ground H1 σ (I 0)) H → W.J H → J.go i H) (hstop : ∀ H, Kp W (ground H1 σ (I 0)) H → W.J H → J.stop n H)
    (hs : ∀ H0', Up W H0 H0' → (∀ b o, ground H1 σ (I 0) b = some o → H0' b = some o) → ∀ i, i < n → ∀ σ' H', Env K W H0' σ' H' (I i) → ∀ v H2, J.yld i H' v H2 → g v σ' H2 fun σ2 H3 => ts (tEnds K W H0' D (I (i + 1))) σ2 H3)
    (hd : Nx K W H0 D.nx (I n)) :
    ∃ Wi : Nat → Nat → L2.St → Hp → Prop, (∃ m, Wi 0 m σ H1) ∧ ∀ i m σ H, Wi i m σ H →
      (J.stop i H ∧ D.nx σ H) ∨ (J.go i H ∧ ∃ N : L2.St → Hp → Prop, (∀ σ' H', N σ' H' → ∃ m', m' < m ∧ Wi (i + 1) m' σ' H') ∧ ∀ x H', J.yld i H x H' → g x σ H' fun σ2 H2 => ts { D with nx := N, ct := N, bk := D.nx } σ2 H2) := by
  have u := e.ground_up
  refine ⟨fun i m σ' H' => m = n - i ∧ i ≤ n ∧ Env K W (ground H1 σ (I 0)) σ' H' (I i), ⟨n, by simp, Nat.zero_le _, e.ground⟩, ?_⟩
  rintro i m σ' H' ⟨rfl, hi, e'⟩
  by_cases hlt : i < n
  · refine .inr ⟨hgo i H' hlt e'.kp e'.j, fun σ2 H2 => Env K W (ground H1 σ (I 0)) σ2 H2 (I (i + 1)), fun σ2 H2 h => ⟨n - (i + 1), by omega, rfl, by omega, h⟩, fun v H2 hy => ?_⟩
    exact hs (ground H1 σ (I 0)) u (fun _ _ h => h) i hlt σ' H' e' v H2 hy
  · have : i = n := by omega
    subst this
    exact .inl ⟨hstop H' e'.kp e'.j, hd σ' H' (e'.down u)⟩
/-- .. over the items of a tuple -/
theorem s_forT {xs : List PyData} (h : ED K W H0 tl ρ (.tuple xs)) (I : Nat → List SD) (w : Wk ρ (I 0)) (G : Nat → PyData → List SD) (hg : ∀ i x, xs[i]? = some x → TGo K W g x (I i) (G i x))
    (hs : ∀ H0', Up W H0 H0' → ∀ i x, xs[i]? = some x → SDo K W H0' ts (tEnds K W H0' D (I (i + 1))) (G i x)) (hd : Nx K W H0 D.nx (I xs.length)) : SDo K W H0 (tFor (iTup K tl) g ts) D ρ := fun σ H e => by
  refine h σ H e _ fun v H1 g1 t => ?_
  obtain ⟨a, ys, rfl, s1, r1⟩ := t.tup_inv
  have e1 := (e.gr g1).wk w
  refine ⟨a, rfl, ⟨ys, s1⟩, ?_⟩
  have tk : ∀ H', Kp W (ground H1 σ (I 0)) H' → Tk H1 H' := by
    intro H' k
    have gt : ∀ {b : Addr} {o : HO}, H1 b = some o → (∀ zs, o ≠ .lst zs) → ground H1 σ (I 0) b = some o := by
      intro b o hb hn
      rw [ground_out]
      · exact hb
      · rintro ⟨i, ds, h1, h2⟩
        obtain ⟨p, zs, a1, _, _, a4, _⟩ := e1.slot i _ h1
        rw [h2] at a1
        cases a1
        rw [hb] at a4
        exact hn zs (Option.some.inj a4)
    exact ⟨fun b zs hb => k _ _ (gt hb (by intro _ z; cases z)) (noM_tup e1.j hb), fun b o u hb => k _ _ (gt hb (by intro _ z; cases z)) (noM_frz e1.j hb)⟩
  have lens := r1.length
  refine for_core xs.length I e1 (fun i H' hi k j => ?_) (fun H' k j => ⟨ys, SqT.tk (tk H' k) s1, by omega⟩) (fun H0' u sub i hi σ' H' e' v H2 hy => ?_) hd
  · obtain ⟨y, hy, _⟩ := r1.get (List.getElem?_eq_getElem hi)
    exact ⟨ys, y, SqT.tk (tk H' k) s1, hy⟩
  · obtain ⟨rfl, hv⟩ := hy
    have kk : Kp W (ground H1 σ (I 0)) H2 := Kp.trans (fun b o hb _ => sub b o hb) e'.kp
    have hx := List.getElem?_eq_getElem hi
    obtain ⟨y, hy, ty⟩ := r1.get hx
    have ev := hv ys (SqT.tk (tk H2 kk) s1)
    rw [hy] at ev
    cases ev
    refine hg i _ hx H0' σ' H2 v e' (ty.tk (tk H2 kk)) _ fun σ2 e2 => ?_
    exact hs H0' u i _ hx σ2 H2 e2
/-- .. over a list: a place that is none of one's own lists -/
theorem forL_core {xs : List PyData} {q : Addr} {ys : List V} {H1 : Hp} (I : Nat → List SD) (e1 : Env K W H0 σ H1 (I 0)) (l1 : LsR W H1 q ys) (r1 : TVs K H1 ys xs) (hq : ∀ (j : Nat) (es : List PyData), (I 0)[j]? = some (.l es) → σ[j]? ≠ some (some (.ref q)))
    (G : Nat → PyData → List SD) (hg : ∀ i x, xs[i]? = some x → TGo K W g x (I i) (G i x))
    (hs : ∀ H0', Up W H0 H0' → ∀ i x, xs[i]? = some x → SDo K W H0' ts (tEnds K W H0' D (I (i + 1))) (G i x)) (hd : Nx K W H0 D.nx (I xs.length)) :
    ∃ Wi : Nat → Nat → L2.St → Hp → Prop, (∃ m, Wi 0 m σ H1) ∧ ∀ i m σ H, Wi i m σ H →
      ((Itl K q).stop i H ∧ D.nx σ H) ∨ ((Itl K q).go i H ∧ ∃ N : L2.St → Hp → Prop, (∀ σ' H', N σ' H' → ∃ m', m' < m ∧ Wi (i + 1) m' σ' H') ∧ ∀ x H', (Itl K q).yld i H x H' → g x σ H' fun σ2 H2 => ts { D with nx := N, ct := N, bk := D.nx } σ2 H2) := by
  have gt : ∀ {b : Addr} {o : HO}, H1 b = some o → (∀ zs, o ≠ .lst zs) → ground H1 σ (I 0) b = some o := by
    intro b o hb hn
    rw [ground_out]
    · exact hb
    · rintro ⟨i, ds, h1, h2⟩
      obtain ⟨p, zs, a1, _, _, a4, _⟩ := e1.slot i _ h1
      rw [h2] at a1
      cases a1
      rw [hb] at a4
      exact hn zs (Option.some.inj a4)
  have tk : ∀ H', Kp W (ground H1 σ (I 0)) H' → Tk H1 H' := fun H' k =>
    ⟨fun b zs hb => k _ _ (gt hb (by intro _ z; cases z)) (noM_tup e1.j hb), fun b o u hb => k _ _ (gt hb (by intro _ z; cases z)) (noM_frz e1.j hb)⟩
  have gq : ground H1 σ (I 0) q = H1 q := ground_out (by
    rintro ⟨i, ds, h1, h2⟩
    exact hq i ds h1 h2)
  have lq : ∀ H', Kp W (ground H1 σ (I 0)) H' → LsR W H' q ys := fun H' k => by
    rcases l1 with ⟨h | ⟨o, h⟩, m⟩
    · exact ⟨.inl (k _ _ (by rw [gq]; exact h) m), m⟩
    · exact ⟨.inr ⟨o, k _ _ (by rw [gq]; exact h) m⟩, m⟩
  have lens := r1.length
  refine for_core xs.length I e1 (fun i H' hi k j => ?_) (fun H' k j => ⟨ys, (lq H' k).sq, by omega⟩) (fun H0' u sub i hi σ' H' e' v H2 hy => ?_) hd
  · obtain ⟨y, hy, _⟩ := r1.get (List.getElem?_eq_getElem hi)
    exact ⟨ys, y, (lq H' k).sq, hy⟩
  · obtain ⟨rfl, hv⟩ := hy
    have kk : Kp W (ground H1 σ (I 0)) H2 := Kp.trans (fun b o hb _ => sub b o hb) e'.kp
    have hx := List.getElem?_eq_getElem hi
    obtain ⟨y, hy, ty⟩ := r1.get hx
    have ev := hv ys (lq H2 kk).sq
    rw [hy] at ev
    cases ev
    refine hg i _ hx H0' σ' H2 v e' (ty.tk (tk H2 kk)) _ fun σ2 e2 => ?_
    exact hs H0' u i _ hx σ2 H2 e2
/-- .. a new list -/
theorem s_forN {xs : List PyData} (h : EN K W H0 tl ρ xs) (I : Nat → List SD) (w : Wk ρ (I 0)) (G : Nat → PyData → List SD) (hg : ∀ i x, xs[i]? = some x → TGo K W g x (I i) (G i x))
    (hs : ∀ H0', Up W H0 H0' → ∀ i x, xs[i]? = some x → SDo K W H0' ts (tEnds K W H0' D (I (i + 1))) (G i x)) (hd : Nx K W H0 D.nx (I xs.length)) : SDo K W H0 (tFor (iList K tl) g ts) D ρ := fun σ H e => by
  refine h σ H e _ fun p ys H1 g1 hp h1 t => ?_
  have ew := e.wk w
  refine ⟨p, rfl, ⟨ys, .inl (.inl h1)⟩, ?_⟩
  exact forL_core I (ew.gr g1) ⟨.inl h1, (e.new hp).2⟩ t (fun j es hj z => ew.ne_new hp (.inl hj) z rfl) G hg hs hd
/-- .. a list that a slot holds for reading -/
theorem s_forS {i : Nat} {xs : List PyData} (h : ρ[i]? = some (.s xs)) (I : Nat → List SD) (w : Wk ρ (I 0)) (G : Nat → PyData → List SD) (hg : ∀ i x, xs[i]? = some x → TGo K W g x (I i) (G i x))
    (hs : ∀ H0', Up W H0 H0' → ∀ i x, xs[i]? = some x → SDo K W H0' ts (tEnds K W H0' D (I (i + 1))) (G i x)) (hd : Nx K W H0 D.nx (I xs.length)) : SDo K W H0 (tFor (iList K (tVar i)) g ts) D ρ := fun σ H e => by
  obtain ⟨q, ys, a1, a2, a3⟩ := e.slot i _ h
  refine ⟨_, a1, q, rfl, ⟨ys, a2.sq⟩, ?_⟩
  refine forL_core I (e.wk w) a2 a3 (fun j es hj z => ?_) G hg hs hd
  have hj' : ρ[j]? = some (.l es) := (w.2 j _ hj).resolve_left (fun z => by cases z)
  have ne : j ≠ i := fun z => by rw [z, h] at hj'; cases hj'
  exact (e.sep j i q es hj' z a1 ne).2 xs h
/-- .. one's own list, that no turn changes: it is read from then on -/
theorem s_forO {i : Nat} {xs : List PyData} (h : ρ[i]? = some (.l xs)) (hf : SDo K W H0 (tFor (iList K (tVar i)) g ts) D (ρ.set i (.s xs))) : SDo K W H0 (tFor (iList K (tVar i)) g ts) D ρ := fun σ H e => hf σ H (e.l_s h)
/-- .. range(n) -/
theorem s_forR {n : Int} {tr : TA} (h : EDs K W H0 tr ρ [.int n]) (hn : 0 ≤ n ∧ n ≤ 100000) (I : Nat → List SD) (w : Wk ρ (I 0)) (G : Nat → List SD) (hg : ∀ i : Nat, (i : Int) < n → TGo K W g (.int (i : Int)) (I i) (G i))
    (hs : ∀ H0', Up W H0 H0' → ∀ i : Nat, (i : Int) < n → SDo K W H0' ts (tEnds K W H0' D (I (i + 1))) (G i)) (hd : Nx K W H0 D.nx (I n.toNat)) : SDo K W H0 (tFor (iRng1 tr) g ts) D ρ := fun σ H e => by
  refine h σ H e _ fun vs H1 g1 t => ?_
  match vs, t with
  | [v], t =>
    refine ⟨n, by rw [t.inv.1.int_inv], by omega, by omega, ?_⟩
    refine for_core n.toNat I ((e.gr g1).wk w) (fun i H' hi k j => hi) (fun H' k j => Nat.le_refl _) (fun H0' u sub i hi σ' H' e' v H2 hy => ?_) hd
    obtain ⟨rfl, rfl⟩ := hy
    refine hg i (by omega) H0' σ' H2 _ e' (by rw [Int.zero_add]; exact .int) _ fun σ2 e2 => ?_
    exact hs H0' u i (by omega) σ2 H2 e2
  | [], t => cases t.1
  | _ :: _ :: _, t => cases t.inv.2.1
/-! ### comprehensions -/
/-- slots wiped -/
def wipeD (ρ : List SD) : List Nat → List SD
  | [] => ρ
  | v :: vs => (wipeD ρ vs).set v .u
theorem Env.setNone (e : Env K W H0 σ H ρ) (i : Nat) : Env K W H0 (σ.set i none) H (ρ.set i .u) := by
  refine ⟨by rw [List.length_set, List.length_set, e.len], e.j, e.kp, fun j sd hj => ?_, fun j k p ds hj a b ne => ?_⟩
  · rcases set_at hj with ⟨c, hl, z⟩ | ⟨c, hj⟩
    · subst z; trivial
    · have := e.slot j sd hj
      rw [List.getElem?_set_ne c]
      exact this
  · rcases set_at hj with ⟨c, hl, z⟩ | ⟨c, hj⟩
    · cases z
    · rw [List.getElem?_set_ne c] at a
      refine ⟨fun es z => ?_, fun es z => ?_⟩
      · rcases set_at z with ⟨c2, _, z⟩ | ⟨c2, z⟩
        · cases z
        · rw [List.getElem?_set_ne c2] at b
          exact (e.sep j k p ds hj a b ne).1 es z
      · rcases set_at z with ⟨c2, _, z⟩ | ⟨c2, z⟩
        · cases z
        · rw [List.getElem?_set_ne c2] at b
          exact (e.sep j k p ds hj a b ne).2 es z
theorem Env.wipe (e : Env K W H0 σ H ρ) : ∀ vs : List Nat, Env K W H0 (L2.wipe σ vs) H (wipeD ρ vs)
  | [] => e
  | v :: vs => (Env.wipe e vs).setNone v
theorem wipe_set {σ : L2.St} {w : Option V} : ∀ {vs : List Nat} {j : Nat}, j ∈ vs → L2.wipe (σ.set j w) vs = L2.wipe σ vs := by
  intro vs
  induction vs with
  | nil => intro j h; cases h
  | cons v vs ih =>
    intro j h
    show (L2.wipe (σ.set j w) vs).set v none = (L2.wipe σ vs).set v none
    by_cases hj : j ∈ vs
    · rw [ih hj]
    · have e : j = v := by
        rcases List.mem_cons.mp h with e | e
        · exact e
        · exact absurd e hj
      subst e
      have key : ∀ us : List Nat, j ∉ us → L2.wipe (σ.set j w) us = (L2.wipe σ us).set j w := by
        intro us
        induction us with
        | nil => intro _; rfl
        | cons u us ih2 =>
          intro hu
          have h1 : j ∉ us := fun z => hu (List.mem_cons_of_mem _ z)
          have h2 : j ≠ u := fun z => hu (z ▸ List.mem_cons_self ..)
          show (L2.wipe (σ.set j w) us).set u none = ((L2.wipe σ us).set u none).set j w
          rw [ih2 h1, List.set_comm _ _ h2]
      rw [key vs hj, List.set_set]
theorem wipe_wipe {σ : L2.St} {vs : List Nat} {j : Nat} {w : Option V} (h : j ∈ vs) : L2.wipe ((L2.wipe σ vs).set j w) vs = L2.wipe σ vs := by
  have key : ∀ (us : List Nat) (τ : L2.St), (∀ u ∈ us, τ[u]? = some none ∨ τ.length ≤ u) → L2.wipe τ us = τ := by
    intro us
    induction us with
    | nil => intro τ _; rfl
    | cons u us ih =>
      intro τ ht
      show (L2.wipe τ us).set u none = τ
      rw [ih τ fun v hv => ht v (List.mem_cons_of_mem _ hv)]
      rcases ht u (List.mem_cons_self ..) with e | e
      · exact List.ext_getElem? fun i => by
          rw [List.getElem?_set]
          split
          · rename_i c
            subst c
            split
            · exact e.symm
            · rename_i c; rw [List.getElem?_eq_none (by omega)]
          · rfl
      · exact List.set_eq_of_length_le e
  rw [wipe_set h]
  refine key vs _ fun u hu => ?_
  by_cases hl : u < σ.length
  · left
    have none_at : ∀ us : List Nat, u ∈ us → (L2.wipe σ us)[u]? = some none := by
      intro us
      induction us with
      | nil => intro h; cases h
      | cons v us ih =>
        intro h
        show ((L2.wipe σ us).set v none)[u]? = some none
        rw [List.getElem?_set]
        by_cases c : v = u
        · rw [if_pos c, if_pos (by rw [wipe_length]; omega)]
        · rw [if_neg c]
          rcases List.mem_cons.mp h with e | e
          · exact absurd e.symm c
          · exact ih e
    exact none_at vs hu
  · right
    rw [wipe_length]
    omega
/-- the state of a comprehension: what is made so far stands at D -/
def Cw (K : Fg) (W : Wd) (H0 : Hp) (σ : L2.St) (ρ : List SD) (Dl : Addr) (ds : List PyData) (H1 : Hp) (H : Hp) : Prop :=
  Env K W H0 σ H ρ ∧ H1 Dl = none ∧ Gr W H1 H ∧ ∃ acc, H Dl = some (.lst acc) ∧ TVs K H acc ds
theorem Cw.start (e : Env K W H0 σ H ρ) {Dl : Addr} (h : H Dl = none) : Cw K W H0 σ ρ Dl [] H (upd H Dl (.lst [])) :=
  ⟨e.same (same_new h), h, .of_same e.j (same_new h), [], upd_same, .nil⟩
theorem Cw.grow {Dl : Addr} {ds : List PyData} {H1 H3 : Hp} (e0 : Env K W H0 σ H1 ρ) (c : Cw K W H0 σ ρ Dl ds H1 H) (g : Gr W H H3) : Cw K W H0 σ ρ Dl ds H1 H3 := by
  obtain ⟨e, n, g1, acc, h, t⟩ := c
  exact ⟨e.gr g, n, g1.trans g, acc, g.1 _ _ h (e0.new n).2, t.tk (g.1.tk e.j)⟩
theorem Cw.push {Dl : Addr} {ds : List PyData} {H1 : Hp} {v : V} (e0 : Env K W H0 σ H1 ρ) (c : Cw K W H0 σ ρ Dl ds H1 H) (t : TV K H v x) :
    ∃ acc, H Dl = some (.lst acc) ∧ acc.length = ds.length ∧ Cw K W H0 σ ρ Dl (ds ++ [x]) H1 (upd H Dl (.lst (acc ++ [v]))) := by
  obtain ⟨e, n, g1, acc, h, ta⟩ := c
  obtain ⟨n0, nM⟩ := e0.new n
  refine ⟨acc, h, ta.length, ?_, n, ⟨fun b o hb hm => ?_, J_upd e.j nM⟩, acc ++ [v], upd_same, (ta.append (.cons t .nil)).tk (tk_lst h)⟩
  · exact e.updNew n0 nM h fun j es hj z => e0.ne_new n hj z rfl
  · have : b ≠ Dl := fun z => by rw [z, n] at hb; cases hb
    rw [upd_ne this]
    exact g1.1 b o hb hm
theorem Cw.fin {Dl : Addr} {ds : List PyData} {H1 : Hp} {Q : VK} (c : Cw K W H0 σ ρ Dl ds H1 H) (g0 : Gr W H' H1) (j : W.J H1) (q : ∀ p xs H2, Gr W H' H2 → H' p = none → H2 p = some (.lst xs) → TVs K H2 xs ds → Q (.ref p) H2) : Q (.ref Dl) H := by
  obtain ⟨e, n, g1, acc, h, t⟩ := c
  exact q Dl acc H (g0.trans g1) (g0.1.free j n) h t
/-- one turn -/
theorem cw_turn {α : Type} {b : α → Bool} {f : α → PyData} {a : α} {Dl : Addr} {pre : List α} {H1 : Hp} {j : Nat} {vs : List Nat} {v : V} (enc : PyData) (e0 : Env K W H0 σ H1 ρ) (hv : TV K H v enc) (hj : j ∈ vs)
    (c : Cw K W H0 σ ρ Dl ((pre.filter b).map f) H1 H) (hz : pre.length < 50000)
    (ht : ET K W H0 tt ((wipeD ρ vs).set j (.d enc)) (b a)) (he : b a = true → ED K W H0 te ((wipeD ρ vs).set j (.d enc)) (f a)) :
    gName j v (L2.wipe σ vs) H fun σ2 H2 => L2.wipe σ2 vs = L2.wipe σ vs ∧ tt σ2 H2 fun bb H3 =>
      if bb = true then te σ2 H3 fun y H4 => ∃ acc, H4 Dl = some (.lst acc) ∧ acc.length < sizeLine ∧ Cw K W H0 σ ρ Dl (((pre ++ [a]).filter b).map f) H1 (upd H4 Dl (.lst (acc ++ [y]))) else Cw K W H0 σ ρ Dl (((pre ++ [a]).filter b).map f) H1 H3 := by
  have e1 := ((c.1.wipe vs).setD hv j)
  refine ⟨wipe_wipe hj, ?_⟩
  refine ht _ H e1 _ fun H3 g3 => ?_
  have c3 := c.grow e0 g3
  cases hb : b a with
  | true =>
    refine iteT ?_
    refine he hb _ H3 (e1.gr g3) _ fun y H4 g4 t4 => ?_
    have c4 := c3.grow e0 g4
    obtain ⟨acc, h1, h2, h3⟩ := c4.push e0 t4
    refine ⟨acc, h1, ?_, ?_⟩
    · have := List.length_filter_le b pre
      rw [h2, List.length_map]
      exact sz_lt (by omega)
    · have : ((pre ++ [a]).filter b).map f = (pre.filter b).map f ++ [f a] := by
        rw [List.filter_append, List.map_append, List.filter_cons, if_pos hb]
        rfl
      rw [this]
      exact h3
  | false =>
    refine iteF ?_
    have : ((pre ++ [a]).filter b).map f = (pre.filter b).map f := by
      rw [List.filter_append, List.map_append, List.filter_cons, if_neg (by rw [hb]; decide)]
      simp
    rw [this]
    exact c3
theorem take_succ {α : Type} {l : List α} {i : Nat} {a : α} (h : l[i]? = some a) : l.take (i + 1) = l.take i ++ [a] := by
  rw [List.take_add_one, h]
  rfl
/-- [f(x) for x in t if b(x)], t a tuple -/
theorem en_lcT {α : Type} {j : Nat} {vs : List Nat} {as : List α} (enc : α → PyData) (b : α → Bool) (f : α → PyData) (h : ED K W H0 tl ρ (.tuple (as.map enc))) (hj : j ∈ vs) (hz : as.length ≤ 40000)
    (ht : ∀ a ∈ as, ET K W H0 tt ((wipeD ρ vs).set j (.d (enc a))) (b a)) (he : ∀ a ∈ as, b a = true → ED K W H0 te ((wipeD ρ vs).set j (.d (enc a))) (f a)) :
    EN K W H0 (tLc (iTup K tl) (gName j) tt te vs) ρ ((as.filter b).map f) := fun σ H e Q q => by
  refine h σ H e _ fun v H1 g1 t => ?_
  obtain ⟨p, ys, rfl, s1, r1⟩ := t.tup_inv
  have e1 := e.gr g1
  refine ⟨p, rfl, ⟨ys, s1⟩, fun Dl hD => ?_⟩
  have lens : ys.length = as.length := by rw [r1.length, List.length_map]
  refine lc_tup (K := K) (a := p) (xs := ys) (fun i H' => Cw K W H0 σ ρ Dl (((as.take i).filter b).map f) H1 H') (Cw.start e1 hD) (fun i H' hi c => SqT.tk (c.2.2.1.1.tk e1.j) s1) (fun i x H' hi c => ?_) (fun H' c => ?_)
  · have hi2 : i < as.length := by
      have := (List.getElem?_eq_some_iff.mp hi).1
      omega
    have ha : as[i]? = some as[i] := List.getElem?_eq_getElem hi2
    obtain ⟨d, hd, td⟩ := r1.getV hi
    rw [List.getElem?_map, ha] at hd
    cases hd
    have hm : as[i] ∈ as := List.getElem_mem hi2
    have := cw_turn (b := b) (f := f) (a := as[i]) (pre := as.take i) (enc as[i]) e1 (td.tk (c.2.2.1.1.tk e1.j)) hj c (by rw [List.length_take]; omega) (ht _ hm) (he _ hm)
    rw [take_succ ha]
    exact this
  · rw [lens, List.take_length] at c
    exact c.fin g1 e1.j q
/-- .. a list -/
theorem en_lcL {α : Type} {j : Nat} {vs : List Nat} {as : List α} (enc : α → PyData) (b : α → Bool) (f : α → PyData) (h : EL K W H0 tl ρ (as.map enc)) (hj : j ∈ vs) (hz : as.length ≤ 40000)
    (ht : ∀ a ∈ as, ET K W H0 tt ((wipeD ρ vs).set j (.d (enc a))) (b a)) (he : ∀ a ∈ as, b a = true → ED K W H0 te ((wipeD ρ vs).set j (.d (enc a))) (f a)) :
    EN K W H0 (tLc (iList K tl) (gName j) tt te vs) ρ ((as.filter b).map f) := fun σ H e Q q => by
  refine h σ H e _ fun p ys H1 g1 l1 r1 => ?_
  have e1 := e.gr g1
  refine ⟨p, rfl, ⟨ys, l1.sq⟩, fun Dl hD => ?_⟩
  have lens : ys.length = as.length := by rw [r1.length, List.length_map]
  refine lc_list (K := K) (a := p) (xs := ys) (fun i H' => Cw K W H0 σ ρ Dl (((as.take i).filter b).map f) H1 H') (Cw.start e1 hD) (fun i H' hi c => (l1.kp c.2.2.1.1).sq) (fun i x H' hi c => ?_) (fun H' c => ?_)
  · have hi2 : i < as.length := by
      have := (List.getElem?_eq_some_iff.mp hi).1
      omega
    have ha : as[i]? = some as[i] := List.getElem?_eq_getElem hi2
    obtain ⟨d, hd, td⟩ := r1.getV hi
    rw [List.getElem?_map, ha] at hd
    cases hd
    have hm : as[i] ∈ as := List.getElem_mem hi2
    have := cw_turn (b := b) (f := f) (a := as[i]) (pre := as.take i) (enc as[i]) e1 (td.tk (c.2.2.1.1.tk e1.j)) hj c (by rw [List.length_take]; omega) (ht _ hm) (he _ hm)
    rw [take_succ ha]
    exact this
  · rw [lens, List.take_length] at c
    exact c.fin g1 e1.j q
/-- .. range(n) -/
theorem en_lcR {j : Nat} {vs : List Nat} {n : Int} {tr : TA} (b : Nat → Bool) (f : Nat → PyData) (h : EDs K W H0 tr ρ [.int n]) (hn : 0 ≤ n ∧ n ≤ 40000) (hj : j ∈ vs)
    (ht : ∀ i : Nat, (i : Int) < n → ET K W H0 tt ((wipeD ρ vs).set j (.d (.int (i : Int)))) (b i)) (he : ∀ i : Nat, (i : Int) < n → b i = true → ED K W H0 te ((wipeD ρ vs).set j (.d (.int (i : Int)))) (f i)) :
    EN K W H0 (tLc (iRng1 tr) (gName j) tt te vs) ρ (((List.range n.toNat).filter b).map f) := fun σ H e Q q => by
  refine h σ H e _ fun us H1 g1 t => ?_
  have e1 := e.gr g1
  match us, t with
  | [v], t =>
    refine ⟨n, by rw [t.inv.1.int_inv], by omega, by omega, fun Dl hD => ?_⟩
    refine lc_range (lo := 0) (n := n.toNat) (fun i H' => Cw K W H0 σ ρ Dl (((List.range i).filter b).map f) H1 H') (Cw.start e1 hD) (fun i H' hi c => ?_) (fun H' c => c.fin g1 e1.j q)
    have hin : (i : Int) < n := by omega
    have := cw_turn (b := b) (f := f) (a := i) (pre := List.range i) (.int (i : Int)) e1 (v := .int ((0 : Int) + (i : Int))) (by rw [Int.zero_add]; exact .int) hj c (by rw [List.length_range]; omega) (ht i hin) (he i hin)
    rw [List.range_succ]
    exact this
  | [], t => cases t.1
  | _ :: _ :: _, t => cases t.inv.2.1
/-- no test -/
theorem et_yes : ET K W H0 tYes ρ true := fun σ H e Q q => q H (Gr.refl e.j)
theorem filter_yes {α : Type} (l : List α) : l.filter (fun _ => true) = l := List.filter_eq_self.mpr fun _ _ => rfl
end
end Hd

set_option Elab.async false
set_option linter.all false
set_option maxRecDepth 100000
set_option maxHeartbeats 4000000
namespace Hd
open PySem PySem.Spec PyProof.Rows L2
/-! ### defs by bundles -/
/-- a def of the module that may be called by its name, at level k -/
structure Cl (P : Program) (w : World) (K : Fg) (mg : Str → Option Value) (base : Heap) (x : Str) (ps : List Str) (k : Nat) (sp : Sp) : Prop where
  ex : ∃ (f : Addr) (fd : FuncData), FnOk P w K mg base CX0 k f fd ps sp ∧ mg x = some (.ref f) ∧ PySem.W.keepIn K (.ref f) = true ∧ Binds K fd ps []
theorem pe_cl {X : Cx} {x : Str} {ps : List Str} {k j : Nat} {sp : Sp} {e : Expr} {es : List Expr} {t : TA} {p pos : Pos} (C : Cl X.prog X.w X.K X.mg X.base x ps k sp) (hr : Room j X.A) (ha : PA X (e :: es) t) (hg : Gl X x := by rfl) (hk : k ≤ j := by decide)
    (hd : (x == ("__debug__" : Str)) = false := by decide) (he : starEach (e :: es) X.env = (false, eval e X.env) :: starEach es X.env := by rfl) (hpl : (backTo pos (starEach es X.env)).any (·.1) = false := by rfl) :
    PE X (.Call (.Name x p) (e :: es) [] pos) (tCall sp [] E0 t) := by
  obtain ⟨f, fd, F, hm, kp, b⟩ := C.ex
  exact pe_call F (hr.mono hk) hg hm kp b .nil pass0 ha (hdb := hd) (he := he) (hpl := hpl)
def entry (as : List AD) (n : Nat) : List SD := as.map (fun a => match a with | .d x => SD.d x | .s ds => SD.s ds | .r a => SD.r a) ++ List.replicate (n - as.length) .u
theorem env_start {K : Fg} {W : Wd} {H : Hp} {N : List Str} {vs : List V} {as : List AD} (j : W.J H) (h : AsOk K W H vs as) (hl : as.length ≤ N.length) : Env K W H (L2.start N vs) H (entry as N.length) := by
  have hlen : vs.length = as.length := Paired.length h
  have noL : ∀ (i : Nat) (ds : List PyData), (entry as N.length)[i]? ≠ some (.l ds) := fun i ds z => by
    unfold entry at z
    rw [List.getElem?_append] at z
    split at z
    · rw [List.getElem?_map] at z
      cases q : as[i]? with
      | none => rw [q] at z; cases z
      | some a => rw [q] at z; cases a <;> cases z
    · rw [List.getElem?_replicate] at z
      split at z <;> cases z
  refine ⟨?_, j, Kp.refl, fun i sd hi => ?_, fun i j p ds hi => absurd hi (noL i ds)⟩
  · simp only [L2.start, entry, List.length_append, List.length_map, List.length_replicate]
    omega
  · unfold entry at hi
    rw [List.getElem?_append] at hi
    split at hi
    · rename_i hlt
      rw [List.length_map] at hlt
      have es : (L2.start N vs)[i]? = (vs[i]?).map some := by
        unfold L2.start
        rw [List.getElem?_append, if_pos (by rw [List.length_map]; omega), List.getElem?_map]
      rw [es]
      rw [List.getElem?_map] at hi
      have key : ∀ {vs : List V} {as : List AD} {i : Nat} {a : AD}, AsOk K W H vs as → as[i]? = some a → ∃ v, vs[i]? = some v ∧ AOk K W H v a := by
        intro vs as i a h
        induction h generalizing i with
        | nil => intro e; simp at e
        | cons r t ih =>
          intro e
          cases i with
          | zero => cases e; exact ⟨_, rfl, r⟩
          | succ i => exact ih e
      cases q : as[i]? with
      | none => rw [q] at hi; cases hi
      | some a =>
        rw [q] at hi
        obtain ⟨v, e1, e2⟩ := key h q
        rw [e1]
        cases a with
        | d x => cases hi; exact ⟨v, rfl, e2⟩
        | s ds =>
          cases hi
          obtain ⟨q', xs, e3, e4, e5⟩ := e2
          subst e3
          exact ⟨q', xs, rfl, e4, e5⟩
        | r b =>
          cases hi
          cases e2
          rfl
    · rw [List.getElem?_replicate] at hi
      split at hi
      · cases hi; trivial
      · cases hi
/-- a pure def by its body -/
theorem fnok {P : Program} {w : World} {K : Fg} {mg : Str → Option Value} {base : Heap} {x qual : Str} {params : Arguments} {body : List Stmt} {scope : Scope} {f : Addr} {fd : FuncData} {N ps : List Str} {k : Nat} {R : List AD → RD → Prop}
    (F : FunD K x qual params body scope [] [] f fd) (S : FnScope N ps scope) (hlen : ∀ as rd, R as rd → as.length = ps.length)
    (hbody : ∀ (cdv : Value) (A : Around) (outer : List PySem.Env) (s : Shared) (H : Hp) (E : XK), Room k (A.deeper (envOfC qual scope s.heap.objs.size f cdv)) →
      ∃ t, PSs (cxOf CX0 P w K mg base N qual scope f cdv A outer s H E).nox body t ∧
        ∀ as rd, R as rd → ∀ (H0 : Hp) (D : Ends), RtOk K W0 H0 D rd → (rd = .d .none → ∀ ρ, Nx K W0 H0 D.nx ρ) → SDo K W0 H0 t D (entry as N.length)) : FnOk P w K mg base CX0 (k + 1) f fd ps (PSp K R) := by
  have hN : ps.length ≤ N.length := by
    rw [← S.pre, List.length_take]
    omega
  refine F.ok S (fun vs H Q E h => ?_) fun cdv A outer s H vs Q E hr h => ?_
  · obtain ⟨as, rd, a, r, _⟩ := h
    exact (Paired.length a).trans (hlen as rd r)
  · obtain ⟨as, rd, a, r, q⟩ := h
    obtain ⟨t, ht, hq⟩ := hbody cdv A outer s H E hr
    refine ⟨t, ht.nox, hq as rd r H _ ?_ (fun e ρ σ H2 env => ?_) _ H (env_start trivial a (by rw [hlen as rd r]; exact hN))⟩
    · cases rd with
      | d x => exact fun v H2 kp _ t => q v H2 (fun b o hb => kp b o hb (fun z => z)) t
      | n ds => exact fun p xs H2 kp _ n _ e t => q _ H2 (fun b o hb => kp b o hb (fun z => z)) ⟨p, xs, rfl, n, e, t⟩
    · subst e
      exact q .non H2 (fun b o hb => env.kp b o hb (fun z => z)) .non
end Hd

set_option Elab.async false
set_option linter.all false
set_option maxRecDepth 100000
set_option maxHeartbeats 4000000
namespace Hd
open PySem PySem.Spec PyProof.Rows L2
section
variable {K : Fg} {W : Wd} {H0 H H' H2 : Hp} {σ : L2.St} {ρ ρ' : List SD} {te ta tb tc tl : TE} {x y z : PyData} {tt tu : TT} {D : Ends} {ts tv : TS}
/-! ### isinstance -/
def tyN : PyData → String
  | .none => "NoneType"
  | .bool _ => "bool"
  | .int _ => "int"
  | .str _ => "str"
  | .list _ => "list"
  | .tuple _ => "tuple"
  | .dict _ => "dict"
theorem tyX_of {v : V} (h : TV K H v x) : TyX K H v (.type (tyN x)) := by
  obtain ⟨h, n⟩ := h
  cases h with
  | non => exact .base .non
  | bl b => exact .base (.bl b)
  | int i => exact .base (.int i)
  | str s => exact .base (.str s)
  | lst _ _ => rw [noL] at n; cases n
  | tup ha _ =>
    rcases ha with (h | ⟨o, h⟩) | h
    · exact .base (.tup h)
    · exact .fTuple h
    · obtain ⟨o, its, n, lk, hc, _⟩ := h
      exact .kTuple lk hc
theorem ed_isi {c : String} {b : Bool} (ha : ED K W H0 ta ρ x) (hb : kitB (tyN x) c = some b) : ED K W H0 (tCB (rIsi K) (tCons ta (tCons (tC (.ty c)) tNil))) ρ (.bool b) := fun σ H e Q q =>
  ha σ H e _ fun v H1 g1 t1 => ⟨v, .ty c, _, _, b, rfl, .ty c, tyX_of t1, kit_ty hb, q _ H1 g1 .bl⟩
/-! ### max, min of new lists of ints -/
theorem ed_max {ns : List Int} {m : Int} (ha : EN K W H0 ta ρ (ns.map PyData.int)) (hm : m ∈ ns) (hb : ∀ y ∈ ns, y ≤ m) : ED K W H0 (tCB (rMax K) (tCons ta tNil)) ρ (.int m) := fun σ H e Q q =>
  ha σ H e _ fun p xs H1 g1 hp h1 t1 => by
    have := t1.ints_inv
    subst this
    refine ⟨p, ns, rfl, .inl (.inl h1), List.length_pos_of_mem hm, fun m' h1' h2' => ?_⟩
    have : m' = m := Int.le_antisymm (hb _ h1') (h2' _ hm)
    rw [this]
    exact q _ H1 g1 .int
theorem ed_min {ns : List Int} {m : Int} (ha : EN K W H0 ta ρ (ns.map PyData.int)) (hm : m ∈ ns) (hb : ∀ y ∈ ns, m ≤ y) : ED K W H0 (tCB (rMin K) (tCons ta tNil)) ρ (.int m) := fun σ H e Q q =>
  ha σ H e _ fun p xs H1 g1 hp h1 t1 => by
    have := t1.ints_inv
    subst this
    refine ⟨p, ns, rfl, .inl (.inl h1), List.length_pos_of_mem hm, fun m' h1' h2' => ?_⟩
    have : m' = m := Int.le_antisymm (h2' _ hm) (hb _ h1')
    rw [this]
    exact q _ H1 g1 .int
/-! ### in -/
theorem inV_ints {i : Int} {ns : List Int} : inV (.int i) (ns.map V.int) = decide (i ∈ ns) := by
  unfold inV
  rw [List.any_map]
  induction ns with
  | nil => simp
  | cons a l ih =>
    rw [List.any_cons, ih]
    show (a == i || decide (i ∈ l)) = decide (i ∈ a :: l)
    by_cases c : a = i
    · subst c; simp
    · have : (a == i) = false := by simp [c]
      rw [this]
      simp [Ne.symm c]
theorem flat_ints {ns : List Int} : (ns.map V.int).all flatV = true := List.all_eq_true.mpr fun v hv => by
  obtain ⟨i, _, rfl⟩ := List.mem_map.mp hv
  rfl
theorem ed_notIn {i : Int} {ns : List Int} (ha : ED K W H0 ta ρ (.int i)) (hb : ED K W H0 tb ρ (.tuple (ns.map PyData.int))) : ED K W H0 (tOp (rIn K true) ta tb) ρ (.bool (!decide (i ∈ ns))) := fun σ H e Q q =>
  ha σ H e _ fun v H1 g1 t1 => hb σ H1 (e.gr g1) _ fun w H2 g2 t2 => by
    obtain ⟨a, xs, e1, s1, r1⟩ := t2.tup_inv
    have := r1.ints_inv
    subst this
    refine ⟨a, _, e1, .inr s1, by rw [t1.int_inv]; rfl, flat_ints, ?_⟩
    rw [t1.int_inv, inV_ints]
    exact q _ H2 (g1.trans g2) .bl
theorem ed_notInD {xs : List PyData} (ha : ED K W H0 ta ρ x) (hb : EL K W H0 tb ρ xs) (hx : SeqAt.shaped x = true) (hy : SeqAt.shaped (.list xs) = true) : ED K W H0 (tOp (rNotInD K) ta tb) ρ (.bool (!xs.any fun z => PyData.eqv z x)) := fun σ H e Q q =>
  ha σ H e _ fun v H1 g1 t1 => hb σ H1 (e.gr g1) _ fun b bs H2 g2 l2 t2 => ⟨x, xs, (t1.tk (g2.1.tk g1.2)).1, l2.dp t2, hx, hy, q _ H2 (g1.trans g2) .bl⟩
/-! ### +, * -/
theorem TV.tup_new {p : Addr} {ys : List V} {xs : List PyData} (j : W.J H) (hp : H p = none) (t : TVs K H ys xs) : Gr W H (upd H p (.tup ys)) ∧ TV K (upd H p (.tup ys)) (.ref p) (.tuple xs) := by
  have g : Gr W H (upd H p (.tup ys)) := .of_same j (same_new hp)
  exact ⟨g, .tup (.inl (.inl upd_same)) (t.tk (g.1.tk j))⟩
theorem TVs.nil_iff {vs : List V} {ds : List PyData} (h : TVs K H vs ds) : vs = [] ↔ ds = [] := by
  have := h.length
  constructor
  · intro z; subst z; exact List.length_eq_zero_iff.mp this.symm
  · intro z; subst z; exact List.length_eq_zero_iff.mp this
theorem ed_cat {xs ys : List PyData} (ha : ED K W H0 ta ρ (.tuple xs)) (hb : ED K W H0 tb ρ (.tuple ys)) (hl : xs.length + ys.length ≤ 100000) : ED K W H0 (tOp (rCatA K) ta tb) ρ (.tuple (xs ++ ys)) := fun σ H e Q q =>
  ha σ H e _ fun v H1 g1 t1 => hb σ H1 (e.gr g1) _ fun w H2 g2 t2 => by
    have t1' := t1.tk (g2.1.tk g1.2)
    obtain ⟨a, us, e1, s1, r1⟩ := t1'.tup_inv
    obtain ⟨b, vs, e2, s2, r2⟩ := t2.tup_inv
    refine ⟨a, b, us, vs, e1, e2, s1, s2, by rw [r1.length, r2.length]; exact sz_of hl, fun z => ?_, fun _ z => ?_, fun _ _ p hp => ?_⟩
    · have z2 := r1.nil_iff.mp z
      subst z2
      rw [← e2]
      exact q _ H2 (g1.trans g2) t2
    · have z2 := r2.nil_iff.mp z
      subst z2
      rw [← e1]
      exact q _ H2 (g1.trans g2) (by rw [List.append_nil]; exact t1')
    · have := TV.tup_new (W := W) g2.2 hp (r1.append r2)
      exact q _ _ ((g1.trans g2).trans this.1) this.2
/-- a tracked list -/
def EL0 (K : Fg) (W : Wd) (H0 : Hp) (te : TE) (ρ : List SD) (ds : List PyData) : Prop := ∀ σ H, Env K W H0 σ H ρ → ∀ Q : VK, (∀ p xs H2, Gr W H H2 → ¬ W.M p → H2 p = some (.lst xs) → TVs K H2 xs ds → Q (.ref p) H2) → te σ H Q
theorem EN.e0 {ds : List PyData} (h : EN K W H0 te ρ ds) : EL0 K W H0 te ρ ds := fun σ H e Q q => h σ H e Q fun p xs H2 g hp h2 hs => q p xs H2 g (noM_none e.j hp) h2 hs
theorem el0_var {i : Nat} {ds : List PyData} (h : ρ[i]? = some (.l ds)) : EL0 K W H0 (tVar i) ρ ds := fun σ H e Q q => by
  obtain ⟨a, xs, e1, _, e2, e3, e4⟩ := e.slot i _ h
  exact ⟨.ref a, e1, q a xs H (Gr.refl e.j) e2 e3 e4⟩
theorem en_cat {xs ys : List PyData} (ha : EL0 K W H0 ta ρ xs) (hb : EN K W H0 tb ρ ys) (hl : xs.length + ys.length ≤ 100000) : EN K W H0 (tOp rCat ta tb) ρ (xs ++ ys) := fun σ H e Q q =>
  ha σ H e _ fun p us H1 g1 m1 h1 t1 => hb σ H1 (e.gr g1) _ fun p2 vs H2 g2 hp2 h2 t2 => by
    have t1' := t1.tk (g2.1.tk g1.2)
    refine ⟨p, p2, us, vs, rfl, rfl, g2.1 _ _ h1 m1, h2, by rw [t1'.length, t2.length]; exact sz_of hl, fun p3 hp => ?_⟩
    have g := Gr.of_same g2.2 (same_new (o := .lst (us ++ vs)) hp)
    exact q p3 _ _ ((g1.trans g2).trans g) ((g1.trans g2).1.free (g1.trans g2).2 hp) upd_same ((t1'.append t2).tk (g.1.tk g2.2))
theorem ed_rep {xs : List PyData} {k : Int} (ha : ED K W H0 ta ρ (.tuple xs)) (hb : ED K W H0 tb ρ (.int k)) (hne : xs ≠ []) (hk : 2 ≤ k ∧ k ≤ 1000) (hl : xs.length ≤ 1000) : ED K W H0 (tOp (rRepT K) ta tb) ρ (.tuple (List.replicate k.toNat xs).flatten) := fun σ H e Q q =>
  ha σ H e _ fun v H1 g1 t1 => hb σ H1 (e.gr g1) _ fun w H2 g2 t2 => by
    have t1' := t1.tk (g2.1.tk g1.2)
    obtain ⟨a, us, e1, s1, r1⟩ := t1'.tup_inv
    refine ⟨a, k, us, e1, t2.int_inv, s1, fun z => hne (r1.nil_iff.mp z), hk.1, hk.2, by rw [r1.length]; exact hl, fun p hp => ?_⟩
    have key : ∀ n : Nat, TVs K H2 (List.replicate n us).flatten (List.replicate n xs).flatten := by
      intro n
      induction n with
      | zero => exact .nil
      | succ n ih => rw [List.replicate_succ, List.replicate_succ, List.flatten_cons, List.flatten_cons]; exact r1.append ih
    have := TV.tup_new (W := W) g2.2 hp (key k.toNat)
    exact q _ _ ((g1.trans g2).trans this.1) this.2
/-! ### slices of tuples -/
def EO (K : Fg) (W : Wd) (H0 : Hp) (to : TO) (ρ : List SD) (o : Option Int) : Prop := ∀ σ H, Env K W H0 σ H ρ → ∀ Q : Option Int → Hp → Prop, (∀ H2, Gr W H H2 → Q o H2) → to σ H Q
theorem eo_none : EO K W H0 tNoPart ρ none := fun σ H e Q q => q H (Gr.refl e.j)
theorem eo_some {i : Int} (h : ED K W H0 te ρ (.int i)) : EO K W H0 (tPart te) ρ (some i) := fun σ H e Q q => h σ H e _ fun v H1 g t => ⟨i, t.int_inv, q H1 g⟩
def cutD (xs : List PyData) (lo hi : Option Int) : List PyData := (xs.drop (HT.sIx xs.length 0 lo)).take (HT.sIx xs.length xs.length hi - HT.sIx xs.length 0 lo)
theorem ed_sl {xs : List PyData} {lo hi : Option Int} {tlo thi : TO} (ha : ED K W H0 ta ρ (.tuple xs)) (hb : EO K W H0 tlo ρ lo) (hc : EO K W H0 thi ρ hi) : ED K W H0 (L2.tSl (rSlA K) ta tlo thi) ρ (.tuple (cutD xs lo hi)) := fun σ H e Q q =>
  ha σ H e _ fun v H1 g1 t1 => hb σ H1 (e.gr g1) _ fun H2 g2 => hc σ H2 (e.gr (g1.trans g2)) _ fun H3 g3 => by
    have g := g2.trans g3
    have t1' := t1.tk (g.1.tk g1.2)
    obtain ⟨a, us, e1, s1, r1⟩ := t1'.tup_inv
    refine ⟨a, us, e1, s1, fun z => ?_, fun _ p hp => ?_⟩
    · have : cutD xs lo hi = xs := by
        unfold cutD
        rw [← r1.length, z.1, z.2, List.drop_zero, Nat.sub_zero, r1.length, List.take_length]
      rw [← e1]
      exact q _ H3 (g1.trans g) (by rw [this]; exact t1')
    · have r : TVs K H3 (cutV us lo hi) (cutD xs lo hi) := by
        unfold cutV cutD
        rw [r1.length]
        exact (r1.drop _).take _
      have := TV.tup_new (W := W) g3.2 hp r
      exact q _ _ ((g1.trans g).trans this.1) this.2
/-! ### -i, int(i) -/
theorem ed_neg {i : Int} (h : ED K W H0 te ρ (.int i)) : ED K W H0 (tUn (rU fun i => .int (-i)) te) ρ (.int (-i)) := fun σ H e Q q => h σ H e _ fun v H1 g t => ⟨i, t.int_inv, q _ H1 g .int⟩
theorem ed_int1 {i : Int} (h : ED K W H0 te ρ (.int i)) : ED K W H0 (tCB (fun xs H Q => (∃ i, xs = [.int i] ∧ Q (.int i) H) ∨ ∃ k, xs = [.bl k] ∧ Q (.int (if k then 1 else 0)) H) (tCons te tNil)) ρ (.int i) := fun σ H e Q q => h σ H e _ fun v H1 g t => .inl ⟨i, by rw [t.int_inv], q _ H1 g .int⟩
/-! ### a, b = x, y -/
theorem s_par {i j : Nat} {ts : TA} (h : EDs K W H0 ts ρ [x, y]) (k : Nx K W H0 D.nx ((ρ.set i (.d x)).set j (.d y))) : SDo K W H0 (tPar i j ts) D ρ := fun σ H e => by
  refine h σ H e _ fun vs H1 g t => ?_
  match vs, t with
  | [v, w], t => exact ⟨v, w, rfl, k _ _ (((e.gr g).setD t.inv.1 i).setD t.inv.2.inv.1 j)⟩
  | [], t => cases t.1
  | [_], t => cases t.inv.2.1
  | _ :: _ :: _ :: _, t => cases t.inv.2.inv.2.1
end
end Hd

set_option Elab.async false
set_option linter.all false
set_option maxRecDepth 100000
set_option maxHeartbeats 4000000
namespace Hf
open PySem PySem.Spec PyProof.Rows L2
def top (i : Nat) : Stmt := PySem.Challenge.pw_holdfills_k19_whole_networks.main.body.getD i (.Pass ⟨0, 0, 0, 0⟩)
abbrev FD (K : PySem.W.Frag) (mg : Str → Option Value) (x : Str) (st : Stmt) : Prop := ∃ f fd, FunD K x x (defArgs st) (defBody st) (defScope st) [] [] f fd ∧ mg x = some (.ref f)
abbrev s_is_from : Stmt := top 11
abbrev s_is_holder : Stmt := top 12
abbrev s_need_holder : Stmt := top 13
abbrev s_is_thing : Stmt := top 15
abbrev s_is_filling : Stmt := top 16
abbrev s_check_filling : Stmt := top 17
abbrev s_rows_of : Stmt := top 18
abbrev s_need_size : Stmt := top 21
abbrev s_is_within : Stmt := top 24
abbrev s_least_sets : Stmt := top 25
abbrev s_is_set : Stmt := top 26
abbrev s_is_lot : Stmt := top 27
abbrev s_level_so : Stmt := top 28
abbrev s_bits_of : Stmt := top 29
abbrev s_ones_of : Stmt := top 30
abbrev s_need_low : Stmt := top 32
abbrev s_need_pair : Stmt := top 33
abbrev s_need_three : Stmt := top 34
abbrev s_check_riser : Stmt := top 36
abbrev s_need_riser : Stmt := top 37
abbrev s_riser_so : Stmt := top 38
abbrev s_riser_done : Stmt := top 39
abbrev s_greatest_of : Stmt := top 40
abbrev s_least_of : Stmt := top 41
abbrev s_lot_behind : Stmt := top 42
abbrev s_riser_behind : Stmt := top 43
abbrev s_sorter_so : Stmt := top 46
abbrev s_sorter : Stmt := top 47
abbrev s_unsorted_so : Stmt := top 48
abbrev s_is_sorter : Stmt := top 49
abbrev s_is_step : Stmt := top 50
abbrev s_network : Stmt := top 51
abbrev s__law_mixed : Stmt := top 53
abbrev s__law_begin : Stmt := top 54
abbrev s__law_draw : Stmt := top 55
abbrev s__law_sets : Stmt := top 56
abbrev s__law_of : Stmt := top 57
abbrev s__law_rows : Stmt := top 58
abbrev s__law_by_lot : Stmt := top 59
abbrev s__law_like : Stmt := top 60
abbrev s__law_risen : Stmt := top 61
abbrev s__law_word : Stmt := top 62
abbrev s__law_exchanged : Stmt := top 63
abbrev s__law_steps : Stmt := top 64
abbrev s__law_sorter : Stmt := top 65
abbrev s__law_leads : Stmt := top 66
abbrev s__law_right : Stmt := top 67
abbrev s__law_known : Stmt := top 68
abbrev s__law_refused : Stmt := top 69
abbrev s_law : Stmt := top 70
abbrev N_is_from : List Str := ["value", "low", "high"]
abbrev P_is_from : List Str := ["value", "low", "high"]
theorem sc_is_from : FnScope N_is_from P_is_from (defScope s_is_from) := ⟨rfl, rfl, rfl, by decide +kernel, rfl, by decide +kernel, by decide +kernel⟩
abbrev N_is_holder : List Str := ["value", "item"]
abbrev P_is_holder : List Str := ["value"]
theorem sc_is_holder : FnScope N_is_holder P_is_holder (defScope s_is_holder) := ⟨rfl, rfl, rfl, by decide +kernel, rfl, by decide +kernel, by decide +kernel⟩
abbrev N_need_holder : List Str := ["value"]
abbrev P_need_holder : List Str := ["value"]
theorem sc_need_holder : FnScope N_need_holder P_need_holder (defScope s_need_holder) := ⟨rfl, rfl, rfl, by decide +kernel, rfl, by decide +kernel, by decide +kernel⟩
abbrev N_is_thing : List Str := ["value"]
abbrev P_is_thing : List Str := ["value"]
theorem sc_is_thing : FnScope N_is_thing P_is_thing (defScope s_is_thing) := ⟨rfl, rfl, rfl, by decide +kernel, rfl, by decide +kernel, by decide +kernel⟩
abbrev N_is_filling : List Str := ["holder", "value", "thing"]
abbrev P_is_filling : List Str := ["holder", "value"]
theorem sc_is_filling : FnScope N_is_filling P_is_filling (defScope s_is_filling) := ⟨rfl, rfl, rfl, by decide +kernel, rfl, by decide +kernel, by decide +kernel⟩
abbrev N_check_filling : List Str := ["holder", "value"]
abbrev P_check_filling : List Str := ["holder", "value"]
theorem sc_check_filling : FnScope N_check_filling P_check_filling (defScope s_check_filling) := ⟨rfl, rfl, rfl, by decide +kernel, rfl, by decide +kernel, by decide +kernel⟩
abbrev N_rows_of : List Str := ["things", "size", "found", "step", "longer", "row", "thing"]
abbrev P_rows_of : List Str := ["things", "size"]
theorem sc_rows_of : FnScope N_rows_of P_rows_of (defScope s_rows_of) := ⟨rfl, rfl, rfl, by decide +kernel, rfl, by decide +kernel, by decide +kernel⟩
abbrev N_need_size : List Str := ["size"]
abbrev P_need_size : List Str := ["size"]
theorem sc_need_size : FnScope N_need_size P_need_size (defScope s_need_size) := ⟨rfl, rfl, rfl, by decide +kernel, rfl, by decide +kernel, by decide +kernel⟩
abbrev N_is_within : List Str := ["one", "other", "place"]
abbrev P_is_within : List Str := ["one", "other"]
theorem sc_is_within : FnScope N_is_within P_is_within (defScope s_is_within) := ⟨rfl, rfl, rfl, by decide +kernel, rfl, by decide +kernel, by decide +kernel⟩
abbrev N_least_sets : List Str := ["sets", "found", "item", "less"]
abbrev P_least_sets : List Str := ["sets"]
theorem sc_least_sets : FnScope N_least_sets P_least_sets (defScope s_least_sets) := ⟨rfl, rfl, rfl, by decide +kernel, rfl, by decide +kernel, by decide +kernel⟩
abbrev N_is_set : List Str := ["size", "value", "place"]
abbrev P_is_set : List Str := ["size", "value"]
theorem sc_is_set : FnScope N_is_set P_is_set (defScope s_is_set) := ⟨rfl, rfl, rfl, by decide +kernel, rfl, by decide +kernel, by decide +kernel⟩
abbrev N_is_lot : List Str := ["size", "value", "item"]
abbrev P_is_lot : List Str := ["size", "value"]
theorem sc_is_lot : FnScope N_is_lot P_is_lot (defScope s_is_lot) := ⟨rfl, rfl, rfl, by decide +kernel, rfl, by decide +kernel, by decide +kernel⟩
abbrev N_level_so : List Str := ["lot", "things", "place", "item"]
abbrev P_level_so : List Str := ["lot", "things"]
theorem sc_level_so : FnScope N_level_so P_level_so (defScope s_level_so) := ⟨rfl, rfl, rfl, by decide +kernel, rfl, by decide +kernel, by decide +kernel⟩
abbrev N_bits_of : List Str := ["size"]
abbrev P_bits_of : List Str := ["size"]
theorem sc_bits_of : FnScope N_bits_of P_bits_of (defScope s_bits_of) := ⟨rfl, rfl, rfl, by decide +kernel, rfl, by decide +kernel, by decide +kernel⟩
abbrev N_ones_of : List Str := ["row", "place", "bit"]
abbrev P_ones_of : List Str := ["row"]
theorem sc_ones_of : FnScope N_ones_of P_ones_of (defScope s_ones_of) := ⟨rfl, rfl, rfl, by decide +kernel, rfl, by decide +kernel, by decide +kernel⟩
abbrev N_need_low : List Str := ["holder", "places"]
abbrev P_need_low : List Str := ["holder"]
theorem sc_need_low : FnScope N_need_low P_need_low (defScope s_need_low) := ⟨rfl, rfl, rfl, by decide +kernel, rfl, by decide +kernel, by decide +kernel⟩
abbrev N_need_pair : List Str := ["holder", "goal"]
abbrev P_need_pair : List Str := ["holder", "goal"]
theorem sc_need_pair : FnScope N_need_pair P_need_pair (defScope s_need_pair) := ⟨rfl, rfl, rfl, by decide +kernel, rfl, by decide +kernel, by decide +kernel⟩
abbrev N_need_three : List Str := ["holder", "middle", "goal"]
abbrev P_need_three : List Str := ["holder", "middle", "goal"]
theorem sc_need_three : FnScope N_need_three P_need_three (defScope s_need_three) := ⟨rfl, rfl, rfl, by decide +kernel, rfl, by decide +kernel, by decide +kernel⟩
abbrev N_check_riser : List Str := ["holder", "goal", "value", "shape", "places", "pair", "place", "lot"]
abbrev P_check_riser : List Str := ["holder", "goal", "value"]
theorem sc_check_riser : FnScope N_check_riser P_check_riser (defScope s_check_riser) := ⟨rfl, rfl, rfl, by decide +kernel, rfl, by decide +kernel, by decide +kernel⟩
abbrev N_need_riser : List Str := ["holder", "goal", "riser"]
abbrev P_need_riser : List Str := ["holder", "goal", "riser"]
theorem sc_need_riser : FnScope N_need_riser P_need_riser (defScope s_need_riser) := ⟨rfl, rfl, rfl, by decide +kernel, rfl, by decide +kernel, by decide +kernel⟩
abbrev N_riser_so : List Str := ["riser", "filling", "goal", "lots", "lot"]
abbrev P_riser_so : List Str := ["riser", "filling"]
theorem sc_riser_so : FnScope N_riser_so P_riser_so (defScope s_riser_so) := ⟨rfl, rfl, rfl, by decide +kernel, rfl, by decide +kernel, by decide +kernel⟩
abbrev N_riser_done : List Str := ["holder", "goal", "riser", "filling"]
abbrev P_riser_done : List Str := ["holder", "goal", "riser", "filling"]
theorem sc_riser_done : FnScope N_riser_done P_riser_done (defScope s_riser_done) := ⟨rfl, rfl, rfl, by decide +kernel, rfl, by decide +kernel, by decide +kernel⟩
abbrev N_greatest_of : List Str := ["lots", "lot", "item"]
abbrev P_greatest_of : List Str := ["lots"]
theorem sc_greatest_of : FnScope N_greatest_of P_greatest_of (defScope s_greatest_of) := ⟨rfl, rfl, rfl, by decide +kernel, rfl, by decide +kernel, by decide +kernel⟩
abbrev N_least_of : List Str := ["lots", "found", "lot", "near", "far"]
abbrev P_least_of : List Str := ["lots"]
theorem sc_least_of : FnScope N_least_of P_least_of (defScope s_least_of) := ⟨rfl, rfl, rfl, by decide +kernel, rfl, by decide +kernel, by decide +kernel⟩
abbrev N_lot_behind : List Str := ["lot", "lots", "place", "item"]
abbrev P_lot_behind : List Str := ["lot", "lots"]
theorem sc_lot_behind : FnScope N_lot_behind P_lot_behind (defScope s_lot_behind) := ⟨rfl, rfl, rfl, by decide +kernel, rfl, by decide +kernel, by decide +kernel⟩
abbrev N_riser_behind : List Str := ["holder", "middle", "goal", "first", "second", "found", "shape", "lots", "lot"]
abbrev P_riser_behind : List Str := ["holder", "middle", "goal", "first", "second"]
theorem sc_riser_behind : FnScope N_riser_behind P_riser_behind (defScope s_riser_behind) := ⟨rfl, rfl, rfl, by decide +kernel, rfl, by decide +kernel, by decide +kernel⟩
abbrev N_sorter_so : List Str := ["size", "lots", "place", "row"]
abbrev P_sorter_so : List Str := ["size"]
theorem sc_sorter_so : FnScope N_sorter_so P_sorter_so (defScope s_sorter_so) := ⟨rfl, rfl, rfl, by decide +kernel, rfl, by decide +kernel, by decide +kernel⟩
abbrev N_sorter : List Str := ["size"]
abbrev P_sorter : List Str := ["size"]
theorem sc_sorter : FnScope N_sorter P_sorter (defScope s_sorter) := ⟨rfl, rfl, rfl, by decide +kernel, rfl, by decide +kernel, by decide +kernel⟩
abbrev N_unsorted_so : List Str := ["size", "riser", "row"]
abbrev P_unsorted_so : List Str := ["size", "riser"]
theorem sc_unsorted_so : FnScope N_unsorted_so P_unsorted_so (defScope s_unsorted_so) := ⟨rfl, rfl, rfl, by decide +kernel, rfl, by decide +kernel, by decide +kernel⟩
abbrev N_is_sorter : List Str := ["size", "riser"]
abbrev P_is_sorter : List Str := ["size", "riser"]
theorem sc_is_sorter : FnScope N_is_sorter P_is_sorter (defScope s_is_sorter) := ⟨rfl, rfl, rfl, by decide +kernel, rfl, by decide +kernel, by decide +kernel⟩
abbrev N_is_step : List Str := ["size", "value"]
abbrev P_is_step : List Str := ["size", "value"]
theorem sc_is_step : FnScope N_is_step P_is_step (defScope s_is_step) := ⟨rfl, rfl, rfl, by decide +kernel, rfl, by decide +kernel, by decide +kernel⟩
abbrev N_network : List Str := ["size", "steps", "step", "lots", "place", "near", "far", "pair"]
abbrev P_network : List Str := ["size", "steps"]
theorem sc_network : FnScope N_network P_network (defScope s_network) := ⟨rfl, rfl, rfl, by decide +kernel, rfl, by decide +kernel, by decide +kernel⟩
abbrev N__law_mixed : List Str := ["_law_cell", "_law_k"]
abbrev P__law_mixed : List Str := ["_law_cell", "_law_k"]
theorem sc__law_mixed : FnScope N__law_mixed P__law_mixed (defScope s__law_mixed) := ⟨rfl, rfl, rfl, by decide +kernel, rfl, by decide +kernel, by decide +kernel⟩
abbrev N__law_begin : List Str := ["_law_script", "_law_cells_so", "_law_lefts", "_law_cell"]
abbrev P__law_begin : List Str := ["_law_script"]
theorem sc__law_begin : FnScope N__law_begin P__law_begin (defScope s__law_begin) := ⟨rfl, rfl, rfl, by decide +kernel, rfl, by decide +kernel, by decide +kernel⟩
abbrev N__law_draw : List Str := ["_law_state", "_law_limit", "_law_at", "_law_place", "_law_left", "_law_number"]
abbrev P__law_draw : List Str := ["_law_state", "_law_limit"]
theorem sc__law_draw : FnScope N__law_draw P__law_draw (defScope s__law_draw) := ⟨rfl, rfl, rfl, by decide +kernel, rfl, by decide +kernel, by decide +kernel⟩
abbrev N__law_sets : List Str := ["_law_many_so", "_law_found", "_law_spot", "_law_some"]
abbrev P__law_sets : List Str := ["_law_many_so"]
theorem sc__law_sets : FnScope N__law_sets P__law_sets (defScope s__law_sets) := ⟨rfl, rfl, rfl, by decide +kernel, rfl, by decide +kernel, by decide +kernel⟩
abbrev N__law_of : List Str := ["_law_state", "_law_some"]
abbrev P__law_of : List Str := ["_law_state", "_law_some"]
theorem sc__law_of : FnScope N__law_of P__law_of (defScope s__law_of) := ⟨rfl, rfl, rfl, by decide +kernel, rfl, by decide +kernel, by decide +kernel⟩
abbrev N__law_rows : List Str := ["_law_many_so", "_law_size", "_law_found", "_law_step", "_law_more", "_law_row", "_law_thing"]
abbrev P__law_rows : List Str := ["_law_many_so", "_law_size"]
theorem sc__law_rows : FnScope N__law_rows P__law_rows (defScope s__law_rows) := ⟨rfl, rfl, rfl, by decide +kernel, rfl, by decide +kernel, by decide +kernel⟩
abbrev N__law_by_lot : List Str := ["_law_lot_so", "_law_row", "_law_spot", "_law_some"]
abbrev P__law_by_lot : List Str := ["_law_lot_so", "_law_row"]
theorem sc__law_by_lot : FnScope N__law_by_lot P__law_by_lot (defScope s__law_by_lot) := ⟨rfl, rfl, rfl, by decide +kernel, rfl, by decide +kernel, by decide +kernel⟩
abbrev N__law_like : List Str := ["_law_got", "_law_due"]
abbrev P__law_like : List Str := ["_law_got", "_law_due"]
theorem sc__law_like : FnScope N__law_like P__law_like (defScope s__law_like) := ⟨rfl, rfl, rfl, by decide +kernel, rfl, by decide +kernel, by decide +kernel⟩
abbrev N__law_risen : List Str := ["_law_table_so", "_law_filled_so", "_law_pick", "_law_lots_so", "_law_lot_so"]
abbrev P__law_risen : List Str := ["_law_table_so", "_law_filled_so"]
theorem sc__law_risen : FnScope N__law_risen P__law_risen (defScope s__law_risen) := ⟨rfl, rfl, rfl, by decide +kernel, rfl, by decide +kernel, by decide +kernel⟩
abbrev N__law_exchanged : List Str := ["_law_row", "_law_steps_so", "_law_found", "_law_near", "_law_far"]
abbrev P__law_exchanged : List Str := ["_law_row", "_law_steps_so"]
theorem sc__law_exchanged : FnScope N__law_exchanged P__law_exchanged (defScope s__law_exchanged) := ⟨rfl, rfl, rfl, by decide +kernel, rfl, by decide +kernel, by decide +kernel⟩
abbrev N__law_steps : List Str := ["_law_state", "_law_many_so", "_law_most", "_law_found", "_law_turn", "_law_near"]
abbrev P__law_steps : List Str := ["_law_state", "_law_many_so", "_law_most"]
theorem sc__law_steps : FnScope N__law_steps P__law_steps (defScope s__law_steps) := ⟨rfl, rfl, rfl, by decide +kernel, rfl, by decide +kernel, by decide +kernel⟩
abbrev N__law_sorter : List Str := ["_law_many_so", "_law_lots_so", "_law_spot", "_law_some", "_law_told"]
abbrev P__law_sorter : List Str := ["_law_many_so"]
theorem sc__law_sorter : FnScope N__law_sorter P__law_sorter (defScope s__law_sorter) := ⟨rfl, rfl, rfl, by decide +kernel, rfl, by decide +kernel, by decide +kernel⟩
abbrev N__law_leads : List Str := ["_law_many_so", "_law_told", "_law_steps_so", "_law_row"]
abbrev P__law_leads : List Str := ["_law_many_so", "_law_told", "_law_steps_so"]
theorem sc__law_leads : FnScope N__law_leads P__law_leads (defScope s__law_leads) := ⟨rfl, rfl, rfl, by decide +kernel, rfl, by decide +kernel, by decide +kernel⟩
abbrev N__law_right : List Str := ["_law_state", "_law_many_so", "_law_near", "_law_far", "_law_only", "_law_both", "_law_drawn", "_law_spot", "_law_row", "_law_due", "_law_first", "_law_second", "_law_sorts"]
abbrev P__law_right : List Str := ["_law_state", "_law_many_so"]
theorem sc__law_right : FnScope N__law_right P__law_right (defScope s__law_right) := ⟨rfl, rfl, rfl, by decide +kernel, rfl, by decide +kernel, by decide +kernel⟩
abbrev N__law_known : List Str := ["_law_state", "_law_three", "_law_four", "_law_got", "_law_due"]
abbrev P__law_known : List Str := ["_law_state"]
theorem sc__law_known : FnScope N__law_known P__law_known (defScope s__law_known) := ⟨rfl, rfl, rfl, by decide +kernel, rfl, by decide +kernel, by decide +kernel⟩
abbrev N__law_refused : List Str := ["_law_state", "_law_odd", "_law_got", "_law_due", "_law_bads", "_law_bad"]
abbrev P__law_refused : List Str := ["_law_state"]
theorem sc__law_refused : FnScope N__law_refused P__law_refused (defScope s__law_refused) := ⟨rfl, rfl, rfl, by decide +kernel, rfl, by decide +kernel, by decide +kernel⟩
abbrev N_law : List Str := ["_law_script", "_law_state", "_law_many_so"]
abbrev P_law : List Str := ["_law_script"]
theorem sc_law : FnScope N_law P_law (defScope s_law) := ⟨rfl, rfl, rfl, by decide +kernel, rfl, by decide +kernel, by decide +kernel⟩
structure Txt (mg : Str → Option Value) : Prop where
  b_isinstance : mg "isinstance" = none
  b_len : mg "len" = none
  b_sorted : mg "sorted" = none
  b_set : mg "set" = none
  b_tuple : mg "tuple" = none
  b_list : mg "list" = none
  b_range : mg "range" = none
  b_max : mg "max" = none
  b_min : mg "min" = none
  b_enumerate : mg "enumerate" = none
  b_sum : mg "sum" = none
  b_int : mg "int" = none
  b_repr : mg "repr" = none
  b_super : mg "super" = none
  b_bool : mg "bool" = none
  c_MOST_SHAPES : ∃ t, mg "MOST_SHAPES" = some (.int 60 t)
  c_MOST_PLACES : ∃ t, mg "MOST_PLACES" = some (.int 12 t)
  c_MOST_THING : ∃ t, mg "MOST_THING" = some (.int (10 ^ 60) t)
  c_MOST_LOOKED : ∃ t, mg "MOST_LOOKED" = some (.int 4 t)
  c_MOST_SETS : ∃ t, mg "MOST_SETS" = some (.int 6 t)
  c_MOST_STEPS : ∃ t, mg "MOST_STEPS" = some (.int 60 t)
theorem pe_gi {X : Cx} {x : Str} {i : Int} {pos : Pos} (h : ∃ t, X.mg x = some (.int i t)) (hg : Gl X x := by rfl) (hd : (x == ("__debug__" : Str)) = false := by decide) : PE X (.Name x pos) (tC (.int i)) := by
  obtain ⟨t, hm⟩ := h
  exact pe_glob hg hm ⟨t, rfl⟩ hd
end Hf

set_option Elab.async false
set_option linter.all false
set_option maxRecDepth 100000
set_option maxHeartbeats 4000000
namespace Hd
open PySem PySem.Spec PyProof.Rows L2
/-! ### enumerate(tuple) -/
theorem meets_enumT (l : Addr) (items : Array Value) (n : Nat) (dct : Option Addr) (sl : Array (Option Value)) :
    Meets (Builtin.«enumerate.__new__» ⟨[.type "enumerate", .ref l], []⟩) (fun _ R s => s.heap.get? l = some { cls := .type "tuple", dict := dct, data := .seq items n, slots := sl } ∧
      R (.ok (.ret (.ref (s.heap.push { cls := .type "tuple_iterator", data := .fields #[.ref l, .int 0 0] }).objs.size)))
        { s with heap := (s.heap.push { cls := .type "tuple_iterator", data := .fields #[.ref l, .int 0 0] }).push { cls := .type "enumerate", data := .fields #[.none, .bool false, .ref s.heap.objs.size, rawInt 0, .none, .none] } }) :=
  .of_wp fun prog w A R s h => by
    obtain ⟨hp, g, d, tk, os⟩ := s; obtain ⟨hl, h⟩ := h
    have hsub := sub_enumerate
    have hL : Heap.IsTuple (Shared.heap ⟨hp, g, d, tk, os⟩) l items := ⟨_, hl, rfl, n, rfl⟩
    wp_walk using AutoSeq1.wpAny_loadPart' hl
    refine wpAny_stack_any fun st => wpAny_pure ?_
    split
    · rename_i c _ _ _ _ _
      cases (c == Value.type "enumerate")
      · wp_walk using AutoSeq1.wpAny_loadPart' hl, wpAny_pyIter_tuple hL
        exact ⟨_, rfl, h⟩
      · wp_walk using AutoSeq1.wpAny_loadPart' hl, wpAny_pyIter_tuple hL
        exact ⟨_, rfl, h⟩
    · wp_walk using AutoSeq1.wpAny_loadPart' hl, wpAny_pyIter_tuple hL
      exact ⟨_, rfl, h⟩
theorem call_enumT {prog : Program} {w : World} {A : Around} {E : Value → Shared → Prop} {s : Shared} {l : Addr} {items : Array Value} {Q : Value → Shared → Prop} (hL : s.heap.IsTuple l items)
    (h : ∀ h', IsEnum h' (s.heap.objs.size + 1) s.heap.objs.size 0 .none → h'.IsTupleIter s.heap.objs.size l 0 →
      (∀ b o, s.heap.get? b = some o → h'.get? b = some o) → Q (.ref (s.heap.objs.size + 1)) { s with heap := h' }) :
    wpAny (model prog w) A (call (.type "enumerate") [.ref l]) Q E s := by
  obtain ⟨⟨c, dct, dt, sl⟩, hl, hc, n, hd⟩ := hL
  replace hc : c = .type "tuple" := hc
  replace hd : dt = .seq items n := hd
  subst hc hd
  refine callType_new F.called_enumerate (by decide) (F.typeCall_enumerate_1 _) (F.newCall_enumerate_1 _) (fun obj => F.args_object_init_2 obj _) F.entry_enumerate_new
    (meets_enumT l items n dct sl) ⟨hl, ?_⟩
  have hz : (s.heap.push { cls := .type "tuple_iterator", data := .fields #[.ref l, .int 0 0] }).objs.size = s.heap.objs.size + 1 := Heap.size_push ..
  show _ ∧ _
  rw [hz]
  have he : IsEnum ((s.heap.push { cls := .type "tuple_iterator", data := .fields #[.ref l, .int 0 0] }).push
      { cls := .type "enumerate", data := .fields #[.none, .bool false, .ref s.heap.objs.size, rawInt 0, .none, .none] }) (s.heap.objs.size + 1) s.heap.objs.size 0 .none := by
    have := Heap.get?_push_size (s.heap.push { cls := .type "tuple_iterator", data := .fields #[.ref l, .int 0 0] })
      (o := { cls := .type "enumerate", data := .fields #[.none, .bool false, .ref s.heap.objs.size, rawInt 0, .none, .none] }) rfl
    rw [hz] at this; exact this
  refine ⟨⟨_, he, rfl⟩, h _ he ⟨_, Heap.get?_push_of_some _ (Heap.get?_push_size _ rfl), rfl, rfl⟩ fun b o x => Heap.get?_push_of_some _ (Heap.get?_push_of_some _ x)⟩
/-- at the end -/
theorem drawsEnd {prog : Program} {w : World} {A : Around} (hh : A.handled = none) (it t : Addr) (i : Nat) (items : Array Value) (hx : items[i]? = none) :
    Draws prog w A it [it, t] i (fun _ _ => False) (fun j h => j = i ∧ h.IsTupleIter it t i ∧ h.IsTuple t items) where
  live := fun _ _ st => let ⟨o, ho, _⟩ := st.2.1; ⟨o, ho⟩
  frame := fun _ _ _ st hk => ⟨st.1, st.2.1.at fun o e => hk it (by simp) o e, st.2.2.at fun o e => hk t (by simp) o e⟩
  item := fun j s Q E hj st _ => absurd st.1 (Nat.ne_of_lt hj)
  done := fun s Q E st hE => wpAny_nextOf_tuple_end hh st.2.1 st.2.2 hx hE
/-- the tuple at a, each item in a new pair -/
def IteT (K : PySem.W.Frag) (a : Addr) : It :=
  ⟨fun i H => ∃ (xs : List V) (x : V), SqT K H a xs ∧ xs[i]? = some x, fun i H v H' => ∃ T x, v = .ref T ∧ H T = none ∧ H' = upd H T (.tup [.int (i : Nat), x]) ∧ ∀ xs, SqT K H a xs → xs[i]? = some x, fun i H => ∃ xs : List V, SqT K H a xs ∧ xs.length ≤ i⟩
theorem turn_enumT {P : Program} {w : World} {K : PySem.W.Frag} {elts : List Expr} {kk : Nat} {tpos : Pos} (a e it : Addr) :
    Turn P w K (.Tuple elts kk tpos) (IteT K a) [e, it] e (fun i h => (∃ old, IsEnum h e it ((i : Nat) : Int) old) ∧ h.IsTupleIter it a i ∧ e ≠ it) where
  mem := by simp
  obj := fun i h st b hb => by
    obtain ⟨⟨old, he⟩, ⟨o, ho, hc, hd⟩, _⟩ := st
    have e' : b = e ∨ b = it := by simpa using hb
    rcases e' with z | z
    · rw [z]; exact ⟨_, he, fun v q => nomatch q⟩
    · rw [z]; exact ⟨o, ho, fun v q => by rw [hd] at q; cases q⟩
  keep := fun i h h' st k => let ⟨⟨old, he⟩, hi, hne⟩ := st; ⟨⟨old, k e (by simp) _ he⟩, hi.at fun o q => k it (by simp) o q, hne⟩
  item := by
    intro X hP hw hK hc i pins s σ H E I hf st hg
    subst hP hw hK
    obtain ⟨⟨old, he⟩, hit, hne⟩ := st
    obtain ⟨xs, x, hq, hx⟩ := hg
    obtain ⟨its, rv, p, hz⟩ := I.tuple hq
    obtain ⟨u, hu, ru⟩ := rv.get hx
    have hel : e < s.heap.objs.size := Heap.lt_size he
    have hil : it < s.heap.objs.size := by obtain ⟨_, q, _⟩ := hit; exact Heap.lt_size q
    have hT : s.heap.IsTuple a its.toArray := p
    have hai : a ≠ it := fun z => by
      obtain ⟨o, q1, q2, _⟩ := hit
      obtain ⟨o', p1, p2, _⟩ := hT
      rw [z, q1] at p1
      cases p1
      rw [q2] at p2
      exact absurd p2 (by decide)
    have hea : e ≠ a := fun z => by
      obtain ⟨o', p1, p2, _⟩ := hT
      rw [← z] at p1
      have := he.symm.trans p1
      cases this
      have p3 : Value.type "enumerate" = Value.type "tuple" := p2
      exact absurd p3 (by decide)
    have hlt : i < its.toArray.size := by
      have := (List.getElem?_eq_some_iff.mp hu).1
      simpa using this
    refine wpAny_pyNext_enum_itemD (Draws.tuple (A := X.A.in1) (I.ok.hd hc) it a hai its.toArray) he ⟨hit, hT⟩ hlt hne (by simp [hne, hea]) fun y h' tk hy ho hst' hT' hsz hk => ?_
    have hy' : y = u := by
      have : its.toArray[i]? = some u := by simpa using hu
      rw [this] at hy
      exact (Option.some.inj hy).symm
    subst hy'
    refine ⟨_, rfl, wpAny_letOwnedTupleGo_enum (s := { s with heap := h', toks := tk + 1 }) ho fun h'' he' sb => ?_⟩
    have hT2 : h''.get? s.heap.objs.size = some { cls := .type "tuple", data := .seq #[.int i tk, y] } := (sb.2 _ (Nat.ne_of_gt hel)).trans hT'
    have new : ObjOk X.prog X.w (upd H s.heap.objs.size (.tup [.int (i : Nat), x])) h'' s.heap.objs.size (.tup [.int (i : Nat), x]) :=
      ⟨by show 2 ≤ sizeLine; decide, [.int i tk, y], .cons ⟨_, rfl⟩ (.cons ru .nil), ⟨_, hT2, rfl, _, rfl⟩⟩
    have I1 : Inv X pins σ (upd H s.heap.objs.size (.tup [.int (i : Nat), x])) { s with heap := h'', toks := tk + 1 } :=
      I.turnedNew (ch := [e, it]) (fun b ob hb q => (sb.2 b (fun z => hb (by simp [z]))).trans (hk b ob (fun z => hb (by simp [z])) (fun z => hb (by simp [z])) q)) hf (Nat.le_refl _) new
    refine ⟨.ref s.heap.objs.size, _, I1, rfl, ⟨_, x, rfl, I.hok.fresh (Nat.le_refl _), rfl, fun ys hy => by rw [I.tuple_inj hy hq]; exact hx⟩, ⟨⟨y, ?_⟩, hst'.1.at fun o q => (sb.2 it (Ne.symm hne)).trans q, hne⟩, fun b hb => ?_⟩
    · have e1 : ((i + 1 : Nat) : Int) = (i : Int) + 1 := by omega
      rw [e1]; exact he'
    · have hb' : b < s.heap.objs.size := by
        have e' : b = e ∨ b = it := by simpa using hb
        rcases e' with z | z
        · rw [z]; exact hel
        · rw [z]; exact hil
      rw [upd_ne (Nat.ne_of_lt hb')]
      exact (hf b hb).1
  done := by
    intro X hP hw hK hc i pins s σ H E I hf st hg
    subst hP hw hK
    obtain ⟨⟨old, he⟩, hit, hne⟩ := st
    obtain ⟨xs, hq, hx⟩ := hg
    obtain ⟨its, rv, p, hz⟩ := I.tuple hq
    obtain ⟨f0, f1, f2, f3, f4, f5⟩ := hf it (by simp)
    have hl := rv.length
    have hT : s.heap.IsTuple a its.toArray := p
    have hit' := hit
    obtain ⟨o, q1, q2, q3⟩ := hit
    have hai : a ≠ it := fun z => by
      obtain ⟨o', p1, p2, _⟩ := hT
      rw [z, q1] at p1
      cases p1
      rw [q2] at p2
      exact absurd p2 (by decide)
    have hno : its.toArray[i]? = none := by
      rw [List.getElem?_toArray]
      exact List.getElem?_eq_none (by omega)
    exact wpAny_pyNext_enum_endD (D := drawsEnd (A := X.A.in1) (I.ok.hd hc) it a i its.toArray hno) he ⟨rfl, hit', hT⟩ fun h' eb => ⟨rfl, I.turned (t' := s.toks) (fun b o hb q => eb b o hb q) f0 f1 f3 f4 f5⟩
  self := fun A i s Q E st h => let ⟨⟨_, he⟩, _⟩ := st; wpAny_pyIter_enum he h
def iEnumT (K : PySem.W.Frag) (ta : TA) : TI := fun σ H R => ta σ H fun vs H1 => ∃ a xs, vs = [.ref a] ∧ SqT K H1 a xs ∧ R (IteT K a) H1
theorem pi_enumT {X : Cx} {e : Expr} {ta : TA} {p pos tpos : Pos} {elts : List Expr} {kk : Nat} (hg : Gl X "enumerate") (hm : X.mg "enumerate" = none) (ha : PA X [e] ta) (hs : starEach [e] X.env = [(false, eval e X.env)] := by rfl) :
    PI X (.Tuple elts kk tpos) (.Call (.Name "enumerate" p) [e] [] pos) (iEnumT X.K ta) := by
  refine ⟨fun pins s σ H R I h => ?_⟩
  refine Call_ (ld_blt I hg hm boot_enumerate (PyProof.Rows.callWith_type1 (thn (ha.run pos pins s σ H _ I h) fun us s1 ⟨vs, H1, I1, r1, q1⟩ => ?_) hs rfl))
  obtain ⟨a, xs, ex, hq, q⟩ := q1
  subst ex
  cases r1 with
  | cons r rr =>
    cases rr
    cases r
    obtain ⟨its, rv, p', hz⟩ := I1.tuple hq
    refine call_enumT p' fun h' he hit hk => wpAny_pyIter_enum he ?_
    have I2 : Inv X pins σ H1 { s1 with heap := h' } := I1.kept (t' := s1.toks) hk
    refine ⟨s1.heap.objs.size + 1, [s1.heap.objs.size + 1, s1.heap.objs.size], _, _, H1, rfl, I2, turn_enumT a (s1.heap.objs.size + 1) s1.heap.objs.size, ⟨⟨.none, he⟩, hit, Nat.succ_ne_self _⟩, fun b hb => ?_, q⟩
    have e' : b = s1.heap.objs.size + 1 ∨ b = s1.heap.objs.size := by simpa using hb
    have hle : s1.heap.objs.size ≤ b := by
      rcases e' with z | z
      · rw [z]; exact Nat.le_add_right _ _
      · rw [z]; exact Nat.le_refl _
    exact I1.fpOk hle (I1.hok.fresh hle)
end Hd

set_option Elab.async false
set_option linter.all false
set_option maxRecDepth 100000
set_option maxHeartbeats 4000000
namespace Hd
open PySem PySem.Spec PyProof.Rows L2
section
variable {X : Cx}
/-! ### set(tuple of ints) -/
def rSetT (K : Fg) (w : World) : List V → Hp → VK → Prop := fun xs H Q => ∃ (a : Addr) (ns : List Int), xs = [.ref a] ∧ SqT K H a (ns.map V.int) ∧ ns.length < 64 ∧ ∀ (p : Addr) (c : Nat), H p = none → c ≤ ns.length → Q (.ref p) (upd H p (SetO w p (fun j => decide (j ∈ ns)) c))
theorem call_setT (hc : X.calm = true) : CallR X (.type "set") (rSetT X.K X.w) := by
  intro pins s σ H xs us Q I r h
  obtain ⟨a, ns, rfl, hs, hl, q⟩ := h
  obtain ⟨its, rv, pt, hz⟩ := I.tuple hs
  rw [Vals.ref1 r]
  have hi : IntsAre its.toArray.toList ns := ints_of_vals rv
  refine call_set_tupI ns (I.ok.hd hc) (show s.heap.IsTuple a its.toArray from pt) hi (by unfold scanBound; omega) fun h' tk c R1 hcn k => ?_
  exact ⟨.ref _, upd H s.heap.objs.size (SetO X.w s.heap.objs.size (fun j => decide (j ∈ ns)) c), I.laid (t' := tk) k (Nat.le_refl _) (setO_new R1), rfl, q _ c (I.hok.fresh (Nat.le_refl _)) hcn⟩
/-! ### sum(tuple of ints) -/
theorem preSum_list (ns : List Int) : ∀ n, n ≤ ns.length → preSum (fun i => ns.getD i 0) n = (ns.take n).sum
  | 0, _ => by simp [preSum]
  | n + 1, h => by
    have e : (ns.take (n + 1)).sum = (ns.take n).sum + ns.getD n 0 := by
      rw [List.take_add_one, List.sum_append]
      have : ns[n]? = some (ns[n]'(by omega)) := List.getElem?_eq_getElem (by omega)
      rw [this, List.getD_eq_getElem?_getD, this]
      simp
    rw [e, ← preSum_list ns n (by omega)]
    rfl
def rSumT (K : Fg) : List V → Hp → VK → Prop := fun xs H Q => ∃ (a : Addr) (ns : List Int), xs = [.ref a] ∧ SqT K H a (ns.map V.int) ∧ (∀ z ∈ ns, 0 ≤ z ∧ z ≤ 1000) ∧ ns.length ≤ 1000 ∧ Q (.int ns.sum) H
theorem sum_small {ns : List Int} (hn : ∀ z ∈ ns, 0 ≤ z ∧ z ≤ 1000) : 0 ≤ ns.sum ∧ ns.sum ≤ 1000 * ns.length := by
  induction ns with
  | nil => simp
  | cons a l ih =>
    have h1 := hn a (List.mem_cons_self ..)
    have h2 := ih fun z hz => hn z (List.mem_cons_of_mem _ hz)
    rw [List.sum_cons, List.length_cons]
    omega
theorem call_sumT (hc : X.calm = true) : CallR X (.builtin "sum") (rSumT X.K) := by
  intro pins s σ H xs us Q I r h
  obtain ⟨a, ns, rfl, hs, hn, hl, q⟩ := h
  obtain ⟨its, rv, pt, hz⟩ := I.tuple hs
  rw [Vals.ref1 r]
  have hi : IntsAre its ns := ints_of_vals rv
  have lens : its.length = ns.length := hi.length
  refine call_sum_walkS (PySem.W.iter_tupleW (I.ok.hd hc) (show s.heap.IsTuple a its.toArray from pt) fun s₂ e2 W st hfp hno hkeep => ?_)
  refine ⟨_, _, _, _, _, _, _, fun i => ns.getD i 0, rfl, W, st, hfp, fun i v hv => ?_, fun j hj => ?_, fun s' t' hm => ?_⟩
  · have hv' : its[i]? = some v := by simpa using hv
    have key : ∀ {us : List Value} {ms : List Int} {i : Nat}, IntsAre us ms → us[i]? = some v → ∃ x, ms[i]? = some x ∧ ∃ t, v = .int x t := by
      intro us ms i h
      induction h generalizing i with
      | nil => intro e; simp at e
      | cons n t h ih =>
        intro e
        cases i with
        | zero => cases e; exact ⟨n, rfl, t, rfl⟩
        | succ i => exact ih e
    obtain ⟨x, hx, t, ht⟩ := key hi hv'
    exact ⟨t, by show v = Value.int (ns.getD i 0) t; rw [List.getD_eq_getElem?_getD, hx]; exact ht⟩
  · have hj' : j < ns.length := by simpa [lens] using hj
    have h1 := preSum_list ns (j + 1) hj'
    have h2 := sum_small (ns := ns.take (j + 1)) fun z hz => hn z (List.mem_of_mem_take hz)
    have h3 : (ns.take (j + 1)).length ≤ 1000 := by rw [List.length_take]; omega
    have h4 : ns.getD j 0 = ns[j] := by rw [List.getD_eq_getElem?_getD, List.getElem?_eq_getElem hj']; rfl
    have h5 := hn ns[j] (List.getElem_mem hj')
    refine ⟨?_, ?_⟩
    · show InLong (ns.getD j 0)
      rw [h4]
      exact ⟨by omega, by omega⟩
    · rw [h1]
      exact ⟨by omega, by omega⟩
  · have e1 : preSum (fun i => ns.getD i 0) its.toArray.size = ns.sum := by
      have := preSum_list ns ns.length (Nat.le_refl _)
      rw [List.take_length] at this
      rw [← this, List.size_toArray, lens]
    rw [e1]
    rw [hm.eq_with]
    have key : ∀ b o, s.heap.get? b = some o → s'.heap.get? b = some o := fun b o e => hm.heap b o (hno b o e) (hkeep b o e)
    subst e2
    exact ⟨.int _, H, I.kept key, ⟨_, rfl⟩, q⟩
end
end Hd

set_option Elab.async false
set_option linter.all false
set_option maxRecDepth 100000
set_option maxHeartbeats 4000000
namespace Hd
open PySem PySem.Spec PyProof.Rows L2
abbrev eS (s : List Int) : PyData := .tuple (s.map PyData.int)
section
variable {X : Cx}
/-! ### sorted(list of tuples of ints) -/
theorem dataLe_tups (x : β → List Int) : PySem.W.dataLe false (fun b => eS (x b)) = fun p q => decide (x p ≤ x q) := by
  funext p q
  show (!PySem.W.dataLt (eS (x q)) (eS (x p))) = _
  rw [PySem.W.dataLt_tuple]
  show (!PySem.W.rowLt ((x q).map .int) ((x p).map .int)) = _
  rw [PySem.W.dataLt_ints]
  by_cases h : x q < x p
  · have h' : ¬ x p ≤ x q := fun r => List.not_lt.mpr r h
    simp [h, h']
  · have h' : x p ≤ x q := List.not_lt.mp h
    simp [h, h']
theorem depth_eS (s : List Int) : (eS s).depth ≤ 1 := by
  have := PySem.W.depth_ints s
  unfold eS
  simp only [PyData.depth]
  omega
def rSortedD (K : Fg) : List V → Hp → VK → Prop := fun vs H Q => ∃ (a : Addr) (xs : List V) (nss : List (List Int)), vs = [V.ref a] ∧ SqL K H a xs ∧ DpAll K H xs (nss.map eS) ∧ (∀ ns ∈ nss, ns ≠ []) ∧ nss.length ≤ 1000 ∧
  ∀ (nss' : List (List Int)) (ys : List V) (p : Addr), nss'.Perm nss → nss'.Pairwise (· ≤ ·) → DpAll K H ys (nss'.map eS) → H p = none → Q (.ref p) (upd H p (.lst ys))
theorem dpAll_at {K : Fg} {H : Hp} : ∀ {xs : List V} {ds : List PyData}, DpAll K H xs ds → ∀ p ∈ xs.zip ds, Dp K H p.1 p.2
  | [], [], _, p, hp => by cases hp
  | [], _ :: _, h, _, _ => by cases h
  | _ :: _, [], h, _, _ => by cases h
  | x :: xs, d :: ds, h, p, hp => by
    cases h with
    | cons h1 h2 =>
      rcases List.mem_cons.mp hp with e | e
      · rw [e]; exact h1
      · exact dpAll_at h2 p e
theorem dpAll_len {K : Fg} {H : Hp} : ∀ {xs : List V} {ds : List PyData}, DpAll K H xs ds → xs.length = ds.length
  | [], [], _ => rfl
  | [], _ :: _, h => by cases h
  | _ :: _, [], h => by cases h
  | x :: xs, d :: ds, h => by
    cases h with
    | cons h1 h2 => rw [List.length_cons, List.length_cons, dpAll_len h2]
theorem dpAll_mk {K : Fg} {H : Hp} {α : Type} (f : α → V) (g : α → PyData) : ∀ {l : List α}, (∀ p ∈ l, Dp K H (f p) (g p)) → DpAll K H (l.map f) (l.map g)
  | [], _ => .nil
  | a :: l, h => .cons (h a (List.mem_cons_self ..)) (dpAll_mk f g fun p hp => h p (List.mem_cons_of_mem _ hp))
theorem each_zip {R : Value → V × List Int → Prop} : ∀ {us : List Value} {xs : List V} {nss : List (List Int)}, Vals xs us → xs.length = nss.length → (∀ u (p : V × List Int), RelV p.1 u → p ∈ xs.zip nss → R u p) → PySem.W.EachIs R us (xs.zip nss)
  | _, [], [], .nil, _, _ => .nil
  | _, x :: xs, n :: nss, .cons r t, hl, h => .cons (h _ (x, n) r (List.mem_cons_self ..)) (each_zip t (Nat.succ.inj hl) fun u p rp hp => h u p rp (List.mem_cons_of_mem _ hp))
theorem each_vals {α : Type} : ∀ {us : List Value} {bs : List (V × α)}, PySem.W.EachIs (fun u (p : V × α) => RelV p.1 u) us bs → Vals (bs.map (·.1)) us
  | _, _, .nil => .nil
  | _, _, .cons r t => .cons r (each_vals t)
theorem zip_snd {α β : Type} : ∀ {l : List α} {m : List β}, l.length = m.length → (l.zip m).map (·.2) = m
  | [], [], _ => rfl
  | a :: l, b :: m, h => by rw [List.zip_cons_cons, List.map_cons, zip_snd (Nat.succ.inj h)]
theorem call_sortedD (hu : X.A.units + 64 < cLine) : CallR X (.builtin "sorted") (rSortedD X.K) := by
  intro pins s σ H vs us Q I r h
  obtain ⟨a, xs, nss, rfl, hs, hd, hne, hl, q⟩ := h
  obtain ⟨its, rv, pl, hz⟩ := I.list hs
  rw [Vals.ref1 r]
  have hlen : xs.length = nss.length := by rw [dpAll_len hd, List.length_map]
  have hzip : ∀ p ∈ xs.zip nss, Dp X.K H p.1 (eS p.2) := fun p hp => by
    have hp2 : (p.1, eS p.2) ∈ xs.zip (nss.map eS) := by
      rw [List.zip_map_right]
      exact List.mem_map.mpr ⟨p, hp, rfl⟩
    exact dpAll_at hd _ hp2
  have hnz : ∀ p ∈ xs.zip nss, p.2 ≠ [] := fun p hp => hne _ (List.of_mem_zip hp).2
  have e : PySem.W.EachIs (fun u (p : V × List Int) => RelV p.1 u) its (xs.zip nss) := each_zip rv hlen fun u p rp _ => rp
  have er : PySem.W.EachIs (fun u (p : V × List Int) => ∃ as, Reads s.heap u (eS p.2) as) its (xs.zip nss) := each_zip rv hlen fun u p rp hp => Dp.reads I _ _ _ (hzip p hp) rp
  have bl : (xs.zip nss).length = nss.length := by rw [List.length_zip, hlen, Nat.min_self]
  have small : ∀ n : Nat, n ≤ 1000 → n ≤ sizeLine := fun n h => sz_of (by omega)
  refine PySem.W.sorted_data (enc := fun p : V × List Int => eS p.2) pl.isList e er (PySem.W.AllAlike.of fun b b' => PySem.W.alike_ints _ _) (.inl fun d hd' => ?_) (by rw [bl]; exact small _ hl) (fun b hb => ?_) fun out h1 h2 => ?_
  · obtain ⟨p, hp, rfl⟩ := List.mem_map.mp hd'
    obtain ⟨x, t, ex⟩ := List.exists_cons_of_ne_nil (hnz p hp)
    exact ⟨.int x, t.map PyData.int, by show eS p.2 = _; rw [ex]; rfl⟩
  · have := depth_eS b.2
    show X.A.units + 2 + (eS b.2).depth < cLine
    omega
  · have ele : PySem.W.dataLe false (fun p : V × List Int => eS p.2) = fun p q => decide (p.2 ≤ q.2) := dataLe_tups (fun p : V × List Int => p.2)
    rw [ele] at h2
    obtain ⟨ep, he'⟩ := PyProof.Rows.sortedAll_at s.heap its (List.toArray out)
    have hp : ((xs.zip nss).mergeSort fun p q => decide (p.2 ≤ q.2)).Perm (xs.zip nss) := List.mergeSort_perm _ _
    have hpw : ((xs.zip nss).mergeSort fun p q => decide (p.2 ≤ q.2)).Pairwise fun p q => decide (p.2 ≤ q.2) = true := List.pairwise_mergeSort (fun a b c h1 h2 => by
      simp only [decide_eq_true_eq] at *
      exact List.le_trans h1 h2) (fun a b => by
      have := List.le_total a.2 b.2
      simpa using this) _
    generalize hm : (xs.zip nss).mergeSort (fun p q => decide (p.2 ≤ q.2)) = bs at h2 hp hpw
    have hb : ∀ p ∈ bs, Dp X.K H p.1 (eS p.2) := fun p hpm => hzip p (hp.mem_iff.mp hpm)
    have bl2 : bs.length = nss.length := hp.length_eq.trans bl
    have hlen2 : (bs.map (·.1)).length ≤ sizeLine := by rw [List.length_map, bl2]; exact small _ hl
    refine ⟨.ref _, upd H (s.heap.objs.size + 1) (.lst (bs.map (·.1))), I.laid (t' := s.toks) (fun _ _ => PyProof.Rows.sortedAll_old) (Nat.le_succ _) ⟨hlen2, out, ep, each_vals h2, he'⟩, rfl, ?_⟩
    refine q (bs.map (·.2)) _ _ ?_ ?_ ?_ (I.hok.fresh (Nat.le_succ _))
    · have := hp.map (·.2)
      rw [zip_snd hlen] at this
      exact this
    · rw [List.pairwise_map]
      exact hpw.imp fun h => by simpa using h
    · rw [List.map_map]
      exact dpAll_mk (fun p : V × List Int => p.1) (fun p => eS p.2) hb
/-! ### sorted(tuple of ints) -/
theorem collect_tup {prog : Program} {w : World} {A : Around} {E : Value → Shared → Prop} {s : Shared} {l : Addr} {vs : List Value} {Q : List Value → Shared → Prop} (hl : s.heap.IsTuple l vs.toArray)
    (h : Q vs { s with heap := (s.heap.push (seqObj "list" #[] 0)).update s.heap.objs.size (Obj.mapSeq (· ++ vs.toArray)) }) (hsz : vs.length ≤ sizeLine) :
    wpAny (model prog w) A (collect (.ref l)) Q E s := by
  obtain ⟨o, ho, hc, n, hd⟩ := id hl
  unfold collect
  refine wpAny_bind (wpAny_runValue (codeAny_builtin entry_proto_collect' ?_))
  show wpAny _ _ (do again (.builtin "list.__iadd__" ⟨[← newList [], .ref l], []⟩)) _ _ s
  refine wpAny_bind (wpAny_newList (wpAny_pure ⟨Code.quiet_builtin _ (by decide +kernel), codeAny_builtin entry_list_iadd' ?_⟩))
  show wpAny _ _ (Builtin.List.listExtendWith (.ref s.heap.objs.size) (.ref l) (.ref s.heap.objs.size)) _ _ { s with heap := s.heap.push (seqObj "list" #[] 0) }
  unfold Builtin.List.listExtendWith
  have ho' : (s.heap.push (seqObj "list" #[] 0)).get? l = some o := Heap.get?_push_of_some _ ho
  refine wpAny_bind (wpAny_typeOf (T := "tuple") ⟨o, ho', hc⟩ ?_)
  have ht : (Value.type "tuple" == Value.type "tuple") = true := by rfl
  rw [if_pos (by rw [ht]; simp)]
  refine wpAny_bind (listItems_at ho' hd ?_)
  refine wpAny_bind (listItems_at (xs := #[]) (n := 0) (Heap.get?_push_size _ rfl) rfl ?_)
  rw [if_neg (by simp)]
  refine wpAny_bind (listUpdate_at (xs := #[]) (n := 0) (Heap.get?_push_size _ rfl) rfl ?_ (Nat.zero_le _) (by show (#[] ++ vs.toArray).size ≤ sizeLine + 1; simp only [Array.size_append, List.size_toArray, List.length_nil]; omega))
  refine wpAny_pure ?_
  show wpAny (model prog w) A (do
      let o ← load s.heap.objs.size
      match o.data with
      | .seq xs _ => pure xs.toList
      | _ => unsupported "internal:collect") Q E { s with heap := (s.heap.push (seqObj "list" #[] 0)).update s.heap.objs.size (Obj.mapSeq (· ++ vs.toArray)) }
  refine wpAny_bind (wpAny_load (get?_update_seq (Heap.get?_push_size _ rfl) _) ?_)
  show wpAny _ _ (pure ((#[] : Array Value) ++ vs.toArray).toList) Q E _
  rw [show ((#[] : Array Value) ++ vs.toArray).toList = vs by simp]
  exact wpAny_pure h
theorem sorted_tup {prog : Program} {w : World} {A : Around} {E : Value → Shared → Prop} {s : Shared} {l : Addr} {vs : List Value} {ns : List Int} {Q : Value → Shared → Prop} (hl : s.heap.IsTuple l vs.toArray) (hI : IntsAre vs ns) (h64 : vs.length < 64)
    (h : ∀ (out : Array Value) (ns' : List Int), IntsAre out.toList ns' → ns'.Perm ns → ns'.Pairwise (· ≤ ·) → Q (.ref (s.heap.objs.size + 1)) { s with heap := sortedAll s.heap vs out }) :
    wpAny (model prog w) A (call (.builtin "sorted") [.ref l]) Q E s := by
  refine Calls.call_function_entry kind_sorted plain_sorted entry_sorted (args_sorted1 _) ?_
  unfold Builtin.«sorted»
  refine wpAny_bind (m := checkCount "sorted" 1 1 _) (wpAny_pure ?_)
  refine wpAny_bind (collect_tup hl ?_ (small64 h64))
  refine wpAny_bind (wpAny_newList ?_)
  have hsz : ((s.heap.push (seqObj "list" #[] 0)).update s.heap.objs.size (Obj.mapSeq (· ++ vs.toArray))).objs.size = s.heap.objs.size + 1 := by
    rw [Heap.size_update, size_push']
  have hoL : (((s.heap.push (seqObj "list" #[] 0)).update s.heap.objs.size (Obj.mapSeq (· ++ vs.toArray))).push (seqObj "list" vs.toArray 0)).get? (s.heap.objs.size + 1) = some (seqObj "list" vs.toArray 0) := by
    rw [← hsz]; exact Heap.get?_push_size _ rfl
  show wpAny _ _ _ _ _ { s with heap := ((s.heap.push (seqObj "list" #[] 0)).update s.heap.objs.size (Obj.mapSeq (· ++ vs.toArray))).push (seqObj "list" vs.toArray 0) }
  rw [hsz]
  refine wpAny_bind (wpAny_holding (wpAny_call_entry slot_list_sort ⟨_, hoL, rfl⟩ entry_list_sort (list_sort_tree hoL hI h64 fun out ns' a1 a2 a3 => ⟨_, rfl, ?_⟩) (args_list_sort _)))
  exact wpAny_pure ⟨_, rfl, h out ns' a1 a2 a3⟩
def rSortedT (K : Fg) : List V → Hp → VK → Prop := fun vs H Q => ∃ (a : Addr) (ns : List Int), vs = [V.ref a] ∧ SqT K H a (ns.map V.int) ∧ ns.length < 64 ∧
  ∀ (ns' : List Int) (p : Addr), ns'.Perm ns → ns'.Pairwise (· ≤ ·) → H p = none → Q (.ref p) (upd H p (.lst (ns'.map V.int)))
theorem call_sortedT : CallR X (.builtin "sorted") (rSortedT X.K) := by
  intro pins s σ H vs us Q I r h
  obtain ⟨a, ns, rfl, hs, h64, q⟩ := h
  obtain ⟨its, rv, hl, _⟩ := I.tuple hs
  rw [Vals.ref1 r]
  have hi := rv.ints
  refine sorted_tup hl hi (by rw [hi.length]; exact h64) fun out ns' h1 h2 h3 => ?_
  obtain ⟨ep, he'⟩ := PyProof.Rows.sortedAll_at s.heap its out
  have hlen : (ns'.map V.int).length ≤ sizeLine := by rw [List.length_map, h2.length_eq]; exact small64 h64
  exact ⟨.ref _, upd H (s.heap.objs.size + 1) (.lst (ns'.map V.int)), I.laid (t' := s.toks) (fun _ _ => PyProof.Rows.sortedAll_old) (Nat.le_succ _) ⟨hlen, out.toList, ep, vals_of_ints h1, he'⟩, rfl, q ns' _ h2 h3 (I.hok.fresh (Nat.le_succ _))⟩
end
end Hd

set_option Elab.async false
set_option linter.all false
set_option maxRecDepth 100000
set_option maxHeartbeats 4000000
namespace Hd
open PySem PySem.Spec PyProof.Rows L2
/-! ### a promise where no guard stands (repr) -/
structure FnG (P : Program) (w : World) (K : Fg) (mg : Str → Option Value) (base : Heap) (CX : CXT) (k : Nat) (f : Addr) (fd : FuncData) (ps : List Str) (sp : Sp) : Prop where
  len : ∀ vs H Q E, sp vs H Q E → vs.length = ps.length
  run : ∀ (A : Around) (outer : List PySem.Env) (s : Shared) (H : Hp) (args : Args) (us : List Value) (vs : List V) (Q : VK) (E : XK), A.guards = some [] → Room k A → Env0 P w K mg base A outer s H → BindsTo s fd args (ps.zip us) → Vals vs us → sp vs H Q E →
    codeAny (model P w) A (.call (.ref f) args) (CR CX outer P w H s Q E) s
theorem FnG.imp {P : Program} {w : World} {K : Fg} {mg : Str → Option Value} {base : Heap} {CX : CXT} {k : Nat} {f : Addr} {fd : FuncData} {ps : List Str} {sp sp' : Sp} (F : FnG P w K mg base CX k f fd ps sp)
    (h : ∀ vs H Q E, sp' vs H Q E → sp vs H Q E) : FnG P w K mg base CX k f fd ps sp' :=
  ⟨fun vs H Q E q => F.len vs H Q E (h _ _ _ _ q), fun A outer s H args us vs Q E hg hr he hb hv hs => F.run A outer s H args us vs Q E hg hr he hb hv (h _ _ _ _ hs)⟩
section
variable {X : Cx} {CX : CXT} {k : Nat} {f : Addr} {fd : FuncData} {ps : List Str} {sp : Sp} {dvs : List V} {ds : List Value} {E : XK} {x : Str} {p pos : Pos} {e : Expr} {es : List Expr} {t : TA}
theorem run_fnG {pins : List (Addr × Obj)} {σ : L2.St} {H : Hp} {s : Shared} {Q : VK} {us : List Value} {vs : List V} (F : FnG X.prog X.w X.K X.mg X.base CX k f fd ps sp) (hG : X.A.guards = some []) (hr : Room k X.A) (hb : Binds X.K fd ps ds) (hd : Vals dvs ds) (hx : Passes CX X E)
    (I : Inv X pins σ H s) (r : Vals vs us) (h : sp (vs ++ dvs) H Q E) : wpAny (model X.prog X.w) X.A (call (.ref f) us) (EP X pins σ Q) X.xe s := by
  have r2 : Vals (vs ++ dvs) (us ++ ds) := r.append hd
  have hl : (us ++ ds).length = ps.length := by rw [← r2.length]; exact F.len _ _ _ _ h
  refine wpAny_call (codeAny_mono (F.run X.A X.stack s H ⟨us, []⟩ (us ++ ds) (vs ++ dvs) Q E hG hr I.env0 (hb s us I.kIn hl) r2 h) fun r s' hq => ?_)
  cases r with
  | error e => exact hx pins σ H s e s' I hq
  | ok fl =>
    cases fl with
    | ret u => exact I.after hq
    | next => exact False.elim hq
    | brk => exact False.elim hq
    | cont => exact False.elim hq
theorem pe_callG (F : FnG X.prog X.w X.K X.mg X.base CX k f fd ps sp) (hG : X.A.guards = some []) (hr : Room k X.A) (hg : Gl X x) (hm : X.mg x = some (.ref f)) (hk : PySem.W.keepIn X.K (.ref f) = true) (hb : Binds X.K fd ps ds) (hd : Vals dvs ds) (hx : Passes CX X E)
    (ha : PA X (e :: es) t) (hdb : (x == ("__debug__" : Str)) = false := by decide) (he : starEach (e :: es) X.env = (false, eval e X.env) :: starEach es X.env := by rfl) (hpl : (backTo pos (starEach es X.env)).any (·.1) = false := by rfl) :
    PE X (.Call (.Name x p) (e :: es) [] pos) (tCall sp dvs E t) := by
  refine ⟨fun pins s σ H Q I h => ?_⟩
  refine wpAny_Call_Name_kw (ld_glob I hg hm ?_ hdb)
  refine PySem.W.callWith_K (h₀ := X.base) I.ok.mod.kin hk (thn (ha.run pos pins s σ H _ I h) fun us s1 ⟨vs, H1, I1, r, q⟩ => ⟨I1.kIn, ?_⟩) he hpl
  exact run_fnG F hG hr hb hd hx I1 r q
end
theorem fn_ofG {CX : CXT} {P : Program} {w : World} {K : Fg} {mg : Str → Option Value} {base : Heap} {k : Nat} {f : Addr} {name qual : Str} {params : Arguments} {body : List Stmt} {scope : Scope} {dV kV doc pm cdv ct oc : Value} {an od : Option Addr}
    {osl : Array (Option Value)} {N ps : List Str} {sp : Sp} (lk : K.lookup f = some ⟨oc, od, .func (PySem.W.fnOf name qual params body scope dV kV doc pm an cdv ct), osl⟩) (hcd : PySem.W.codeIn K cdv qual = true) (S : FnScope N ps scope)
    (len : ∀ vs H Q E, sp vs H Q E → vs.length = ps.length)
    (hbody : ∀ (A : Around) (outer : List PySem.Env) (s : Shared) (H : Hp) (vs : List V) (Q : VK) (E : XK), (A.deeper (envOfC qual scope s.heap.objs.size f cdv)).guards = some [] → Room k (A.deeper (envOfC qual scope s.heap.objs.size f cdv)) → sp vs H Q E →
      ∃ t, PSs (cxOf CX P w K mg base N qual scope f cdv A outer s H E) body t ∧ t { nx := fun _ H' => Q .non H', rt := Q } (L2.start N vs) H) :
    FnG P w K mg base CX (k + 1) f (PySem.W.fnOf name qual params body scope dV kV doc pm an cdv ct) ps sp := by
  refine ⟨len, fun A outer s H args us vs Q E hG hr e0 hb r hsp => ?_⟩
  have hl := len _ _ _ _ hsp
  have KX : K.In s.heap := e0.mod.kin.keeps fun b o e => (e0.bs b o e).1
  have lim : s.heap.NoLimit := e0.mod.nolimit.keeps fun b o e => (e0.bs b o e).1
  have hkind : ∀ y ∈ ps.zip us, scope.names.lookup y.1 = some .local ∨ (scope.names.lookup y.1 = some .cell ∧ ((cellsFrom (s.heap.objs.size + 1) scope.names []).lookup y.1).isSome = true) := fun ⟨n, v⟩ hy => by
    rcases S.par n (List.of_mem_zip hy).1 with q | q
    · exact .inl q
    · exact .inr ⟨q, PySem.W.cellsFrom_some _ _ _ (.inl q)⟩
  refine codeAny_call_function hr.depth (KX _ _ lk) rfl S.co S.gen rfl (PySem.W.codeRec_of KX hcd) (hb _ _ _ _ ?_)
  refine wpAny_newFunctionEnv_cells S.kind hkind fun env he s1 x => ?_
  subst he
  refine ⟨lim.keeps x.toInCall.keep, codeAny_func ?_⟩
  obtain ⟨t, ht, hq⟩ := hbody A outer s H vs Q E hG (hr.deeper _) hsp
  have I : Inv (cxOf CX P w K mg base N qual scope f cdv A outer s H E) [] (L2.start N vs) H s1 := inv_start S hr.hd e0 hl r x
  refine wpAny_mono (ht.run [] s1 (L2.start N vs) H _ I hq) (fun fl s' hs => ?_) fun e s' hs => hs
  have fin : ∀ {σ' : L2.St} {H' : Hp} {v : V} {u : Value}, Inv (cxOf CX P w K mg base N qual scope f cdv A outer s H E) [] σ' H' s' → RelV v u → Q v H' → CE outer P w H s Q u s' :=
    fun {σ' H' v u} J rv q => ⟨v, H', J.os, J.bare, J.base, J.hok, rv, q⟩
  cases fl with
  | ret u =>
    obtain ⟨v, σ', H', J, rv, q⟩ := hs
    exact fin J rv q
  | next =>
    obtain ⟨σ', H', J, q⟩ := hs
    exact fin (v := V.non) (u := Value.none) J rfl q
  | brk =>
    obtain ⟨_, _, _, q⟩ := hs
    exact False.elim q
  | cont =>
    obtain ⟨_, _, _, q⟩ := hs
    exact False.elim q
section
variable {P : Program} {w : World} {K : Fg} {mg : Str → Option Value} {base : Heap} {x qual : Str} {params : Arguments} {body : List Stmt} {scope : Scope} {f : Addr} {fd : FuncData}
theorem okG {CX : CXT} {N ps : List Str} {k : Nat} {sp : Sp} (F : FunD K x qual params body scope [] [] f fd) (S : FnScope N ps scope) (len : ∀ vs H Q E, sp vs H Q E → vs.length = ps.length)
    (hbody : ∀ (cdv : Value) (A : Around) (outer : List PySem.Env) (s : Shared) (H : Hp) (vs : List V) (Q : VK) (E : XK), (A.deeper (envOfC qual scope s.heap.objs.size f cdv)).guards = some [] → Room k (A.deeper (envOfC qual scope s.heap.objs.size f cdv)) → sp vs H Q E →
      ∃ t, PSs (cxOf CX P w K mg base N qual scope f cdv A outer s H E) body t ∧ t { nx := fun _ H' => Q .non H', rt := Q } (L2.start N vs) H) : FnG P w K mg base CX (k + 1) f fd ps sp := by
  obtain ⟨oc, od, dV, kV, doc, pm, an, cdv, ct, osl, rfl, lk, hcd, _, _⟩ := F.ex
  exact fn_ofG lk hcd S len fun A outer s H vs Q E hg hr hsp => hbody cdv A outer s H vs Q E hg hr hsp
end
/-- such a def that may be called by its name -/
structure ClG (P : Program) (w : World) (K : Fg) (mg : Str → Option Value) (base : Heap) (x : Str) (ps : List Str) (k : Nat) (sp : Sp) : Prop where
  ex : ∃ (f : Addr) (fd : FuncData), FnG P w K mg base CX0 k f fd ps sp ∧ mg x = some (.ref f) ∧ PySem.W.keepIn K (.ref f) = true ∧ Binds K fd ps []
theorem pe_clG {X : Cx} {x : Str} {ps : List Str} {k j : Nat} {sp : Sp} {e : Expr} {es : List Expr} {t : TA} {p pos : Pos} (C : ClG X.prog X.w X.K X.mg X.base x ps k sp) (hG : X.A.guards = some []) (hr : Room j X.A) (ha : PA X (e :: es) t) (hg : Gl X x := by rfl) (hk : k ≤ j := by decide)
    (hd : (x == ("__debug__" : Str)) = false := by decide) (he : starEach (e :: es) X.env = (false, eval e X.env) :: starEach es X.env := by rfl) (hpl : (backTo pos (starEach es X.env)).any (·.1) = false := by rfl) :
    PE X (.Call (.Name x p) (e :: es) [] pos) (tCall sp [] E0 t) := by
  obtain ⟨f, fd, F, hm, kp, b⟩ := C.ex
  exact pe_callG F hG (hr.mono hk) hg hm kp b .nil pass0 ha (hdb := hd) (he := he) (hpl := hpl)
theorem Cl.imp {P : Program} {w : World} {K : Fg} {mg : Str → Option Value} {base : Heap} {x : Str} {ps : List Str} {k : Nat} {sp sp' : Sp} (C : Cl P w K mg base x ps k sp) (h : ∀ vs H Q E, sp' vs H Q E → sp vs H Q E) : Cl P w K mg base x ps k sp' := by
  obtain ⟨f, fd, F, hm, kp, b⟩ := C.ex
  exact ⟨f, fd, F.imp h, hm, kp, b⟩
theorem ClG.imp {P : Program} {w : World} {K : Fg} {mg : Str → Option Value} {base : Heap} {x : Str} {ps : List Str} {k : Nat} {sp sp' : Sp} (C : ClG P w K mg base x ps k sp) (h : ∀ vs H Q E, sp' vs H Q E → sp vs H Q E) : ClG P w K mg base x ps k sp' := by
  obtain ⟨f, fd, F, hm, kp, b⟩ := C.ex
  exact ⟨f, fd, F.imp h, hm, kp, b⟩
/-! ### repr of data -/
section
variable {X : Cx}
/-- what repr shows of d: no dict in it, not too long -/
def Shows (d : PyData) : Prop := d.showable = true ∧ d.hasDict = false ∧ d.depth ≤ 50 ∧ d.shown.length ≤ 100000
def rRepr (K : Fg) : List V → Hp → VK → Prop := fun xs H Q => ∃ v d, xs = [v] ∧ Dp K H v d ∧ Shows d ∧ Q (.str d.shown) H
theorem call_reprD (hG : X.A.guards = some []) (hu : X.A.units + 64 < cLine) : CallR X (.builtin "repr") (rRepr X.K) := by
  intro pins s σ H xs us Q I r h
  obtain ⟨v, d, rfl, hd, ⟨hs, hn, hdp, hz⟩, q⟩ := h
  obtain ⟨u, rfl, ru⟩ := vals1 r
  obtain ⟨as, rd⟩ := Dp.reads I d v u hd ru
  have key : ∀ a, u = .ref a → wpAny (model X.prog X.w) X.A (call (.builtin "repr") [u]) (EP X pins σ Q) X.xe s := fun a e => by
    subst e
    exact repr_of_reads' rd hs (fun z => by rw [hn] at z; cases z) hG (by omega) (fun _ _ e => e) (fun h' t tk hk => ⟨.str _, H, I.kept hk, ⟨_, rfl⟩, q⟩) (sz_of hz)
  cases hd with
  | non =>
    cases ru
    exact PySem.P.repr_of_none ⟨.str _, H, I.tok _, ⟨_, rfl⟩, q⟩
  | bl b =>
    cases ru
    exact PySem.P.repr_of_bool ⟨.str _, H, I.tok _, ⟨_, rfl⟩, q⟩
  | int i =>
    obtain ⟨t, rfl⟩ := ru
    exact PySem.P.repr_of_int (by simpa [PyData.showable] using hs) ⟨.str _, H, I.tok _, ⟨_, rfl⟩, q⟩
  | str x =>
    obtain ⟨t, rfl⟩ := ru
    exact PySem.P.repr_of_str ⟨.str _, H, I.tok _, ⟨_, rfl⟩, q⟩ (sz_of hz)
  | lst _ _ => exact key _ ru
  | tup _ _ => exact key _ ru
end
end Hd

set_option Elab.async false
set_option linter.all false
set_option maxRecDepth 100000
set_option maxHeartbeats 4000000
namespace Hd
open PySem PySem.Spec PyProof.Rows L2
section
variable {K : Fg} {W : Wd} {H0 H H' H2 : Hp} {σ : L2.St} {ρ ρ' : List SD} {te ta tb tc tl tl1 : TE} {x y z : PyData} {tt tu : TT} {D : Ends} {ts tv : TS} {g : TG}
theorem TVs.sqt {ns : List Int} {xs : List V} (h : TVs K H xs (ns.map PyData.int)) : xs = ns.map V.int := h.ints_inv
theorem Tk.trans {H1 H2 H3 : Hp} (a : Tk H1 H2) (b : Tk H2 H3) : Tk H1 H3 := ⟨fun p xs h => b.1 _ _ (a.1 _ _ h), fun p o u h => b.2 _ _ _ (a.2 _ _ _ h)⟩
theorem wipe_idem {σ : L2.St} (vs : List Nat) : L2.wipe (L2.wipe σ vs) vs = L2.wipe σ vs := by
  cases vs with
  | nil => rfl
  | cons v vs =>
    have h : (L2.wipe σ (v :: vs)).set v none = L2.wipe σ (v :: vs) := by
      show ((L2.wipe σ vs).set v none).set v none = (L2.wipe σ vs).set v none
      rw [List.set_set]
    have := wipe_wipe (σ := σ) (vs := v :: vs) (j := v) (w := none) (List.mem_cons_self ..)
    rw [h] at this
    exact this
/-! ### sorted, set, sum -/
theorem en_sortedT {ns : List Int} (ha : ED K W H0 ta ρ (.tuple (ns.map PyData.int))) (hl : ns.length < 64) (srt : List Int) (hs : ∀ ns' : List Int, ns'.Perm ns → ns'.Pairwise (· ≤ ·) → ns' = srt) : EN K W H0 (tCB (rSortedT K) (tCons ta tNil)) ρ (srt.map PyData.int) := fun σ H e Q q =>
  ha σ H e _ fun v H1 g1 t1 => by
    obtain ⟨a, xs, e1, s1, r1⟩ := t1.tup_inv
    have := r1.ints_inv
    subst this
    refine ⟨a, ns, by rw [e1], s1, hl, fun ns' p hp hw hn => ?_⟩
    have e2 := hs ns' hp hw
    subst e2
    exact q p _ _ (g1.trans (.of_same g1.2 (same_new hn))) (g1.1.free g1.2 hn) upd_same .ints
theorem en_sortedD {nss : List (List Int)} (ha : EL K W H0 ta ρ (nss.map eS)) (hne : ∀ ns ∈ nss, ns ≠ []) (hl : nss.length ≤ 1000) (srt : List (List Int)) (hs : ∀ l : List (List Int), l.Perm nss → l.Pairwise (· ≤ ·) → l = srt) : EN K W H0 (tCB (rSortedD K) (tCons ta tNil)) ρ (srt.map eS) := fun σ H e Q q =>
  ha σ H e _ fun a xs H1 g1 l1 t1 => by
    refine ⟨a, xs, nss, rfl, l1.sq, t1.1, hne, hl, fun nss' ys p hp hw hd hn => ?_⟩
    have e2 := hs nss' hp hw
    subst e2
    have tv : TVs K H1 ys (nss'.map eS) := ⟨hd, noLs_iff.mpr fun d hd => by
      obtain ⟨ns, _, rfl⟩ := List.mem_map.mp hd
      rw [noL_tup]
      exact noLs_iff.mpr fun d hd => by
        obtain ⟨i, _, rfl⟩ := List.mem_map.mp hd
        rw [noL]⟩
    have g := Gr.of_same g1.2 (same_new (o := .lst ys) hn)
    exact q p _ _ (g1.trans g) (g1.1.free g1.2 hn) upd_same (tv.tk (g.1.tk g1.2))
/-- sorted(set(t)) -/
theorem en_sortedSet {w : World} {ns : List Int} (ha : ED K W H0 ta ρ (.tuple (ns.map PyData.int))) (hl : ns.length < 64) (srt : List Int) (hs : ∀ l : List Int, l.Pairwise (· < ·) → (∀ k, k ∈ l ↔ k ∈ ns) → l = srt) :
    EN K W H0 (tCB (rSortedSet w) (tCons (tCB (rSetT K w) (tCons ta tNil)) tNil)) ρ (srt.map PyData.int) := fun σ H e Q q =>
  ha σ H e _ fun v H1 g1 t1 => by
    obtain ⟨a, xs, e1, s1, r1⟩ := t1.tup_inv
    have := r1.ints_inv
    subst this
    refine ⟨a, ns, by rw [e1], s1, hl, fun p c hn hc => ?_⟩
    have g := Gr.of_same g1.2 (same_new (o := SetO w p (fun j => decide (j ∈ ns)) c) hn)
    refine ⟨p, _, c, rfl, upd_same, by omega, fun l p2 hw hm _ hn2 => ?_⟩
    have e2 := hs l hw fun k => by rw [hm k]; exact decide_eq_true_iff
    subst e2
    have g2 := Gr.of_same g.2 (same_new (o := .lst (l.map V.int)) hn2)
    exact q p2 _ _ ((g1.trans g).trans g2) ((g1.trans g).1.free g.2 hn2) upd_same .ints
theorem ed_sum {ns : List Int} {m : Int} (ha : ED K W H0 ta ρ (.tuple (ns.map PyData.int))) (hn : ∀ z ∈ ns, 0 ≤ z ∧ z ≤ 1000) (hl : ns.length ≤ 1000) (hm : ns.sum = m) : ED K W H0 (tCB (rSumT K) (tCons ta tNil)) ρ (.int m) := fun σ H e Q q =>
  ha σ H e _ fun v H1 g1 t1 => by
    obtain ⟨a, xs, e1, s1, r1⟩ := t1.tup_inv
    have := r1.ints_inv
    subst this
    exact ⟨a, ns, by rw [e1], s1, hn, hl, q _ H1 g1 (by rw [hm]; exact .int)⟩
/-! ### enumerate -/
theorem enum_item (e : Env K W H0 σ H ρ) {T : Addr} {i : Nat} {v : V} (hT : H T = none) (tv : TV K H v x) :
    Gr W H (upd H T (.tup [.int (i : Nat), v])) ∧ TV K (upd H T (.tup [.int (i : Nat), v])) (.ref T) (.tuple [.int (i : Nat), x]) :=
  TV.tup_new e.j hT (.cons .int (.cons tv .nil))
theorem s_forE {xs : List PyData} (h : ED K W H0 tl ρ (.tuple xs)) (I : Nat → List SD) (w : Wk ρ (I 0)) (G : Nat → PyData → List SD) (hg : ∀ i x, xs[i]? = some x → TGo K W g (.tuple [.int (i : Nat), x]) (I i) (G i x))
    (hs : ∀ H0', Up W H0 H0' → ∀ i x, xs[i]? = some x → SDo K W H0' ts (tEnds K W H0' D (I (i + 1))) (G i x)) (hd : Nx K W H0 D.nx (I xs.length)) : SDo K W H0 (tFor (iEnumT K (tCons tl tNil)) g ts) D ρ := fun σ H e => by
  refine h σ H e _ fun v H1 g1 t => ?_
  obtain ⟨a, ys, rfl, s1, r1⟩ := t.tup_inv
  have e1 := (e.gr g1).wk w
  refine ⟨a, ys, rfl, s1, ?_⟩
  have tk : ∀ H', Kp W (ground H1 σ (I 0)) H' → Tk H1 H' := by
    intro H' k
    have gt : ∀ {b : Addr} {o : HO}, H1 b = some o → (∀ zs, o ≠ .lst zs) → ground H1 σ (I 0) b = some o := by
      intro b o hb hn
      rw [ground_out]
      · exact hb
      · rintro ⟨i, ds, h1, h2⟩
        obtain ⟨p, zs, a1, _, _, a4, _⟩ := e1.slot i _ h1
        rw [h2] at a1
        cases a1
        rw [hb] at a4
        exact hn zs (Option.some.inj a4)
    exact ⟨fun b zs hb => k _ _ (gt hb (by intro _ z; cases z)) (noM_tup e1.j hb), fun b o u hb => k _ _ (gt hb (by intro _ z; cases z)) (noM_frz e1.j hb)⟩
  have lens := r1.length
  refine for_core xs.length I e1 (fun i H' hi k j => ?_) (fun H' k j => ⟨ys, SqT.tk (tk H' k) s1, by omega⟩) (fun H0' u sub i hi σ' H' e' v H2 hy => ?_) hd
  · obtain ⟨y, hy, _⟩ := r1.get (List.getElem?_eq_getElem hi)
    exact ⟨ys, y, SqT.tk (tk H' k) s1, hy⟩
  · obtain ⟨T, u1, rfl, hT, rfl, hv⟩ := hy
    have kk : Kp W (ground H1 σ (I 0)) H' := Kp.trans (fun b o hb _ => sub b o hb) e'.kp
    have hx := List.getElem?_eq_getElem hi
    obtain ⟨y, hy, ty⟩ := r1.get hx
    have ev := hv ys (SqT.tk (tk H' kk) s1)
    rw [hy] at ev
    cases ev
    obtain ⟨gn, tn⟩ := enum_item (i := i) e' hT (ty.tk (tk H' kk))
    refine hg i _ hx H0' σ' _ _ (e'.gr gn) tn _ fun σ2 e2 => ?_
    exact hs H0' u i _ hx σ2 _ e2
/-- [f(i, x) for i, x in enumerate(t) if b(i, x)] -/
theorem en_lcE {α : Type} {j1 j2 : Nat} {vs : List Nat} {as : List α} (enc : α → PyData) (b : Nat × α → Bool) (f : Nat × α → PyData) (h : ED K W H0 tl ρ (.tuple (as.map enc))) (h1 : j1 ∈ vs) (h2 : j2 ∈ vs) (hz : as.length ≤ 40000)
    (ht : ∀ (i : Nat) (a : α), as[i]? = some a → ET K W H0 tt (((wipeD ρ vs).set j1 (.d (.int (i : Nat)))).set j2 (.d (enc a))) (b (i, a))) (he : ∀ (i : Nat) (a : α), as[i]? = some a → b (i, a) = true → ED K W H0 te (((wipeD ρ vs).set j1 (.d (.int (i : Nat)))).set j2 (.d (enc a))) (f (i, a))) :
    EN K W H0 (tLc (iEnumT K (tCons tl tNil)) (gTup K 2 (gCons (gName j1) (gCons (gName j2) gNil))) tt te vs) ρ ((((List.range as.length).zip as).filter b).map f) := fun σ H e Q q => by
  refine h σ H e _ fun v H1 g1 t => ?_
  obtain ⟨p, ys, rfl, s1, r1⟩ := t.tup_inv
  have e1 := e.gr g1
  refine ⟨p, ys, rfl, s1, fun Dl hD => ?_⟩
  have lens : ys.length = as.length := by rw [r1.length, List.length_map]
  have zl : ((List.range as.length).zip as).length = as.length := by rw [List.length_zip, List.length_range, Nat.min_self]
  refine ⟨fun i m H' => m = ys.length - i ∧ i ≤ ys.length ∧ Cw K W H0 σ ρ Dl (((((List.range as.length).zip as).take i).filter b).map f) H1 H', ⟨ys.length, by simp, Nat.zero_le _, Cw.start e1 hD⟩, ?_⟩
  rintro i m H' ⟨rfl, hi, c⟩
  by_cases hlt : i < ys.length
  · have hia : i < as.length := by omega
    have tk := c.2.2.1.1.tk e1.j
    refine .inr ⟨⟨ys, ys[i], SqT.tk tk s1, List.getElem?_eq_getElem hlt⟩, fun H2 => Cw K W H0 σ ρ Dl (((((List.range as.length).zip as).take (i + 1)).filter b).map f) H1 H2, fun H2 c2 => ⟨ys.length - (i + 1), by omega, rfl, by omega, c2⟩, fun v H2 hy => ?_⟩
    obtain ⟨T, u1, rfl, hT, rfl, hv⟩ := hy
    have ha : as[i]? = some as[i] := List.getElem?_eq_getElem hia
    have hzi : ((List.range as.length).zip as)[i]? = some (i, as[i]) := by
      rw [List.getElem?_zip_eq_some]
      exact ⟨by rw [List.getElem?_range hia], ha⟩
    have ev := hv ys (SqT.tk tk s1)
    obtain ⟨d, hd, td⟩ := r1.getV ev
    rw [List.getElem?_map, ha] at hd
    cases hd
    obtain ⟨gn, tn⟩ := enum_item (i := i) c.1 hT (td.tk tk)
    have c1 := c.grow e1 gn
    obtain ⟨a', xs', e0, s0, r0⟩ := tn.tup_inv
    cases e0
    refine ⟨T, [.int (i : Nat), u1], rfl, .inl (.inl upd_same), rfl, _, _, rfl, _, _, rfl, rfl, ?_⟩
    refine ⟨(wipe_set h2).trans ((wipe_set h1).trans (wipe_idem vs)), ?_⟩
    have env := ((c1.1.wipe vs).setD (K := K) (v := .int (i : Nat)) (x := .int (i : Nat)) .int j1).setD (td.tk (Tk.trans tk (gn.1.tk c.1.j))) j2
    refine ht i as[i] ha _ _ env _ fun H3 g3 => ?_
    have c3 := c1.grow e1 g3
    have tke : ((List.range as.length).zip as).take (i + 1) = ((List.range as.length).zip as).take i ++ [(i, as[i])] := take_succ hzi
    cases hb : b (i, as[i]) with
    | true =>
      refine iteT ?_
      refine he i as[i] ha hb _ H3 (env.gr g3) _ fun y H4 g4 t4 => ?_
      have c4 := c3.grow e1 g4
      obtain ⟨acc, q1, q2, q3⟩ := c4.push e1 t4
      refine ⟨acc, q1, ?_, ?_⟩
      · have := List.length_filter_le b (((List.range as.length).zip as).take i)
        rw [q2, List.length_map]
        rw [List.length_take] at this
        exact sz_lt (by omega)
      · have e3 : ((((List.range as.length).zip as).take (i + 1)).filter b).map f = ((((List.range as.length).zip as).take i).filter b).map f ++ [f (i, as[i])] := by
          rw [tke, List.filter_append, List.map_append, List.filter_cons, if_pos hb]
          rfl
        rw [e3]
        exact q3
    | false =>
      refine iteF ?_
      have e3 : ((((List.range as.length).zip as).take (i + 1)).filter b).map f = ((((List.range as.length).zip as).take i).filter b).map f := by
        rw [tke, List.filter_append, List.map_append, List.filter_cons, if_neg (by rw [hb]; decide)]
        simp
      rw [e3]
      exact c3
  · have hi2 : i = ys.length := by omega
    subst hi2
    refine .inl ⟨⟨ys, SqT.tk (c.2.2.1.1.tk e1.j) s1, Nat.le_refl _⟩, ?_⟩
    rw [List.take_of_length_le (by omega)] at c
    exact c.fin g1 e1.j q
/-! ### two clauses -/
/-- one turn of the outer clause, the inner one over a tuple -/
theorem cw2_turn {j j1 : Nat} {vs vs1 : List Nat} {Dl : Addr} {pre : List PyData} {H1 : Hp} {v : V} {enc : PyData} {bs : List PyData} {f : PyData → PyData} {P : Hp → Prop} (e0 : Env K W H0 σ H1 ρ) (hv : TV K H v enc) (hj : j ∈ vs) (hj1 : j1 ∈ vs1)
    (c : Cw K W H0 σ ρ Dl pre H1 H) (hz : pre.length + bs.length < 90000)
    (h1 : ED K W H0 tl1 ((wipeD ρ vs).set j (.d enc)) (.tuple bs))
    (he : ∀ b ∈ bs, ED K W H0 te ((wipeD ((wipeD ρ vs).set j (.d enc)) vs1).set j1 (.d b)) (f b))
    (hP : ∀ H3, Cw K W H0 σ ρ Dl (pre ++ bs.map f) H1 H3 → P H3) :
    gName j v (L2.wipe σ vs) H fun σ2 H2 => L2.wipe σ2 vs = L2.wipe σ vs ∧ tYes σ2 H2 fun bb H3 =>
      if bb = true then iTup K tl1 σ2 H3 fun J1 H4 => ∃ W1 : Nat → Nat → Hp → Prop, (∃ m, W1 0 m H4) ∧ ∀ i k H, W1 i k H →
        (J1.stop i H ∧ P H) ∨ (J1.go i H ∧ ∃ Nx1 : Hp → Prop, (∀ H', Nx1 H' → ∃ k', k' < k ∧ W1 (i + 1) k' H') ∧ ∀ x H', J1.yld i H x H' → gName j1 x (L2.wipe σ2 vs1) H' fun σ3 H5 => L2.wipe σ3 vs1 = L2.wipe σ2 vs1 ∧ tYes σ3 H5 fun b H6 =>
          if b = true then te σ3 H6 fun y H7 => ∃ acc, H7 Dl = some (.lst acc) ∧ acc.length < sizeLine ∧ Nx1 (upd H7 Dl (.lst (acc ++ [y]))) else Nx1 H6)
      else P H3 := by
  have ev := (c.1.wipe vs).setD hv j
  refine ⟨wipe_wipe hj, ?_⟩
  simp only [tYes, ↓reduceIte]
  refine h1 _ H ev _ fun u H4 g4 t4 => ?_
  obtain ⟨a, ys, rfl, s1, r1⟩ := t4.tup_inv
  have c4 := c.grow e0 g4
  have lens := r1.length
  refine ⟨a, rfl, ⟨ys, s1⟩, fun i k H' => k = ys.length - i ∧ i ≤ ys.length ∧ Tk H4 H' ∧ Tk H H' ∧ Cw K W H0 σ ρ Dl (pre ++ (bs.take i).map f) H1 H', ⟨ys.length, by simp, Nat.zero_le _, ⟨fun _ _ h => h, fun _ _ _ h => h⟩, g4.1.tk c.1.j, by simpa using c4⟩, ?_⟩
  rintro i k H5 ⟨rfl, hi, tk, tk0, c5⟩
  by_cases hlt : i < ys.length
  · refine .inr ⟨⟨ys, ys[i], SqT.tk tk s1, List.getElem?_eq_getElem hlt⟩, fun H6 => Tk H4 H6 ∧ Tk H H6 ∧ Cw K W H0 σ ρ Dl (pre ++ (bs.take (i + 1)).map f) H1 H6, fun H6 c6 => ⟨ys.length - (i + 1), by omega, rfl, by omega, c6.1, c6.2.1, c6.2.2⟩, fun x H6 hy => ?_⟩
    obtain ⟨rfl, hx⟩ := hy
    have ex := hx ys (SqT.tk tk s1)
    obtain ⟨d, hd, td⟩ := r1.getV ex
    have ev5 := ((((c5.1.wipe vs).setD (hv.tk tk0) j).wipe vs1).setD (td.tk tk) j1)
    refine ⟨wipe_wipe hj1, ?_⟩
    have hm : d ∈ bs := List.mem_of_getElem? hd
    refine he d hm _ H6 ev5 _ fun y H7 g7 t7 => ?_
    have c7 := c5.grow e0 g7
    obtain ⟨acc, q1, q2, q3⟩ := c7.push e0 t7
    have tk7 := g7.1.tk c5.1.j
    refine ⟨acc, q1, ?_, Tk.trans (Tk.trans tk tk7) (tk_lst q1), Tk.trans (Tk.trans tk0 tk7) (tk_lst q1), ?_⟩
    · rw [q2, List.length_append, List.length_map, List.length_take]
      exact sz_lt (by omega)
    · rw [take_succ hd, List.map_append, ← List.append_assoc]
      exact q3
  · have hi2 : i = ys.length := by omega
    subst hi2
    refine .inl ⟨⟨ys, SqT.tk tk s1, Nat.le_refl _⟩, hP _ ?_⟩
    rw [List.take_of_length_le (by omega)] at c5
    exact c5
theorem flatMap_len {α β : Type} (g : α → List β) {n : Nat} : ∀ {l : List α}, (∀ a ∈ l, (g a).length ≤ n) → (l.flatMap g).length ≤ n * l.length
  | [], _ => by simp
  | a :: l, h => by
    have h1 := h a (List.mem_cons_self ..)
    have h2 := flatMap_len g (l := l) fun b hb => h b (List.mem_cons_of_mem _ hb)
    rw [List.flatMap_cons, List.length_append, List.length_cons]
    have : n * (l.length + 1) = n * l.length + n := Nat.mul_succ ..
    omega
theorem flat_take {α β : Type} {as : List α} {i : Nat} {a : α} (g : α → List β) (h : as[i]? = some a) : (as.take (i + 1)).flatMap g = (as.take i).flatMap g ++ g a := by
  rw [take_succ h, List.flatMap_append]
  simp
/-- [f(x, y) for x in t for y in u(x)], t a tuple -/
theorem en_lc2T {α : Type} {j j1 : Nat} {vs vs1 : List Nat} {as : List α} (enc : α → PyData) (bs : α → List PyData) (f : α → PyData → PyData) (h : ED K W H0 tl ρ (.tuple (as.map enc))) (hj : j ∈ vs) (hj1 : j1 ∈ vs1) (hz : as.length ≤ 40) (hb : ∀ a ∈ as, (bs a).length ≤ 1000)
    (h1 : ∀ a ∈ as, ED K W H0 tl1 ((wipeD ρ vs).set j (.d (enc a))) (.tuple (bs a)))
    (he : ∀ a ∈ as, ∀ b ∈ bs a, ED K W H0 te ((wipeD ((wipeD ρ vs).set j (.d (enc a))) vs1).set j1 (.d b)) (f a b)) :
    EN K W H0 (tLc2 (iTup K tl) (gName j) tYes (iTup K tl1) (gName j1) tYes te vs vs1) ρ (as.flatMap fun a => (bs a).map (f a)) := fun σ H e Q q => by
  refine h σ H e _ fun v H1 g1 t => ?_
  obtain ⟨p, ys, rfl, s1, r1⟩ := t.tup_inv
  have e1 := e.gr g1
  refine ⟨p, rfl, ⟨ys, s1⟩, fun Dl hD => ?_⟩
  have lens : ys.length = as.length := by rw [r1.length, List.length_map]
  refine ⟨fun i m H' => m = ys.length - i ∧ i ≤ ys.length ∧ Cw K W H0 σ ρ Dl ((as.take i).flatMap fun a => (bs a).map (f a)) H1 H', ⟨ys.length, by simp, Nat.zero_le _, Cw.start e1 hD⟩, ?_⟩
  rintro i m H' ⟨rfl, hi, c⟩
  by_cases hlt : i < ys.length
  · have hia : i < as.length := by omega
    have ha : as[i]? = some as[i] := List.getElem?_eq_getElem hia
    have hm : as[i] ∈ as := List.getElem_mem hia
    have tk := c.2.2.1.1.tk e1.j
    refine .inr ⟨⟨ys, ys[i], SqT.tk tk s1, List.getElem?_eq_getElem hlt⟩, fun H2 => Cw K W H0 σ ρ Dl ((as.take (i + 1)).flatMap fun a => (bs a).map (f a)) H1 H2, fun H2 c2 => ⟨ys.length - (i + 1), by omega, rfl, by omega, c2⟩, fun v H2 hy => ?_⟩
    obtain ⟨rfl, hv⟩ := hy
    have ev := hv ys (SqT.tk tk s1)
    obtain ⟨d, hd, td⟩ := r1.getV ev
    rw [List.getElem?_map, ha] at hd
    cases hd
    refine cw2_turn (f := f as[i]) e1 (td.tk tk) hj hj1 c ?_ (h1 _ hm) (he _ hm) fun H3 c3 => ?_
    · have := flatMap_len (fun a => (bs a).map (f a)) (n := 1000) (l := as.take i) fun a ha2 => by rw [List.length_map]; exact hb a (List.mem_of_mem_take ha2)
      have h2 := hb _ hm
      rw [List.length_take] at this
      have h3 : 1000 * min i as.length ≤ 1000 * 40 := Nat.mul_le_mul_left _ (by omega)
      omega
    · rw [flat_take _ ha]
      exact c3
  · have hi2 : i = ys.length := by omega
    subst hi2
    refine .inl ⟨⟨ys, SqT.tk (c.2.2.1.1.tk e1.j) s1, Nat.le_refl _⟩, ?_⟩
    rw [List.take_of_length_le (by omega)] at c
    exact c.fin g1 e1.j q
/-- .. a list -/
theorem en_lc2L {α : Type} {j j1 : Nat} {vs vs1 : List Nat} {as : List α} (enc : α → PyData) (bs : α → List PyData) (f : α → PyData → PyData) (h : EL K W H0 tl ρ (as.map enc)) (hj : j ∈ vs) (hj1 : j1 ∈ vs1) (hz : as.length ≤ 40) (hb : ∀ a ∈ as, (bs a).length ≤ 1000)
    (h1 : ∀ a ∈ as, ED K W H0 tl1 ((wipeD ρ vs).set j (.d (enc a))) (.tuple (bs a)))
    (he : ∀ a ∈ as, ∀ b ∈ bs a, ED K W H0 te ((wipeD ((wipeD ρ vs).set j (.d (enc a))) vs1).set j1 (.d b)) (f a b)) :
    EN K W H0 (tLc2 (iList K tl) (gName j) tYes (iTup K tl1) (gName j1) tYes te vs vs1) ρ (as.flatMap fun a => (bs a).map (f a)) := fun σ H e Q q => by
  refine h σ H e _ fun p ys H1 g1 l1 r1 => ?_
  have e1 := e.gr g1
  refine ⟨p, rfl, ⟨ys, l1.sq⟩, fun Dl hD => ?_⟩
  have lens : ys.length = as.length := by rw [r1.length, List.length_map]
  refine ⟨fun i m H' => m = ys.length - i ∧ i ≤ ys.length ∧ Cw K W H0 σ ρ Dl ((as.take i).flatMap fun a => (bs a).map (f a)) H1 H', ⟨ys.length, by simp, Nat.zero_le _, Cw.start e1 hD⟩, ?_⟩
  rintro i m H' ⟨rfl, hi, c⟩
  have l2 := l1.kp c.2.2.1.1
  by_cases hlt : i < ys.length
  · have hia : i < as.length := by omega
    have ha : as[i]? = some as[i] := List.getElem?_eq_getElem hia
    have hm : as[i] ∈ as := List.getElem_mem hia
    have tk := c.2.2.1.1.tk e1.j
    refine .inr ⟨⟨ys, ys[i], l2.sq, List.getElem?_eq_getElem hlt⟩, fun H2 => Cw K W H0 σ ρ Dl ((as.take (i + 1)).flatMap fun a => (bs a).map (f a)) H1 H2, fun H2 c2 => ⟨ys.length - (i + 1), by omega, rfl, by omega, c2⟩, fun v H2 hy => ?_⟩
    obtain ⟨rfl, hv⟩ := hy
    have ev := hv ys l2.sq
    obtain ⟨d, hd, td⟩ := r1.getV ev
    rw [List.getElem?_map, ha] at hd
    cases hd
    refine cw2_turn (f := f as[i]) e1 (td.tk tk) hj hj1 c ?_ (h1 _ hm) (he _ hm) fun H3 c3 => ?_
    · have := flatMap_len (fun a => (bs a).map (f a)) (n := 1000) (l := as.take i) fun a ha2 => by rw [List.length_map]; exact hb a (List.mem_of_mem_take ha2)
      have h2 := hb _ hm
      rw [List.length_take] at this
      have h3 : 1000 * min i as.length ≤ 1000 * 40 := Nat.mul_le_mul_left _ (by omega)
      omega
    · rw [flat_take _ ha]
      exact c3
  · have hi2 : i = ys.length := by omega
    subst hi2
    refine .inl ⟨⟨ys, l2.sq, Nat.le_refl _⟩, ?_⟩
    rw [List.take_of_length_le (by omega)] at c
    exact c.fin g1 e1.j q
end
end Hd

set_option Elab.async false
set_option linter.all false
set_option maxRecDepth 100000
set_option maxHeartbeats 4000000
namespace Hd
open PySem PySem.Spec PyProof.Rows L2
/-! ### the readings with K itself -/
section
variable {X : Cx} {K : Fg} {w : World} {tg e l : Expr} {te tl : TE} {ta : TA} {p pos tpos : Pos} {elts es : List Expr} {kk n : Nat} {t : TGs}
abbrev rLen2 (K : Fg) : List V → Hp → VK → Prop := fun xs H Q => ∃ p ys, xs = [.ref p] ∧ (SqL K H p ys ∨ SqT K H p ys) ∧ Q (.int ys.length) H
abbrev rListOf (K : Fg) : List V → Hp → VK → Prop := fun xs H Q => ∃ p ys, xs = [.ref p] ∧ (SqL K H p ys ∨ SqT K H p ys) ∧ ∀ l, H l = none → Q (.ref l) (upd H l (.lst ys))
abbrev rTupOf (K : Fg) : List V → Hp → VK → Prop := fun xs H Q => ∃ p ys, xs = [.ref p] ∧ ((SqL K H p ys ∧ ∀ l, H l = none → Q (.ref l) (upd H l (.tup ys))) ∨ (SqT K H p ys ∧ Q (.ref p) H))
theorem k_catA (e : X.K = K) : OpR X (binaryOp .Add) (rCatA K) := e ▸ op_catA
theorem k_repT (e : X.K = K) : OpR X (binaryOp .Mult) (rRepT K) := e ▸ op_repT
theorem k_notIn (e : X.K = K) : OpR X (compareOp .NotIn) (rIn K true) := e ▸ op_notIn_seq
theorem k_notInD (e : X.K = K) (hu : X.A.units + 65 < cLine) : OpR X (compareOp .NotIn) (rNotInD K) := e ▸ op_notInD hu
theorem k_eqD (e : X.K = K) (hu : X.A.units + 64 < cLine) : OpR X (compareOp .Eq) (rEqD K) := e ▸ op_eqD hu
theorem k_neD (e : X.K = K) (hu : X.A.units + 64 < cLine) : OpR X (compareOp .NotEq) (rNeD K) := e ▸ op_neD hu
theorem k_slA (e : X.K = K) : SlR X (rSlA K) := e ▸ sl_tupA
theorem k_isi (e : X.K = K) : CallR X (.builtin "isinstance") (rIsi K) := e ▸ call_isi
theorem k_len (e : X.K = K) : CallR X (.builtin "len") (rLen2 K) := e ▸ call_len_seq
theorem k_max (e : X.K = K) (hc : X.calm = true) : CallR X (.builtin "max") (rMax K) := e ▸ cr_max hc
theorem k_min (e : X.K = K) (hc : X.calm = true) : CallR X (.builtin "min") (rMin K) := e ▸ cr_min hc
theorem k_sumT (e : X.K = K) (hc : X.calm = true) : CallR X (.builtin "sum") (rSumT K) := e ▸ call_sumT hc
theorem k_sortedT (e : X.K = K) : CallR X (.builtin "sorted") (rSortedT K) := e ▸ call_sortedT
theorem k_sortedD (e : X.K = K) (hu : X.A.units + 64 < cLine) : CallR X (.builtin "sorted") (rSortedD K) := e ▸ call_sortedD hu
theorem k_sortedSet (e : X.w = w) (hc : X.calm = true) : CallR X (.builtin "sorted") (rSortedSet w) := e ▸ cr_sortedSet hc
theorem k_setT (e : X.K = K) (ew : X.w = w) (hc : X.calm = true) : CallR X (.type "set") (rSetT K w) := e ▸ ew ▸ call_setT hc
theorem k_repr (e : X.K = K) (hG : X.A.guards = some []) (hu : X.A.units + 64 < cLine) : CallR X (.builtin "repr") (rRepr K) := e ▸ call_reprD hG hu
theorem k_listOf (e : X.K = K) : CallR X (.type "list") (rListOf K) := e ▸ call_list_of
theorem k_tupOf (e : X.K = K) : CallR X (.type "tuple") (rTupOf K) := e ▸ call_tuple_of
theorem k_ixT (e : X.K = K) : IxR X (rIxT K) := e ▸ ix_tup
theorem k_ixL (e : X.K = K) : IxR X (rIxL K) := e ▸ ix_list
theorem k_tup (q : X.K = K) (h : PE X l tl) : PI X tg l (iTup K tl) := q ▸ pi_tup h
theorem k_list (q : X.K = K) (h : PE X l tl) : PI X tg l (iList K tl) := q ▸ pi_list h
theorem k_enumT (q : X.K = K) (hg : Gl X "enumerate") (hm : X.mg "enumerate" = none) (ha : PA X [e] ta) (hs : starEach [e] X.env = [(false, eval e X.env)] := by rfl) :
    PI X (.Tuple elts kk tpos) (.Call (.Name "enumerate" p) [e] [] pos) (iEnumT K ta) := q ▸ pi_enumT hg hm ha hs
theorem k_gtup (q : X.K = K) (hc : X.calm = true) (h : PGs X es t) (hn : (assignEach es X.env).length = n := by rfl) (hst : (assignEach es X.env).findIdx? (·.1) = none := by rfl) : PG X (.Tuple es kk pos) (gTup K n t) := q ▸ pg_tup hc h hn hst
end
end Hd

set_option Elab.async false
set_option linter.all false
set_option maxRecDepth 100000
set_option maxHeartbeats 4000000
namespace Hd
open PySem PySem.Spec PyProof.Rows L2 Net
/-! ### data of ints and tuples -/
def clean : Nat → PyData → Bool
  | 0, .int _ => true
  | k + 1, .int _ => true
  | k + 1, .tuple xs => xs.all (clean k)
  | _, _ => false
theorem clean_int {k : Nat} {i : Int} : clean k (.int i) = true := by cases k <;> rfl
theorem canLayAll_iff : ∀ {xs : List PyData}, PyData.canLayAll0 xs = true ↔ ∀ x ∈ xs, x.canLay0 = true
  | [] => by simp [PyData.canLayAll0]
  | x :: xs => by rw [PyData.canLayAll0, Bool.and_eq_true, canLayAll_iff (xs := xs)]; simp
theorem depthAll_le {n : Nat} : ∀ {xs : List PyData}, (∀ x ∈ xs, x.depth ≤ n) → PyData.depthAll xs ≤ n
  | [], _ => by simp [PyData.depthAll]
  | x :: xs, h => by
    have h1 := h x (List.mem_cons_self ..)
    have h2 := depthAll_le (xs := xs) fun y hy => h y (List.mem_cons_of_mem _ hy)
    rw [PyData.depthAll]
    omega
theorem clean_lay : ∀ {k : Nat} {d : PyData}, clean k d = true → d.canLay0 = true ∧ d.depth ≤ k
  | 0, .int _, _ => ⟨by simp [PyData.canLay0], by simp [PyData.depth]⟩
  | 0, .none, h => by cases h
  | 0, .bool _, h => by cases h
  | 0, .str _, h => by cases h
  | 0, .list _, h => by cases h
  | 0, .tuple _, h => by cases h
  | 0, .dict _, h => by cases h
  | k + 1, .int _, _ => ⟨by simp [PyData.canLay0], by simp [PyData.depth]⟩
  | k + 1, .tuple xs, h => by
    have h' : ∀ x ∈ xs, clean k x = true := List.all_eq_true.mp h
    refine ⟨?_, ?_⟩
    · rw [PyData.canLay0]
      exact canLayAll_iff.mpr fun x hx => (clean_lay (h' x hx)).1
    · rw [PyData.depth]
      have := depthAll_le fun x hx => (clean_lay (h' x hx)).2
      omega
  | k + 1, .none, h => by cases h
  | k + 1, .bool _, h => by cases h
  | k + 1, .str _, h => by cases h
  | k + 1, .list _, h => by cases h
  | k + 1, .dict _, h => by cases h
theorem shaped_clean {k : Nat} {d : PyData} (h : clean k d = true) (hk : k ≤ 60 := by decide) : SeqAt.shaped d = true := by
  obtain ⟨h1, h2⟩ := clean_lay h
  unfold SeqAt.shaped
  rw [h1, Bool.true_and]
  exact decide_eq_true (by omega)
theorem shaped_list {k : Nat} {xs : List PyData} (h : ∀ x ∈ xs, clean k x = true) (hk : k ≤ 60 := by decide) : SeqAt.shaped (.list xs) = true := by
  unfold SeqAt.shaped
  rw [Bool.and_eq_true]
  refine ⟨?_, decide_eq_true ?_⟩
  · rw [PyData.canLay0]
    exact canLayAll_iff.mpr fun x hx => (clean_lay (h x hx)).1
  · rw [PyData.depth]
    have := depthAll_le fun x hx => (clean_lay (h x hx)).2
    omega
theorem eqvAll_clean {k : Nat} (ih : ∀ a b, clean k a = true → clean k b = true → (PyData.eqv a b = true ↔ a = b)) : ∀ {xs ys : List PyData}, (∀ x ∈ xs, clean k x = true) → (∀ y ∈ ys, clean k y = true) → (PyData.eqvAll xs ys = true ↔ xs = ys)
  | [], [], _, _ => by simp [PyData.eqvAll]
  | [], _ :: _, _, _ => by simp [PyData.eqvAll]
  | _ :: _, [], _, _ => by simp [PyData.eqvAll]
  | x :: xs, y :: ys, h1, h2 => by
    rw [PyData.eqvAll, Bool.and_eq_true, ih x y (h1 x (List.mem_cons_self ..)) (h2 y (List.mem_cons_self ..)), eqvAll_clean ih (xs := xs) (ys := ys) (fun z hz => h1 z (List.mem_cons_of_mem _ hz)) (fun z hz => h2 z (List.mem_cons_of_mem _ hz))]
    simp
theorem eqv_clean : ∀ (k : Nat) (a b : PyData), clean k a = true → clean k b = true → (PyData.eqv a b = true ↔ a = b)
  | 0, .int i, .int j, _, _ => by simp [PyData.eqv]
  | k + 1, .int i, .int j, _, _ => by simp [PyData.eqv]
  | k + 1, .int i, .tuple _, _, _ => by simp [PyData.eqv]
  | k + 1, .tuple _, .int i, _, _ => by simp [PyData.eqv]
  | k + 1, .tuple xs, .tuple ys, h1, h2 => by
    rw [PyData.eqv, eqvAll_clean (eqv_clean k) (List.all_eq_true.mp h1) (List.all_eq_true.mp h2)]
    simp
  | 0, .none, _, h, _ => by cases h
  | 0, .bool _, _, h, _ => by cases h
  | 0, .str _, _, h, _ => by cases h
  | 0, .list _, _, h, _ => by cases h
  | 0, .tuple _, _, h, _ => by cases h
  | 0, .dict _, _, h, _ => by cases h
  | k + 1, .none, _, h, _ => by cases h
  | k + 1, .bool _, _, h, _ => by cases h
  | k + 1, .str _, _, h, _ => by cases h
  | k + 1, .list _, _, h, _ => by cases h
  | k + 1, .dict _, _, h, _ => by cases h
  | 0, .int _, .none, _, h => by cases h
  | 0, .int _, .bool _, _, h => by cases h
  | 0, .int _, .str _, _, h => by cases h
  | 0, .int _, .list _, _, h => by cases h
  | 0, .int _, .tuple _, _, h => by cases h
  | 0, .int _, .dict _, _, h => by cases h
  | k + 1, .int _, .none, _, h => by cases h
  | k + 1, .int _, .bool _, _, h => by cases h
  | k + 1, .int _, .str _, _, h => by cases h
  | k + 1, .int _, .list _, _, h => by cases h
  | k + 1, .int _, .dict _, _, h => by cases h
  | k + 1, .tuple _, .none, _, h => by cases h
  | k + 1, .tuple _, .bool _, _, h => by cases h
  | k + 1, .tuple _, .str _, _, h => by cases h
  | k + 1, .tuple _, .list _, _, h => by cases h
  | k + 1, .tuple _, .dict _, _, h => by cases h
theorem eqv_list_clean {k : Nat} {xs ys : List PyData} (h1 : ∀ x ∈ xs, clean k x = true) (h2 : ∀ y ∈ ys, clean k y = true) : (PyData.eqv (.list xs) (.list ys) = true ↔ xs = ys) := by
  rw [PyData.eqv]
  exact eqvAll_clean (eqv_clean k) h1 h2
/-! ### the encodings -/
abbrev eL (l : Lot) : PyData := .tuple (l.map eS)
abbrev eLs (ls : List Lot) : PyData := .tuple (ls.map eL)
abbrev eR (ls : List Lot) : PyData := .tuple [.tuple [.int 0, eLs ls]]
abbrev eSt (t : Int × Int) : PyData := .tuple [.int t.1, .int t.2]
abbrev eSts (ts : List (Int × Int)) : PyData := .tuple (ts.map eSt)
abbrev eF (row : List Int) : PyData := .tuple [.int 0, eS row]
theorem map_inj' {α β : Type} {f : α → β} (h : ∀ a b, f a = f b → a = b) : ∀ {l m : List α}, l.map f = m.map f → l = m
  | [], [], _ => rfl
  | [], _ :: _, e => by cases e
  | _ :: _, [], e => by cases e
  | a :: l, b :: m, e => by
    rw [List.map_cons, List.map_cons] at e
    injection e with e1 e2
    rw [h a b e1, map_inj' h e2]
theorem int_inj (a b : Int) (h : PyData.int a = PyData.int b) : a = b := by injection h
theorem eS_inj (a b : List Int) (h : eS a = eS b) : a = b := by
  have h2 : a.map PyData.int = b.map PyData.int := by injection h
  exact map_inj' int_inj h2
theorem eL_inj (a b : Lot) (h : eL a = eL b) : a = b := by
  have h2 : a.map eS = b.map eS := by injection h
  exact map_inj' eS_inj h2
theorem eSt_inj (a b : Int × Int) (h : eSt a = eSt b) : a = b := by
  injection h with h
  injection h with h1 h2
  injection h2 with h2 _
  have e1 := int_inj _ _ h1
  have e2 := int_inj _ _ h2
  cases a; cases b
  simp_all
theorem clean_ints {k : Nat} {l : List Int} : ∀ x ∈ l.map PyData.int, clean k x = true := fun x hx => by
  obtain ⟨i, _, rfl⟩ := List.mem_map.mp hx
  exact clean_int
theorem clean_tup {k : Nat} {xs : List PyData} (h : ∀ x ∈ xs, clean k x = true) : clean (k + 1) (.tuple xs) = true := List.all_eq_true.mpr h
theorem clean_eS {k : Nat} {s : List Int} : clean (k + 1) (eS s) = true := clean_tup clean_ints
theorem clean_sets {k : Nat} {l : Lot} : ∀ x ∈ l.map eS, clean (k + 1) x = true := fun x hx => by
  obtain ⟨s, _, rfl⟩ := List.mem_map.mp hx
  exact clean_eS
theorem clean_eL {k : Nat} {l : Lot} : clean (k + 2) (eL l) = true := clean_tup clean_sets
theorem clean_lots {k : Nat} {l : List Lot} : ∀ x ∈ l.map eL, clean (k + 2) x = true := fun x hx => by
  obtain ⟨s, _, rfl⟩ := List.mem_map.mp hx
  exact clean_eL
theorem clean_eLs {k : Nat} {l : List Lot} : clean (k + 3) (eLs l) = true := clean_tup clean_lots
theorem clean_eR {k : Nat} {l : List Lot} : clean (k + 5) (eR l) = true := clean_tup fun x hx => by
  rw [List.mem_singleton] at hx
  subst hx
  refine clean_tup fun x hx => ?_
  rcases List.mem_cons.mp hx with e | e
  · rw [e]; exact clean_int
  · rw [List.mem_singleton] at e
    rw [e]
    exact clean_eLs
theorem clean_eSt {k : Nat} {t : Int × Int} : clean (k + 1) (eSt t) = true := clean_tup fun x hx => by
  rcases List.mem_cons.mp hx with e | e
  · rw [e]; exact clean_int
  · rw [List.mem_singleton] at e
    rw [e]
    exact clean_int
theorem clean_eSts {k : Nat} {ts : List (Int × Int)} : clean (k + 2) (eSts ts) = true := clean_tup fun x hx => by
  obtain ⟨s, _, rfl⟩ := List.mem_map.mp hx
  exact clean_eSt
theorem eqv_iff_b {k : Nat} {a b : PyData} (ha : clean k a = true) (hb : clean k b = true) {p : Prop} [Decidable p] (h : a = b ↔ p) : PyData.eqv a b = decide p := by
  have := (eqv_clean k a b ha hb).trans h
  by_cases c : p
  · rw [decide_eq_true c]; exact this.mpr c
  · rw [decide_eq_false c]
    cases e : PyData.eqv a b with
    | false => rfl
    | true => exact absurd (this.mp e) c
theorem eqvL_iff_b {k : Nat} {a b : List PyData} (ha : ∀ x ∈ a, clean k x = true) (hb : ∀ x ∈ b, clean k x = true) {p : Prop} [Decidable p] (h : a = b ↔ p) : PyData.eqv (.list a) (.list b) = decide p := by
  have := (eqv_list_clean ha hb).trans h
  by_cases c : p
  · rw [decide_eq_true c]; exact this.mpr c
  · rw [decide_eq_false c]
    cases e : PyData.eqv (.list a) (.list b) with
    | false => rfl
    | true => exact absurd (this.mp e) c
theorem eqv_S (a b : List Int) : PyData.eqv (eS a) (eS b) = decide (a = b) := eqv_iff_b (k := 1) clean_eS clean_eS ⟨eS_inj a b, fun h => by rw [h]⟩
theorem eqv_Li (a b : List Int) : PyData.eqv (.list (a.map PyData.int)) (.list (b.map PyData.int)) = decide (a = b) := eqvL_iff_b (k := 0) clean_ints clean_ints ⟨map_inj' int_inj, fun h => by rw [h]⟩
theorem eqv_nil {k : Nat} {xs : List PyData} (h : ∀ x ∈ xs, clean k x = true) : PyData.eqv (.list xs) (.list []) = xs.isEmpty := by
  cases xs with
  | nil => simp [PyData.eqv, PyData.eqvAll]
  | cons x xs => simp [PyData.eqv, PyData.eqvAll]
theorem eqv_L (a b : Lot) : PyData.eqv (eL a) (eL b) = decide (a = b) := eqv_iff_b (k := 2) clean_eL clean_eL ⟨eL_inj a b, fun h => by rw [h]⟩
theorem eqv_refl_c {k : Nat} {a : PyData} (h : clean k a = true) : PyData.eqv a a = true := (eqv_clean k a a h h).mpr rfl
theorem any_S {l : Lot} {s : List Int} : ((l.map eS).any fun z => PyData.eqv z (eS s)) = l.contains s := by
  rw [List.any_map]
  induction l with
  | nil => simp
  | cons a l ih =>
    rw [List.any_cons, ih, List.contains_cons]
    show (PyData.eqv (eS a) (eS s) || l.contains s) = _
    rw [eqv_S]
    congr 1
    by_cases c : a = s
    · subst c; simp
    · simp [c, Ne.symm c]
end Hd

set_option Elab.async false
set_option linter.all false
set_option maxRecDepth 100000
set_option maxHeartbeats 4000000
namespace Hf
open PySem PySem.Spec PyProof.Rows L2 Hd
section
variable {P : Program} {w : World} {K : PySem.W.Frag} {mg : Str → Option Value} {base : Heap}
/-- of a def's bundle -/
theorem clOf {x : Str} {st : Stmt} {ps : List Str} {k : Nat} {sp : Sp} (F : FD K mg x st) (hb : ∀ (kV doc pm : Value) (an : Option Addr) (cdv ct : Value) (us : List Value), us.length = ps.length → bindArgs (PySem.W.fnOf x x (defArgs st) (defBody st) (defScope st) .none kV doc pm an cdv ct) ⟨us, []⟩ = pure (ps.zip us))
    (h : ∀ f fd, FunD K x x (defArgs st) (defBody st) (defScope st) [] [] f fd → FnOk P w K mg base CX0 k f fd ps sp) : Cl P w K mg base x ps k sp := by
  obtain ⟨f, fd, F, hm⟩ := F
  exact ⟨f, fd, h f fd F, hm, F.kp, F.bindsN hb⟩
def isInt : PyData → Bool
  | .int _ => true
  | .bool _ => true
  | _ => false
def isBl : PyData → Bool
  | .bool _ => true
  | _ => false
def isTup : PyData → Bool
  | .tuple _ => true
  | _ => false
theorem kI (x : PyData) : kitB (tyN x) "int" = some (isInt x) := by
  cases x with
  | none => exact (by decide +kernel : kitB "NoneType" "int" = some false)
  | bool _ => exact (by decide +kernel : kitB "bool" "int" = some true)
  | int _ => exact (by decide +kernel : kitB "int" "int" = some true)
  | str _ => exact (by decide +kernel : kitB "str" "int" = some false)
  | list _ => exact (by decide +kernel : kitB "list" "int" = some false)
  | tuple _ => exact (by decide +kernel : kitB "tuple" "int" = some false)
  | dict _ => exact (by decide +kernel : kitB "dict" "int" = some false)
theorem kB (x : PyData) : kitB (tyN x) "bool" = some (isBl x) := by
  cases x with
  | none => exact (by decide +kernel : kitB "NoneType" "bool" = some false)
  | bool _ => exact (by decide +kernel : kitB "bool" "bool" = some true)
  | int _ => exact (by decide +kernel : kitB "int" "bool" = some false)
  | str _ => exact (by decide +kernel : kitB "str" "bool" = some false)
  | list _ => exact (by decide +kernel : kitB "list" "bool" = some false)
  | tuple _ => exact (by decide +kernel : kitB "tuple" "bool" = some false)
  | dict _ => exact (by decide +kernel : kitB "dict" "bool" = some false)
theorem kT (x : PyData) : kitB (tyN x) "tuple" = some (isTup x) := by
  cases x with
  | none => exact (by decide +kernel : kitB "NoneType" "tuple" = some false)
  | bool _ => exact (by decide +kernel : kitB "bool" "tuple" = some false)
  | int _ => exact (by decide +kernel : kitB "int" "tuple" = some false)
  | str _ => exact (by decide +kernel : kitB "str" "tuple" = some false)
  | list _ => exact (by decide +kernel : kitB "list" "tuple" = some false)
  | tuple _ => exact (by decide +kernel : kitB "tuple" "tuple" = some true)
  | dict _ => exact (by decide +kernel : kitB "dict" "tuple" = some false)
/-- what is_from says -/
def isFrom (x : PyData) (lo hi : Int) : Bool := match x with
  | .int i => decide (lo ≤ i) && decide (i ≤ hi)
  | _ => false
def R_is_from (as : List AD) (rd : RD) : Prop := ∃ x lo hi, as = [.d x, .d (.int lo), .d (.int hi)] ∧ rd = .d (.bool (isFrom x lo hi))
theorem cl_is_from (T : Txt mg) (F : FD K mg "is_from" s_is_from) : Cl P w K mg base "is_from" P_is_from 1 (PSp K R_is_from) :=
  clOf F (fun _ _ _ _ _ _ us hl => match us, hl with | [_, _, _], _ => rfl) fun f fd F => fnok F sc_is_from (fun as rd ⟨x, lo, hi, e, _⟩ => by rw [e]; rfl) fun cdv A outer s H E hr => by
    have nd := sc_is_from.nd
    refine ⟨_, (pss_one (ps_ret (pe_and (pe_callB (k_isi rfl) (by rfl) T.b_isinstance (by decide +kernel) (pa_cons (pv 0) (pa_cons (pe_bltn (v := .ty "int") (by rfl) T.b_int (by decide +kernel) rfl) pa_nil))) (pe_and (pe_not (pe_callB (k_isi rfl) (by rfl) T.b_isinstance (by decide +kernel) (pa_cons (pv 0) (pa_cons (pe_bltn (v := .ty "bool") (by rfl) T.b_bool (by decide +kernel) rfl) pa_nil)))) (pe_one (pe_chain op_le op_le (pv 1) (pv 0) (pv 2))))))), ?_⟩
    rintro as rd ⟨x, lo, hi, rfl, rfl⟩ H0 D hrt _
    have hb : isInt x = true → isBl x = false → ∃ i, x = .int i := fun h1 h2 => by
      cases x with
      | int i => exact ⟨i, rfl⟩
      | bool b => cases h2
      | _ => cases h1
    exact s_ret (ed_is (y := .bool (isFrom x lo hi)) (ed_and (b := !isBl x && isFrom x lo hi) (ed_isi (ed_var rfl) (kI x)) fun h1 => ed_and (b := isFrom x lo hi) (ed_not (ed_isi (ed_var rfl) (kB x))) fun h2 => by
      have h2' : isBl x = false := by simpa using h2
      obtain ⟨i, rfl⟩ := hb h1 h2'
      exact ed_chain (ed_var rfl) (ed_var rfl) (ed_var rfl)) (by cases x <;> simp [isInt, isBl, isFrom])) hrt
end
end Hf

set_option Elab.async false
set_option linter.all false
set_option maxRecDepth 100000
set_option maxHeartbeats 4000000
namespace Hf
open PySem PySem.Spec PyProof.Rows L2 Hd Net
section
variable {P : Program} {w : World} {K : PySem.W.Frag} {mg : Str → Option Value} {base : Heap}
theorem hu64 {k : Nat} {A : Around} (hr : Room k A) : A.units + 64 < cLine := by
  have := hr.un
  omega
theorem hu65 {k : Nat} {A : Around} (hr : Room k A) : A.units + 65 < cLine := by
  have := hr.un
  omega
/-! ### holders -/
def Hol (ns : List Int) : Prop := ns.length ≤ 60 ∧ ∀ i ∈ ns, 0 ≤ i ∧ i ≤ 12
def R_is_holder (as : List AD) (rd : RD) : Prop := ∃ ns : List Int, as = [.d (eS ns)] ∧ rd = .d (.bool true) ∧ Hol ns
theorem isFrom_int {i lo hi : Int} : isFrom (.int i) lo hi = (decide (lo ≤ i) && decide (i ≤ hi)) := rfl
theorem from_ok {i lo hi : Int} (h0 : lo ≤ i) (h1 : i ≤ hi) : isFrom (.int i) lo hi = true := by rw [isFrom_int, decide_eq_true h0, decide_eq_true h1]; rfl
theorem none_left {α : Type} {l : List α} {b : α → Bool} (h : ∀ a ∈ l, b a = true) : l.filter (fun a => !b a) = [] := by
  rw [List.filter_eq_nil_iff]
  intro a ha
  rw [h a ha]
  decide
theorem cl_is_holder (T : Txt mg) (F : FD K mg "is_holder" s_is_holder) (C_is_from : Cl P w K mg base "is_from" P_is_from 1 (PSp K R_is_from)) : Cl P w K mg base "is_holder" P_is_holder 2 (PSp K R_is_holder) :=
  clOf F (fun _ _ _ _ _ _ us hl => match us, hl with | [_], _ => rfl) fun f fd F => fnok F sc_is_holder (by rintro as rd ⟨ns, rfl, rfl, hh⟩; rfl) fun cdv A outer s H E hr => by
    have nd := sc_is_holder.nd
    refine ⟨_, (pss_cons (ps_if (PW.pt (pw_or (pt_not (pt_val (pe_callB (k_isi rfl) (by rfl) T.b_isinstance (by decide +kernel) (pa_cons (pv 0) (pa_cons (pe_bltn (v := .ty "tuple") (by rfl) T.b_tuple (by decide +kernel) rfl) pa_nil))))) (pw_or1 (pt_cmpR op_gt (pe_callB (k_len rfl) (by rfl) T.b_len (by decide +kernel) (pa_cons (pv 0) pa_nil)) (pe_gi T.c_MOST_SHAPES) (nomark _))))) (pss_one (ps_ret pe_bl)) pss_nil)
      (pss_one (ps_ret (pe_cmpR op_eq (pe_callB (k_len rfl) (by rfl) T.b_len (by decide +kernel) (pa_cons (pe_lc (own := [("item", 1)]) rfl nd (k_tup rfl (pv 0)) (blkOk_by (by kernel_rfl)) (fun _ _ _ _ _ => pg_name (i := 1) nd rfl (Or.inl rfl)) (fun _ _ _ _ _ => pts_one (pt_not (pt_val (pe_cl C_is_from hr (pa_cons (pv 1) (pa_cons pe_int (pa_cons (pe_gi T.c_MOST_PLACES) pa_nil))))))) (fun _ _ _ _ _ => pe_int)) pa_nil)) pe_int (nomark _))))), ?_⟩
    rintro as rd ⟨ns, rfl, rfl, hh⟩ H0 D hrt hnx
    refine s_seq (s_unless (et_is (et_or (et_not (et_B (ed_isi (ed_var rfl) (kT _)))) fun _ => et_test (ed_opB0 (ed_lenT (ed_var rfl)) ed_int)) ?_) ?_)
    · rw [List.length_map, decide_eq_false (by have := hh.1; omega)]
      rfl
    refine s_ret (ed_is (ed_eqI (ed_lenL (en_lcT (as := ns) PyData.int (fun a => !isFrom (.int a) 0 12) (fun _ => .int 1) (ed_var rfl) (List.mem_cons_self ..) (by have := hh.1; omega)
      (fun a ha => et_not (et_B (ed_call (ea_d (ed_var rfl) (ea_d ed_int (ea_d ed_int ea_nil))) ⟨_, _, _, rfl, rfl⟩))) (fun a ha _ => ed_int)).el) ed_int) ?_) hrt
    rw [none_left fun a ha => from_ok (hh.2 a ha).1 (hh.2 a ha).2]
    rfl
def R_need_holder (as : List AD) (rd : RD) : Prop := ∃ ns : List Int, as = [.d (eS ns)] ∧ rd = .d (eS ns) ∧ Hol ns
theorem cl_need_holder (T : Txt mg) (F : FD K mg "need_holder" s_need_holder) (C_is_holder : Cl P w K mg base "is_holder" P_is_holder 2 (PSp K R_is_holder)) : Cl P w K mg base "need_holder" P_need_holder 3 (PSp K R_need_holder) :=
  clOf F (fun _ _ _ _ _ _ us hl => match us, hl with | [_], _ => rfl) fun f fd F => fnok F sc_need_holder (by rintro as rd ⟨ns, rfl, rfl, hh⟩; rfl) fun cdv A outer s H E hr => by
    have nd := sc_need_holder.nd
    refine ⟨_, (pss_cons (ps_if (pt_not (pt_val (pe_cl C_is_holder hr (pa_cons (pv 0) pa_nil)))) (pss_one ps_never) pss_nil)
      (pss_one (ps_ret (pv 0)))), ?_⟩
    rintro as rd ⟨ns, rfl, rfl, hh⟩ H0 D hrt hnx
    refine s_seq (s_unless (et_is (et_not (et_B (ed_call (ea_d (ed_var rfl) ea_nil) ⟨ns, rfl, rfl, hh⟩))) rfl) ?_)
    exact s_ret (ed_var rfl) hrt
def R_need_low (as : List AD) (rd : RD) : Prop := ∃ ns : List Int, as = [.d (eS ns)] ∧ rd = .d .none ∧ Hol ns ∧ ∀ i ∈ ns, i ≤ 4
theorem cl_need_low (T : Txt mg) (F : FD K mg "need_low" s_need_low)  : Cl P w K mg base "need_low" P_need_low 1 (PSp K R_need_low) :=
  clOf F (fun _ _ _ _ _ _ us hl => match us, hl with | [_], _ => rfl) fun f fd F => fnok F sc_need_low (by rintro as rd ⟨ns, rfl, rfl, hh, hl⟩; rfl) fun cdv A outer s H E hr => by
    have nd := sc_need_low.nd
    refine ⟨_, (pss_one (ps_if (pt_cmpR (k_neD rfl (hu64 hr)) (pe_lc (own := [("places", 1)]) rfl nd (k_tup rfl (pv 0)) (blkOk_by (by kernel_rfl)) (fun _ _ _ _ _ => pg_name (i := 1) nd rfl (Or.inl rfl)) (fun _ _ _ _ _ => pts_one (pt_cmpR op_gt (pv 1) (pe_gi T.c_MOST_LOOKED) (nomark _))) (fun _ _ _ _ _ => pe_int)) (pe_lst pa_nil) (nomark _)) (pss_one ps_never) pss_nil)), ?_⟩
    rintro as rd ⟨ns, rfl, rfl, hh, hl⟩ H0 D hrt hnx
    refine s_unless (et_is (et_test (ed_neL (en_lcT (as := ns) PyData.int (fun a => decide (4 < a)) (fun _ => .int 1) (ed_var rfl) (List.mem_cons_self ..) (by have := hh.1; omega)
      (fun a ha => et_test (ed_opB0 (ed_var rfl) ed_int)) (fun a ha _ => ed_int)).el (en_lst eds_nil (by decide)).el ?_ ?_)) ?_) (hnx rfl _)
    · exact shaped_list (k := 0) fun x hx => by obtain ⟨a, _, rfl⟩ := List.mem_map.mp hx; rfl
    · rfl
    · have : ns.filter (fun a => decide (4 < a)) = [] := List.filter_eq_nil_iff.mpr fun a ha => by have := hl a ha; simpa using this
      rw [this]
      rfl
def R_need_pair (as : List AD) (rd : RD) : Prop := ∃ ns ms : List Int, as = [.d (eS ns), .d (eS ms)] ∧ rd = .d .none ∧ Hol ns ∧ Hol ms ∧ ∀ i ∈ ns, i ≤ 4
theorem cl_need_pair (T : Txt mg) (F : FD K mg "need_pair" s_need_pair) (C_need_holder : Cl P w K mg base "need_holder" P_need_holder 3 (PSp K R_need_holder)) (C_need_low : Cl P w K mg base "need_low" P_need_low 1 (PSp K R_need_low)) : Cl P w K mg base "need_pair" P_need_pair 4 (PSp K R_need_pair) :=
  clOf F (fun _ _ _ _ _ _ us hl => match us, hl with | [_, _], _ => rfl) fun f fd F => fnok F sc_need_pair (by rintro as rd ⟨ns, ms, rfl, rfl, hn, hm, hl⟩; rfl) fun cdv A outer s H E hr => by
    have nd := sc_need_pair.nd
    refine ⟨_, (pss_cons (ps_expr (pe_cl C_need_holder hr (pa_cons (pv 0) pa_nil)))
      (pss_cons (ps_expr (pe_cl C_need_holder hr (pa_cons (pv 1) pa_nil)))
      (pss_one (ps_expr (pe_cl C_need_low hr (pa_cons (pv 0) pa_nil)))))), ?_⟩
    rintro as rd ⟨ns, ms, rfl, rfl, hn, hm, hl⟩ H0 D hrt hnx
    refine s_seq (s_drop (ed_call (ea_d (ed_var rfl) ea_nil) ⟨ns, rfl, rfl, hn⟩) ?_)
    refine s_seq (s_drop (ed_call (ea_d (ed_var rfl) ea_nil) ⟨ms, rfl, rfl, hm⟩) ?_)
    exact s_drop (ed_call (ea_d (ed_var rfl) ea_nil) ⟨ns, rfl, rfl, hn, hl⟩) (hnx rfl _)
def R_need_three (as : List AD) (rd : RD) : Prop := ∃ ns ms ls : List Int, as = [.d (eS ns), .d (eS ms), .d (eS ls)] ∧ rd = .d .none ∧ Hol ns ∧ Hol ms ∧ Hol ls ∧ Hol (ns ++ ms) ∧ ∀ i ∈ ns ++ ms, i ≤ 4
theorem cl_need_three (T : Txt mg) (F : FD K mg "need_three" s_need_three) (C_need_holder : Cl P w K mg base "need_holder" P_need_holder 3 (PSp K R_need_holder)) (C_need_low : Cl P w K mg base "need_low" P_need_low 1 (PSp K R_need_low)) : Cl P w K mg base "need_three" P_need_three 4 (PSp K R_need_three) :=
  clOf F (fun _ _ _ _ _ _ us hl => match us, hl with | [_, _, _], _ => rfl) fun f fd F => fnok F sc_need_three (by rintro as rd ⟨ns, ms, ls, rfl, rfl, hn, hm, hs, hb, hl⟩; rfl) fun cdv A outer s H E hr => by
    have nd := sc_need_three.nd
    refine ⟨_, (pss_cons (ps_expr (pe_cl C_need_holder hr (pa_cons (pv 0) pa_nil)))
      (pss_cons (ps_expr (pe_cl C_need_holder hr (pa_cons (pv 1) pa_nil)))
      (pss_cons (ps_expr (pe_cl C_need_holder hr (pa_cons (pv 2) pa_nil)))
      (pss_one (ps_expr (pe_cl C_need_low hr (pa_cons (pe_op (k_catA rfl) (pv 0) (pv 1)) pa_nil))))))), ?_⟩
    rintro as rd ⟨ns, ms, ls, rfl, rfl, hn, hm, hs, hb, hl⟩ H0 D hrt hnx
    refine s_seq (s_drop (ed_call (ea_d (ed_var rfl) ea_nil) ⟨ns, rfl, rfl, hn⟩) ?_)
    refine s_seq (s_drop (ed_call (ea_d (ed_var rfl) ea_nil) ⟨ms, rfl, rfl, hm⟩) ?_)
    refine s_seq (s_drop (ed_call (ea_d (ed_var rfl) ea_nil) ⟨ls, rfl, rfl, hs⟩) ?_)
    refine s_drop (ed_call (ea_d (ed_is (ed_cat (ed_var rfl) (ed_var rfl) (by have h1 := hn.1; have h2 := hm.1; rw [List.length_map, List.length_map]; omega)) (by rw [← List.map_append])) ea_nil) ⟨ns ++ ms, rfl, rfl, hb, hl⟩) (hnx rfl _)
def R_is_thing (as : List AD) (rd : RD) : Prop := ∃ x, as = [.d x] ∧ rd = .d (.bool (isFrom x 0 (10 ^ 60)))
theorem cl_is_thing (T : Txt mg) (F : FD K mg "is_thing" s_is_thing) (C_is_from : Cl P w K mg base "is_from" P_is_from 1 (PSp K R_is_from)) : Cl P w K mg base "is_thing" P_is_thing 2 (PSp K R_is_thing) :=
  clOf F (fun _ _ _ _ _ _ us hl => match us, hl with | [_], _ => rfl) fun f fd F => fnok F sc_is_thing (by rintro as rd ⟨x, rfl, rfl⟩; rfl) fun cdv A outer s H E hr => by
    have nd := sc_is_thing.nd
    refine ⟨_, (pss_one (ps_ret (pe_cl C_is_from hr (pa_cons (pv 0) (pa_cons pe_int (pa_cons (pe_gi T.c_MOST_THING) pa_nil)))))), ?_⟩
    rintro as rd ⟨x, rfl, rfl⟩ H0 D hrt hnx
    exact s_ret (ed_call (ea_d (ed_var rfl) (ea_d ed_int (ea_d ed_int ea_nil))) ⟨_, _, _, rfl, rfl⟩) hrt
/-- a filling of (n,) -/
def Fil (n : Nat) (row : List Int) : Prop := row.length = n ∧ n ≤ 12 ∧ ∀ i ∈ row, 0 ≤ i ∧ i ≤ 10 ^ 60
def R_is_filling (as : List AD) (rd : RD) : Prop := ∃ (n : Nat) (row : List Int), as = [.d (eS [(n : Int)]), .d (eF row)] ∧ rd = .d (.bool true) ∧ Fil n row
theorem cl_is_filling (T : Txt mg) (F : FD K mg "is_filling" s_is_filling) (C_is_from : Cl P w K mg base "is_from" P_is_from 1 (PSp K R_is_from)) (C_is_thing : Cl P w K mg base "is_thing" P_is_thing 2 (PSp K R_is_thing)) : Cl P w K mg base "is_filling" P_is_filling 3 (PSp K R_is_filling) :=
  clOf F (fun _ _ _ _ _ _ us hl => match us, hl with | [_, _], _ => rfl) fun f fd F => fnok F sc_is_filling (by rintro as rd ⟨n, row, rfl, rfl, hf⟩; rfl) fun cdv A outer s H E hr => by
    have nd := sc_is_filling.nd
    refine ⟨_, (pss_cons (ps_if (PW.pt (pw_or (pt_not (pt_val (pe_callB (k_isi rfl) (by rfl) T.b_isinstance (by decide +kernel) (pa_cons (pv 1) (pa_cons (pe_bltn (v := .ty "tuple") (by rfl) T.b_tuple (by decide +kernel) rfl) pa_nil))))) (pw_or (pt_cmpR op_ne (pe_callB (k_len rfl) (by rfl) T.b_len (by decide +kernel) (pa_cons (pv 1) pa_nil)) pe_int (nomark _)) (pw_or1 (pt_not (pt_val (pe_callB (k_isi rfl) (by rfl) T.b_isinstance (by decide +kernel) (pa_cons (pe_ix (k_ixT rfl) (pv 1) pe_int (fun _ _ => rfl)) (pa_cons (pe_bltn (v := .ty "tuple") (by rfl) T.b_tuple (by decide +kernel) rfl) pa_nil))))))))) (pss_one (ps_ret pe_bl)) pss_nil)
      (pss_cons (ps_if (PW.pt (pw_or (pt_not (pt_val (pe_cl C_is_from hr (pa_cons (pe_ix (k_ixT rfl) (pv 1) pe_int (fun _ _ => rfl)) (pa_cons pe_int (pa_cons (pe_op op_sub (pe_callB (k_len rfl) (by rfl) T.b_len (by decide +kernel) (pa_cons (pv 0) pa_nil)) pe_int) pa_nil)))))) (pw_or1 (pt_cmpR op_ne (pe_callB (k_len rfl) (by rfl) T.b_len (by decide +kernel) (pa_cons (pe_ix (k_ixT rfl) (pv 1) pe_int (fun _ _ => rfl)) pa_nil)) (pe_ix (k_ixT rfl) (pv 0) (pe_ix (k_ixT rfl) (pv 1) pe_int (fun _ _ => rfl)) (fun _ _ => rfl)) (nomark _))))) (pss_one (ps_ret pe_bl)) pss_nil)
      (pss_one (ps_ret (pe_cmpR op_eq (pe_callB (k_len rfl) (by rfl) T.b_len (by decide +kernel) (pa_cons (pe_lc (own := [("thing", 2)]) rfl nd (k_tup rfl (pe_ix (k_ixT rfl) (pv 1) pe_int (fun _ _ => rfl))) (blkOk_by (by kernel_rfl)) (fun _ _ _ _ _ => pg_name (i := 2) nd rfl (Or.inl rfl)) (fun _ _ _ _ _ => pts_one (pt_not (pt_val (pe_cl C_is_thing hr (pa_cons (pv 2) pa_nil))))) (fun _ _ _ _ _ => pe_int)) pa_nil)) pe_int (nomark _)))))), ?_⟩
    rintro as rd ⟨n, row, rfl, rfl, hf⟩ H0 D hrt hnx
    have hl : row.length = n := hf.1
    refine s_seq (s_unless (et_is (et_or (et_not (et_B (ed_isi (ed_var rfl) (kT _)))) fun _ => et_or (et_test (ed_neI (ed_lenT (ed_var rfl)) ed_int)) fun _ => et_not (et_B (ed_isi (ed_ixT (ed_var rfl) ed_int (by decide) rfl) (kT _)))) rfl) ?_)
    refine s_seq (s_unless (et_is (et_or (et_not (et_B (ed_call (ea_d (ed_ixT (ed_var rfl) ed_int (by decide) rfl) (ea_d ed_int (ea_d (ed_opI0 (ed_lenT (ed_var rfl)) ed_int) ea_nil))) ⟨_, _, _, rfl, rfl⟩))) fun _ =>
      et_test (ed_neI (ed_lenT (ed_ixT (ed_var rfl) ed_int (by decide) rfl)) (ed_ixT (ed_var rfl) (ed_ixT (ed_var rfl) ed_int (by decide) rfl) (by decide) rfl))) ?_) ?_)
    · have e2 : ((row.map PyData.int).length : Int) = (n : Int) := by rw [List.length_map, hl]
      rw [e2, decide_eq_true rfl]
      rfl
    refine s_ret (ed_is (ed_eqI (ed_lenL (en_lcT (as := row) PyData.int (fun a => !isFrom (.int a) 0 (10 ^ 60)) (fun _ => .int 1) (ed_ixT (ed_var rfl) ed_int (by decide) rfl) (List.mem_cons_self ..) (by have := hf.2.1; omega)
      (fun a ha => et_not (et_B (ed_call (ea_d (ed_var rfl) ea_nil) ⟨_, rfl, rfl⟩))) (fun a ha _ => ed_int)).el) ed_int) ?_) hrt
    rw [none_left fun a ha => from_ok (hf.2.2 a ha).1 (hf.2.2 a ha).2]
    rfl
def R_check_filling (as : List AD) (rd : RD) : Prop := ∃ (n : Nat) (row : List Int), as = [.d (eS [(n : Int)]), .d (eF row)] ∧ rd = .d (eF row) ∧ Fil n row
theorem cl_check_filling (T : Txt mg) (F : FD K mg "check_filling" s_check_filling) (C_is_filling : Cl P w K mg base "is_filling" P_is_filling 3 (PSp K R_is_filling)) : Cl P w K mg base "check_filling" P_check_filling 4 (PSp K R_check_filling) :=
  clOf F (fun _ _ _ _ _ _ us hl => match us, hl with | [_, _], _ => rfl) fun f fd F => fnok F sc_check_filling (by rintro as rd ⟨n, row, rfl, rfl, hf⟩; rfl) fun cdv A outer s H E hr => by
    have nd := sc_check_filling.nd
    refine ⟨_, (pss_cons (ps_if (pt_not (pt_val (pe_cl C_is_filling hr (pa_cons (pv 0) (pa_cons (pv 1) pa_nil))))) (pss_one ps_never) pss_nil)
      (pss_one (ps_ret (pv 1)))), ?_⟩
    rintro as rd ⟨n, row, rfl, rfl, hf⟩ H0 D hrt hnx
    refine s_seq (s_unless (et_is (et_not (et_B (ed_call (ea_d (ed_var rfl) (ea_d (ed_var rfl) ea_nil)) ⟨n, row, rfl, rfl, hf⟩))) rfl) ?_)
    exact s_ret (ed_var rfl) hrt
def R_need_size (as : List AD) (rd : RD) : Prop := ∃ n : Nat, as = [.d (.int n)] ∧ rd = .d (.int n) ∧ n ≤ 4
theorem cl_need_size (T : Txt mg) (F : FD K mg "need_size" s_need_size) (C_is_from : Cl P w K mg base "is_from" P_is_from 1 (PSp K R_is_from)) : Cl P w K mg base "need_size" P_need_size 2 (PSp K R_need_size) :=
  clOf F (fun _ _ _ _ _ _ us hl => match us, hl with | [_], _ => rfl) fun f fd F => fnok F sc_need_size (by rintro as rd ⟨n, rfl, rfl, hn⟩; rfl) fun cdv A outer s H E hr => by
    have nd := sc_need_size.nd
    refine ⟨_, (pss_cons (ps_if (pt_not (pt_val (pe_cl C_is_from hr (pa_cons (pv 0) (pa_cons pe_int (pa_cons (pe_gi T.c_MOST_PLACES) pa_nil)))))) (pss_one ps_never) pss_nil)
      (pss_cons (ps_if (pt_cmpR op_gt (pv 0) (pe_gi T.c_MOST_LOOKED) (nomark _)) (pss_one ps_never) pss_nil)
      (pss_one (ps_ret (pv 0))))), ?_⟩
    rintro as rd ⟨n, rfl, rfl, hn⟩ H0 D hrt hnx
    refine s_seq (s_unless (et_is (et_not (et_B (ed_call (ea_d (ed_var rfl) (ea_d ed_int (ea_d ed_int ea_nil))) ⟨_, _, _, rfl, rfl⟩))) ?_) ?_)
    · rw [from_ok (by omega) (by omega)]
      rfl
    refine s_seq (s_unless (et_is (et_test (ed_opB0 (ed_var rfl) ed_int)) (decide_eq_false (by omega))) ?_)
    exact s_ret (ed_var rfl) hrt
end
end Hf

set_option Elab.async false
set_option linter.all false
set_option maxRecDepth 100000
set_option maxHeartbeats 4000000
namespace Hf
open PySem PySem.Spec PyProof.Rows L2 Hd Net
section
variable {P : Program} {w : World} {K : PySem.W.Frag} {mg : Str → Option Value} {base : Heap} {W : Wd} {H0 : Hp} {ρ ρ' ρ'' : List SD}
theorem nx_eq (e : ρ'' = ρ') (w : Wk ρ ρ') : Nx K W H0 (fun σ H => Env K W H0 σ H ρ'') ρ := e ▸ nx_turn w
theorem getD_some {l : List Int} {i : Nat} (h : i < l.length) : (l.map PyData.int)[i]? = some (.int (l.getD i 0)) := by
  rw [List.getElem?_map, List.getElem?_eq_getElem h, List.getD_eq_getElem?_getD, List.getElem?_eq_getElem h]
  rfl
theorem map_at {α : Type} {f : α → PyData} {l : List α} {i : Nat} {x : PyData} (h : (l.map f)[i]? = some x) : ∃ a, l[i]? = some a ∧ x = f a := by
  rw [List.getElem?_map] at h
  obtain ⟨a, h1, h2⟩ := Option.map_eq_some_iff.mp h
  exact ⟨a, h1, h2.symm⟩
theorem maxL_mem {l : List Int} (h : l ≠ []) : maxL l ∈ l ∧ ∀ y ∈ l, y ≤ maxL l := by
  obtain ⟨z, hz, hl⟩ := (le_maxL h (maxL l)).mp (Int.le_refl _)
  have hb : ∀ y ∈ l, y ≤ maxL l := fun y hy => (le_maxL h y).mpr ⟨y, hy, Int.le_refl _⟩
  have : maxL l = z := Int.le_antisymm hl (hb z hz)
  exact ⟨this ▸ hz, hb⟩
theorem exists_min : ∀ {l : List Int}, l ≠ [] → ∃ m ∈ l, ∀ y ∈ l, m ≤ y
  | [], h => absurd rfl h
  | [a], _ => ⟨a, by simp, by simp⟩
  | a :: b :: r, _ => by
    obtain ⟨m, hm, hb⟩ := exists_min (l := b :: r) (by simp)
    by_cases c : a ≤ m
    · exact ⟨a, by simp, fun y hy => by
        rcases List.mem_cons.mp hy with e | e
        · omega
        · have := hb y e; omega⟩
    · exact ⟨m, List.mem_cons_of_mem _ hm, fun y hy => by
        rcases List.mem_cons.mp hy with e | e
        · omega
        · exact hb y e⟩
theorem minL_mem {l : List Int} (h : l ≠ []) : minL l ∈ l ∧ ∀ y ∈ l, minL l ≤ y := by
  obtain ⟨m, hm, hb⟩ := exists_min h
  have e := minL_of hm hb
  subst e
  exact ⟨hm, hb⟩
theorem bits_len : ∀ i, i ≤ 4 → (rowsOf [0, 1] i).length ≤ 16 := by decide
theorem rows_take {ts : List Int} {l : List (List Int)} {j : Nat} {row : List Int} (h : l[j]? = some row) : rowsStep ts (l.take (j + 1)) = rowsStep ts (l.take j) ++ ts.map fun t => row ++ [t] := flat_take _ h
theorem rowsStep_len {ts : List Int} {l : List (List Int)} (ht : ts.length ≤ 2) : (rowsStep ts l).length ≤ 2 * l.length := flatMap_len _ fun a _ => by rw [List.length_map]; exact ht
def R_rows_of (as : List AD) (rd : RD) : Prop := ∃ n : Nat, as = [.s ([0, 1].map PyData.int), .d (.int n)] ∧ rd = .n ((rowsOf [0, 1] n).map eS) ∧ n ≤ 4
theorem cl_rows_of (T : Txt mg) (F : FD K mg "rows_of" s_rows_of)  : Cl P w K mg base "rows_of" P_rows_of 1 (PSp K R_rows_of) :=
  clOf F (fun _ _ _ _ _ _ us hl => match us, hl with | [_, _], _ => rfl) fun f fd F => fnok F sc_rows_of (by rintro as rd ⟨n, rfl, rfl, hn⟩; rfl) fun cdv A outer s H E hr => by
    have nd := sc_rows_of.nd
    refine ⟨_, (pss_cons (ps_set (i := 2) nd rfl (by first | exact Or.inl rfl | exact Or.inr rfl) (pe_lst (pa_cons (pe_tup pa_nil) pa_nil)))
      (pss_cons (ps_for PassesOwn.never rfl (pi_range1 (by rfl) T.b_range (pa_cons (pv 1) pa_nil)) (pg_name (i := 3) nd rfl (by first | exact Or.inl rfl | exact Or.inr rfl)) (pss_cons (ps_set (i := 4) nd rfl (by first | exact Or.inl rfl | exact Or.inr rfl) (pe_lst pa_nil))
      (pss_cons (ps_for PassesOwn.never rfl (k_list rfl (pv 2)) (pg_name (i := 5) nd rfl (by first | exact Or.inl rfl | exact Or.inr rfl)) (pss_one (ps_expr (pe_bm PySem.F.plainAttrs_list PySem.F.slot_list_extend PySem.F.type_list_extend mt_extend (pv 4) (pa_cons (pe_lc (own := [("thing", 6)]) rfl nd (k_list rfl (pv 0)) (blkOk_by (by kernel_rfl)) (fun _ _ _ _ _ => pg_name (i := 6) nd rfl (Or.inl rfl)) (fun _ _ _ _ _ => pts_nil) (fun _ _ _ _ _ => (pe_op (k_catA rfl) (pv 5) (pe_tup (pa_cons (pv 6) pa_nil))))) pa_nil)))))
      (pss_one (ps_set (i := 2) nd rfl (by first | exact Or.inl rfl | exact Or.inr rfl) (pe_callTy (k_listOf rfl) (by rfl) T.b_list (by decide +kernel) (pa_cons (pv 4) pa_nil)))))))
      (pss_one (ps_ret (pv 2))))), ?_⟩
    rintro as rd ⟨n, rfl, rfl, hn⟩ H0 D hrt hnx
    refine s_seq (s_asgN (en_lst (eds_cons (ed_tup eds_nil (by decide)) eds_nil) (by decide)) ?_)
    refine s_seq (s_forR (n := (n : Int)) (eds_cons (ed_var rfl) eds_nil) (by omega) (fun i => [.s ([0, 1].map PyData.int), .d (.int n), .l ((rowsOf [0, 1] i).map eS), .u, .u, .u, .u]) (by repeat' first | exact wk_nil | refine wk_u ?_ | refine wk_same ?_) _ (fun i _ => tg_name) (fun H0' u i hi => ?_) ?_)
    · refine s_seq (s_asgN (en_lst eds_nil (by decide)) ?_)
      refine s_seq (s_forO (xs := (rowsOf [0, 1] i).map eS) rfl ?_)
      refine s_forS rfl (fun j => [.s ([0, 1].map PyData.int), .d (.int n), .s ((rowsOf [0, 1] i).map eS), .u, .l ((rowsStep [0, 1] ((rowsOf [0, 1] i).take j)).map eS), .u, .u]) (by repeat' first | exact wk_nil | refine wk_u ?_ | refine wk_same ?_) _ (fun j x _ => tg_name) (fun H1' u1 j x hx => ?_) ?_
      · obtain ⟨row, hrow, rfl⟩ := map_at hx
        refine s_ext rfl (en_is (en_lcL (as := [0, 1]) PyData.int (fun _ => true) (fun t => eS (row ++ [t])) (el_vars rfl) (List.mem_cons_self ..) (by decide) (fun a ha => et_yes) fun a ha _ => ed_is (ed_cat (ed_var rfl) (ed_tup (eds_cons (ed_var rfl) eds_nil) (Nat.le_of_ble_eq_true rfl)) ?hl) (by show PyData.tuple _ = PyData.tuple _; rw [List.map_append]; rfl)) (congrArg (List.map fun t => eS (row ++ [t])) (filter_yes _))) ?_ (nx_eq (ρ' := [.s ([0, 1].map PyData.int), .d (.int n), .s ((rowsOf [0, 1] i).map eS), .u, .l ((rowsStep [0, 1] ((rowsOf [0, 1] i).take j)).map eS ++ [0, 1].map fun t => eS (row ++ [t])), .u, .u]) ?_ (by repeat' first | exact wk_nil | refine wk_u ?_ | refine wk_same ?_))
        case hl =>
          have := (mem_rowsOf.mp (List.mem_of_getElem? hrow)).1
          rw [List.length_map, this]
          show i + 1 ≤ 100000
          omega
        · have h1 := rowsStep_len (ts := [0, 1]) (l := (rowsOf [0, 1] i).take j) (by decide)
          have h2 := bits_len i (by omega)
          rw [List.length_take] at h1
          rw [List.length_map]
          show _ + 2 ≤ _
          omega
        · rw [rows_take hrow, List.map_append, List.map_map]
          rfl
      · refine s_asgN (en_listL (el_varl rfl)) ?_
        refine nx_eq (ρ' := [.s ([0, 1].map PyData.int), .d (.int n), .l ((rowsStep [0, 1] ((rowsOf [0, 1] i).take ((rowsOf [0, 1] i).map eS).length)).map eS), .u, .u, .u, .u]) ?_ (by repeat' first | exact wk_nil | refine wk_u ?_ | refine wk_same ?_)
        rw [List.length_map, List.take_length]
        rfl
    · exact s_retl rfl hrt
def R_bits_of (as : List AD) (rd : RD) : Prop := ∃ n : Nat, as = [.d (.int n)] ∧ rd = .n ((bitRows n).map eS) ∧ n ≤ 4
theorem cl_bits_of (T : Txt mg) (F : FD K mg "bits_of" s_bits_of) (C_rows_of : Cl P w K mg base "rows_of" P_rows_of 1 (PSp K R_rows_of)) : Cl P w K mg base "bits_of" P_bits_of 2 (PSp K R_bits_of) :=
  clOf F (fun _ _ _ _ _ _ us hl => match us, hl with | [_], _ => rfl) fun f fd F => fnok F sc_bits_of (by rintro as rd ⟨n, rfl, rfl, hn⟩; rfl) fun cdv A outer s H E hr => by
    have nd := sc_bits_of.nd
    refine ⟨_, (pss_one (ps_ret (pe_cl C_rows_of hr (pa_cons (pe_lst (pa_cons pe_int (pa_cons pe_int pa_nil))) (pa_cons (pv 0) pa_nil))))), ?_⟩
    rintro as rd ⟨n, rfl, rfl, hn⟩ H0 D hrt hnx
    exact s_retN (en_call (ea_s (en_lst (eds_cons ed_int (eds_cons ed_int eds_nil)) (by decide)).el (ea_d (ed_var rfl) ea_nil)) ⟨n, rfl, rfl, hn⟩) hrt
/-- the places of the ones -/
def onesOf (row : List Int) : List Int := (((List.range row.length).zip row).filter fun p => decide (p.2 = 1)).map fun p => (p.1 : Int)
def R_ones_of (as : List AD) (rd : RD) : Prop := ∃ row : List Int, as = [.d (eS row)] ∧ rd = .d (eS (onesOf row)) ∧ row.length ≤ 100
theorem cl_ones_of (T : Txt mg) (F : FD K mg "ones_of" s_ones_of)  : Cl P w K mg base "ones_of" P_ones_of 1 (PSp K R_ones_of) :=
  clOf F (fun _ _ _ _ _ _ us hl => match us, hl with | [_], _ => rfl) fun f fd F => fnok F sc_ones_of (by rintro as rd ⟨row, rfl, rfl, hl⟩; rfl) fun cdv A outer s H E hr => by
    have nd := sc_ones_of.nd
    refine ⟨_, (pss_one (ps_ret (pe_callTy (k_tupOf rfl) (by rfl) T.b_tuple (by decide +kernel) (pa_cons (pe_lc (own := [("place", 1), ("bit", 2)]) rfl nd (k_enumT rfl (by rfl) T.b_enumerate (pa_cons (pv 0) pa_nil)) (blkOk_by (by kernel_rfl)) (fun _ _ _ _ _ => k_gtup (n := 2) rfl rfl (pgs_cons (pg_name (i := 1) nd rfl (Or.inl rfl)) (pgs_cons (pg_name (i := 2) nd rfl (Or.inl rfl)) pgs_nil))) (fun _ _ _ _ _ => pts_one (pt_cmpR op_eq (pv 2) pe_int (nomark _))) (fun _ _ _ _ _ => (pv 1))) pa_nil)))), ?_⟩
    rintro as rd ⟨row, rfl, rfl, hl⟩ H0 D hrt hnx
    refine s_ret (ed_is (ed_tupL (en_lcE (as := row) PyData.int (fun p => decide (p.2 = 1)) (fun p => .int (p.1 : Int)) (ed_var rfl) (j1 := 1) (j2 := 2) (by decide) (by decide) (by omega) (fun i a h => et_test (ed_eqI (ed_var rfl) ed_int)) (fun i a h _ => ed_var rfl)).el) ?_) hrt
    unfold onesOf eS
    rw [List.map_map]
    rfl
def R_is_within (as : List AD) (rd : RD) : Prop := ∃ a b : List Int, as = [.d (eS a), .d (eS b)] ∧ rd = .d (.bool (within a b)) ∧ a.length ≤ 1000
theorem within_eq (a b : List Int) : decide ((((a.filter fun p => !decide (p ∈ b)).map fun _ => PyData.int 1).length : Int) = 0) = within a b := by
  rw [List.length_map]
  unfold within
  have e : (((a.filter fun p => !decide (p ∈ b)).length : Int) = 0) ↔ (a.all fun p => b.contains p) = true := by
    rw [List.all_eq_true]
    constructor
    · intro h p hp
      have h2 : (a.filter fun p => !decide (p ∈ b)) = [] := List.length_eq_zero_iff.mp (by omega)
      have := List.filter_eq_nil_iff.mp h2 p hp
      simpa using this
    · intro h
      have h2 : (a.filter fun p => !decide (p ∈ b)) = [] := List.filter_eq_nil_iff.mpr fun p hp => by simpa using h p hp
      rw [h2]
      rfl
  by_cases c : (a.all fun p => b.contains p) = true
  · rw [c]; exact decide_eq_true (e.mpr c)
  · rw [Bool.not_eq_true] at c
    rw [c]
    exact decide_eq_false fun z => by rw [e.mp z] at c; cases c
theorem cl_is_within (T : Txt mg) (F : FD K mg "is_within" s_is_within)  : Cl P w K mg base "is_within" P_is_within 1 (PSp K R_is_within) :=
  clOf F (fun _ _ _ _ _ _ us hl => match us, hl with | [_, _], _ => rfl) fun f fd F => fnok F sc_is_within (by rintro as rd ⟨a, b, rfl, rfl, hl⟩; rfl) fun cdv A outer s H E hr => by
    have nd := sc_is_within.nd
    refine ⟨_, (pss_one (ps_ret (pe_cmpR op_eq (pe_callB (k_len rfl) (by rfl) T.b_len (by decide +kernel) (pa_cons (pe_lc (own := [("place", 2)]) rfl nd (k_tup rfl (pv 0)) (blkOk_by (by kernel_rfl)) (fun _ _ _ _ _ => pg_name (i := 2) nd rfl (Or.inl rfl)) (fun _ _ _ _ _ => pts_one (pt_cmpR (k_notIn rfl) (pv 2) (pv 1) (by rfl))) (fun _ _ _ _ _ => pe_int)) pa_nil)) pe_int (nomark _)))), ?_⟩
    rintro as rd ⟨a, b, rfl, rfl, hl⟩ H0 D hrt hnx
    exact s_ret (ed_is (ed_eqI (ed_lenL (en_lcT (as := a) PyData.int (fun p => !decide (p ∈ b)) (fun _ => .int 1) (ed_var rfl) (List.mem_cons_self ..) (by omega) (fun p hp => et_test (ed_notIn (ed_var rfl) (ed_var rfl))) (fun p hp _ => ed_int)).el) ed_int) (by rw [within_eq])) hrt
theorem step_len (sets : Lot) : ∀ (l acc : Lot), (l.foldl (leastStep sets) acc).length ≤ acc.length + l.length
  | [], acc => by simp
  | a :: l, acc => by
    have := step_len sets l (leastStep sets acc a)
    have h2 : (leastStep sets acc a).length ≤ acc.length + 1 := by
      unfold leastStep
      split
      · rw [List.length_append]; exact Nat.le_refl _
      · omega
    rw [List.foldl_cons, List.length_cons]
    omega
theorem step_yes {sets F : Lot} {item : PS} (h : (!F.contains item && kept sets item) = true) : leastStep sets F item = F ++ [item] := by
  unfold leastStep
  rw [if_pos h]
theorem step_no {sets F : Lot} {item : PS} (h : (!F.contains item && kept sets item) = false) : leastStep sets F item = F := by
  unfold leastStep
  rw [if_neg (by rw [h]; decide)]
def R_least_sets (as : List AD) (rd : RD) : Prop := ∃ sets : Lot, as = [.s (sets.map eS)] ∧ rd = .d (eL (leastSets sets)) ∧ (∀ s ∈ sets, s ≠ [] ∧ s.length ≤ 1000) ∧ sets.length ≤ 1000
theorem kept_eq (sets : Lot) (item : PS) : PyData.eqv (.list ((sets.filter fun less => !PyData.eqv (eS less) (eS item) && within less item).map fun _ => PyData.int 1)) (.list []) = kept sets item := by
  rw [eqv_nil (k := 0) (fun x hx => by obtain ⟨a, _, rfl⟩ := List.mem_map.mp hx; rfl), List.isEmpty_map]
  unfold kept
  congr 2
  funext less
  rw [eqv_S]
  congr 1
  simp
theorem cl_least_sets (T : Txt mg) (F : FD K mg "least_sets" s_least_sets) (C_is_within : Cl P w K mg base "is_within" P_is_within 1 (PSp K R_is_within)) : Cl P w K mg base "least_sets" P_least_sets 2 (PSp K R_least_sets) :=
  clOf F (fun _ _ _ _ _ _ us hl => match us, hl with | [_], _ => rfl) fun f fd F => fnok F sc_least_sets (by rintro as rd ⟨sets, rfl, rfl, hne, hl⟩; rfl) fun cdv A outer s H E hr => by
    have nd := sc_least_sets.nd
    refine ⟨_, (pss_cons (ps_set (i := 1) nd rfl (by first | exact Or.inl rfl | exact Or.inr rfl) (pe_lst pa_nil))
      (pss_cons (ps_for PassesOwn.never rfl (k_list rfl (pe_callB (k_sortedD rfl (hu64 hr)) (by rfl) T.b_sorted (by decide +kernel) (pa_cons (pv 0) pa_nil))) (pg_name (i := 2) nd rfl (by first | exact Or.inl rfl | exact Or.inr rfl)) (pss_one (ps_if (PW.pt (pw_and (pt_cmpR (k_notInD rfl (hu65 hr)) (pv 2) (pv 1) (by rfl)) (pw_and1 (pt_cmpR (k_eqD rfl (hu64 hr)) (pe_lc (own := [("less", 3)]) rfl nd (k_list rfl (pv 0)) (blkOk_by (by kernel_rfl)) (fun _ _ _ _ _ => pg_name (i := 3) nd rfl (Or.inl rfl)) (fun _ _ _ _ _ => pts_one (PW.pt (pw_and (pt_cmpR (k_neD rfl (hu64 hr)) (pv 3) (pv 2) (nomark _)) (pw_and1 (pt_val (pe_cl C_is_within hr (pa_cons (pv 3) (pa_cons (pv 2) pa_nil)))))))) (fun _ _ _ _ _ => pe_int)) (pe_lst pa_nil) (nomark _))))) (pss_one (ps_expr (pe_bm PySem.F.plainAttrs_list PySem.F.slot_list_append PySem.F.type_list_append mt_append (pv 1) (pa_cons (pv 2) pa_nil)))) pss_nil)))
      (pss_one (ps_ret (pe_callTy (k_tupOf rfl) (by rfl) T.b_tuple (by decide +kernel) (pa_cons (pv 1) pa_nil)))))), ?_⟩
    rintro as rd ⟨sets, rfl, rfl, hne, hl⟩ H0 D hrt hnx
    refine s_seq (s_asgN (en_lst eds_nil (by decide)) ?_)
    refine s_seq (s_forN (en_sortedD (el_vars rfl) (fun s hs => (hne s hs).1) hl (sortLot sets) fun l hp hs => sortLot_of hp hs) (fun i => [.s (sets.map eS), .l ((((sortLot sets).take i).foldl (leastStep sets) []).map eS), .u, .u]) (by repeat' first | exact wk_nil | refine wk_u ?_ | refine wk_same ?_) _ (fun i x _ => tg_name) (fun H0' u i x hx => ?_) ?_)
    · obtain ⟨item, hi, rfl⟩ := map_at hx
      have hm : item ∈ sets := mem_sortLot.mp (List.mem_of_getElem? hi)
      have eI : (((sortLot sets).take (i + 1)).foldl (leastStep sets) []) = leastStep sets (((sortLot sets).take i).foldl (leastStep sets) []) item := by
        rw [take_succ hi, List.foldl_append]
        rfl
      refine s_if (et_is (b := !(((sortLot sets).take i).foldl (leastStep sets) []).contains item && kept sets item) (et_and (et_test (ed_notInD (ed_var rfl) (el_varl rfl) (shaped_clean (k := 1) clean_eS) (shaped_list (k := 1) clean_sets))) fun _ => et_test (ed_eqL (en_lcL (as := sets) eS (fun less => !PyData.eqv (eS less) (eS item) && within less item) (fun _ => .int 1) (el_vars rfl) (List.mem_cons_self ..) (by omega)
        (fun less hls => et_and (et_test (ed_neD (ed_var rfl) (ed_var rfl) (shaped_clean (k := 1) clean_eS) (shaped_clean (k := 1) clean_eS))) fun _ => et_B (ed_call (ea_d (ed_var rfl) (ea_d (ed_var rfl) ea_nil)) ⟨less, item, rfl, rfl, (hne less hls).2⟩)) (fun _ _ _ => ed_int)).el (en_lst eds_nil (by decide)).el (shaped_list (k := 0) fun x hx => by obtain ⟨a, _, rfl⟩ := List.mem_map.mp hx; rfl) rfl)) (by rw [any_S, kept_eq])) (fun h => ?_) (fun h => ?_)
      · refine s_app rfl (ed_var rfl) ?_ (nx_eq (ρ' := [.s (sets.map eS), .l ((((sortLot sets).take i).foldl (leastStep sets) []).map eS ++ [eS item]), .u, .u]) ?_ (by repeat' first | exact wk_nil | refine wk_u ?_ | refine wk_same ?_))
        · have := step_len sets ((sortLot sets).take i) []
          have h2 := (perm_sortLot sets).length_eq
          rw [List.length_take] at this
          rw [List.length_map]
          simp only [List.length_nil] at this
          omega
        · rw [eI, step_yes h, List.map_append]
          rfl
      · refine s_next (nx_eq (ρ' := [.s (sets.map eS), .l ((((sortLot sets).take i).foldl (leastStep sets) []).map eS), .u, .u]) ?_ (by repeat' first | exact wk_nil | refine wk_u ?_ | refine wk_same ?_))
        rw [eI, step_no h]
    · refine s_ret (ed_is (ed_tupL (el_varl rfl)) ?_) hrt
      rw [List.length_map, List.take_length]
      rfl
def SetOk (n : Nat) (s : List Int) : Prop := SS s ∧ 1 ≤ s.length ∧ s.length ≤ n ∧ n ≤ 12 ∧ ∀ p ∈ s, 0 ≤ p ∧ p < (n : Int)
theorem ones_empty {α : Type} {l : List α} (h : l = []) : PyData.eqv (.list (l.map fun _ => PyData.int 1)) (.list []) = true := by rw [h]; rfl
def R_is_set (as : List AD) (rd : RD) : Prop := ∃ (n : Nat) (s : List Int), as = [.d (.int n), .d (eS s)] ∧ rd = .d (.bool true) ∧ SetOk n s
theorem cl_is_set (T : Txt mg) (F : FD K mg "is_set" s_is_set) (C_is_from : Cl P w K mg base "is_from" P_is_from 1 (PSp K R_is_from)) : Cl P w K mg base "is_set" P_is_set 2 (PSp K R_is_set) :=
  clOf F (fun _ _ _ _ _ _ us hl => match us, hl with | [_, _], _ => rfl) fun f fd F => fnok F sc_is_set (by rintro as rd ⟨n, s, rfl, rfl, hs, h1, h2, hn, hp⟩; rfl) fun cdv A outer s H E hr => by
    have nd := sc_is_set.nd
    refine ⟨_, (pss_cons (ps_if (PW.pt (pw_or (pt_not (pt_val (pe_callB (k_isi rfl) (by rfl) T.b_isinstance (by decide +kernel) (pa_cons (pv 1) (pa_cons (pe_bltn (v := .ty "tuple") (by rfl) T.b_tuple (by decide +kernel) rfl) pa_nil))))) (pw_or1 (pt_not (pt_chain op_le op_le pe_int (pe_callB (k_len rfl) (by rfl) T.b_len (by decide +kernel) (pa_cons (pv 1) pa_nil)) (pv 0)))))) (pss_one (ps_ret pe_bl)) pss_nil)
      (pss_cons (ps_if (pt_cmpR (k_neD rfl (hu64 hr)) (pe_lc (own := [("place", 2)]) rfl nd (k_tup rfl (pv 1)) (blkOk_by (by kernel_rfl)) (fun _ _ _ _ _ => pg_name (i := 2) nd rfl (Or.inl rfl)) (fun _ _ _ _ _ => pts_one (pt_not (pt_val (pe_cl C_is_from hr (pa_cons (pv 2) (pa_cons pe_int (pa_cons (pe_op op_sub (pv 0) pe_int) pa_nil))))))) (fun _ _ _ _ _ => pe_int)) (pe_lst pa_nil) (nomark _)) (pss_one (ps_ret pe_bl)) pss_nil)
      (pss_one (ps_ret (pe_cmpR (k_eqD rfl (hu64 hr)) (pe_callTy (k_listOf rfl) (by rfl) T.b_list (by decide +kernel) (pa_cons (pv 1) pa_nil)) (pe_callB (k_sortedSet rfl rfl) (by rfl) T.b_sorted (by decide +kernel) (pa_cons (pe_callTy (k_setT rfl rfl rfl) (by rfl) T.b_set (by decide +kernel) (pa_cons (pv 1) pa_nil)) pa_nil)) (nomark _)))))), ?_⟩
    rintro as rd ⟨n, s, rfl, rfl, hs, h1, h2, hn, hp⟩ H0 D hrt hnx
    refine s_seq (s_unless (et_is (et_or (et_not (et_B (ed_isi (ed_var rfl) (kT _)))) fun _ => et_not (et_test (ed_chain ed_int (ed_lenT (ed_var rfl)) (ed_var rfl)))) ?_) ?_)
    · rw [List.length_map, decide_eq_true (show (1 : Int) ≤ s.length by omega), decide_eq_true (show (s.length : Int) ≤ n by omega)]
      rfl
    refine s_seq (s_unless (et_is (et_test (ed_neL (en_lcT (as := s) PyData.int (fun p => !isFrom (.int p) 0 ((n : Int) - 1)) (fun _ => .int 1) (ed_var rfl) (List.mem_cons_self ..) (by omega)
      (fun a ha => et_not (et_B (ed_call (ea_d (ed_var rfl) (ea_d ed_int (ea_d (ed_opI0 (ed_var rfl) ed_int) ea_nil))) ⟨_, _, _, rfl, rfl⟩))) (fun _ _ _ => ed_int)).el (en_lst eds_nil (by decide)).el (shaped_list (k := 0) fun x hx => by obtain ⟨a, _, rfl⟩ := List.mem_map.mp hx; rfl) rfl)) ?_) ?_)
    · rw [ones_empty (none_left fun a ha => from_ok (hp a ha).1 (by have := (hp a ha).2; omega))]
      rfl
    refine s_ret (ed_is (ed_eqL (en_listT (ed_var rfl)).el (en_sortedSet (ed_var rfl) (by omega) s fun l hw hm => ss_eq hw hs hm).el (shaped_list (k := 0) clean_ints) (shaped_list (k := 0) clean_ints)) ?_) hrt
    rw [eqv_Li, decide_eq_true rfl]
theorem setOk_of {n : Nat} {lot : Lot} (hn : n ≤ 4) (g : GoodL n lot) {s : List Int} (h : s ∈ lot) : SetOk n s := ⟨g.canon.ss s h, (len_set g h).1, (len_set g h).2, by omega, (g.sets s h).2⟩
theorem lot_least {n : Nat} {lot : Lot} (hn : n ≤ 4) (g : GoodL n lot) : (∀ s ∈ lot, s ≠ [] ∧ s.length ≤ 1000) ∧ lot.length ≤ 1000 := ⟨fun s hs => ⟨(g.sets s hs).1, by have := (len_set g hs).2; omega⟩, by have := len_six hn g; omega⟩
def R_is_lot (as : List AD) (rd : RD) : Prop := ∃ (n : Nat) (lot : Lot), as = [.d (.int n), .d (eL lot)] ∧ rd = .d (.bool true) ∧ n ≤ 4 ∧ GoodL n lot
theorem cl_is_lot (T : Txt mg) (F : FD K mg "is_lot" s_is_lot) (C_is_set : Cl P w K mg base "is_set" P_is_set 2 (PSp K R_is_set)) (C_least_sets : Cl P w K mg base "least_sets" P_least_sets 2 (PSp K R_least_sets)) : Cl P w K mg base "is_lot" P_is_lot 3 (PSp K R_is_lot) :=
  clOf F (fun _ _ _ _ _ _ us hl => match us, hl with | [_, _], _ => rfl) fun f fd F => fnok F sc_is_lot (by rintro as rd ⟨n, lot, rfl, rfl, hn, hg⟩; rfl) fun cdv A outer s H E hr => by
    have nd := sc_is_lot.nd
    refine ⟨_, (pss_cons (ps_if (PW.pt (pw_or (pt_not (pt_val (pe_callB (k_isi rfl) (by rfl) T.b_isinstance (by decide +kernel) (pa_cons (pv 1) (pa_cons (pe_bltn (v := .ty "tuple") (by rfl) T.b_tuple (by decide +kernel) rfl) pa_nil))))) (pw_or1 (pt_not (pt_chain op_le op_le pe_int (pe_callB (k_len rfl) (by rfl) T.b_len (by decide +kernel) (pa_cons (pv 1) pa_nil)) (pe_gi T.c_MOST_SETS)))))) (pss_one (ps_ret pe_bl)) pss_nil)
      (pss_cons (ps_if (pt_cmpR (k_neD rfl (hu64 hr)) (pe_lc (own := [("item", 2)]) rfl nd (k_tup rfl (pv 1)) (blkOk_by (by kernel_rfl)) (fun _ _ _ _ _ => pg_name (i := 2) nd rfl (Or.inl rfl)) (fun _ _ _ _ _ => pts_one (pt_not (pt_val (pe_cl C_is_set hr (pa_cons (pv 0) (pa_cons (pv 2) pa_nil)))))) (fun _ _ _ _ _ => pe_int)) (pe_lst pa_nil) (nomark _)) (pss_one (ps_ret pe_bl)) pss_nil)
      (pss_one (ps_ret (pe_cmpR (k_eqD rfl (hu64 hr)) (pe_cl C_least_sets hr (pa_cons (pe_callTy (k_listOf rfl) (by rfl) T.b_list (by decide +kernel) (pa_cons (pv 1) pa_nil)) pa_nil)) (pv 1) (nomark _)))))), ?_⟩
    rintro as rd ⟨n, lot, rfl, rfl, hn, hg⟩ H0 D hrt hnx
    have h6 := len_six hn hg
    have h1 : 1 ≤ lot.length := by
      have := List.length_pos_iff.mpr hg.ne
      omega
    refine s_seq (s_unless (et_is (et_or (et_not (et_B (ed_isi (ed_var rfl) (kT _)))) fun _ => et_not (et_test (ed_chain ed_int (ed_lenT (ed_var rfl)) ed_int))) ?_) ?_)
    · rw [List.length_map, decide_eq_true (show (1 : Int) ≤ lot.length by omega), decide_eq_true (show (lot.length : Int) ≤ 6 by omega)]
      rfl
    refine s_seq (s_unless (et_is (et_test (ed_neL (en_lcT (as := lot) eS (fun _ => !true) (fun _ => .int 1) (ed_var rfl) (List.mem_cons_self ..) (by omega)
      (fun a ha => et_not (et_B (ed_call (ea_d (ed_var rfl) (ea_d (ed_var rfl) ea_nil)) ⟨n, a, rfl, rfl, setOk_of hn hg ha⟩))) (fun _ _ _ => ed_int)).el (en_lst eds_nil (by decide)).el (shaped_list (k := 0) fun x hx => by obtain ⟨a, _, rfl⟩ := List.mem_map.mp hx; rfl) rfl)) ?_) ?_)
    · rw [ones_empty (none_left (b := fun _ => true) fun a ha => rfl)]
      rfl
    refine s_ret (ed_is (ed_eqD (ed_call (ea_s (en_listT (ed_var rfl)).el ea_nil) ⟨lot, rfl, rfl, lot_least hn hg⟩) (ed_var rfl) (shaped_clean (k := 2) clean_eL) (shaped_clean (k := 2) clean_eL)) ?_) hrt
    rw [eqv_L, hg.canon.least, decide_eq_true rfl]
/-- a lot whose places stand in the row -/
def LevelOk (lot : Lot) (row : List Int) : Prop := lot ≠ [] ∧ lot.length ≤ 1000 ∧ ∀ s ∈ lot, s ≠ [] ∧ s.length ≤ 1000 ∧ ∀ p ∈ s, 0 ≤ p ∧ p < (row.length : Int)
def R_level_so (as : List AD) (rd : RD) : Prop := ∃ (lot : Lot) (row : List Int), as = [.d (eL lot), .d (eS row)] ∧ rd = .d (.int (level lot row)) ∧ LevelOk lot row
theorem cl_level_so (T : Txt mg) (F : FD K mg "level_so" s_level_so)  : Cl P w K mg base "level_so" P_level_so 1 (PSp K R_level_so) :=
  clOf F (fun _ _ _ _ _ _ us hl => match us, hl with | [_, _], _ => rfl) fun f fd F => fnok F sc_level_so (by rintro as rd ⟨lot, row, rfl, rfl, hne, hl, hs⟩; rfl) fun cdv A outer s H E hr => by
    have nd := sc_level_so.nd
    refine ⟨_, (pss_one (ps_ret (pe_callB (k_max rfl rfl) (by rfl) T.b_max (by decide +kernel) (pa_cons (pe_lc (own := [("item", 3)]) rfl nd (k_tup rfl (pv 0)) (blkOk_by (by kernel_rfl)) (fun _ _ _ _ _ => pg_name (i := 3) nd rfl (Or.inl rfl)) (fun _ _ _ _ _ => pts_nil) (fun _ _ _ _ _ => (pe_callB (k_min rfl rfl) (by rfl) T.b_min (by decide +kernel) (pa_cons (pe_lc (own := [("place", 2)]) rfl nd (k_tup rfl (pv 3)) (blkOk_by (by kernel_rfl)) (fun _ _ _ _ _ => pg_name (i := 2) nd rfl (Or.inl rfl)) (fun _ _ _ _ _ => pts_nil) (fun _ _ _ _ _ => (pe_ix (k_ixT rfl) (pv 1) (pv 2) (fun _ _ => rfl)))) pa_nil)))) pa_nil)))), ?_⟩
    rintro as rd ⟨lot, row, rfl, rfl, hne, hl, hs⟩ H0 D hrt hnx
    have mx := maxL_mem (l := lot.map fun s => minL (s.map fun p => row.getD p.toNat 0)) (by simpa using hne)
    refine s_ret (ed_max (ns := lot.map fun s => minL (s.map fun p => row.getD p.toNat 0)) (en_is (en_lcT (as := lot) eS (fun _ => true) (fun s => .int (minL (s.map fun p => row.getD p.toNat 0))) (ed_var rfl) (List.mem_cons_self ..) (by omega) (fun _ _ => et_yes) fun s hsm _ => ?_) (by rw [filter_yes, List.map_map]; rfl)) mx.1 mx.2) hrt
    obtain ⟨s1, s2, s3⟩ := hs s hsm
    have mn := minL_mem (l := s.map fun p => row.getD p.toNat 0) (by simpa using s1)
    refine ed_min (ns := s.map fun p => row.getD p.toNat 0) (en_is (en_lcT (as := s) PyData.int (fun _ => true) (fun p => .int (row.getD p.toNat 0)) (ed_var rfl) (List.mem_cons_self ..) (by omega) (fun _ _ => et_yes) fun p hp _ => ?_) (by rw [filter_yes, List.map_map]; rfl)) mn.1 mn.2
    have := s3 p hp
    exact ed_ixT (ed_var rfl) (ed_var rfl) this.1 (getD_some (by omega))
end
end Hf

set_option Elab.async false
set_option linter.all false
set_option maxRecDepth 100000
set_option maxHeartbeats 4000000
namespace Hf
open PySem PySem.Spec PyProof.Rows L2 Hd Net
section
variable {P : Program} {w : World} {K : PySem.W.Frag} {mg : Str → Option Value} {base : Heap} {W : Wd} {H0 : Hp} {ρ ρ' ρ'' : List SD} {te : TE} {g : TG} {D : Ends} {x : PyData}
theorem s_asgT (h : ED K W H0 te ρ x) (hg : TGo K W g x ρ ρ') (k : Nx K W H0 D.nx ρ') : SDo K W H0 (tAsg te g) D ρ := fun σ H e => h σ H e _ fun v H1 g1 t => hg H0 σ H1 v (e.gr g1) t _ fun σ' e' => k σ' H1 e'
theorem one_at {y : PyData} {i : Nat} (h : [y][i]? = some x) : i = 0 ∧ x = y := by
  cases i with
  | zero => exact ⟨rfl, (Option.some.inj h).symm⟩
  | succ i => simp at h
theorem lot_at {lots : List Lot} {i : Int} (h : i.toNat < lots.length) : (lots.map eL)[i.toNat]? = some (eL (getL lots i)) := by
  unfold getL
  rw [List.getElem?_map, List.getElem?_eq_getElem h, List.getD_eq_getElem?_getD, List.getElem?_eq_getElem h]
  rfl
def R_check_riser (as : List AD) (rd : RD) : Prop := ∃ (n : Nat) (lots : List Lot), as = [.d (eS [(n : Int)]), .d (eS [(n : Int)]), .d (eR lots)] ∧ rd = .d (eR lots) ∧ n ≤ 4 ∧ GoodLots n lots
theorem cl_check_riser (T : Txt mg) (F : FD K mg "check_riser" s_check_riser) (C_is_from : Cl P w K mg base "is_from" P_is_from 1 (PSp K R_is_from)) (C_is_lot : Cl P w K mg base "is_lot" P_is_lot 3 (PSp K R_is_lot)) : Cl P w K mg base "check_riser" P_check_riser 4 (PSp K R_check_riser) :=
  clOf F (fun _ _ _ _ _ _ us hl => match us, hl with | [_, _, _], _ => rfl) fun f fd F => fnok F sc_check_riser (by rintro as rd ⟨n, lots, rfl, rfl, hn, hg⟩; rfl) fun cdv A outer s H E hr => by
    have nd := sc_check_riser.nd
    refine ⟨_, (pss_cons (ps_if (PW.pt (pw_or (pt_not (pt_val (pe_callB (k_isi rfl) (by rfl) T.b_isinstance (by decide +kernel) (pa_cons (pv 2) (pa_cons (pe_bltn (v := .ty "tuple") (by rfl) T.b_tuple (by decide +kernel) rfl) pa_nil))))) (pw_or1 (pt_cmpR op_ne (pe_callB (k_len rfl) (by rfl) T.b_len (by decide +kernel) (pa_cons (pv 2) pa_nil)) (pe_callB (k_len rfl) (by rfl) T.b_len (by decide +kernel) (pa_cons (pv 0) pa_nil)) (nomark _))))) (pss_one ps_never) pss_nil)
      (pss_cons (ps_for PassesOwn.never rfl (k_enumT rfl (by rfl) T.b_enumerate (pa_cons (pv 0) pa_nil)) (k_gtup (n := 2) rfl rfl (pgs_cons (pg_name (i := 3) nd rfl (by first | exact Or.inl rfl | exact Or.inr rfl)) (pgs_cons (pg_name (i := 4) nd rfl (by first | exact Or.inl rfl | exact Or.inr rfl)) pgs_nil))) (pss_cons (ps_set (i := 5) nd rfl (by first | exact Or.inl rfl | exact Or.inr rfl) (pe_ix (k_ixT rfl) (pv 2) (pv 3) (fun _ _ => rfl)))
      (pss_cons (ps_if (PW.pt (pw_or (pt_not (pt_val (pe_callB (k_isi rfl) (by rfl) T.b_isinstance (by decide +kernel) (pa_cons (pv 5) (pa_cons (pe_bltn (v := .ty "tuple") (by rfl) T.b_tuple (by decide +kernel) rfl) pa_nil))))) (pw_or (pt_cmpR op_ne (pe_callB (k_len rfl) (by rfl) T.b_len (by decide +kernel) (pa_cons (pv 5) pa_nil)) pe_int (nomark _)) (pw_or1 (pt_not (pt_val (pe_callB (k_isi rfl) (by rfl) T.b_isinstance (by decide +kernel) (pa_cons (pe_ix (k_ixT rfl) (pv 5) pe_int (fun _ _ => rfl)) (pa_cons (pe_bltn (v := .ty "tuple") (by rfl) T.b_tuple (by decide +kernel) rfl) pa_nil))))))))) (pss_one ps_never) pss_nil)
      (pss_cons (ps_if (PW.pt (pw_or (pt_not (pt_val (pe_cl C_is_from hr (pa_cons (pe_ix (k_ixT rfl) (pv 5) pe_int (fun _ _ => rfl)) (pa_cons pe_int (pa_cons (pe_op op_sub (pe_callB (k_len rfl) (by rfl) T.b_len (by decide +kernel) (pa_cons (pv 1) pa_nil)) pe_int) pa_nil)))))) (pw_or1 (pt_cmpR op_ne (pe_callB (k_len rfl) (by rfl) T.b_len (by decide +kernel) (pa_cons (pe_ix (k_ixT rfl) (pv 5) pe_int (fun _ _ => rfl)) pa_nil)) (pe_ix (k_ixT rfl) (pv 1) (pe_ix (k_ixT rfl) (pv 5) pe_int (fun _ _ => rfl)) (fun _ _ => rfl)) (nomark _))))) (pss_one ps_never) pss_nil)
      (pss_one (ps_for PassesOwn.never rfl (k_enumT rfl (by rfl) T.b_enumerate (pa_cons (pe_ix (k_ixT rfl) (pv 5) pe_int (fun _ _ => rfl)) pa_nil)) (k_gtup (n := 2) rfl rfl (pgs_cons (pg_name (i := 6) nd rfl (by first | exact Or.inl rfl | exact Or.inr rfl)) (pgs_cons (pg_name (i := 7) nd rfl (by first | exact Or.inl rfl | exact Or.inr rfl)) pgs_nil))) (pss_one (ps_if (pt_not (pt_val (pe_cl C_is_lot hr (pa_cons (pv 4) (pa_cons (pv 7) pa_nil))))) (pss_one ps_never) pss_nil))))))))
      (pss_one (ps_ret (pv 2))))), ?_⟩
    rintro as rd ⟨n, lots, rfl, rfl, hn, hg⟩ H0 D hrt hnx
    refine s_seq (s_unless (et_is (et_or (et_not (et_B (ed_isi (ed_var rfl) (kT _)))) fun _ => et_test (ed_neI (ed_lenT (ed_var rfl)) (ed_lenT (ed_var rfl)))) rfl) ?_)
    refine s_seq (s_forE (xs := [.int (n : Int)]) (ed_var rfl) (fun _ => [.d (eS [(n : Int)]), .d (eS [(n : Int)]), .d (eR lots), .u, .u, .u, .u, .u]) (by repeat' first | exact wk_nil | refine wk_u ?_ | refine wk_same ?_) _ (fun i x _ => tg_two) (fun H0' u i x hx => ?_) ?_)
    · obtain ⟨rfl, rfl⟩ := one_at hx
      refine s_seq (s_asg (ed_ixT (ed_var rfl) (ed_var rfl) (by decide) rfl) ?_)
      refine s_seq (s_unless (et_is (et_or (et_not (et_B (ed_isi (ed_var rfl) (kT _)))) fun _ => et_or (et_test (ed_neI (ed_lenT (ed_var rfl)) ed_int)) fun _ => et_not (et_B (ed_isi (ed_ixT (ed_var rfl) ed_int (by decide) rfl) (kT _)))) rfl) ?_)
      refine s_seq (s_unless (et_is (et_or (et_not (et_B (ed_call (ea_d (ed_ixT (ed_var rfl) ed_int (by decide) rfl) (ea_d ed_int (ea_d (ed_opI0 (ed_lenT (ed_var rfl)) ed_int) ea_nil))) ⟨_, _, _, rfl, rfl⟩))) fun _ =>
        et_test (ed_neI (ed_lenT (ed_ixT (ed_var rfl) ed_int (by decide) rfl)) (ed_ixT (ed_var rfl) (ed_ixT (ed_var rfl) ed_int (by decide) rfl) (by decide) rfl))) ?_) ?_)
      · have e2 : ((lots.map eL).length : Int) = (n : Int) := by rw [List.length_map, hg.len]
        rw [e2, decide_eq_true rfl]
        rfl
      refine s_forE (xs := lots.map eL) (ed_ixT (ed_var rfl) ed_int (by decide) rfl) (fun _ => [.d (eS [(n : Int)]), .d (eS [(n : Int)]), .d (eR lots), .u, .d (.int n), .u, .u, .u]) (by repeat' first | exact wk_nil | refine wk_u ?_ | refine wk_same ?_) _ (fun i x _ => tg_two) (fun H1' u1 j x hx => ?_) (nx_turn (by repeat' first | exact wk_nil | refine wk_u ?_ | refine wk_same ?_))
      obtain ⟨lot, hl, rfl⟩ := map_at hx
      exact s_unless (et_is (et_not (et_B (ed_call (ea_d (ed_var rfl) (ea_d (ed_var rfl) ea_nil)) ⟨n, lot, rfl, rfl, hn, hg.all _ (List.mem_of_getElem? hl)⟩))) rfl) (nx_turn (by repeat' first | exact wk_nil | refine wk_u ?_ | refine wk_same ?_))
    · exact s_ret (ed_var rfl) hrt
theorem hol1 {n : Nat} (hn : n ≤ 4) : Hol [(n : Int)] ∧ (∀ i ∈ [(n : Int)], i ≤ 4) ∧ Hol ([(n : Int)] ++ [(n : Int)]) ∧ ∀ i ∈ [(n : Int)] ++ [(n : Int)], i ≤ 4 := by
  refine ⟨⟨by simp, fun i hi => ?_⟩, fun i hi => ?_, ⟨by simp, fun i hi => ?_⟩, fun i hi => ?_⟩ <;> simp at hi <;> omega
def R_need_riser (as : List AD) (rd : RD) : Prop := R_check_riser as rd
theorem cl_need_riser (T : Txt mg) (F : FD K mg "need_riser" s_need_riser) (C_need_pair : Cl P w K mg base "need_pair" P_need_pair 4 (PSp K R_need_pair)) (C_check_riser : Cl P w K mg base "check_riser" P_check_riser 4 (PSp K R_check_riser)) : Cl P w K mg base "need_riser" P_need_riser 5 (PSp K R_need_riser) :=
  clOf F (fun _ _ _ _ _ _ us hl => match us, hl with | [_, _, _], _ => rfl) fun f fd F => fnok F sc_need_riser (by rintro as rd ⟨n, lots, rfl, rfl, hn, hg⟩; rfl) fun cdv A outer s H E hr => by
    have nd := sc_need_riser.nd
    refine ⟨_, (pss_cons (ps_expr (pe_cl C_need_pair hr (pa_cons (pv 0) (pa_cons (pv 1) pa_nil))))
      (pss_one (ps_ret (pe_cl C_check_riser hr (pa_cons (pv 0) (pa_cons (pv 1) (pa_cons (pv 2) pa_nil))))))), ?_⟩
    rintro as rd ⟨n, lots, rfl, rfl, hn, hg⟩ H0 D hrt hnx
    have hh := hol1 hn
    refine s_seq (s_drop (ed_call (ea_d (ed_var rfl) (ea_d (ed_var rfl) ea_nil)) ⟨_, _, rfl, rfl, hh.1, hh.1, hh.2.1⟩) ?_)
    exact s_ret (ed_call (ea_d (ed_var rfl) (ea_d (ed_var rfl) (ea_d (ed_var rfl) ea_nil))) ⟨n, lots, rfl, rfl, hn, hg⟩) hrt
/-- a lot of a good riser may be asked for its level -/
theorem level_ok {n : Nat} {lot : Lot} {row : List Int} (hn : n ≤ 4) (g : GoodL n lot) (hl : row.length = n) : LevelOk lot row :=
  ⟨g.ne, by have := len_six hn g; omega, fun s hs => ⟨(g.sets s hs).1, by have := (len_set g hs).2; omega, fun p hp => by rw [hl]; exact (g.sets s hs).2 p hp⟩⟩
def R_riser_so (as : List AD) (rd : RD) : Prop := ∃ (n : Nat) (lots : List Lot) (row : List Int), as = [.d (eR lots), .d (eF row)] ∧ rd = .d (eF (risen lots row)) ∧ n ≤ 4 ∧ GoodLots n lots ∧ row.length = n
theorem cl_riser_so (T : Txt mg) (F : FD K mg "riser_so" s_riser_so) (C_level_so : Cl P w K mg base "level_so" P_level_so 1 (PSp K R_level_so)) : Cl P w K mg base "riser_so" P_riser_so 2 (PSp K R_riser_so) :=
  clOf F (fun _ _ _ _ _ _ us hl => match us, hl with | [_, _], _ => rfl) fun f fd F => fnok F sc_riser_so (by rintro as rd ⟨n, lots, row, rfl, rfl, hn, hg, hl⟩; rfl) fun cdv A outer s H E hr => by
    have nd := sc_riser_so.nd
    refine ⟨_, (pss_cons (ps_asg (pe_ix (k_ixT rfl) (pv 0) (pe_ix (k_ixT rfl) (pv 1) pe_int (fun _ _ => rfl)) (fun _ _ => rfl)) (k_gtup (n := 2) rfl rfl (pgs_cons (pg_name (i := 2) nd rfl (by first | exact Or.inl rfl | exact Or.inr rfl)) (pgs_cons (pg_name (i := 3) nd rfl (by first | exact Or.inl rfl | exact Or.inr rfl)) pgs_nil))))
      (pss_one (ps_ret (pe_tup (pa_cons (pv 2) (pa_cons (pe_callTy (k_tupOf rfl) (by rfl) T.b_tuple (by decide +kernel) (pa_cons (pe_lc (own := [("lot", 4)]) rfl nd (k_tup rfl (pv 3)) (blkOk_by (by kernel_rfl)) (fun _ _ _ _ _ => pg_name (i := 4) nd rfl (Or.inl rfl)) (fun _ _ _ _ _ => pts_nil) (fun _ _ _ _ _ => (pe_cl C_level_so hr (pa_cons (pv 4) (pa_cons (pe_ix (k_ixT rfl) (pv 1) pe_int (fun _ _ => rfl)) pa_nil))))) pa_nil)) pa_nil)))))), ?_⟩
    rintro as rd ⟨n, lots, row, rfl, rfl, hn, hg, hl⟩ H0 D hrt hnx
    refine s_seq (s_asgT (ed_ixT (ed_var rfl) (ed_ixT (ed_var rfl) ed_int (by decide) rfl) (by decide) rfl) tg_two ?_)
    refine s_ret (ed_tup (eds_cons (ed_var rfl) (eds_cons (ed_is (ed_tupL (en_lcT (as := lots) eL (fun _ => true) (fun lot => .int (level lot row)) (ed_var rfl) (List.mem_cons_self ..) (by rw [hg.len]; omega) (fun _ _ => et_yes) fun lot hm _ =>
      ed_call (ea_d (ed_var rfl) (ea_d (ed_ixT (ed_var rfl) ed_int (by decide) rfl) ea_nil)) ⟨lot, row, rfl, rfl, level_ok hn (hg.all _ hm) hl⟩).el) (by rw [filter_yes]; unfold eS risen; rw [List.map_map]; rfl)) eds_nil)) (Nat.le_of_ble_eq_true rfl)) hrt
def R_riser_done (as : List AD) (rd : RD) : Prop := ∃ (n : Nat) (lots : List Lot) (row : List Int), as = [.d (eS [(n : Int)]), .d (eS [(n : Int)]), .d (eR lots), .d (eF row)] ∧ rd = .d (eF (risen lots row)) ∧ n ≤ 4 ∧ GoodLots n lots ∧ Fil n row
theorem cl_riser_done (T : Txt mg) (F : FD K mg "riser_done" s_riser_done) (C_need_riser : Cl P w K mg base "need_riser" P_need_riser 5 (PSp K R_need_riser)) (C_riser_so : Cl P w K mg base "riser_so" P_riser_so 2 (PSp K R_riser_so)) (C_check_filling : Cl P w K mg base "check_filling" P_check_filling 4 (PSp K R_check_filling)) : Cl P w K mg base "riser_done" P_riser_done 6 (PSp K R_riser_done) :=
  clOf F (fun _ _ _ _ _ _ us hl => match us, hl with | [_, _, _, _], _ => rfl) fun f fd F => fnok F sc_riser_done (by rintro as rd ⟨n, lots, row, rfl, rfl, hn, hg, hf⟩; rfl) fun cdv A outer s H E hr => by
    have nd := sc_riser_done.nd
    refine ⟨_, (pss_cons (ps_expr (pe_cl C_need_riser hr (pa_cons (pv 0) (pa_cons (pv 1) (pa_cons (pv 2) pa_nil)))))
      (pss_one (ps_ret (pe_cl C_riser_so hr (pa_cons (pv 2) (pa_cons (pe_cl C_check_filling hr (pa_cons (pv 0) (pa_cons (pv 3) pa_nil))) pa_nil)))))), ?_⟩
    rintro as rd ⟨n, lots, row, rfl, rfl, hn, hg, hf⟩ H0 D hrt hnx
    refine s_seq (s_drop (ed_call (ea_d (ed_var rfl) (ea_d (ed_var rfl) (ea_d (ed_var rfl) ea_nil))) ⟨n, lots, rfl, rfl, hn, hg⟩) ?_)
    exact s_ret (ed_call (ea_d (ed_var rfl) (ea_d (ed_call (ea_d (ed_var rfl) (ea_d (ed_var rfl) ea_nil)) ⟨n, row, rfl, rfl, hf⟩) ea_nil)) ⟨n, lots, row, rfl, rfl, hn, hg, hf.1⟩) hrt
/-- lots that may be put together -/
def Lots (n : Nat) (lots : List Lot) : Prop := n ≤ 4 ∧ lots.length ≤ 10 ∧ ∀ l ∈ lots, GoodL n l
theorem flat_sets (lots : List Lot) : (lots.flatMap fun l => (l.map eS).map fun d => d) = lots.flatten.map eS := by
  induction lots with
  | nil => rfl
  | cons a l ih => rw [List.flatMap_cons, ih, List.flatten_cons, List.map_append, List.map_id']
def R_greatest_of (as : List AD) (rd : RD) : Prop := ∃ (n : Nat) (lots : List Lot), as = [.s (lots.map eL)] ∧ rd = .d (eL (greatestOf lots)) ∧ Lots n lots
theorem cl_greatest_of (T : Txt mg) (F : FD K mg "greatest_of" s_greatest_of) (C_least_sets : Cl P w K mg base "least_sets" P_least_sets 2 (PSp K R_least_sets)) : Cl P w K mg base "greatest_of" P_greatest_of 3 (PSp K R_greatest_of) :=
  clOf F (fun _ _ _ _ _ _ us hl => match us, hl with | [_], _ => rfl) fun f fd F => fnok F sc_greatest_of (by rintro as rd ⟨n, lots, rfl, rfl, hn, hl, hg⟩; rfl) fun cdv A outer s H E hr => by
    have nd := sc_greatest_of.nd
    refine ⟨_, (pss_one (ps_ret (pe_cl C_least_sets hr (pa_cons (pe_lc2 (own := [("lot", 1), ("item", 2)]) (vs1 := [2]) rfl nd (k_list rfl (pv 0)) (blkOk_by (by kernel_rfl)) (by decide) (fun _ _ _ _ _ => pg_name (i := 1) nd rfl (Or.inl rfl)) (fun _ _ _ _ _ => pts_nil) (fun _ _ _ _ _ => (k_tup rfl (pv 1))) (fun _ _ _ _ _ => pg_name (i := 2) nd rfl (Or.inl rfl)) (fun _ _ _ _ _ => pts_nil) (fun _ _ _ _ _ => (pv 2))) pa_nil)))), ?_⟩
    rintro as rd ⟨n, lots, rfl, rfl, hn, hl, hg⟩ H0 D hrt hnx
    have h6 : ∀ l ∈ lots, l.length ≤ 6 := fun l hlm => len_six hn (hg l hlm)
    refine s_ret (ed_call (ea_s (en_is (en_lc2L (as := lots) eL (fun l => l.map eS) (fun _ d => d) (el_vars rfl) (by decide) (by decide) (by omega) (fun l hm => by rw [List.length_map]; have := h6 l hm; omega)
      (fun l hm => ed_var rfl) (fun l hm b hb => ed_var rfl)) (flat_sets lots)).el ea_nil) ⟨lots.flatten, rfl, rfl, fun s hs => ?_, ?_⟩) hrt
    · obtain ⟨l, hlm, hsl⟩ := List.mem_flatten.mp hs
      exact (lot_least hn (hg l hlm)).1 s hsl
    · have := flatMap_len (fun l : Lot => l) (n := 6) (l := lots) h6
      have e : (lots.flatMap fun l : Lot => l) = lots.flatten := by rw [List.flatMap_def, List.map_id']
      rw [e] at this
      omega
def unInt : PyData → Int
  | .int i => i
  | _ => 0
def dec : PyData → List Int
  | .tuple xs => xs.map unInt
  | _ => []
theorem dec_eS (s : List Int) : dec (eS s) = s := by
  show (s.map PyData.int).map unInt = s
  rw [List.map_map]
  exact List.map_id' s
theorem unis_enc (found lot : Lot) : (found.flatMap fun near => (lot.map eS).map fun d => eS (uni near (dec d))) = (unis found lot).map eS := by
  unfold unis
  rw [List.map_flatMap]
  congr 1
  funext near
  rw [List.map_map, List.map_map]
  congr 1
  funext far
  show eS (uni near (dec (eS far))) = eS (uni near far)
  rw [dec_eS]
theorem fold_first {n : Nat} {lots : List Lot} (h : ∀ l ∈ lots, GoodL n l) : lots.foldl leastStepOf [[]] = [[]] ∨ GoodL n (lots.foldl leastStepOf [[]]) := by
  cases lots with
  | nil => exact .inl rfl
  | cons a l => exact .inr (good_leastOf (by simp) h)
theorem uni_len (a b : List Int) : (uni a b).length ≤ a.length + b.length := by
  have key : ∀ l : List Int, (sset l).length ≤ l.length := by
    intro l
    have ins_len : ∀ (x : Int) (m : List Int), (ins x m).length ≤ m.length + 1 := by
      intro x m
      induction m with
      | nil => simp [ins]
      | cons y r ih =>
        unfold ins
        split
        · simp
        · split
          · simp
          · simp only [List.length_cons]; omega
    induction l with
    | nil => exact Nat.le_refl _
    | cons x l ih =>
      have := ins_len x (sset l)
      show (ins x (sset l)).length ≤ _
      rw [List.length_cons]
      omega
  have := key (a ++ b)
  rw [List.length_append] at this
  exact this
def R_least_of (as : List AD) (rd : RD) : Prop := ∃ (n : Nat) (lots : List Lot), as = [.s (lots.map eL)] ∧ rd = .d (eL (leastOf lots)) ∧ Lots n lots
theorem cl_least_of (T : Txt mg) (F : FD K mg "least_of" s_least_of) (C_least_sets : Cl P w K mg base "least_sets" P_least_sets 2 (PSp K R_least_sets)) : Cl P w K mg base "least_of" P_least_of 3 (PSp K R_least_of) :=
  clOf F (fun _ _ _ _ _ _ us hl => match us, hl with | [_], _ => rfl) fun f fd F => fnok F sc_least_of (by rintro as rd ⟨n, lots, rfl, rfl, hn, hl, hg⟩; rfl) fun cdv A outer s H E hr => by
    have nd := sc_least_of.nd
    refine ⟨_, (pss_cons (ps_set (i := 1) nd rfl (by first | exact Or.inl rfl | exact Or.inr rfl) (pe_tup (pa_cons (pe_tup pa_nil) pa_nil)))
      (pss_cons (ps_for PassesOwn.never rfl (k_list rfl (pv 0)) (pg_name (i := 2) nd rfl (by first | exact Or.inl rfl | exact Or.inr rfl)) (pss_one (ps_set (i := 1) nd rfl (by first | exact Or.inl rfl | exact Or.inr rfl) (pe_cl C_least_sets hr (pa_cons (pe_lc2 (own := [("near", 3), ("far", 4)]) (vs1 := [4]) rfl nd (k_tup rfl (pv 1)) (blkOk_by (by kernel_rfl)) (by decide) (fun _ _ _ _ _ => pg_name (i := 3) nd rfl (Or.inl rfl)) (fun _ _ _ _ _ => pts_nil) (fun _ _ _ _ _ => (k_tup rfl (pv 2))) (fun _ _ _ _ _ => pg_name (i := 4) nd rfl (Or.inl rfl)) (fun _ _ _ _ _ => pts_nil) (fun _ _ _ _ _ => (pe_callTy (k_tupOf rfl) (by rfl) T.b_tuple (by decide +kernel) (pa_cons (pe_callB (k_sortedSet rfl rfl) (by rfl) T.b_sorted (by decide +kernel) (pa_cons (pe_callTy (k_setT rfl rfl rfl) (by rfl) T.b_set (by decide +kernel) (pa_cons (pe_op (k_catA rfl) (pv 3) (pv 4)) pa_nil)) pa_nil)) pa_nil)))) pa_nil)))))
      (pss_one (ps_ret (pv 1))))), ?_⟩
    rintro as rd ⟨n, lots, rfl, rfl, hn, hl, hg⟩ H0 D hrt hnx
    refine s_seq (s_asg (ed_tup (eds_cons (ed_tup eds_nil (by decide)) eds_nil) (by decide)) ?_)
    refine s_seq (s_forS rfl (fun i => [.s (lots.map eL), .d (eL ((lots.take i).foldl leastStepOf [[]])), .u, .u, .u]) (by repeat' first | exact wk_nil | refine wk_u ?_ | refine wk_same ?_) _ (fun i x _ => tg_name) (fun H0' u i x hx => ?_) ?_)
    · obtain ⟨lot, hi, rfl⟩ := map_at hx
      have gl := hg lot (List.mem_of_getElem? hi)
      have h6 := len_six hn gl
      have hf : ((lots.take i).foldl leastStepOf [[]]).length ≤ 6 ∧ ∀ s ∈ (lots.take i).foldl leastStepOf [[]], s.length ≤ 4 := by
        rcases fold_first (lots := lots.take i) fun l hl => hg l (List.mem_of_mem_take hl) with e | e
        · rw [e]
          exact ⟨by decide, fun s hs => by rw [List.mem_singleton] at hs; rw [hs]; decide⟩
        · exact ⟨len_six hn e, fun s hs => by have := (len_set e hs).2; omega⟩
      have hlot : ∀ s ∈ lot, 1 ≤ s.length ∧ s.length ≤ 4 := fun s hs => by have := len_set gl hs; omega
      refine s_asg (ed_call (ea_s (en_is (en_lc2T (as := (lots.take i).foldl leastStepOf [[]]) eS (fun _ => lot.map eS) (fun near d => eS (uni near (dec d))) (ed_var rfl) (by decide) (by decide) (by omega) (fun _ _ => by rw [List.length_map]; omega)
        (fun near hm => ed_var rfl) (fun near hm b hb => ?_)) (unis_enc _ lot)).el ea_nil) ⟨unis ((lots.take i).foldl leastStepOf [[]]) lot, rfl, rfl, fun s hs => ?_, ?_⟩) (nx_eq (ρ' := [.s (lots.map eL), .d (eL (leastStepOf ((lots.take i).foldl leastStepOf [[]]) lot)), .u, .u, .u]) ?_ (by repeat' first | exact wk_nil | refine wk_u ?_ | refine wk_same ?_))
      · obtain ⟨far, hfar, rfl⟩ := List.mem_map.mp hb
        have h1 := hf.2 near hm
        have h2 := (hlot far hfar).2
        rw [dec_eS]
        exact ed_tupL (en_sortedSet (ns := near ++ far) (ed_is (ed_cat (ed_var rfl) (ed_var rfl) (by rw [List.length_map, List.length_map]; omega)) (by rw [← List.map_append])) (by rw [List.length_append]; omega) (uni near far) fun l hw hm => sset_of hw hm).el
      · unfold unis at hs
        obtain ⟨near, h1, h2⟩ := List.mem_flatMap.mp hs
        obtain ⟨far, h3, rfl⟩ := List.mem_map.mp h2
        refine ⟨fun e => ?_, ?_⟩
        · obtain ⟨p, hp⟩ := List.exists_mem_of_length_pos (show 0 < far.length from (hlot far h3).1)
          have : p ∈ uni near far := mem_uni.mpr (.inr hp)
          rw [e] at this
          cases this
        · have h4 := uni_len near far
          have h5 := hf.2 near h1
          have h7 := (hlot far h3).2
          omega
      · have := flatMap_len (fun near : PS => lot.map fun far => uni near far) (n := 6) (l := (lots.take i).foldl leastStepOf [[]]) fun a _ => by rw [List.length_map]; exact h6
        unfold unis
        omega
      · rw [take_succ hi, List.foldl_append]
        rfl
    · refine s_ret (ed_is (ed_var rfl) ?_) hrt
      rw [List.length_map, List.take_length]
      rfl
def R_lot_behind (as : List AD) (rd : RD) : Prop := ∃ (n : Nat) (lot : Lot) (lots : List Lot), as = [.d (eL lot), .d (eLs lots)] ∧ rd = .d (eL (lotBehind lot lots)) ∧ n ≤ 4 ∧ GoodL n lot ∧ GoodLots n lots
theorem cl_lot_behind (T : Txt mg) (F : FD K mg "lot_behind" s_lot_behind) (C_greatest_of : Cl P w K mg base "greatest_of" P_greatest_of 3 (PSp K R_greatest_of)) (C_least_of : Cl P w K mg base "least_of" P_least_of 3 (PSp K R_least_of)) : Cl P w K mg base "lot_behind" P_lot_behind 4 (PSp K R_lot_behind) :=
  clOf F (fun _ _ _ _ _ _ us hl => match us, hl with | [_, _], _ => rfl) fun f fd F => fnok F sc_lot_behind (by rintro as rd ⟨n, lot, lots, rfl, rfl, hn, gl, hg⟩; rfl) fun cdv A outer s H E hr => by
    have nd := sc_lot_behind.nd
    refine ⟨_, (pss_one (ps_ret (pe_cl C_greatest_of hr (pa_cons (pe_lc (own := [("item", 3)]) rfl nd (k_tup rfl (pv 0)) (blkOk_by (by kernel_rfl)) (fun _ _ _ _ _ => pg_name (i := 3) nd rfl (Or.inl rfl)) (fun _ _ _ _ _ => pts_nil) (fun _ _ _ _ _ => (pe_cl C_least_of hr (pa_cons (pe_lc (own := [("place", 2)]) rfl nd (k_tup rfl (pv 3)) (blkOk_by (by kernel_rfl)) (fun _ _ _ _ _ => pg_name (i := 2) nd rfl (Or.inl rfl)) (fun _ _ _ _ _ => pts_nil) (fun _ _ _ _ _ => (pe_ix (k_ixT rfl) (pv 1) (pv 2) (fun _ _ => rfl)))) pa_nil)))) pa_nil)))), ?_⟩
    rintro as rd ⟨n, lot, lots, rfl, rfl, hn, gl, hg⟩ H0 D hrt hnx
    have h6 := len_six hn gl
    have sets : ∀ item ∈ lot, Lots n (item.map fun p => getL lots p) ∧ item ≠ [] := fun item hi => by
      refine ⟨⟨hn, by have := (len_set gl hi).2; rw [List.length_map]; omega, fun l hl => ?_⟩, (gl.sets item hi).1⟩
      obtain ⟨p, hp, rfl⟩ := List.mem_map.mp hl
      have := (gl.sets item hi).2 p hp
      exact hg.get this.1 this.2
    refine s_ret (x := eL (lotBehind lot lots)) (ed_call (ea_s (en_is (en_lcT (as := lot) eS (fun _ => true) (fun item => eL (leastOf (item.map fun p => getL lots p))) (ed_var rfl) (List.mem_cons_self ..) (by omega) (fun _ _ => et_yes) fun item hi _ =>
      ed_call (ea_s (en_is (en_lcT (as := item) PyData.int (fun _ => true) (fun p => eL (getL lots p)) (ed_var rfl) (List.mem_cons_self ..) (by have := (len_set gl hi).2; omega) (fun _ _ => et_yes) fun p hp _ => ?_) (es := (item.map fun p => getL lots p).map eL) (by rw [filter_yes, List.map_map]; rfl)).el ea_nil) ⟨n, _, rfl, rfl, (sets item hi).1⟩)
      (es := (lot.map fun item => leastOf (item.map fun p => getL lots p)).map eL) (by rw [filter_yes, List.map_map]; rfl)).el ea_nil) ⟨n, lot.map fun item => leastOf (item.map fun p => getL lots p), rfl, rfl, hn, by rw [List.length_map]; omega, fun l hl => ?_⟩) hrt
    · have := (gl.sets item hi).2 p hp
      exact ed_ixT (ed_var rfl) (ed_var rfl) this.1 (lot_at (by rw [hg.len]; omega))
    · obtain ⟨item, hi, rfl⟩ := List.mem_map.mp hl
      exact good_leastOf (by have := (sets item hi).2; simpa using this) (sets item hi).1.2.2
def R_riser_behind (as : List AD) (rd : RD) : Prop := ∃ (n : Nat) (A B : List Lot), as = [.d (eS [(n : Int)]), .d (eS [(n : Int)]), .d (eS [(n : Int)]), .d (eR A), .d (eR B)] ∧ rd = .d (eR (behind A B)) ∧ n ≤ 4 ∧ GoodLots n A ∧ GoodLots n B
theorem cl_riser_behind (T : Txt mg) (F : FD K mg "riser_behind" s_riser_behind) (C_need_three : Cl P w K mg base "need_three" P_need_three 4 (PSp K R_need_three)) (C_check_riser : Cl P w K mg base "check_riser" P_check_riser 4 (PSp K R_check_riser)) (C_lot_behind : Cl P w K mg base "lot_behind" P_lot_behind 4 (PSp K R_lot_behind)) : Cl P w K mg base "riser_behind" P_riser_behind 5 (PSp K R_riser_behind) :=
  clOf F (fun _ _ _ _ _ _ us hl => match us, hl with | [_, _, _, _, _], _ => rfl) fun f fd F => fnok F sc_riser_behind (by rintro as rd ⟨n, A', B, rfl, rfl, hn, gA, gB⟩; rfl) fun cdv A outer s H E hr => by
    have nd := sc_riser_behind.nd
    refine ⟨_, (pss_cons (ps_expr (pe_cl C_need_three hr (pa_cons (pv 0) (pa_cons (pv 1) (pa_cons (pv 2) pa_nil)))))
      (pss_cons (ps_expr (pe_cl C_check_riser hr (pa_cons (pv 0) (pa_cons (pv 1) (pa_cons (pv 3) pa_nil)))))
      (pss_cons (ps_expr (pe_cl C_check_riser hr (pa_cons (pv 1) (pa_cons (pv 2) (pa_cons (pv 4) pa_nil)))))
      (pss_cons (ps_set (i := 5) nd rfl (by first | exact Or.inl rfl | exact Or.inr rfl) (pe_lst pa_nil))
      (pss_cons (ps_for PassesOwn.never rfl (k_tup rfl (pv 3)) (k_gtup (n := 2) rfl rfl (pgs_cons (pg_name (i := 6) nd rfl (by first | exact Or.inl rfl | exact Or.inr rfl)) (pgs_cons (pg_name (i := 7) nd rfl (by first | exact Or.inl rfl | exact Or.inr rfl)) pgs_nil))) (pss_one (ps_expr (pe_bm PySem.F.plainAttrs_list PySem.F.slot_list_append PySem.F.type_list_append mt_append (pv 5) (pa_cons (pe_tup (pa_cons (pe_ix (k_ixT rfl) (pe_ix (k_ixT rfl) (pv 4) (pv 6) (fun _ _ => rfl)) pe_int (fun _ _ => rfl)) (pa_cons (pe_callTy (k_tupOf rfl) (by rfl) T.b_tuple (by decide +kernel) (pa_cons (pe_lc (own := [("lot", 8)]) rfl nd (k_tup rfl (pe_ix (k_ixT rfl) (pe_ix (k_ixT rfl) (pv 4) (pv 6) (fun _ _ => rfl)) pe_int (fun _ _ => rfl))) (blkOk_by (by kernel_rfl)) (fun _ _ _ _ _ => pg_name (i := 8) nd rfl (Or.inl rfl)) (fun _ _ _ _ _ => pts_nil) (fun _ _ _ _ _ => (pe_cl C_lot_behind hr (pa_cons (pv 8) (pa_cons (pv 7) pa_nil))))) pa_nil)) pa_nil))) pa_nil)))))
      (pss_one (ps_ret (pe_callTy (k_tupOf rfl) (by rfl) T.b_tuple (by decide +kernel) (pa_cons (pv 5) pa_nil))))))))), ?_⟩
    rintro as rd ⟨n, A', B, rfl, rfl, hn, gA, gB⟩ H0 D hrt hnx
    have hh := hol1 hn
    refine s_seq (s_drop (ed_call (ea_d (ed_var rfl) (ea_d (ed_var rfl) (ea_d (ed_var rfl) ea_nil))) ⟨_, _, _, rfl, rfl, hh.1, hh.1, hh.1, hh.2.2.1, hh.2.2.2⟩) ?_)
    refine s_seq (s_drop (ed_call (ea_d (ed_var rfl) (ea_d (ed_var rfl) (ea_d (ed_var rfl) ea_nil))) ⟨n, A', rfl, rfl, hn, gA⟩) ?_)
    refine s_seq (s_drop (ed_call (ea_d (ed_var rfl) (ea_d (ed_var rfl) (ea_d (ed_var rfl) ea_nil))) ⟨n, B, rfl, rfl, hn, gB⟩) ?_)
    refine s_seq (s_asgN (en_lst eds_nil (by decide)) ?_)
    refine s_seq (s_forT (xs := [.tuple [.int 0, eLs A']]) (ed_var rfl) (fun i => [.d (eS [(n : Int)]), .d (eS [(n : Int)]), .d (eS [(n : Int)]), .d (eR A'), .d (eR B), .l (([PyData.tuple [.int 0, eLs (behind A' B)]]).take i), .u, .u, .u]) (by repeat' first | exact wk_nil | refine wk_u ?_ | refine wk_same ?_) (fun i x => [.d (eS [(n : Int)]), .d (eS [(n : Int)]), .d (eS [(n : Int)]), .d (eR A'), .d (eR B), .l (([PyData.tuple [.int 0, eLs (behind A' B)]]).take i), .d (.int 0), .d (eLs A'), .u]) (fun i x hx => ?_) (fun H0' u i x hx => ?_) ?_)
    · obtain ⟨rfl, rfl⟩ := one_at hx
      exact tg_two
    · obtain ⟨rfl, rfl⟩ := one_at hx
      refine s_app rfl (ed_tup (eds_cons (ed_ixT (ed_ixT (ed_var rfl) (ed_var rfl) (by decide) rfl) ed_int (by decide) rfl) (eds_cons (ed_is (y := eLs (behind A' B)) (ed_tupL (en_lcT (as := B) eL (fun _ => true) (fun lot => eL (lotBehind lot A')) (ed_ixT (ed_ixT (ed_var rfl) (ed_var rfl) (by decide) rfl) ed_int (by decide) rfl) (List.mem_cons_self ..) (by rw [gB.len]; omega) (fun _ _ => et_yes) fun lot hm _ =>
        ed_call (ea_d (ed_var rfl) (ea_d (ed_var rfl) ea_nil)) ⟨n, lot, A', rfl, rfl, hn, gB.all _ hm, gA⟩).el) (by rw [filter_yes]; unfold behind eLs; rw [List.map_map]; rfl)) eds_nil)) (Nat.le_of_ble_eq_true rfl)) (by simp) (nx_turn (by repeat' first | exact wk_nil | refine wk_u ?_ | refine wk_same ?_))
    · exact s_ret (ed_tupL (el_varl rfl)) hrt
end
end Hf

set_option Elab.async false
set_option linter.all false
set_option maxRecDepth 100000
set_option maxHeartbeats 4000000
namespace Hf
open PySem PySem.Spec PyProof.Rows L2 Hd Net
section
variable {P : Program} {w : World} {K : PySem.W.Frag} {mg : Str → Option Value} {base : Heap} {W : Wd} {H0 : Hp} {ρ ρ' ρ'' : List SD} {te : TE} {g : TG} {D : Ends} {x : PyData}
/-- the ones of the rows of so many ones -/
def onesAt (n i : Nat) : Lot := ((bitRows n).filter fun row => decide (row.sum = (n : Int) - (i : Int))).map onesOf
theorem onesAt_ok : ∀ n ∈ [2, 3, 4], ∀ i < n, (∀ s ∈ onesAt n i, s ≠ []) ∧ (sorterLots n)[i]? = some (sortLot (onesAt n i)) := by decide +kernel
theorem rows_small {n : Nat} (hn : n ≤ 4) {row : List Int} (h : row ∈ bitRows n) : row.length = n ∧ ∀ z ∈ row, 0 ≤ z ∧ z ≤ 1 := by
  obtain ⟨h1, h2⟩ := mem_rowsOf.mp h
  refine ⟨h1, fun z hz => ?_⟩
  have := h2 z hz
  simp at this
  omega
theorem sorter_len (n : Nat) : (sorterLots n).length = n := by unfold sorterLots; rw [List.length_map, List.length_range]
def R_sorter_so (as : List AD) (rd : RD) : Prop := ∃ n : Nat, as = [.d (.int n)] ∧ rd = .d (eR (sorterLots n)) ∧ n ∈ [2, 3, 4]
theorem cl_sorter_so (T : Txt mg) (F : FD K mg "sorter_so" s_sorter_so) (C_bits_of : Cl P w K mg base "bits_of" P_bits_of 2 (PSp K R_bits_of)) (C_ones_of : Cl P w K mg base "ones_of" P_ones_of 1 (PSp K R_ones_of)) : Cl P w K mg base "sorter_so" P_sorter_so 3 (PSp K R_sorter_so) :=
  clOf F (fun _ _ _ _ _ _ us hl => match us, hl with | [_], _ => rfl) fun f fd F => fnok F sc_sorter_so (by rintro as rd ⟨n, rfl, rfl, hn⟩; rfl) fun cdv A outer s H E hr => by
    have nd := sc_sorter_so.nd
    refine ⟨_, (pss_cons (ps_set (i := 1) nd rfl (by first | exact Or.inl rfl | exact Or.inr rfl) (pe_lst pa_nil))
      (pss_cons (ps_for PassesOwn.never rfl (pi_range1 (by rfl) T.b_range (pa_cons (pv 0) pa_nil)) (pg_name (i := 2) nd rfl (by first | exact Or.inl rfl | exact Or.inr rfl)) (pss_one (ps_expr (pe_bm PySem.F.plainAttrs_list PySem.F.slot_list_append PySem.F.type_list_append mt_append (pv 1) (pa_cons (pe_callTy (k_tupOf rfl) (by rfl) T.b_tuple (by decide +kernel) (pa_cons (pe_callB (k_sortedD rfl (hu64 hr)) (by rfl) T.b_sorted (by decide +kernel) (pa_cons (pe_lc (own := [("row", 3)]) rfl nd (k_list rfl (pe_cl C_bits_of hr (pa_cons (pv 0) pa_nil))) (blkOk_by (by kernel_rfl)) (fun _ _ _ _ _ => pg_name (i := 3) nd rfl (Or.inl rfl)) (fun _ _ _ _ _ => pts_one (pt_cmpR op_eq (pe_callB (k_sumT rfl rfl) (by rfl) T.b_sum (by decide +kernel) (pa_cons (pv 3) pa_nil)) (pe_op op_sub (pv 0) (pv 2)) (nomark _))) (fun _ _ _ _ _ => (pe_cl C_ones_of hr (pa_cons (pv 3) pa_nil)))) pa_nil)) pa_nil)) pa_nil)))))
      (pss_one (ps_ret (pe_tup (pa_cons (pe_tup (pa_cons pe_int (pa_cons (pe_callTy (k_tupOf rfl) (by rfl) T.b_tuple (by decide +kernel) (pa_cons (pv 1) pa_nil)) pa_nil))) pa_nil)))))), ?_⟩
    rintro as rd ⟨n, rfl, rfl, hn⟩ H0 D hrt hnx
    have h4 : n ≤ 4 := by simp at hn; omega
    refine s_seq (s_asgN (en_lst eds_nil (by decide)) ?_)
    refine s_seq (s_forR (n := (n : Int)) (eds_cons (ed_var rfl) eds_nil) (by omega) (fun i => [.d (.int n), .l (((sorterLots n).take i).map eL), .u, .u]) (by repeat' first | exact wk_nil | refine wk_u ?_ | refine wk_same ?_) _ (fun i _ => tg_name) (fun H0' u i hi => ?_) ?_)
    · obtain ⟨h1, h2⟩ := onesAt_ok n hn i (by omega)
      have hb : (bitRows n).length ≤ 16 := bits_len n h4
      refine s_app rfl (ed_is (ed_tupL (en_sortedD (nss := onesAt n i) (en_is (en_lcL (as := bitRows n) eS (fun row => decide (row.sum = (n : Int) - (i : Int))) (fun row => eS (onesOf row)) (en_call (ea_d (ed_var rfl) ea_nil) ⟨n, rfl, rfl, h4⟩).el (List.mem_cons_self ..) (by omega)
        (fun row hr => et_test (ed_eqI (ed_sum (ed_var rfl) (fun z hz => by have := (rows_small h4 hr).2 z hz; omega) (by rw [(rows_small h4 hr).1]; omega) rfl) (ed_opI0 (ed_var rfl) (ed_var rfl)))) (fun row hr _ => ed_call (ea_d (ed_var rfl) ea_nil) ⟨row, rfl, rfl, by rw [(rows_small h4 hr).1]; omega⟩)) (by unfold onesAt; rw [List.map_map]; rfl)).el h1 (by
          unfold onesAt
          rw [List.length_map]
          exact Nat.le_trans (List.length_filter_le _ _) (by omega)) _ fun l hp hs => sortLot_of hp hs).el) (y := eL (sortLot (onesAt n i))) rfl) ?_ (nx_eq (ρ' := [.d (.int n), .l (((sorterLots n).take i).map eL ++ [eL (sortLot (onesAt n i))]), .u, .u]) ?_ (by repeat' first | exact wk_nil | refine wk_u ?_ | refine wk_same ?_))
      · rw [List.length_map, List.length_take]
        omega
      · rw [take_succ h2, List.map_append]
        rfl
    · refine s_ret (ed_tup (eds_cons (ed_tup (eds_cons ed_int (eds_cons (ed_is (ed_tupL (el_varl rfl)) (y := eLs (sorterLots n)) ?_) eds_nil)) (Nat.le_of_ble_eq_true rfl)) eds_nil) (Nat.le_of_ble_eq_true rfl)) hrt
      rw [List.take_of_length_le (by rw [sorter_len]; omega)]
def R_sorter (as : List AD) (rd : RD) : Prop := R_sorter_so as rd
theorem cl_sorter (T : Txt mg) (F : FD K mg "sorter" s_sorter) (C_need_size : Cl P w K mg base "need_size" P_need_size 2 (PSp K R_need_size)) (C_sorter_so : Cl P w K mg base "sorter_so" P_sorter_so 3 (PSp K R_sorter_so)) : Cl P w K mg base "sorter" P_sorter 4 (PSp K R_sorter) :=
  clOf F (fun _ _ _ _ _ _ us hl => match us, hl with | [_], _ => rfl) fun f fd F => fnok F sc_sorter (by rintro as rd ⟨n, rfl, rfl, hn⟩; rfl) fun cdv A outer s H E hr => by
    have nd := sc_sorter.nd
    refine ⟨_, (pss_one (ps_ret (pe_cl C_sorter_so hr (pa_cons (pe_cl C_need_size hr (pa_cons (pv 0) pa_nil)) pa_nil)))), ?_⟩
    rintro as rd ⟨n, rfl, rfl, hn⟩ H0 D hrt hnx
    have h4 : n ≤ 4 := by simp at hn; omega
    exact s_ret (ed_call (ea_d (ed_call (ea_d (ed_var rfl) ea_nil) ⟨n, rfl, rfl, h4⟩) ea_nil) ⟨n, rfl, rfl, hn⟩) hrt
/-- the rows that are not sorted so -/
def unsorted (n : Nat) (lots : List Lot) : List (List Int) := (bitRows n).filter fun row => !decide (risen lots row = sortI row)
def R_unsorted_so (as : List AD) (rd : RD) : Prop := ∃ (n : Nat) (lots : List Lot), as = [.d (.int n), .d (eR lots)] ∧ rd = .n ((unsorted n lots).map eS) ∧ n ≤ 4 ∧ GoodLots n lots
theorem cl_unsorted_so (T : Txt mg) (F : FD K mg "unsorted_so" s_unsorted_so) (C_bits_of : Cl P w K mg base "bits_of" P_bits_of 2 (PSp K R_bits_of)) (C_riser_so : Cl P w K mg base "riser_so" P_riser_so 2 (PSp K R_riser_so)) : Cl P w K mg base "unsorted_so" P_unsorted_so 3 (PSp K R_unsorted_so) :=
  clOf F (fun _ _ _ _ _ _ us hl => match us, hl with | [_, _], _ => rfl) fun f fd F => fnok F sc_unsorted_so (by rintro as rd ⟨n, lots, rfl, rfl, hn, hg⟩; rfl) fun cdv A outer s H E hr => by
    have nd := sc_unsorted_so.nd
    refine ⟨_, (pss_one (ps_ret (pe_lc (own := [("row", 2)]) rfl nd (k_list rfl (pe_cl C_bits_of hr (pa_cons (pv 0) pa_nil))) (blkOk_by (by kernel_rfl)) (fun _ _ _ _ _ => pg_name (i := 2) nd rfl (Or.inl rfl)) (fun _ _ _ _ _ => pts_one (pt_cmpR (k_neD rfl (hu64 hr)) (pe_callTy (k_listOf rfl) (by rfl) T.b_list (by decide +kernel) (pa_cons (pe_ix (k_ixT rfl) (pe_cl C_riser_so hr (pa_cons (pv 1) (pa_cons (pe_tup (pa_cons pe_int (pa_cons (pv 2) pa_nil))) pa_nil))) pe_int (fun _ _ => rfl)) pa_nil)) (pe_callB (k_sortedT rfl) (by rfl) T.b_sorted (by decide +kernel) (pa_cons (pv 2) pa_nil)) (nomark _))) (fun _ _ _ _ _ => (pv 2))))), ?_⟩
    rintro as rd ⟨n, lots, rfl, rfl, hn, hg⟩ H0 D hrt hnx
    have hb : (bitRows n).length ≤ 16 := bits_len n hn
    refine s_retN (en_is (en_lcL (as := bitRows n) eS (fun row => !PyData.eqv (.list ((risen lots row).map PyData.int)) (.list ((sortI row).map PyData.int))) (fun row => eS row) (en_call (ea_d (ed_var rfl) ea_nil) ⟨n, rfl, rfl, hn⟩).el (List.mem_cons_self ..) (by omega) (fun row hr => et_test (ed_neL (en_listT (ed_ixT (ed_call (ea_d (ed_var rfl) (ea_d (ed_tup (eds_cons ed_int (eds_cons (ed_var rfl) eds_nil)) (Nat.le_of_ble_eq_true rfl)) ea_nil)) ⟨n, lots, row, rfl, rfl, hn, hg, (rows_small hn hr).1⟩) ed_int (by decide) rfl)).el
      (en_sortedT (ed_var rfl) (by rw [(rows_small hn hr).1]; omega) (sortI row) fun l hp hs => sortI_of hp hs).el (shaped_list (k := 0) clean_ints) (shaped_list (k := 0) clean_ints))) (fun row hr _ => ed_var rfl)) ?_) hrt
    unfold unsorted
    congr 2
    funext row
    rw [eqv_Li]
def R_is_sorter (as : List AD) (rd : RD) : Prop := ∃ (n : Nat) (lots : List Lot), as = [.d (.int n), .d (eR lots)] ∧ rd = .d (.bool (unsorted n lots).isEmpty) ∧ n ≤ 4 ∧ GoodLots n lots
theorem cl_is_sorter (T : Txt mg) (F : FD K mg "is_sorter" s_is_sorter) (C_need_size : Cl P w K mg base "need_size" P_need_size 2 (PSp K R_need_size)) (C_check_riser : Cl P w K mg base "check_riser" P_check_riser 4 (PSp K R_check_riser)) (C_unsorted_so : Cl P w K mg base "unsorted_so" P_unsorted_so 3 (PSp K R_unsorted_so)) : Cl P w K mg base "is_sorter" P_is_sorter 5 (PSp K R_is_sorter) :=
  clOf F (fun _ _ _ _ _ _ us hl => match us, hl with | [_, _], _ => rfl) fun f fd F => fnok F sc_is_sorter (by rintro as rd ⟨n, lots, rfl, rfl, hn, hg⟩; rfl) fun cdv A outer s H E hr => by
    have nd := sc_is_sorter.nd
    refine ⟨_, (pss_cons (ps_expr (pe_cl C_need_size hr (pa_cons (pv 0) pa_nil)))
      (pss_cons (ps_expr (pe_cl C_check_riser hr (pa_cons (pe_tup (pa_cons (pv 0) pa_nil)) (pa_cons (pe_tup (pa_cons (pv 0) pa_nil)) (pa_cons (pv 1) pa_nil)))))
      (pss_one (ps_ret (pe_cmpR (k_eqD rfl (hu64 hr)) (pe_cl C_unsorted_so hr (pa_cons (pv 0) (pa_cons (pv 1) pa_nil))) (pe_lst pa_nil) (nomark _)))))), ?_⟩
    rintro as rd ⟨n, lots, rfl, rfl, hn, hg⟩ H0 D hrt hnx
    refine s_seq (s_drop (ed_call (ea_d (ed_var rfl) ea_nil) ⟨n, rfl, rfl, hn⟩) ?_)
    refine s_seq (s_drop (ed_call (ea_d (ed_tup (eds_cons (ed_var rfl) eds_nil) (Nat.le_of_ble_eq_true rfl)) (ea_d (ed_tup (eds_cons (ed_var rfl) eds_nil) (Nat.le_of_ble_eq_true rfl)) (ea_d (ed_var rfl) ea_nil))) ⟨n, lots, rfl, rfl, hn, hg⟩) ?_)
    refine s_ret (ed_is (ed_eqL (en_call (ea_d (ed_var rfl) (ea_d (ed_var rfl) ea_nil)) ⟨n, lots, rfl, rfl, hn, hg⟩).el (en_lst eds_nil (by decide)).el (shaped_list (k := 1) clean_sets) rfl) ?_) hrt
    rw [eqv_nil (k := 1) clean_sets, List.isEmpty_map]
def R_is_step (as : List AD) (rd : RD) : Prop := ∃ (n : Nat) (t : Int × Int), as = [.d (.int n), .d (eSt t)] ∧ rd = .d (.bool true) ∧ StepOk n t
theorem cl_is_step (T : Txt mg) (F : FD K mg "is_step" s_is_step) (C_is_from : Cl P w K mg base "is_from" P_is_from 1 (PSp K R_is_from)) : Cl P w K mg base "is_step" P_is_step 2 (PSp K R_is_step) :=
  clOf F (fun _ _ _ _ _ _ us hl => match us, hl with | [_, _], _ => rfl) fun f fd F => fnok F sc_is_step (by rintro as rd ⟨n, t, rfl, rfl, h0, h1, h2⟩; rfl) fun cdv A outer s H E hr => by
    have nd := sc_is_step.nd
    refine ⟨_, (pss_cons (ps_if (PW.pt (pw_or (pt_not (pt_val (pe_callB (k_isi rfl) (by rfl) T.b_isinstance (by decide +kernel) (pa_cons (pv 1) (pa_cons (pe_bltn (v := .ty "tuple") (by rfl) T.b_tuple (by decide +kernel) rfl) pa_nil))))) (pw_or (pt_cmpR op_ne (pe_callB (k_len rfl) (by rfl) T.b_len (by decide +kernel) (pa_cons (pv 1) pa_nil)) pe_int (nomark _)) (pw_or1 (pt_not (pt_val (pe_cl C_is_from hr (pa_cons (pe_ix (k_ixT rfl) (pv 1) pe_int (fun _ _ => rfl)) (pa_cons pe_int (pa_cons (pe_op op_sub (pv 0) pe_int) pa_nil)))))))))) (pss_one (ps_ret pe_bl)) pss_nil)
      (pss_one (ps_ret (pe_cl C_is_from hr (pa_cons (pe_ix (k_ixT rfl) (pv 1) pe_int (fun _ _ => rfl)) (pa_cons (pe_op op_add (pe_ix (k_ixT rfl) (pv 1) pe_int (fun _ _ => rfl)) pe_int) (pa_cons (pe_op op_sub (pv 0) pe_int) pa_nil))))))), ?_⟩
    rintro as rd ⟨n, t, rfl, rfl, h0, h1, h2⟩ H0 D hrt hnx
    refine s_seq (s_unless (et_is (et_or (et_not (et_B (ed_isi (ed_var rfl) (kT _)))) fun _ => et_or (et_test (ed_neI (ed_lenT (ed_var rfl)) ed_int)) fun _ => et_not (et_B (ed_call (ea_d (ed_ixT (ed_var rfl) ed_int (by decide) rfl) (ea_d ed_int (ea_d (ed_opI0 (ed_var rfl) ed_int) ea_nil))) ⟨_, _, _, rfl, rfl⟩))) ?_) ?_)
    · rw [from_ok h0 (by omega)]
      rfl
    refine s_ret (ed_is (ed_call (ea_d (ed_ixT (ed_var rfl) ed_int (by decide) rfl) (ea_d (ed_opI0 (ed_ixT (ed_var rfl) ed_int (by decide) rfl) ed_int) (ea_d (ed_opI0 (ed_var rfl) ed_int) ea_nil))) ⟨_, _, _, rfl, rfl⟩) ?_) hrt
    rw [from_ok (by omega) (by omega)]
def StepsOk (n : Nat) (ts : List (Int × Int)) : Prop := n ≤ 4 ∧ ts.length ≤ 60 ∧ ∀ t ∈ ts, StepOk n t
theorem set_map {lots : List Lot} {i : Nat} {l : Lot} : (lots.map eL).set i (eL l) = (lots.set i l).map eL := List.map_set.symm
theorem getL_set {lots : List Lot} {i j : Int} {l : Lot} (h : i.toNat ≠ j.toNat) : getL (lots.set i.toNat l) j = getL lots j := by
  unfold getL
  rw [List.getD_eq_getElem?_getD, List.getD_eq_getElem?_getD, List.getElem?_set_ne h]
def R_network (as : List AD) (rd : RD) : Prop := ∃ (n : Nat) (ts : List (Int × Int)), as = [.d (.int n), .d (eSts ts)] ∧ rd = .d (eR (netLots n ts)) ∧ StepsOk n ts
theorem cl_network (T : Txt mg) (F : FD K mg "network" s_network) (C_need_size : Cl P w K mg base "need_size" P_need_size 2 (PSp K R_need_size)) (C_is_step : Cl P w K mg base "is_step" P_is_step 2 (PSp K R_is_step)) (C_least_of : Cl P w K mg base "least_of" P_least_of 3 (PSp K R_least_of)) (C_greatest_of : Cl P w K mg base "greatest_of" P_greatest_of 3 (PSp K R_greatest_of)) : Cl P w K mg base "network" P_network 4 (PSp K R_network) :=
  clOf F (fun _ _ _ _ _ _ us hl => match us, hl with | [_, _], _ => rfl) fun f fd F => fnok F sc_network (by rintro as rd ⟨n, ts, rfl, rfl, hn, hl, hs⟩; rfl) fun cdv A outer s H E hr => by
    have nd := sc_network.nd
    refine ⟨_, (pss_cons (ps_expr (pe_cl C_need_size hr (pa_cons (pv 0) pa_nil)))
      (pss_cons (ps_if (PW.pt (pw_or (pt_not (pt_val (pe_callB (k_isi rfl) (by rfl) T.b_isinstance (by decide +kernel) (pa_cons (pv 1) (pa_cons (pe_bltn (v := .ty "tuple") (by rfl) T.b_tuple (by decide +kernel) rfl) pa_nil))))) (pw_or1 (pt_cmpR op_gt (pe_callB (k_len rfl) (by rfl) T.b_len (by decide +kernel) (pa_cons (pv 1) pa_nil)) (pe_gi T.c_MOST_STEPS) (nomark _))))) (pss_one ps_never) pss_nil)
      (pss_cons (ps_if (pt_cmpR (k_neD rfl (hu64 hr)) (pe_lc (own := [("step", 2)]) rfl nd (k_tup rfl (pv 1)) (blkOk_by (by kernel_rfl)) (fun _ _ _ _ _ => pg_name (i := 2) nd rfl (Or.inl rfl)) (fun _ _ _ _ _ => pts_one (pt_not (pt_val (pe_cl C_is_step hr (pa_cons (pv 0) (pa_cons (pv 2) pa_nil)))))) (fun _ _ _ _ _ => pe_int)) (pe_lst pa_nil) (nomark _)) (pss_one ps_never) pss_nil)
      (pss_cons (ps_setLc (i := 3) (own := [("place", 4)]) rfl nd rfl rfl (sw_true rfl rfl rfl (by decide +kernel)) (pi_range1 (by rfl) T.b_range (pa_cons (pv 0) pa_nil)) (blkOk_by (by kernel_rfl)) (fun _ _ _ _ _ => pg_name (i := 4) nd rfl (Or.inl rfl)) (fun _ _ _ _ _ => pts_nil) (fun _ _ _ _ _ => (pe_tup (pa_cons (pe_tup (pa_cons (pv 4) pa_nil)) pa_nil))))
      (pss_cons (ps_for PassesOwn.never rfl (k_tup rfl (pv 1)) (k_gtup (n := 2) rfl rfl (pgs_cons (pg_name (i := 5) nd rfl (by first | exact Or.inl rfl | exact Or.inr rfl)) (pgs_cons (pg_name (i := 6) nd rfl (by first | exact Or.inl rfl | exact Or.inr rfl)) pgs_nil))) (pss_cons (ps_set (i := 7) nd rfl (by first | exact Or.inl rfl | exact Or.inr rfl) (pe_lst (pa_cons (pe_ix (k_ixL rfl) (pv 3) (pv 5) (fun _ _ => rfl)) (pa_cons (pe_ix (k_ixL rfl) (pv 3) (pv 6) (fun _ _ => rfl)) pa_nil))))
      (pss_cons (ps_asg (pe_cl C_least_of hr (pa_cons (pv 7) pa_nil)) (pg_sub (pv 3) (pv 5) set_list))
      (pss_one (ps_asg (pe_cl C_greatest_of hr (pa_cons (pv 7) pa_nil)) (pg_sub (pv 3) (pv 6) set_list))))))
      (pss_one (ps_ret (pe_tup (pa_cons (pe_tup (pa_cons pe_int (pa_cons (pe_callTy (k_tupOf rfl) (by rfl) T.b_tuple (by decide +kernel) (pa_cons (pv 3) pa_nil)) pa_nil))) pa_nil))))))))), ?_⟩
    rintro as rd ⟨n, ts, rfl, rfl, hn, hl, hs⟩ H0 D hrt hnx
    refine s_seq (s_drop (ed_call (ea_d (ed_var rfl) ea_nil) ⟨n, rfl, rfl, hn⟩) ?_)
    refine s_seq (s_unless (et_is (et_or (et_not (et_B (ed_isi (ed_var rfl) (kT _)))) fun _ => et_test (ed_opB0 (ed_lenT (ed_var rfl)) ed_int)) ?_) ?_)
    · rw [List.length_map, decide_eq_false (by omega)]
      rfl
    refine s_seq (s_unless (et_is (et_test (ed_neL (en_lcT (as := ts) eSt (fun _ => !true) (fun _ => .int 1) (ed_var rfl) (List.mem_cons_self ..) (by omega)
      (fun t ht => et_not (et_B (ed_call (ea_d (ed_var rfl) (ea_d (ed_var rfl) ea_nil)) ⟨n, t, rfl, rfl, hs t ht⟩))) (fun _ _ _ => ed_int)).el (en_lst eds_nil (by decide)).el (shaped_list (k := 0) fun x hx => by obtain ⟨a, _, rfl⟩ := List.mem_map.mp hx; rfl) rfl)) ?_) ?_)
    · rw [ones_empty (none_left (b := fun _ => true) fun a ha => rfl)]
      rfl
    refine s_seq (s_asgN (en_is (en_lcR (n := (n : Int)) (fun _ => true) (fun i => eL [[(i : Int)]]) (eds_cons (ed_var rfl) eds_nil) (by omega) (List.mem_cons_self ..) (fun _ _ => et_yes) fun i _ _ => ed_tup (eds_cons (ed_tup (eds_cons (ed_var rfl) eds_nil) (Nat.le_of_ble_eq_true rfl)) eds_nil) (Nat.le_of_ble_eq_true rfl)) (es := (initLots n).map eL) (by rw [filter_yes]; unfold initLots; rw [List.map_map]; rfl)) ?_)
    have good : ∀ i, GoodLots n ((ts.take i).foldl netStep (initLots n)) := fun i => good_fold _ _ (good_init n) fun t ht => hs t (List.mem_of_mem_take ht)
    refine s_seq (s_forT (xs := ts.map eSt) (ed_var rfl) (fun i => [.d (.int n), .d (eSts ts), .u, .l (((ts.take i).foldl netStep (initLots n)).map eL), .u, .u, .u, .u]) (by repeat' first | exact wk_nil | refine wk_u ?_ | refine wk_same ?_) (fun i x => [.d (.int n), .d (eSts ts), .u, .l (((ts.take i).foldl netStep (initLots n)).map eL), .u, .d (.int (ts.getD i (0, 0)).1), .d (.int (ts.getD i (0, 0)).2), .u]) (fun i x hx => ?_) (fun H0' u i x hx => ?_) ?_)
    · obtain ⟨t, ht, rfl⟩ := map_at hx
      have e : ts.getD i (0, 0) = t := by rw [List.getD_eq_getElem?_getD, ht]; rfl
      rw [e]
      exact tg_two
    · obtain ⟨t, ht, rfl⟩ := map_at hx
      have e : ts.getD i (0, 0) = t := by rw [List.getD_eq_getElem?_getD, ht]; rfl
      rw [e]
      obtain ⟨h0, h1, h2⟩ := hs t (List.mem_of_getElem? ht)
      have gi := good i
      have e2 : (ts.take (i + 1)).foldl netStep (initLots n) = netStep ((ts.take i).foldl netStep (initLots n)) t := by
        rw [take_succ ht, List.foldl_append]
        rfl
      rw [e2]
      generalize (ts.take i).foldl netStep (initLots n) = lots at gi
      have hl := gi.len
      have l1 : t.1.toNat < lots.length := by omega
      have l2 : t.2.toNat < lots.length := by omega
      have gp : Lots n [getL lots t.1, getL lots t.2] := ⟨hn, by simp, fun l hl => by
        rcases List.mem_cons.mp hl with e | e
        · rw [e]; exact gi.get h0 (by omega)
        · rw [List.mem_singleton] at e
          rw [e]; exact gi.get (by omega) h2⟩
      refine s_seq (s_asgN (ds := [getL lots t.1, getL lots t.2].map eL) (en_lst (eds_cons (ed_ixL (el_varl rfl) (ed_var rfl) h0 (lot_at l1)) (eds_cons (ed_ixL (el_varl rfl) (ed_var rfl) (by omega) (lot_at l2)) eds_nil)) (Nat.le_of_ble_eq_true rfl)) ?_)
      refine s_seq (s_setl rfl (ed_call (ea_s (el_varl rfl) ea_nil) ⟨n, _, rfl, rfl, gp⟩) (ed_var rfl) h0 (by rw [List.length_map]; omega) ?_)
      refine s_setl rfl (ed_call (ea_s (el_varl rfl) ea_nil) ⟨n, _, rfl, rfl, gp⟩) (ed_var rfl) (by omega) (by rw [List.length_set, List.length_map]; omega) (nx_eq (ρ' := [.d (.int n), .d (eSts ts), .u, .l (((lots.map eL).set t.1.toNat (eL (leastOf [getL lots t.1, getL lots t.2]))).set t.2.toNat (eL (greatestOf [getL lots t.1, getL lots t.2]))), .u, .u, .u, .u]) ?_ (by repeat' first | exact wk_nil | refine wk_u ?_ | refine wk_same ?_))
      rw [set_map, set_map]
      rfl
    · refine s_ret (ed_tup (eds_cons (ed_tup (eds_cons ed_int (eds_cons (ed_is (ed_tupL (el_varl rfl)) (y := eLs (netLots n ts)) ?_) eds_nil)) (Nat.le_of_ble_eq_true rfl)) eds_nil) (Nat.le_of_ble_eq_true rfl)) hrt
      rw [List.length_map, List.take_length]
      rfl
end
end Hf

set_option Elab.async false
set_option linter.all false
set_option maxRecDepth 100000
set_option maxHeartbeats 4000000
namespace Hf
open PySem PySem.Spec PyProof.Rows L2 Hd Net
section
variable {P : Program} {w : World} {K : PySem.W.Frag} {mg : Str → Option Value} {base : Heap} {W : Wd} {H0 H H' : Hp} {σ : L2.St} {ρ ρ' ρ'' : List SD} {te ta tb tc te' : TE} {g : TG} {D : Ends} {x y : PyData}
def R__law_rows (as : List AD) (rd : RD) : Prop := ∃ n : Nat, as = [.d (.int n), .d (.int 2)] ∧ rd = .n ((bitRows n).map eS) ∧ n ≤ 4
theorem cl__law_rows (T : Txt mg) (F : FD K mg "_law_rows" s__law_rows)  : Cl P w K mg base "_law_rows" P__law_rows 1 (PSp K R__law_rows) :=
  clOf F (fun _ _ _ _ _ _ us hl => match us, hl with | [_, _], _ => rfl) fun f fd F => fnok F sc__law_rows (by rintro as rd ⟨n, rfl, rfl, hn⟩; rfl) fun cdv A outer s H E hr => by
    have nd := sc__law_rows.nd
    refine ⟨_, (pss_cons (ps_set (i := 2) nd rfl (by first | exact Or.inl rfl | exact Or.inr rfl) (pe_lst (pa_cons (pe_tup pa_nil) pa_nil)))
      (pss_cons (ps_for PassesOwn.never rfl (pi_range1 (by rfl) T.b_range (pa_cons (pv 0) pa_nil)) (pg_name (i := 3) nd rfl (by first | exact Or.inl rfl | exact Or.inr rfl)) (pss_cons (ps_set (i := 4) nd rfl (by first | exact Or.inl rfl | exact Or.inr rfl) (pe_lst pa_nil))
      (pss_cons (ps_for PassesOwn.never rfl (k_list rfl (pv 2)) (pg_name (i := 5) nd rfl (by first | exact Or.inl rfl | exact Or.inr rfl)) (pss_one (ps_set (i := 4) nd rfl (by first | exact Or.inl rfl | exact Or.inr rfl) (pe_op op_cat (pv 4) (pe_lc (own := [("_law_thing", 6)]) rfl nd (pi_range1 (by rfl) T.b_range (pa_cons (pv 1) pa_nil)) (blkOk_by (by kernel_rfl)) (fun _ _ _ _ _ => pg_name (i := 6) nd rfl (Or.inl rfl)) (fun _ _ _ _ _ => pts_nil) (fun _ _ _ _ _ => (pe_op (k_catA rfl) (pv 5) (pe_tup (pa_cons (pv 6) pa_nil)))))))))
      (pss_one (ps_set (i := 2) nd rfl (by first | exact Or.inl rfl | exact Or.inr rfl) (pe_callTy (k_listOf rfl) (by rfl) T.b_list (by decide +kernel) (pa_cons (pv 4) pa_nil)))))))
      (pss_one (ps_ret (pv 2))))), ?_⟩
    rintro as rd ⟨n, rfl, rfl, hn⟩ H0 D hrt hnx
    refine s_seq (s_asgN (en_lst (eds_cons (ed_tup eds_nil (by decide)) eds_nil) (by decide)) ?_)
    refine s_seq (s_forR (n := (n : Int)) (eds_cons (ed_var rfl) eds_nil) (by omega) (fun i => [.d (.int n), .d (.int 2), .l ((rowsOf [0, 1] i).map eS), .u, .u, .u, .u]) (by repeat' first | exact wk_nil | refine wk_u ?_ | refine wk_same ?_) _ (fun i _ => tg_name) (fun H0' u i hi => ?_) ?_)
    · refine s_seq (s_asgN (en_lst eds_nil (by decide)) ?_)
      refine s_seq (s_forO (xs := (rowsOf [0, 1] i).map eS) rfl ?_)
      refine s_forS rfl (fun j => [.d (.int n), .d (.int 2), .s ((rowsOf [0, 1] i).map eS), .u, .l ((rowsStep [0, 1] ((rowsOf [0, 1] i).take j)).map eS), .u, .u]) (by repeat' first | exact wk_nil | refine wk_u ?_ | refine wk_same ?_) _ (fun j x _ => tg_name) (fun H1' u1 j x hx => ?_) ?_
      · obtain ⟨row, hrow, rfl⟩ := map_at hx
        refine s_asgN (en_cat (el0_var rfl) (en_is (en_lcR (n := 2) (fun _ => true) (fun (t : Nat) => eS (row ++ [(t : Int)])) (eds_cons (ed_var rfl) eds_nil) (by decide) (List.mem_cons_self ..) (fun _ _ => et_yes) fun a ha _ => ed_is (ed_cat (ed_var rfl) (ed_tup (eds_cons (ed_var rfl) eds_nil) (Nat.le_of_ble_eq_true rfl)) ?hl) (by show PyData.tuple _ = PyData.tuple _; rw [List.map_append]; rfl)) (es := [0, 1].map fun t => eS (row ++ [t])) (by rw [filter_yes]; rfl)) ?_) (nx_eq (ρ' := [.d (.int n), .d (.int 2), .s ((rowsOf [0, 1] i).map eS), .u, .l ((rowsStep [0, 1] ((rowsOf [0, 1] i).take j)).map eS ++ [0, 1].map fun t => eS (row ++ [t])), .u, .u]) ?_ (by repeat' first | exact wk_nil | refine wk_u ?_ | refine wk_same ?_))
        case hl =>
          have := (mem_rowsOf.mp (List.mem_of_getElem? hrow)).1
          rw [List.length_map, this]
          show i + 1 ≤ 100000
          omega
        · have h1 := rowsStep_len (ts := [0, 1]) (l := (rowsOf [0, 1] i).take j) (by decide)
          have h2 := bits_len i (by omega)
          rw [List.length_take] at h1
          rw [List.length_map]
          show _ + 2 ≤ _
          omega
        · rw [rows_take hrow, List.map_append, List.map_map]
          rfl
      · refine s_asgN (en_listL (el_varl rfl)) ?_
        refine nx_eq (ρ' := [.d (.int n), .d (.int 2), .l ((rowsStep [0, 1] ((rowsOf [0, 1] i).take ((rowsOf [0, 1] i).map eS).length)).map eS), .u, .u, .u, .u]) ?_ (by repeat' first | exact wk_nil | refine wk_u ?_ | refine wk_same ?_)
        rw [List.length_map, List.take_length]
        rfl
    · exact s_retl rfl hrt
def R__law_by_lot (as : List AD) (rd : RD) : Prop := R_level_so as rd
theorem cl__law_by_lot (T : Txt mg) (F : FD K mg "_law_by_lot" s__law_by_lot)  : Cl P w K mg base "_law_by_lot" P__law_by_lot 1 (PSp K R__law_by_lot) :=
  clOf F (fun _ _ _ _ _ _ us hl => match us, hl with | [_, _], _ => rfl) fun f fd F => fnok F sc__law_by_lot (by rintro as rd ⟨lot, row, rfl, rfl, hne, hl, hs⟩; rfl) fun cdv A outer s H E hr => by
    have nd := sc__law_by_lot.nd
    refine ⟨_, (pss_one (ps_ret (pe_callB (k_max rfl rfl) (by rfl) T.b_max (by decide +kernel) (pa_cons (pe_lc (own := [("_law_some", 3)]) rfl nd (k_tup rfl (pv 0)) (blkOk_by (by kernel_rfl)) (fun _ _ _ _ _ => pg_name (i := 3) nd rfl (Or.inl rfl)) (fun _ _ _ _ _ => pts_nil) (fun _ _ _ _ _ => (pe_callB (k_min rfl rfl) (by rfl) T.b_min (by decide +kernel) (pa_cons (pe_lc (own := [("_law_spot", 2)]) rfl nd (k_tup rfl (pv 3)) (blkOk_by (by kernel_rfl)) (fun _ _ _ _ _ => pg_name (i := 2) nd rfl (Or.inl rfl)) (fun _ _ _ _ _ => pts_nil) (fun _ _ _ _ _ => (pe_ix (k_ixT rfl) (pv 1) (pv 2) (fun _ _ => rfl)))) pa_nil)))) pa_nil)))), ?_⟩
    rintro as rd ⟨lot, row, rfl, rfl, hne, hl, hs⟩ H0 D hrt hnx
    have mx := maxL_mem (l := lot.map fun s => minL (s.map fun p => row.getD p.toNat 0)) (by simpa using hne)
    refine s_ret (ed_max (ns := lot.map fun s => minL (s.map fun p => row.getD p.toNat 0)) (en_is (en_lcT (as := lot) eS (fun _ => true) (fun s => .int (minL (s.map fun p => row.getD p.toNat 0))) (ed_var rfl) (List.mem_cons_self ..) (by omega) (fun _ _ => et_yes) fun s hsm _ => ?_) (by rw [filter_yes, List.map_map]; rfl)) mx.1 mx.2) hrt
    obtain ⟨s1, s2, s3⟩ := hs s hsm
    have mn := minL_mem (l := s.map fun p => row.getD p.toNat 0) (by simpa using s1)
    refine ed_min (ns := s.map fun p => row.getD p.toNat 0) (en_is (en_lcT (as := s) PyData.int (fun _ => true) (fun p => .int (row.getD p.toNat 0)) (ed_var rfl) (List.mem_cons_self ..) (by omega) (fun _ _ => et_yes) fun p hp _ => ?_) (by rw [filter_yes, List.map_map]; rfl)) mn.1 mn.2
    have := s3 p hp
    exact ed_ixT (ed_var rfl) (ed_var rfl) this.1 (getD_some (by omega))
def R__law_risen (as : List AD) (rd : RD) : Prop := R_riser_so as rd
theorem cl__law_risen (T : Txt mg) (F : FD K mg "_law_risen" s__law_risen) (C_law_by_lot : Cl P w K mg base "_law_by_lot" P__law_by_lot 1 (PSp K R__law_by_lot)) : Cl P w K mg base "_law_risen" P__law_risen 2 (PSp K R__law_risen) :=
  clOf F (fun _ _ _ _ _ _ us hl => match us, hl with | [_, _], _ => rfl) fun f fd F => fnok F sc__law_risen (by rintro as rd ⟨n, lots, row, rfl, rfl, hn, hg, hl⟩; rfl) fun cdv A outer s H E hr => by
    have nd := sc__law_risen.nd
    refine ⟨_, (pss_cons (ps_asg (pe_ix (k_ixT rfl) (pv 0) (pe_ix (k_ixT rfl) (pv 1) pe_int (fun _ _ => rfl)) (fun _ _ => rfl)) (k_gtup (n := 2) rfl rfl (pgs_cons (pg_name (i := 2) nd rfl (by first | exact Or.inl rfl | exact Or.inr rfl)) (pgs_cons (pg_name (i := 3) nd rfl (by first | exact Or.inl rfl | exact Or.inr rfl)) pgs_nil))))
      (pss_one (ps_ret (pe_tup (pa_cons (pv 2) (pa_cons (pe_callTy (k_tupOf rfl) (by rfl) T.b_tuple (by decide +kernel) (pa_cons (pe_lc (own := [("_law_lot_so", 4)]) rfl nd (k_tup rfl (pv 3)) (blkOk_by (by kernel_rfl)) (fun _ _ _ _ _ => pg_name (i := 4) nd rfl (Or.inl rfl)) (fun _ _ _ _ _ => pts_nil) (fun _ _ _ _ _ => (pe_cl C_law_by_lot hr (pa_cons (pv 4) (pa_cons (pe_ix (k_ixT rfl) (pv 1) pe_int (fun _ _ => rfl)) pa_nil))))) pa_nil)) pa_nil)))))), ?_⟩
    rintro as rd ⟨n, lots, row, rfl, rfl, hn, hg, hl⟩ H0 D hrt hnx
    refine s_seq (s_asgT (ed_ixT (ed_var rfl) (ed_ixT (ed_var rfl) ed_int (by decide) rfl) (by decide) rfl) tg_two ?_)
    refine s_ret (ed_tup (eds_cons (ed_var rfl) (eds_cons (ed_is (ed_tupL (en_lcT (as := lots) eL (fun _ => true) (fun lot => .int (level lot row)) (ed_var rfl) (List.mem_cons_self ..) (by rw [hg.len]; omega) (fun _ _ => et_yes) fun lot hm _ =>
      ed_call (ea_d (ed_var rfl) (ea_d (ed_ixT (ed_var rfl) ed_int (by decide) rfl) ea_nil)) ⟨lot, row, rfl, rfl, level_ok hn (hg.all _ hm) hl⟩).el) (by rw [filter_yes]; unfold eS risen; rw [List.map_map]; rfl)) eds_nil)) (Nat.le_of_ble_eq_true rfl)) hrt
/-- l[a], l[b] = x, y -/
theorem s_swap {i : Nat} {ds : List PyData} {j k : Int} {t1 t2 : TE} (hi : ρ[i]? = some (.l ds)) (hx : ED K W H0 te ρ x) (hy : ED K W H0 te' ρ y) (h1 : ED K W H0 t1 ρ (.int j)) (h2 : ED K W H0 t2 (ρ.set i (.l (ds.set j.toNat x))) (.int k)) (j0 : 0 ≤ j) (j1 : j < ds.length) (k0 : 0 ≤ k) (k1 : k < ds.length)
    (n : Nx K W H0 D.nx (ρ.set i (.l ((ds.set j.toNat x).set k.toNat y)))) : SDo K W H0 (tAsg (tTup (tCons te (tCons te' tNil))) (gTup K 2 (gCons (gSub (tVar i) t1 rSetL) (gCons (gSub (tVar i) t2 rSetL) gNil)))) D ρ := fun σ H e => by
  refine hx σ H e _ fun v H1 g1 tv => hy σ H1 (e.gr g1) _ fun u H2 g2 tu => ⟨sz_of (Nat.le_of_ble_eq_true rfl), fun T hT => ?_⟩
  have e2 := e.gr (g1.trans g2)
  obtain ⟨gT, tT⟩ := TV.tup_new (W := W) (K := K) (ys := [v, u]) (xs := [x, y]) e2.j hT (.cons (tv.tk (g2.1.tk g1.2)) (.cons tu .nil))
  have e3 := e2.gr gT
  refine ⟨T, [v, u], rfl, .inl (.inl upd_same), rfl, v, [u], rfl, ?_⟩
  obtain ⟨p, xs, a1, a2, a3, a4, a5⟩ := e3.slot i _ hi
  refine ⟨.ref p, a1, ?_⟩
  refine h1 σ _ e3 _ fun w1 H4 g4 t4 => ?_
  have e4 := e3.gr g4
  have tk4 := g4.1.tk e3.j
  have hv : TV K H4 v x := ((tv.tk (g2.1.tk g1.2)).tk (gT.1.tk e2.j)).tk tk4
  have hu : TV K H4 u y := (tu.tk (gT.1.tk e2.j)).tk tk4
  refine ⟨p, xs, j, j.toNat, rfl, t4.int_inv, g4.1 _ _ a4 a3, ixN_of j0 (by rw [a5.length]; exact j1), ?_⟩
  have e5 := e4.upd hi a1 (g4.1 _ _ a4 a3) (TVs.set j.toNat (a5.tk tk4) hv)
  refine ⟨u, [], rfl, ?_⟩
  have hlt := e.lt hi
  rw [e.len] at hlt
  have hi5 : (ρ.set i (.l (ds.set j.toNat x)))[i]? = some (.l (ds.set j.toNat x)) := at_set hlt
  obtain ⟨p5, xs5, b1, b2, b3, b4, b5⟩ := e5.slot i _ hi5
  refine ⟨.ref p5, b1, ?_⟩
  refine h2 σ _ e5 _ fun w2 H6 g6 t6 => ?_
  have tk6 := g6.1.tk e5.j
  have hu6 : TV K H6 u y := (hu.tk (tk_lst (g4.1 _ _ a4 a3))).tk tk6
  refine ⟨p5, xs5, k, k.toNat, rfl, t6.int_inv, g6.1 _ _ b4 b3, ixN_of k0 (by rw [b5.length, List.length_set]; exact k1), rfl, ?_⟩
  have := n σ _ (by
    have := (e5.gr g6).upd hi5 b1 (g6.1 _ _ b4 b3) (TVs.set k.toNat (b5.tk tk6) hu6)
    rw [List.set_set] at this
    exact this)
  exact this
theorem exs_take {ts : List (Int × Int)} {row : List Int} {i : Nat} {t : Int × Int} (h : ts[i]? = some t) : exs row (ts.take (i + 1)) = exStep (exs row (ts.take i)) t := by
  unfold exs
  rw [take_succ h, List.foldl_append]
  rfl
def R__law_exchanged (as : List AD) (rd : RD) : Prop := ∃ (n : Nat) (row : List Int) (ts : List (Int × Int)), as = [.d (eS row), .d (eSts ts)] ∧ rd = .d (eS (exs row ts)) ∧ row.length = n ∧ n ≤ 4 ∧ ∀ t ∈ ts, StepOk n t
theorem cl__law_exchanged (T : Txt mg) (F : FD K mg "_law_exchanged" s__law_exchanged)  : Cl P w K mg base "_law_exchanged" P__law_exchanged 1 (PSp K R__law_exchanged) :=
  clOf F (fun _ _ _ _ _ _ us hl => match us, hl with | [_, _], _ => rfl) fun f fd F => fnok F sc__law_exchanged (by rintro as rd ⟨n, row, ts, rfl, rfl, hl, hn, hs⟩; rfl) fun cdv A outer s H E hr => by
    have nd := sc__law_exchanged.nd
    refine ⟨_, (pss_cons (ps_set (i := 2) nd rfl (by first | exact Or.inl rfl | exact Or.inr rfl) (pe_callTy (k_listOf rfl) (by rfl) T.b_list (by decide +kernel) (pa_cons (pv 0) pa_nil)))
      (pss_cons (ps_for PassesOwn.never rfl (k_tup rfl (pv 1)) (k_gtup (n := 2) rfl rfl (pgs_cons (pg_name (i := 3) nd rfl (by first | exact Or.inl rfl | exact Or.inr rfl)) (pgs_cons (pg_name (i := 4) nd rfl (by first | exact Or.inl rfl | exact Or.inr rfl)) pgs_nil))) (pss_one (ps_if (pt_cmpR op_gt (pe_ix (k_ixL rfl) (pv 2) (pv 3) (fun _ _ => rfl)) (pe_ix (k_ixL rfl) (pv 2) (pv 4) (fun _ _ => rfl)) (nomark _)) (pss_one (ps_asg (pe_tup (pa_cons (pe_ix (k_ixL rfl) (pv 2) (pv 4) (fun _ _ => rfl)) (pa_cons (pe_ix (k_ixL rfl) (pv 2) (pv 3) (fun _ _ => rfl)) pa_nil))) (k_gtup (n := 2) rfl rfl (pgs_cons (pg_sub (pv 2) (pv 3) set_list) (pgs_cons (pg_sub (pv 2) (pv 4) set_list) pgs_nil))))) pss_nil)))
      (pss_one (ps_ret (pe_callTy (k_tupOf rfl) (by rfl) T.b_tuple (by decide +kernel) (pa_cons (pv 2) pa_nil)))))), ?_⟩
    rintro as rd ⟨n, row, ts, rfl, rfl, hl, hn, hs⟩ H0 D hrt hnx
    refine s_seq (s_asgN (en_listT (ed_var rfl)) ?_)
    refine s_seq (s_forT (xs := ts.map eSt) (ed_var rfl) (fun i => [.d (eS row), .d (eSts ts), .l ((exs row (ts.take i)).map PyData.int), .u, .u]) (by repeat' first | exact wk_nil | refine wk_u ?_ | refine wk_same ?_) (fun i x => [.d (eS row), .d (eSts ts), .l ((exs row (ts.take i)).map PyData.int), .d (.int (ts.getD i (0, 0)).1), .d (.int (ts.getD i (0, 0)).2)]) (fun i x hx => ?_) (fun H0' u i x hx => ?_) ?_)
    · obtain ⟨t, ht, rfl⟩ := map_at hx
      have e : ts.getD i (0, 0) = t := by rw [List.getD_eq_getElem?_getD, ht]; rfl
      rw [e]
      exact tg_two
    · obtain ⟨t, ht, rfl⟩ := map_at hx
      have e : ts.getD i (0, 0) = t := by rw [List.getD_eq_getElem?_getD, ht]; rfl
      rw [e]
      obtain ⟨h0, h1, h2⟩ := hs t (List.mem_of_getElem? ht)
      rw [exs_take ht]
      have hl2 : (exs row (ts.take i)).length = n := by rw [exs_len, hl]
      generalize exs row (ts.take i) = now at hl2
      have l1 : t.1.toNat < now.length := by omega
      have l2 : t.2.toNat < now.length := by omega
      refine s_if (et_test (ed_opB0 (ed_ixL (el_varl rfl) (ed_var rfl) h0 (getD_some l1)) (ed_ixL (el_varl rfl) (ed_var rfl) (by omega) (getD_some l2)))) (fun hc => ?_) (fun hc => ?_)
      · have hc' : now.getD t.2.toNat 0 < now.getD t.1.toNat 0 := of_decide_eq_true hc
        refine s_swap (i := 2) rfl (ed_ixL (el_varl rfl) (ed_var rfl) (by omega) (getD_some l2)) (ed_ixL (el_varl rfl) (ed_var rfl) h0 (getD_some l1)) (ed_var rfl) (ed_var rfl) h0 (by rw [List.length_map]; omega) (by omega) (by rw [List.length_map]; omega) (nx_eq (ρ' := [.d (eS row), .d (eSts ts), .l (((now.map PyData.int).set t.1.toNat (.int (now.getD t.2.toNat 0))).set t.2.toNat (.int (now.getD t.1.toNat 0))), .u, .u]) ?_ (by repeat' first | exact wk_nil | refine wk_u ?_ | refine wk_same ?_))
        unfold exStep
        rw [if_pos hc', ← List.map_set, ← List.map_set]
      · have hc' : ¬ now.getD t.2.toNat 0 < now.getD t.1.toNat 0 := of_decide_eq_false hc
        refine s_next (nx_eq (ρ' := [.d (eS row), .d (eSts ts), .l (now.map PyData.int), .u, .u]) ?_ (by repeat' first | exact wk_nil | refine wk_u ?_ | refine wk_same ?_))
        unfold exStep
        rw [if_neg hc']
    · refine s_ret (ed_is (ed_tupL (el_varl rfl)) ?_) hrt
      rw [List.length_map, List.take_length]
/-! ### the subsets: lists of lists -/
def NestN (H : Hp) (D : Addr) (ls : List (List Int)) : Prop := ∃ qs : List Addr, H D = some (.lst (qs.map V.ref)) ∧ qs.length = ls.length ∧ ∀ (j : Nat) (q : Addr) (l : List Int), qs[j]? = some q → ls[j]? = some l → H q = some (.lst (l.map V.int)) ∧ q ≠ D
theorem NestN.same {D : Addr} {ls : List (List Int)} (s : Same H H') (h : NestN H D ls) : NestN H' D ls := by
  obtain ⟨qs, h1, h2, h3⟩ := h
  exact ⟨qs, s _ _ h1, h2, fun j q l a b => ⟨s _ _ (h3 j q l a b).1, (h3 j q l a b).2⟩⟩
theorem NestN.nil {D : Addr} : NestN (upd H D (.lst [])) D [] := ⟨[], upd_same, rfl, fun j q l a _ => by simp at a⟩
theorem NestN.push {D q : Addr} {ls : List (List Int)} {l : List Int} (h : NestN H D ls) (hq : H q = some (.lst (l.map V.int))) (hne : q ≠ D) : ∃ acc, H D = some (.lst acc) ∧ acc.length = ls.length ∧ NestN (upd H D (.lst (acc ++ [.ref q]))) D (ls ++ [l]) := by
  obtain ⟨qs, h1, h2, h3⟩ := h
  refine ⟨_, h1, by rw [List.length_map, h2], qs ++ [q], by rw [upd_same, List.map_append]; rfl, by rw [List.length_append, List.length_append, h2]; rfl, fun j q' l' a b => ?_⟩
  by_cases hj : j < qs.length
  · rw [List.getElem?_append_left hj] at a
    rw [List.getElem?_append_left (by omega)] at b
    obtain ⟨c1, c2⟩ := h3 j q' l' a b
    exact ⟨by rw [upd_ne c2]; exact c1, c2⟩
  · rw [List.getElem?_append_right (by omega)] at a
    rw [List.getElem?_append_right (by omega)] at b
    rw [← h2] at b
    cases hk : j - qs.length with
    | zero =>
      rw [hk] at a b
      cases a
      cases b
      exact ⟨by rw [upd_ne hne]; exact hq, hne⟩
    | succ m =>
      rw [hk] at a
      simp at a
theorem Same.upd0 {D : Addr} {o : HO} (s : Same H H') (h : H D = none) : Same H (upd H' D o) := fun b x e => by
  rw [upd_ne (fun z => by rw [z, h] at e; cases e)]
  exact s b x e
def subsAt (n : Nat) : List (List Int) := (List.range n).foldl (fun found (spot : Nat) => found ++ found.map fun some => some ++ [(spot : Int)]) [[]]
theorem subs_succ (i : Nat) : subsAt (i + 1) = subsAt i ++ (subsAt i).map fun some => some ++ [(i : Int)] := by
  unfold subsAt
  rw [List.range_succ, List.foldl_append]
  rfl
theorem subs_len : ∀ i, i ≤ 4 → (subsAt i).length ≤ 16 := by decide
def R__law_sets (as : List AD) (rd : RD) : Prop := ∃ n : Nat, as = [.d (.int n)] ∧ rd = .n ((lawSets n).map eS) ∧ n ≤ 4
theorem cl__law_sets (T : Txt mg) (F : FD K mg "_law_sets" s__law_sets)  : Cl P w K mg base "_law_sets" P__law_sets 1 (PSp K R__law_sets) :=
  clOf F (fun _ _ _ _ _ _ us hl => match us, hl with | [_], _ => rfl) fun f fd F => fnok F sc__law_sets (by rintro as rd ⟨n, rfl, rfl, hn⟩; rfl) fun cdv A outer s H E hr => by
    have nd := sc__law_sets.nd
    refine ⟨_, (pss_cons (ps_set (i := 1) nd rfl (by first | exact Or.inl rfl | exact Or.inr rfl) (pe_lst (pa_cons (pe_lst pa_nil) pa_nil)))
      (pss_cons (ps_for PassesOwn.never rfl (pi_range1 (by rfl) T.b_range (pa_cons (pv 0) pa_nil)) (pg_name (i := 2) nd rfl (by first | exact Or.inl rfl | exact Or.inr rfl)) (pss_one (ps_set (i := 1) nd rfl (by first | exact Or.inl rfl | exact Or.inr rfl) (pe_op op_cat (pv 1) (pe_lc (own := [("_law_some", 3)]) rfl nd (k_list rfl (pv 1)) (blkOk_by (by kernel_rfl)) (fun _ _ _ _ _ => pg_name (i := 3) nd rfl (Or.inl rfl)) (fun _ _ _ _ _ => pts_nil) (fun _ _ _ _ _ => (pe_op op_cat (pv 3) (pe_lst (pa_cons (pv 2) pa_nil)))))))))
      (pss_one (ps_ret (pe_callB (k_sortedD rfl (hu64 hr)) (by rfl) T.b_sorted (by decide +kernel) (pa_cons (pe_lc (own := [("_law_some", 3)]) rfl nd (k_list rfl (pv 1)) (blkOk_by (by kernel_rfl)) (fun _ _ _ _ _ => pg_name (i := 3) nd rfl (Or.inl rfl)) (fun _ _ _ _ _ => pts_one (pt_cmpR (k_neD rfl (hu64 hr)) (pv 3) (pe_lst pa_nil) (nomark _))) (fun _ _ _ _ _ => (pe_callTy (k_tupOf rfl) (by rfl) T.b_tuple (by decide +kernel) (pa_cons (pv 3) pa_nil)))) pa_nil)))))), ?_⟩
    rintro as rd ⟨n, rfl, rfl, hn⟩ H0 D hrt hnx
    intro σ H1 e
    obtain ⟨v0, e0, t0⟩ := e.slot 0 _ rfl
    have e0' : σ[0]? = some (some (.int n)) := by rw [e0, t0.int_inv]
    have hlen : σ.length = 4 := e.len
    refine ⟨sz_of (Nat.le_of_ble_eq_true rfl), fun q hq => ⟨sz_of (Nat.le_of_ble_eq_true rfl), fun p hp => ?_⟩⟩
    have hpq : q ≠ p := fun z => by rw [z] at hp; rw [upd_same] at hp; cases hp
    refine ⟨.int n, by show (σ.set 1 _)[0]? = _; rw [List.getElem?_set_ne (by decide)]; exact e0', n, rfl, by omega, by omega, ?_⟩
    refine for_range (fun i σ' H' => σ'.length = 4 ∧ σ'[0]? = some (some (.int n)) ∧ Same H0 H' ∧ ∃ p, σ'[1]? = some (some (.ref p)) ∧ NestN H' p (subsAt i)) ⟨by rw [List.length_set]; exact hlen, by rw [List.getElem?_set_ne (by decide)]; exact e0', ?_, p, at_set (by omega), ?_⟩ (fun i σ' H' hi ⟨l1, l2, l3, p, l4, l5⟩ => ?_) (fun σ' H' ⟨l1, l2, l3, p, l4, l5⟩ => ?_)
    · have s1 : Same H1 (upd (upd H1 q (.lst [])) p (.lst [.ref q])) := fun b o hb => by
        rw [upd_ne (fun z => by rw [z] at hb; rw [upd_ne (Ne.symm hpq)] at hp; rw [hp] at hb; cases hb), upd_ne (fun z => by rw [z, hq] at hb; cases hb)]
        exact hb
      exact fun b o hb => s1 b o (e.kp b o hb (fun z => z))
    · refine ⟨[q], upd_same, rfl, fun j q' l a b => ?_⟩
      cases j with
      | zero =>
        cases a
        cases b
        exact ⟨by rw [upd_ne hpq, upd_same]; rfl, hpq⟩
      | succ j => simp at a
    · obtain ⟨qs, n1, n2, n3⟩ := l5
      have hsub := subs_len i (by omega)
      refine ⟨.ref p, by rw [List.getElem?_set_ne (by decide)]; exact l4, ?_⟩
      refine ⟨.ref p, by rw [List.getElem?_set_ne (by decide)]; exact l4, p, rfl, ⟨_, .inl (.inl n1)⟩, fun Dl hD => ?_⟩
      refine lc_list (K := K) (a := p) (xs := qs.map V.ref) (fun j H2 => Same H' H2 ∧ NestN H2 Dl (((subsAt i).take j).map fun some => some ++ [(i : Int)])) ⟨same_new hD, NestN.nil⟩ (fun j H2 _ h => .inl (.inl (h.1 _ _ n1))) (fun j v H2 hv h => ?_) (fun H2 h => ?_)
      · obtain ⟨h1, h2⟩ := h
        rw [List.getElem?_map] at hv
        obtain ⟨q', hq', rfl⟩ := Option.map_eq_some_iff.mp hv
        have hj : j < (subsAt i).length := by rw [← n2]; exact (List.getElem?_eq_some_iff.mp hq').1
        have hl := List.getElem?_eq_getElem hj
        obtain ⟨m1, m2⟩ := n3 j q' _ hq' hl
        have hne : Dl ≠ q' := fun z => by rw [← z, hD] at m1; cases m1
        refine ⟨wipe_wipe (List.mem_cons_self ..), ?_⟩
        simp only [tYes, ↓reduceIte]
        refine ⟨.ref q', at_set (by rw [wipe_length, List.length_set]; omega), ?_⟩
        refine ⟨.int (0 + (i : Nat)), ?_, sz_of (Nat.le_of_ble_eq_true rfl), fun a1 ha1 => ?_⟩
        · show ((L2.wipe (σ'.set 2 _) [3]).set 3 _)[2]? = _
          rw [List.getElem?_set_ne (by decide)]
          show ((σ'.set 2 _).set 3 none)[2]? = _
          rw [List.getElem?_set_ne (by decide)]
          exact at_set (by omega)
        · refine ⟨q', a1, (subsAt i)[j].map V.int, [.int (0 + (i : Nat))], rfl, rfl, ?_, upd_same, ?_, fun a2 ha2 => ?_⟩
          · have hn2 : H2 q' = some (.lst ((subsAt i)[j].map V.int)) := h1 _ _ m1
            rw [upd_ne (fun z => by rw [← z, hn2] at ha1; cases ha1)]
            exact hn2
          · have : ∀ l ∈ subsAt i, l.length ≤ 4 := by
              have : ∀ i, i ≤ 4 → ∀ l ∈ subsAt i, l.length ≤ 4 := by decide
              exact this i (by omega)
            have := this _ (List.getElem_mem hj)
            rw [List.length_map]
            exact sz_of (by show _ + 1 ≤ _; omega)
          · have s2 : Same H2 (upd (upd H2 a1 (.lst [.int (0 + (i : Nat))])) a2 (.lst ((subsAt i)[j].map V.int ++ [.int (0 + (i : Nat))]))) := Same.upd0 (same_new ha1) (by
              by_cases c : a2 = a1
              · rw [c]; exact ha1
              · rw [upd_ne c] at ha2; exact ha2)
            have h2' := h2.same s2
            have ne2 : a2 ≠ Dl := fun z => by
              obtain ⟨qs2, k1, _⟩ := h2
              have := (Same.upd0 (o := .lst [.int (0 + (i : Nat))]) (same_new (o := .lst [.int (0 + (i : Nat))]) ha1) ha1 : Same H2 _)
              have k3 := (same_new (o := .lst [.int (0 + (i : Nat))]) ha1) _ _ k1
              rw [← z, ha2] at k3
              cases k3
            obtain ⟨acc, c1, c2, c3⟩ := h2'.push (l := (subsAt i)[j] ++ [(i : Int)]) (by rw [upd_same, List.map_append, Int.zero_add]; rfl) ne2
            refine ⟨acc, c1, ?_, Same.upd0 (fun b o hb => s2 b o (h1 b o hb)) hD, ?_⟩
            · rw [c2, List.length_map, List.length_take]
              exact sz_lt (by omega)
            · rw [take_succ hl, List.map_append]
              exact c3
      · obtain ⟨h1, h2⟩ := h
        obtain ⟨qs2, k1, k2, k3⟩ := h2
        have hk2 : qs2.length = (subsAt i).length := by rw [k2, List.length_map, List.length_take, List.length_map]; omega
        refine ⟨p, Dl, _, _, rfl, rfl, h1 _ _ n1, k1, ?_, fun p2 hp2 => ?_⟩
        · rw [List.length_map, List.length_map, n2, hk2]
          exact sz_of (by omega)
        · refine ⟨by rw [List.length_set, List.length_set]; exact l1, by rw [List.getElem?_set_ne (by decide), List.getElem?_set_ne (by decide)]; exact l2, fun b o hb => same_new hp2 b o (h1 b o (l3 b o hb)), p2, at_set (by rw [List.length_set]; omega), qs ++ qs2, by rw [upd_same, List.map_append], ?_, fun j q' l a b => ?_⟩
          · rw [subs_succ, List.length_append, List.length_append, List.length_map, n2, hk2]
          · rw [subs_succ] at b
            by_cases hj : j < qs.length
            · rw [List.getElem?_append_left hj] at a
              rw [List.getElem?_append_left (by omega)] at b
              obtain ⟨c1, c2⟩ := n3 j q' l a b
              have c3 := h1 _ _ c1
              have c4 : q' ≠ p2 := fun z => by rw [z, hp2] at c3; cases c3
              exact ⟨by rw [upd_ne c4]; exact c3, c4⟩
            · rw [List.getElem?_append_right (by omega)] at a
              rw [List.getElem?_append_right (by omega), ← n2] at b
              have b' : (List.map (fun some => some ++ [(i : Int)]) ((subsAt i).take (qs.map V.ref).length))[j - qs.length]? = some l := by
                rw [List.length_map, n2, List.take_length, ← n2]
                exact b
              obtain ⟨c1, c2⟩ := k3 _ q' l a b'
              have c4 : q' ≠ p2 := fun z => by rw [z, hp2] at c1; cases c1
              exact ⟨by rw [upd_ne c4]; exact c1, c4⟩
    · obtain ⟨qs, n1, n2, n3⟩ := l5
      have e : (n : Int).toNat = n := by omega
      rw [e] at n2 n3
      have hsub := subs_len n hn
      refine ⟨.ref p, l4, p, rfl, ⟨_, .inl (.inl n1)⟩, fun Dl hD => ?_⟩
      refine lc_list (K := K) (a := p) (xs := qs.map V.ref) (fun j H2 => Same H' H2 ∧ ∃ acc, H2 Dl = some (.lst acc) ∧ TVs K H2 acc ((((subsAt n).take j).filter fun s => decide (s ≠ [])).map eS)) ⟨same_new hD, [], upd_same, .nil⟩ (fun j H2 _ h => .inl (.inl (h.1 _ _ n1))) (fun j v H2 hv h => ?_) (fun H2 h => ?_)
      · obtain ⟨h1, acc, h2, h3⟩ := h
        rw [List.getElem?_map] at hv
        obtain ⟨q', hq', rfl⟩ := Option.map_eq_some_iff.mp hv
        have hj : j < (subsAt n).length := by rw [← n2]; exact (List.getElem?_eq_some_iff.mp hq').1
        have hl := List.getElem?_eq_getElem hj
        obtain ⟨m1, m2⟩ := n3 j q' _ hq' hl
        have tvl : ∀ Hx, Hx q' = some (.lst ((subsAt n)[j].map V.int)) → Dp K Hx (.ref q') (.list ((subsAt n)[j].map PyData.int)) := fun Hx hx => .lst (.inl (.inl hx)) (TVs.ints (ns := (subsAt n)[j])).1
        have hneD : Dl ≠ q' := fun z => by rw [← z, hD] at m1; cases m1
        refine ⟨wipe_wipe (List.mem_cons_self ..), ?_⟩
        refine ⟨.ref q', at_set (by rw [wipe_length]; omega), sz_of (Nat.le_of_ble_eq_true rfl), fun a1 ha1 => ?_⟩
        have q2 : H2 q' = some (.lst ((subsAt n)[j].map V.int)) := h1 _ _ m1
        have s1 : Same H2 (upd H2 a1 (.lst [])) := same_new ha1
        refine ⟨_, _, tvl _ (s1 _ _ q2), .lst (.inl (.inl upd_same)) .nil, shaped_list (k := 0) clean_ints, rfl, !PyData.eqv (.list ((subsAt n)[j].map PyData.int)) (.list []), rfl, ?_⟩
        have ev : (!PyData.eqv (.list ((subsAt n)[j].map PyData.int)) (.list [])) = decide ((subsAt n)[j] ≠ []) := by
          have := eqv_Li (subsAt n)[j] []
          rw [List.map_nil] at this
          rw [this]
          simp
        rw [ev]
        cases hb : decide ((subsAt n)[j] ≠ []) with
        | true =>
          refine iteT ?_
          refine ⟨.ref q', at_set (by rw [wipe_length]; omega), q', _, rfl, .inl ⟨.inl (.inl (s1 _ _ q2)), fun a2 ha2 => ?_⟩⟩
          have s2 : Same (upd H2 a1 (.lst [])) (upd (upd H2 a1 (.lst [])) a2 (.tup ((subsAt n)[j].map V.int))) := same_new ha2
          have d2 := s2 _ _ (s1 _ _ h2)
          refine ⟨acc, d2, ?_, Same.upd0 (fun b o hb => s2 b o (s1 b o (h1 b o hb))) hD, acc ++ [.ref a2], upd_same, ?_⟩
          · have := List.length_filter_le (fun s => decide (s ≠ [])) ((subsAt n).take j)
            rw [h3.length, List.length_map]
            rw [List.length_take] at this
            exact sz_lt (by omega)
          · rw [take_succ hl, List.filter_append, List.map_append, List.filter_cons, if_pos hb]
            have tkS : ∀ {A B : Hp}, Same A B → Tk A B := fun s => ⟨fun b xs hb => s _ _ hb, fun b o u hb => s _ _ hb⟩
            exact ((h3.tk (Tk.trans (tkS s1) (tkS s2))).append (.cons (.tup (.inl (.inl upd_same)) .ints) .nil)).tk (tk_lst d2)
        | false =>
          refine iteF ?_
          refine ⟨fun b o hb => s1 b o (h1 b o hb), acc, s1 _ _ h2, ?_⟩
          rw [take_succ hl, List.filter_append, List.map_append, List.filter_cons, if_neg (by rw [hb]; decide)]
          have tkS : ∀ {A B : Hp}, Same A B → Tk A B := fun s => ⟨fun b xs hb => s _ _ hb, fun b o u hb => s _ _ hb⟩
          simpa using h3.tk (tkS s1)
      · obtain ⟨h1, acc, h2, h3⟩ := h
        have e3 : (subsAt n).take (qs.map V.ref).length = subsAt n := by rw [List.length_map, n2, List.take_length]
        rw [e3] at h3
        refine ⟨Dl, acc, (subsAt n).filter fun s => decide (s ≠ []), rfl, .inl (.inl h2), h3.1, fun s hs => by simpa using (List.mem_filter.mp hs).2, ?_, fun nss' ys p' hp hw hd hn' => ?_⟩
        · have := List.length_filter_le (fun s => decide (s ≠ [])) (subsAt n)
          omega
        · have e4 := sortLot_of hp hw
          subst e4
          have s3 : Same H2 (upd H2 p' (.lst ys)) := same_new hn'
          have tkS : Tk H2 (upd H2 p' (.lst ys)) := ⟨fun b xs hb => s3 _ _ hb, fun b o u hb => s3 _ _ hb⟩
          have sH : Same H0 H2 := fun b o hb => h1 b o (l3 b o hb)
          have tv : TVs K H2 ys ((sortLot ((subsAt n).filter fun s => decide (s ≠ []))).map eS) := ⟨hd, noLs_iff.mpr fun d hd => by
            obtain ⟨ns, _, rfl⟩ := List.mem_map.mp hd
            rw [noL_tup]
            exact noLs_iff.mpr fun d hd => by
              obtain ⟨i, _, rfl⟩ := List.mem_map.mp hd
              rw [noL]⟩
          refine hrt p' ys _ (fun b o hb _ => s3 b o (sH b o hb)) trivial ?_ (fun z => z) upd_same (tv.tk tkS)
          cases hz : H0 p' with
          | none => rfl
          | some o => rw [sH _ _ hz] at hn'; cases hn'
end
end Hf

set_option Elab.async false
set_option linter.all false
set_option maxRecDepth 100000
set_option maxHeartbeats 4000000
namespace Hd
open PySem PySem.Spec PyProof.Rows L2
/-- a def by its body, no guard about -/
theorem fnokG {P : Program} {w : World} {K : Fg} {mg : Str → Option Value} {base : Heap} {x qual : Str} {params : Arguments} {body : List Stmt} {scope : Scope} {f : Addr} {fd : FuncData} {N ps : List Str} {k : Nat} {R : List AD → RD → Prop}
    (F : FunD K x qual params body scope [] [] f fd) (S : FnScope N ps scope) (hlen : ∀ as rd, R as rd → as.length = ps.length)
    (hbody : ∀ (cdv : Value) (A : Around) (outer : List PySem.Env) (s : Shared) (H : Hp) (E : XK), (A.deeper (envOfC qual scope s.heap.objs.size f cdv)).guards = some [] → Room k (A.deeper (envOfC qual scope s.heap.objs.size f cdv)) →
      ∃ t, PSs (cxOf CX0 P w K mg base N qual scope f cdv A outer s H E).nox body t ∧
        ∀ as rd, R as rd → ∀ (H0 : Hp) (D : Ends), RtOk K W0 H0 D rd → (rd = .d .none → ∀ ρ, Nx K W0 H0 D.nx ρ) → SDo K W0 H0 t D (entry as N.length)) : FnG P w K mg base CX0 (k + 1) f fd ps (PSp K R) := by
  have hN : ps.length ≤ N.length := by
    rw [← S.pre, List.length_take]
    omega
  refine okG F S (fun vs H Q E h => ?_) fun cdv A outer s H vs Q E hG hr h => ?_
  · obtain ⟨as, rd, a, r, _⟩ := h
    exact (Paired.length a).trans (hlen as rd r)
  · obtain ⟨as, rd, a, r, q⟩ := h
    obtain ⟨t, ht, hq⟩ := hbody cdv A outer s H E hG hr
    refine ⟨t, ht.nox, hq as rd r H _ ?_ (fun e ρ σ H2 env => ?_) _ H (env_start trivial a (by rw [hlen as rd r]; exact hN))⟩
    · cases rd with
      | d x => exact fun v H2 kp _ t => q v H2 (fun b o hb => kp b o hb (fun z => z)) t
      | n ds => exact fun p xs H2 kp _ n _ e t => q _ H2 (fun b o hb => kp b o hb (fun z => z)) ⟨p, xs, rfl, n, e, t⟩
    · subst e
      exact q .non H2 (fun b o hb => env.kp b o hb (fun z => z)) .non
/-! ### what is shown is short -/
structure Sh (k m : Nat) (d : PyData) : Prop where
  s : d.showable = true
  h : d.hasDict = false
  dp : d.depth ≤ k
  len : d.shown.length ≤ m
theorem Sh.shows {k m : Nat} {d : PyData} (h : Sh k m d) (hk : k ≤ 50 := by decide) (hm : m ≤ 100000 := by decide) : Shows d := ⟨h.s, h.h, Nat.le_trans h.dp hk, Nat.le_trans h.len hm⟩
theorem Sh.mono {k m k' m' : Nat} {d : PyData} (h : Sh k m d) (hk : k ≤ k' := by decide) (hm : m ≤ m' := by decide) : Sh k' m' d := ⟨h.s, h.h, Nat.le_trans h.dp hk, Nat.le_trans h.len hm⟩
theorem sh_int {i : Int} (h : i.natAbs < 10 ^ 9) : Sh 0 12 (.int i) := by
  refine ⟨?_, by simp [PyData.hasDict], by simp [PyData.depth], ?_⟩
  · have : i.natAbs.log2 < 1920 := by
      by_cases c : i.natAbs = 0
      · rw [c]; decide
      · have := (Nat.log2_lt c (k := 64)).mpr (Nat.lt_of_lt_of_le h (by decide))
        omega
    simp only [PyData.showable]
    exact decide_eq_true this
  · have := int_text_length_le10 (k := 9) (by decide) h
    show (Str.ofString (toString i)).length ≤ 12
    rw [PySem.ofString_length]
    omega
theorem sh_bl {b : Bool} : Sh 0 12 (.bool b) := ⟨by simp [PyData.showable], by simp [PyData.hasDict], by simp [PyData.depth], by cases b <;> decide +kernel⟩
theorem sh_non : Sh 0 12 .none := ⟨by simp [PyData.showable], by simp [PyData.hasDict], by simp [PyData.depth], by decide +kernel⟩
theorem shAll {k m : Nat} : ∀ {xs : List PyData}, (∀ x ∈ xs, Sh k m x) → PyData.showableAll xs = true ∧ PyData.hasDictAll xs = false ∧ PyData.depthAll xs ≤ k ∧ ((PyData.shownAll xs).map (·.length)).sum ≤ m * xs.length ∧ (PyData.shownAll xs).length = xs.length
  | [], _ => by simp [PyData.showableAll, PyData.hasDictAll, PyData.depthAll, PyData.shownAll]
  | x :: xs, h => by
    have h1 := h x (List.mem_cons_self ..)
    obtain ⟨a, b, c, d, e⟩ := shAll (xs := xs) fun y hy => h y (List.mem_cons_of_mem _ hy)
    refine ⟨by rw [PyData.showableAll, h1.s, a]; rfl, by rw [PyData.hasDictAll, h1.h, b]; rfl, ?_, ?_, ?_⟩
    · rw [PyData.depthAll]
      have := h1.dp
      omega
    · rw [PyData.shownAll, List.map_cons, List.sum_cons, List.length_cons, Nat.mul_succ]
      have := h1.len
      omega
    · rw [PyData.shownAll, List.length_cons, List.length_cons, e]
theorem sh_tup {k m n : Nat} {xs : List PyData} (h : ∀ x ∈ xs, Sh k m x) (hn : xs.length ≤ n) : Sh (k + 1) ((m + 2) * n + 3) (.tuple xs) := by
  obtain ⟨a, b, c, d, e⟩ := shAll h
  refine ⟨by simp only [PyData.showable]; exact a, by simp only [PyData.hasDict]; exact b, by simp only [PyData.depth]; omega, ?_⟩
  simp only [PyData.shown]
  have := tupleText_len_le (PyData.shownAll xs)
  rw [e] at this
  have h2 : m * xs.length + 2 * xs.length = (m + 2) * xs.length := by rw [Nat.add_mul]
  have h3 : (m + 2) * xs.length ≤ (m + 2) * n := Nat.mul_le_mul_left _ hn
  omega
theorem sh_lst {k m n : Nat} {xs : List PyData} (h : ∀ x ∈ xs, Sh k m x) (hn : xs.length ≤ n) : Sh (k + 1) ((m + 2) * n + 3) (.list xs) := by
  obtain ⟨a, b, c, d, e⟩ := shAll h
  refine ⟨by simp only [PyData.showable]; exact a, by simp only [PyData.hasDict]; exact b, by simp only [PyData.depth]; omega, ?_⟩
  simp only [PyData.shown]
  have := listText_len_le (PyData.shownAll xs)
  rw [e] at this
  have h2 : m * xs.length + 2 * xs.length = (m + 2) * xs.length := by rw [Nat.add_mul]
  have h3 : (m + 2) * xs.length ≤ (m + 2) * n := Nat.mul_le_mul_left _ hn
  omega
end Hd
namespace Hf
open PySem PySem.Spec PyProof.Rows L2 Hd Net
section
variable {P : Program} {w : World} {K : PySem.W.Frag} {mg : Str → Option Value} {base : Heap} {W : Wd} {H0 H H' : Hp} {σ : L2.St} {ρ ρ' ρ'' : List SD} {te ta tb tc te' : TE} {ts : TA} {g : TG} {D : Ends} {x y : PyData}
theorem clOfG {x : Str} {st : Stmt} {ps : List Str} {k : Nat} {sp : Sp} (F : FD K mg x st) (hb : ∀ (kV doc pm : Value) (an : Option Addr) (cdv ct : Value) (us : List Value), us.length = ps.length → bindArgs (PySem.W.fnOf x x (defArgs st) (defBody st) (defScope st) .none kV doc pm an cdv ct) ⟨us, []⟩ = pure (ps.zip us))
    (h : ∀ f fd, FunD K x x (defArgs st) (defBody st) (defScope st) [] [] f fd → FnG P w K mg base CX0 k f fd ps sp) : ClG P w K mg base x ps k sp := by
  obtain ⟨f, fd, F, hm⟩ := F
  exact ⟨f, fd, h f fd F, hm, F.kp, F.bindsN hb⟩
theorem sets_len : ∀ i, i ≤ 4 → (lawSets i).length ≤ 16 := by decide +kernel
def R__law_sorter (as : List AD) (rd : RD) : Prop := ∃ n : Nat, as = [.d (.int n)] ∧ rd = .d (eR (sorterLots n)) ∧ n ≤ 4
theorem cl__law_sorter (T : Txt mg) (F : FD K mg "_law_sorter" s__law_sorter) (C_law_sets : Cl P w K mg base "_law_sets" P__law_sets 1 (PSp K R__law_sets)) : Cl P w K mg base "_law_sorter" P__law_sorter 2 (PSp K R__law_sorter) :=
  clOf F (fun _ _ _ _ _ _ us hl => match us, hl with | [_], _ => rfl) fun f fd F => fnok F sc__law_sorter (by rintro as rd ⟨n, rfl, rfl, hn⟩; rfl) fun cdv A outer s H E hr => by
    have nd := sc__law_sorter.nd
    refine ⟨_, (pss_cons (ps_set (i := 1) nd rfl (by first | exact Or.inl rfl | exact Or.inr rfl) (pe_lst pa_nil))
      (pss_cons (ps_for PassesOwn.never rfl (pi_range1 (by rfl) T.b_range (pa_cons (pv 0) pa_nil)) (pg_name (i := 2) nd rfl (by first | exact Or.inl rfl | exact Or.inr rfl)) (pss_cons (ps_setLc (i := 3) (own := [("_law_told", 4)]) rfl nd rfl rfl (sw_true rfl rfl rfl (by decide +kernel)) (k_list rfl (pe_cl C_law_sets hr (pa_cons (pv 0) pa_nil))) (blkOk_by (by kernel_rfl)) (fun _ _ _ _ _ => pg_name (i := 4) nd rfl (Or.inl rfl)) (fun _ _ _ _ _ => pts_one (pt_cmpR op_eq (pe_callB (k_len rfl) (by rfl) T.b_len (by decide +kernel) (pa_cons (pv 4) pa_nil)) (pe_op op_sub (pv 0) (pv 2)) (nomark _))) (fun _ _ _ _ _ => (pv 4)))
      (pss_one (ps_expr (pe_bm PySem.F.plainAttrs_list PySem.F.slot_list_append PySem.F.type_list_append mt_append (pv 1) (pa_cons (pe_callTy (k_tupOf rfl) (by rfl) T.b_tuple (by decide +kernel) (pa_cons (pv 3) pa_nil)) pa_nil))))))
      (pss_one (ps_ret (pe_tup (pa_cons (pe_tup (pa_cons pe_int (pa_cons (pe_callTy (k_tupOf rfl) (by rfl) T.b_tuple (by decide +kernel) (pa_cons (pv 1) pa_nil)) pa_nil))) pa_nil)))))), ?_⟩
    rintro as rd ⟨n, rfl, rfl, hn⟩ H0 D hrt hnx
    have hset := sets_len n hn
    refine s_seq (s_asgN (en_lst eds_nil (by decide)) ?_)
    refine s_seq (s_forR (n := (n : Int)) (eds_cons (ed_var rfl) eds_nil) (by omega) (fun i => [.d (.int n), .l (((sorterLots n).take i).map eL), .u, .u, .u]) (by repeat' first | exact wk_nil | refine wk_u ?_ | refine wk_same ?_) _ (fun i _ => tg_name) (fun H0' u i hi => ?_) ?_)
    · have hi2 : i < n := by omega
      have hs : (sorterLots n)[i]? = some ((lawSets n).filter fun s => decide ((s.length : Int) = (n : Int) - (i : Int))) := by
        unfold sorterLots
        rw [List.getElem?_map, List.getElem?_range hi2]
        rfl
      refine s_seq (s_asgN (en_is (en_lcL (as := lawSets n) eS (fun s => decide (((s.map PyData.int).length : Int) = (n : Int) - (i : Int))) eS (en_call (ea_d (ed_var rfl) ea_nil) ⟨n, rfl, rfl, hn⟩).el (List.mem_cons_self ..) (by omega) (fun s hs => et_test (ed_eqI (ed_lenT (ed_var rfl)) (ed_opI0 (ed_var rfl) (ed_var rfl)))) (fun s _ _ => ed_var rfl)) (es := ((lawSets n).filter fun s => decide ((s.length : Int) = (n : Int) - (i : Int))).map eS) ?_) ?_)
      · congr 2
        funext s
        rw [List.length_map]
      refine s_app rfl (ed_tupL (el_varl rfl)) ?_ (nx_eq (ρ' := [.d (.int n), .l (((sorterLots n).take i).map eL ++ [eL ((lawSets n).filter fun s => decide ((s.length : Int) = (n : Int) - (i : Int)))]), .u, .u, .u]) ?_ (by repeat' first | exact wk_nil | refine wk_u ?_ | refine wk_same ?_))
      · rw [List.length_map, List.length_take]
        omega
      · rw [take_succ hs, List.map_append]
        rfl
    · refine s_ret (ed_tup (eds_cons (ed_tup (eds_cons ed_int (eds_cons (ed_is (ed_tupL (el_varl rfl)) (y := eLs (sorterLots n)) ?_) eds_nil)) (Nat.le_of_ble_eq_true rfl)) eds_nil) (Nat.le_of_ble_eq_true rfl)) hrt
      rw [List.take_of_length_le (by rw [sorter_len]; omega)]
/-! ### _law_like -/
def spLike (K : PySem.W.Frag) : Sp := fun vs H Q _ => ∃ v w d, vs = [v, w] ∧ Dp K H v d ∧ Dp K H w d ∧ Shows d ∧ Q (.bl true) H
theorem cl__law_like (T : Txt mg) (F : FD K mg "_law_like" s__law_like) : ClG P w K mg base "_law_like" P__law_like 1 (spLike K) :=
  clOfG F (fun _ _ _ _ _ _ us hl => match us, hl with | [_, _], _ => rfl) fun f fd F => okG F sc__law_like (by rintro vs H Q E ⟨v, w, d, rfl, _⟩; rfl) fun cdv A outer s H vs Q E hG hr h => by
    have nd := sc__law_like.nd
    refine ⟨_, PSs.nox (pss_one (ps_ret (pe_cmpR op_eq (pe_callB (k_repr rfl hG (hu64 hr)) (by rfl) T.b_repr (by decide +kernel) (pa_cons (pv 0) pa_nil)) (pe_callB (k_repr rfl hG (hu64 hr)) (by rfl) T.b_repr (by decide +kernel) (pa_cons (pv 1) pa_nil)) (nomark _)))), ?_⟩
    obtain ⟨v, w, d, rfl, d1, d2, hs, q⟩ := h
    refine ⟨v, rfl, v, d, rfl, d1, hs, w, rfl, w, d, rfl, d2, hs, rfl, ?_⟩
    show Q (.bl (decide (V.str d.shown = V.str d.shown))) H
    rw [decide_eq_true rfl]
    exact q
theorem ed_like {E : XK} (h : EA K W H0 ts ρ [.d x, .d x]) (hs : Shows x) : ED K W H0 (tCall (spLike K) [] E ts) ρ (.bool true) := fun σ H e Q q =>
  h σ H e _ fun vs H1 g a => by
    cases a with
    | cons a1 a2 =>
      cases a2 with
      | cons a2 a3 =>
        cases a3
        exact ⟨_, _, x, rfl, TV.dp a1, TV.dp a2, hs, q _ H1 g .bl⟩
theorem ed_likeL {E : XK} {xs : List PyData} (h : EA K W H0 ts ρ [.s xs, .s xs]) (hs : Shows (.list xs)) : ED K W H0 (tCall (spLike K) [] E ts) ρ (.bool true) := fun σ H e Q q =>
  h σ H e _ fun vs H1 g a => by
    cases a with
    | cons a1 a2 =>
      cases a2 with
      | cons a2 a3 =>
        cases a3
        obtain ⟨q1, ys1, e1, l1, t1⟩ := a1
        obtain ⟨q2, ys2, e2, l2, t2⟩ := a2
        subst e1 e2
        exact ⟨_, _, .list xs, rfl, l1.dp t1, l2.dp t2, hs, q _ H1 g .bl⟩
theorem sh_S {n : Nat} {s : List Int} (h : ∀ i ∈ s, i.natAbs < 10 ^ 9) (hn : s.length ≤ n) : Sh 1 (14 * n + 3) (eS s) := sh_tup (k := 0) (m := 12) (fun x hx => by
  obtain ⟨i, hi, rfl⟩ := List.mem_map.mp hx
  exact sh_int (h i hi)) (by rw [List.length_map]; exact hn)
theorem sh_F {row : List Int} (h : ∀ i ∈ row, i.natAbs < 10 ^ 9) (hn : row.length ≤ 4) : Sh 2 125 (eF row) := sh_tup (k := 1) (m := 59) (n := 2) (fun x hx => by
  rcases List.mem_cons.mp hx with e | e
  · rw [e]; exact (sh_int (by decide)).mono
  · rw [List.mem_singleton] at e
    rw [e]; exact sh_S (n := 4) h hn) (Nat.le_refl _)
theorem sh_R {n : Nat} {lots : List Lot} (hn : n ≤ 4) (g : GoodLots n lots) : Sh 5 2986 (eR lots) := by
  have h1 : ∀ l ∈ lots, Sh 2 369 (eL l) := fun l hl => sh_tup (k := 1) (m := 59) (n := 6) (fun x hx => by
    obtain ⟨s, hs, rfl⟩ := List.mem_map.mp hx
    refine sh_S (n := 4) (fun i hi => ?_) ?_
    · have := ((g.all l hl).sets s hs).2 i hi
      have e : (10 : Nat) ^ 9 = 1000000000 := by decide
      omega
    · have := (len_set (g.all l hl) hs).2
      omega) (by rw [List.length_map]; exact len_six hn (g.all l hl))
  have h2 : Sh 3 1487 (eLs lots) := sh_tup (k := 2) (m := 369) (n := 4) (fun x hx => by
    obtain ⟨l, hl, rfl⟩ := List.mem_map.mp hx
    exact h1 l hl) (by rw [List.length_map, g.len]; exact hn)
  have h3 : Sh 4 2981 (.tuple [.int 0, eLs lots]) := sh_tup (k := 3) (m := 1487) (n := 2) (fun x hx => by
    rcases List.mem_cons.mp hx with e | e
    · rw [e]; exact (sh_int (by decide)).mono
    · rw [List.mem_singleton] at e
      rw [e]; exact h2) (Nat.le_refl _)
  exact sh_tup (k := 4) (m := 2981) (n := 1) (fun x hx => by rw [List.mem_singleton] at hx; rw [hx]; exact h3) (Nat.le_refl _)
theorem exs_small {n : Nat} {row : List Int} {ts : List (Int × Int)} {b : Nat} (h : ∀ i ∈ row, i.natAbs < b) : ∀ i ∈ exs row ts, i.natAbs < b := by
  induction ts generalizing row with
  | nil => exact h
  | cons t ts ih =>
    refine ih (row := exStep row t) fun i hi => ?_
    unfold exStep at hi
    split at hi
    · rename_i hc
      have key : ∀ {l : List Int} {j : Nat} {z : Int}, (∀ i ∈ l, i.natAbs < b) → z.natAbs < b → ∀ i ∈ l.set j z, i.natAbs < b := fun hl hz i hi => by
        rcases List.mem_or_eq_of_mem_set hi with h1 | h1
        · exact hl i h1
        · rw [h1]; exact hz
      by_cases hb : row = []
      · subst hb; simp at hi
      · have b0 : 0 < b := by
          obtain ⟨y, hy⟩ := List.exists_mem_of_ne_nil _ hb
          have := h y hy
          omega
        have gd : ∀ j : Nat, (row.getD j 0).natAbs < b := fun j => by
          rw [List.getD_eq_getElem?_getD]
          cases hj : row[j]? with
          | none => exact b0
          | some z => exact h z (List.mem_of_getElem? hj)
        exact key (key h (gd _)) (gd _) i hi
    · exact h i hi
def R__law_leads (as : List AD) (rd : RD) : Prop := ∃ (n : Nat) (ts : List (Int × Int)), as = [.d (.int n), .d (eR (netLots n ts)), .d (eSts ts)] ∧ rd = .d (.bool true) ∧ StepsOk n ts
theorem cl__law_leads (T : Txt mg) (F : FD K mg "_law_leads" s__law_leads) (C_law_rows : Cl P w K mg base "_law_rows" P__law_rows 1 (PSp K R__law_rows)) (C_law_like : ClG P w K mg base "_law_like" P__law_like 1 (spLike K)) (C_law_risen : Cl P w K mg base "_law_risen" P__law_risen 2 (PSp K R__law_risen)) (C_law_exchanged : Cl P w K mg base "_law_exchanged" P__law_exchanged 1 (PSp K R__law_exchanged)) : ClG P w K mg base "_law_leads" P__law_leads 3 (PSp K R__law_leads) :=
  clOfG F (fun _ _ _ _ _ _ us hl => match us, hl with | [_, _, _], _ => rfl) fun f fd F => fnokG F sc__law_leads (by rintro as rd ⟨n, ts, rfl, rfl, hn, hl, hs⟩; rfl) fun cdv A outer s H E hG hr => by
    have nd := sc__law_leads.nd
    refine ⟨_, (pss_cons (ps_for PassesOwn.never rfl (k_list rfl (pe_cl C_law_rows hr (pa_cons (pv 0) (pa_cons pe_int pa_nil)))) (pg_name (i := 3) nd rfl (by first | exact Or.inl rfl | exact Or.inr rfl)) (pss_one (ps_if (pt_not (pt_val (pe_clG C_law_like hG hr (pa_cons (pe_cl C_law_risen hr (pa_cons (pv 1) (pa_cons (pe_tup (pa_cons pe_int (pa_cons (pv 3) pa_nil))) pa_nil))) (pa_cons (pe_tup (pa_cons pe_int (pa_cons (pe_cl C_law_exchanged hr (pa_cons (pv 3) (pa_cons (pv 2) pa_nil))) pa_nil))) pa_nil))))) (pss_one (ps_ret pe_bl)) pss_nil)))
      (pss_one (ps_ret pe_bl))), ?_⟩
    rintro as rd ⟨n, ts, rfl, rfl, hn, hl, hs⟩ H0 D hrt hnx
    refine s_seq (s_forN (en_call (ea_d (ed_var rfl) (ea_d ed_int ea_nil)) ⟨n, rfl, rfl, hn⟩) (fun _ => [.d (.int n), .d (eR (netLots n ts)), .d (eSts ts), .u]) (by repeat' first | exact wk_nil | refine wk_u ?_ | refine wk_same ?_) _ (fun i x _ => tg_name) (fun H0' u i x hx => ?_) ?_)
    · obtain ⟨row, hrow, rfl⟩ := map_at hx
      have hm := rows_small hn (List.mem_of_getElem? hrow)
      have sm : ∀ i ∈ exs row ts, i.natAbs < 10 ^ 9 := exs_small (n := n) fun i hi => by
        have := hm.2 i hi
        have e : (10 : Nat) ^ 9 = 1000000000 := by decide
        omega
      refine s_unless (et_is (et_not (et_B (ed_like (x := eF (exs row ts)) (ea_d (ed_is (ed_call (ea_d (ed_var rfl) (ea_d (ed_tup (eds_cons ed_int (eds_cons (ed_var rfl) eds_nil)) (Nat.le_of_ble_eq_true rfl)) ea_nil)) ⟨n, netLots n ts, row, rfl, rfl, hn, good_net hs, hm.1⟩) (by rw [risen_net hs hm.1]))
        (ea_d (ed_tup (eds_cons ed_int (eds_cons (ed_call (ea_d (ed_var rfl) (ea_d (ed_var rfl) ea_nil)) ⟨n, row, ts, rfl, rfl, hm.1, hn, hs⟩) eds_nil)) (Nat.le_of_ble_eq_true rfl)) ea_nil)) (sh_F sm (by rw [exs_len, hm.1]; exact hn)).shows))) rfl) (nx_turn (by repeat' first | exact wk_nil | refine wk_u ?_ | refine wk_same ?_))
    · exact s_ret ed_bl hrt
end
end Hf

set_option Elab.async false
set_option linter.all false
set_option maxRecDepth 100000
set_option maxHeartbeats 4000000
namespace Hf
open PySem PySem.Spec PyProof.Rows L2 Hd Net
theorem hu1 {k : Nat} {A : Around} (hr : Room k A) : A.units + 1 < cLine := by
  have := hr.un
  omega
section
variable {P : Program} {w : World} {K : PySem.W.Frag} {mg : Str → Option Value} {base : Heap} {W : Wd} {H0 H H' H2 : Hp} {σ : L2.St} {ρ ρ' ρ'' : List SD} {te ta tb tc te' : TE} {ts : TA} {g : TG} {D : Ends} {x y : PyData}
def mixed (c k : Int) : Int := (c % 2147483647 * (48271 + 2 * k * k) + 69621 * k + 11) % 2147483647 * 69621 % 2147483629
theorem mixed_range (c k : Int) : 0 ≤ mixed c k ∧ mixed c k < 2147483629 := ⟨Int.emod_nonneg _ (by decide), Int.emod_lt_of_pos _ (by decide)⟩
def R__law_mixed (as : List AD) (rd : RD) : Prop := ∃ c k : Int, as = [.d (.int c), .d (.int k)] ∧ rd = .d (.int (mixed c k)) ∧ 0 ≤ k ∧ k < 2 ^ 50
theorem cl__law_mixed (T : Txt mg) (F : FD K mg "_law_mixed" s__law_mixed)  : Cl P w K mg base "_law_mixed" P__law_mixed 1 (PSp K R__law_mixed) :=
  clOf F (fun _ _ _ _ _ _ us hl => match us, hl with | [_, _], _ => rfl) fun f fd F => fnok F sc__law_mixed (by rintro as rd ⟨c, k, rfl, rfl, h0, h1⟩; rfl) fun cdv A outer s H E hr => by
    have nd := sc__law_mixed.nd
    refine ⟨_, (pss_cons (ps_set (i := 0) nd rfl (by first | exact Or.inl rfl | exact Or.inr rfl) (pe_op op_mod (pe_callTy call_int1 (by rfl) T.b_int (by decide +kernel) (pa_cons (pv 0) pa_nil)) pe_int))
      (pss_one (ps_ret (pe_op op_mod (pe_op op_mul (pe_op op_mod (pe_op op_add (pe_op op_add (pe_op op_mul (pv 0) (pe_op op_add pe_int (pe_op op_mul (pe_op op_mul pe_int (pv 1)) (pv 1)))) (pe_op op_mul pe_int (pv 1))) pe_int) pe_int) pe_int) pe_int)))), ?_⟩
    rintro as rd ⟨c, k, rfl, rfl, h0, h1⟩ H0 D hrt hnx
    have m1 : 0 ≤ c % 2147483647 := Int.emod_nonneg _ (by decide)
    have m2 : c % 2147483647 < 2147483647 := Int.emod_lt_of_pos _ (by decide)
    have e64 : (2 : Int) ^ 64 = 18446744073709551616 := by decide
    have e50 : (2 : Int) ^ 50 = 1125899906842624 := by decide
    refine s_seq (s_asg (ed_opI (ed_int1 (ed_var rfl)) ed_int (by decide)) ?_)
    exact s_ret (ed_opI (ed_opI (ed_opI (ed_opI0 (ed_opI0 (ed_opI (ed_var rfl) (ed_opI0 ed_int (ed_opI (ed_opI ed_int (ed_var rfl) (.inl (by omega))) (ed_var rfl) (.inr (by omega)))) (.inl (by omega))) (ed_opI ed_int (ed_var rfl) (.inl (by omega)))) ed_int) ed_int (by decide)) ed_int (.inr (by omega))) ed_int (by decide)) hrt
/-! ### the state -/
abbrev stK (q1 q2 : Addr) (at_ : Int) : List (Key × V) := [(.inr "cells", .ref q1), (.inr "lefts", .ref q2), (.inr "at", .int at_)]
structure Stt (a q1 q2 : Addr) (k : Int) (H : Hp) : Prop where
  ex : ∃ (at_ : Int) (cs ls : List Int), 0 ≤ at_ ∧ at_ ≤ k ∧ H a = some (.dK (stK q1 q2 at_)) ∧ H q1 = some (.lst (cs.map V.int)) ∧ H q2 = some (.lst (ls.map V.int)) ∧ cs.length = ls.length ∧ 0 < cs.length
  ne : q1 ≠ q2
def Ws (a q1 q2 : Addr) (k : Int) : Wd := ⟨fun b => b = a ∨ b = q1 ∨ b = q2, Stt a q1 q2 k, fun H H' h e => by
  obtain ⟨⟨at_, cs, ls, h1, h2, h3, h4, h5, h6⟩, ne⟩ := h
  exact ⟨⟨at_, cs, ls, h1, h2, (e a (.inl rfl)).trans h3, (e q1 (.inr (.inl rfl))).trans h4, (e q2 (.inr (.inr rfl))).trans h5, h6⟩, ne⟩, fun H b h m => by
  obtain ⟨⟨at_, cs, ls, h1, h2, h3, h4, h5, h6⟩, ne⟩ := h
  rcases m with rfl | rfl | rfl
  · exact .inr ⟨_, h3⟩
  · exact .inl ⟨_, h4⟩
  · exact .inl ⟨_, h5⟩⟩
theorem kcl : ¬ ((Sum.inr "cells" : Key) = .inr "lefts") := by decide
theorem kca : ¬ ((Sum.inr "cells" : Key) = .inr "at") := by decide
theorem kla : ¬ ((Sum.inr "lefts" : Key) = .inr "at") := by decide
theorem v_cells {x y z : V} : valV [((.inr "cells" : Key), x), (.inr "lefts", y), (.inr "at", z)] (.inr "cells") = some x := valV_pos rfl
theorem v_lefts {x y z : V} : valV [((.inr "cells" : Key), x), (.inr "lefts", y), (.inr "at", z)] (.inr "lefts") = some y := (valV_neg kcl).trans (valV_pos rfl)
theorem v_at {x y z : V} : valV [((.inr "cells" : Key), x), (.inr "lefts", y), (.inr "at", z)] (.inr "at") = some z := (valV_neg kca).trans ((valV_neg kla).trans (valV_pos rfl))
theorem p_at {x y z u : V} : putK [((.inr "cells" : Key), x), (.inr "lefts", y), (.inr "at", z)] (.inr "at") u = [((.inr "cells" : Key), x), (.inr "lefts", y), (.inr "at", u)] := by
  have h1 : ((Sum.inr "cells" : Key) = .inr "at") = False := eq_false kca
  have h2 : ((Sum.inr "lefts" : Key) = .inr "at") = False := eq_false kla
  simp [putK, h1, h2]
def spDraw : Sp := fun vs H Q _ => ∃ (a q1 q2 : Addr) (k lim : Int), vs = [.ref a, .int lim] ∧ Stt a q1 q2 k H ∧ k < 2 ^ 40 ∧ 0 < lim ∧ lim < 1000000000 ∧ ∀ r H2, 0 ≤ r → r < lim → Kp (Ws a q1 q2 k) H H2 → Stt a q1 q2 (k + 1) H2 → Q (.int r) H2
theorem cl__law_draw (T : Txt mg) (F : FD K mg "_law_draw" s__law_draw) (C_law_mixed : Cl P w K mg base "_law_mixed" P__law_mixed 1 (PSp K R__law_mixed)) : Cl P w K mg base "_law_draw" P__law_draw 2 spDraw :=
  clOf F (fun _ _ _ _ _ _ us hl => match us, hl with | [_, _], _ => rfl) fun f fd F => F.ok sc__law_draw (by rintro vs H Q E ⟨a, q1, q2, k, lim, rfl, _⟩; rfl) fun cdv A outer s H vs Q E hr h => by
    have nd := sc__law_draw.nd
    refine ⟨_, PSs.nox (pss_cons (ps_set (i := 2) nd rfl (by first | exact Or.inl rfl | exact Or.inr rfl) (pe_dget (hu1 hr) (pv 0) pe_str (fun _ _ => rfl)))
      (pss_cons (ps_dput (hu1 hr) (pv 0) pe_str (pe_op op_add (pv 2) pe_int) (by rfl))
      (pss_cons (ps_set (i := 3) nd rfl (by first | exact Or.inl rfl | exact Or.inr rfl) (pe_op op_mod (pe_callTy call_int1 (by rfl) T.b_int (by decide +kernel) (pa_cons (pv 2) pa_nil)) (pe_callB (k_len rfl) (by rfl) T.b_len (by decide +kernel) (pa_cons (pe_dget (hu1 hr) (pv 0) pe_str (fun _ _ => rfl)) pa_nil))))
      (pss_cons (ps_set (i := 4) nd rfl (by first | exact Or.inl rfl | exact Or.inr rfl) (pe_ix (k_ixL rfl) (pe_dget (hu1 hr) (pv 0) pe_str (fun _ _ => rfl)) (pv 3) (fun _ _ => rfl)))
      (pss_cons (ps_if (pt_cmpR op_gt (pv 4) pe_int (nomark _)) (pss_cons (ps_asg (pe_op op_fdiv (pv 4) (pv 1)) (pg_sub (pe_dget (hu1 hr) (pv 0) pe_str (fun _ _ => rfl)) (pv 3) set_list))
      (pss_one (ps_ret (pe_op op_mod (pe_callTy call_int1 (by rfl) T.b_int (by decide +kernel) (pa_cons (pv 4) pa_nil)) (pv 1))))) pss_nil)
      (pss_cons (ps_set (i := 5) nd rfl (by first | exact Or.inl rfl | exact Or.inr rfl) (pe_cl C_law_mixed hr (pa_cons (pe_cl C_law_mixed hr (pa_cons (pe_ix (k_ixL rfl) (pe_dget (hu1 hr) (pv 0) pe_str (fun _ _ => rfl)) (pv 3) (fun _ _ => rfl)) (pa_cons (pv 2) pa_nil))) (pa_cons (pe_op op_add pe_int (pv 2)) pa_nil))))
      (pss_one (ps_ret (pe_op op_mod (pe_op op_fdiv (pe_callTy call_int1 (by rfl) T.b_int (by decide +kernel) (pa_cons (pe_op op_add (pe_op op_mul (pv 5) pe_int) (pe_cl C_law_mixed hr (pa_cons (pv 5) (pa_cons (pe_op op_add pe_int (pv 2)) pa_nil)))) pa_nil)) pe_int) (pv 1)))))))))), ?_⟩
    obtain ⟨a, q1, q2, k, lim, rfl, ⟨⟨at_, cs, ls, h0, h1, ha, hc, hl, len, pos⟩, ne⟩, hk, l0, l1, q⟩ := h
    have e40 : (2 : Int) ^ 40 = 1099511627776 := by decide
    have e50 : (2 : Int) ^ 50 = 1125899906842624 := by decide
    have e64 : (2 : Int) ^ 64 = 18446744073709551616 := by decide
    have na1 : q1 ≠ a := fun z => by rw [z, ha] at hc; cases hc
    have na2 : q2 ≠ a := fun z => by rw [z, ha] at hl; cases hl
    refine ⟨_, rfl, a, .int at_, rfl, by have := DGet.k (k := .inr "at") ha; rw [v_at] at this; exact this, ?_⟩
    refine ⟨_, rfl, at_, 1, rfl, rfl, _, rfl, a, _, rfl, DPut.k (k := .inr "at") ha (sz_lt (by show 3 < 100000; decide)), ?_⟩
    rw [p_at]
    generalize hH1 : upd H a (.dK [((.inr "cells" : Key), V.ref q1), (.inr "lefts", V.ref q2), (.inr "at", V.int (at_ + 1))]) = H1
    have ha1 : H1 a = some (.dK (stK q1 q2 (at_ + 1))) := by rw [← hH1]; exact upd_same
    have hc1 : H1 q1 = some (.lst (cs.map V.int)) := by rw [← hH1, upd_ne na1]; exact hc
    have hl1 : H1 q2 = some (.lst (ls.map V.int)) := by rw [← hH1, upd_ne na2]; exact hl
    have k1 : Kp (Ws a q1 q2 k) H H1 := fun b o hb hm => by
      rw [← hH1, upd_ne (fun z => hm (.inl z))]
      exact hb
    have posI : (0 : Int) < ((cs.map V.int).length : Int) := by rw [List.length_map]; omega
    have pr : 0 ≤ at_ % ((cs.map V.int).length : Int) ∧ at_ % ((cs.map V.int).length : Int) < ((cs.map V.int).length : Int) := ⟨Int.emod_nonneg _ (by omega), Int.emod_lt_of_pos _ posI⟩
    refine ⟨_, rfl, .inl ⟨at_, rfl, _, rfl, a, .ref q1, rfl, by have := DGet.k (k := .inr "cells") ha1; rw [v_cells] at this; exact this, q1, _, rfl, .inl (.inl (.inl hc1)), at_, _, rfl, rfl, posI, ?_⟩⟩
    have key : ∀ pl : Int, 0 ≤ pl → pl < ((cs.map V.int).length : Int) → ∃ lf c : Int, atI (ls.map V.int) pl = some (.int lf) ∧ atI (cs.map V.int) pl = some (.int c) ∧ ixN (ls.map V.int).length pl = some pl.toNat := fun pl p0 p1 => by
      rw [List.length_map] at p1
      obtain ⟨n, rfl⟩ : ∃ n : Nat, pl = n := ⟨pl.toNat, by omega⟩
      have hpl : n < ls.length := by omega
      have hpc : n < cs.length := by omega
      exact ⟨ls[n], cs[n], atI_nat (by rw [List.getElem?_map, List.getElem?_eq_getElem hpl]; rfl), atI_nat (by rw [List.getElem?_map, List.getElem?_eq_getElem hpc]; rfl), ixN_of p0 (by rw [List.length_map]; omega)⟩
    obtain ⟨lf, c, ixl, ixc, ixs⟩ := key _ pr.1 pr.2
    refine ⟨_, rfl, a, .ref q2, rfl, by have := DGet.k (k := .inr "lefts") ha1; rw [v_lefts] at this; exact this, _, rfl, q2, _, _, _, rfl, rfl, .inl (.inl hl1), ixl, ?_⟩
    refine ⟨_, rfl, lf, 0, rfl, rfl, ?_⟩
    refine ⟨decide (0 < lf), rfl, ?_⟩
    cases hlf : decide (0 < lf) with
    | true =>
      refine iteT ?_
      refine ⟨_, rfl, _, rfl, lf, lim, rfl, rfl, ⟨l0, by omega⟩, ?_⟩
      refine ⟨_, rfl, a, .ref q2, rfl, by have := DGet.k (k := .inr "lefts") ha1; rw [v_lefts] at this; exact this, _, rfl, q2, _, _, _, rfl, rfl, hl1, ixs, ?_⟩
      refine ⟨_, rfl, .inl ⟨lf, rfl, _, rfl, lf, lim, rfl, rfl, l0, ?_⟩⟩
      refine q _ _ (Int.emod_nonneg _ (by omega)) (Int.emod_lt_of_pos _ l0) (fun b o hb hm => ?_) ⟨⟨at_ + 1, cs, ls.set (at_ % ((cs.map V.int).length : Int)).toNat (lf / lim), by omega, by omega, ?_, ?_, ?_, by rw [List.length_set]; exact len, pos⟩, ne⟩
      · rw [upd_ne (fun z => hm (.inr (.inr z)))]
        exact k1 b o hb hm
      · rw [upd_ne (Ne.symm na2)]
        exact ha1
      · rw [upd_ne ne]
        exact hc1
      · rw [upd_same, List.map_set]
    | false =>
      refine iteF ?_
      refine ⟨_, rfl, a, .ref q1, rfl, by have := DGet.k (k := .inr "cells") ha1; rw [v_cells] at this; exact this, _, rfl, q1, _, _, _, rfl, rfl, .inl (.inl hc1), ixc, ?_⟩
      refine ⟨_, rfl, [.d (.int c), .d (.int at_)], _, .cons .int (.cons .int .nil), ⟨c, at_, rfl, rfl, h0, by omega⟩, fun v H2 s2 t2 => ?_⟩
      have t2' := TV.int_inv t2
      subst t2'
      refine ⟨_, rfl, 40, at_, rfl, rfl, [.d (.int (mixed c at_)), .d (.int (40 + at_))], _, .cons .int (.cons .int .nil), ⟨mixed c at_, 40 + at_, rfl, rfl, by omega, by omega⟩, fun v H3 s3 t3 => ?_⟩
      have t3' := TV.int_inv t3
      subst t3'
      refine ⟨_, rfl, _, 2147483647, rfl, rfl, .inr (by omega), _, rfl, _, rfl, 7, at_, rfl, rfl, [.d (.int (mixed (mixed c at_) (40 + at_))), .d (.int (7 + at_))], _, .cons .int (.cons .int .nil), ⟨_, 7 + at_, rfl, rfl, by omega, by omega⟩, fun v H4 s4 t4 => ?_⟩
      have t4' := TV.int_inv t4
      subst t4'
      refine ⟨_, _, rfl, rfl, .inl ⟨_, rfl, _, 64, rfl, rfl, ⟨by decide, by decide⟩, _, rfl, _, lim, rfl, rfl, l0, ?_⟩⟩
      have s : Same H1 H4 := fun b o hb => s4 b o (s3 b o (s2 b o hb))
      exact q _ _ (Int.emod_nonneg _ (by omega)) (Int.emod_lt_of_pos _ l0) (fun b o hb hm => s b o (k1 b o hb hm)) ⟨⟨at_ + 1, cs, ls, by omega, by omega, s _ _ ha1, s _ _ hc1, s _ _ hl1, len, pos⟩, ne⟩
end
end Hf

set_option Elab.async false
set_option linter.all false
set_option maxRecDepth 100000
set_option maxHeartbeats 4000000
namespace Hf
open PySem PySem.Spec PyProof.Rows L2 Hd Net
section
variable {P : Program} {w : World} {K : PySem.W.Frag} {mg : Str → Option Value} {base : Heap} {W : Wd} {H0 H H' H2 : Hp} {σ : L2.St} {ρ ρ' ρ'' : List SD} {te ta tb tc te' tl : TE} {ts : TA} {g : TG} {D : Ends} {x y : PyData} {a q1 q2 : Addr} {k k' : Int}
theorem Stt.mono (h : Stt a q1 q2 k H) (le : k ≤ k') : Stt a q1 q2 k' H := by
  obtain ⟨⟨at_, cs, ls, h1, h2, h3⟩, ne⟩ := h
  exact ⟨⟨at_, cs, ls, h1, Int.le_trans h2 le, h3⟩, ne⟩
theorem envS_mono (e : Env K (Ws a q1 q2 k) H0 σ H ρ) (le : k ≤ k') : Env K (Ws a q1 q2 k') H0 σ H ρ :=
  ⟨e.len, Stt.mono e.j le, e.kp, fun i sd hi => by
    have h := e.slot i sd hi
    cases sd with
    | d x => exact h
    | s ds => exact h
    | l ds => exact h
    | u => trivial
    | r b => exact h, e.sep⟩
theorem envS_next (e : Env K (Ws a q1 q2 k) H0 σ H ρ) (kp : Kp (Ws a q1 q2 k) H H2) (j : Stt a q1 q2 k' H2) (le : k ≤ k') : Env K (Ws a q1 q2 k') H0 σ H2 ρ := (envS_mono e le).gr ⟨kp, j⟩
/-- a draw -/
theorem t_draw {lim : Int} {i : Nat} {E : XK} (e : Env K (Ws a q1 q2 k) H0 σ H ρ) (hi : ρ[i]? = some (.r a)) (hl : ED K (Ws a q1 q2 k) H0 tl ρ (.int lim)) (hk : k < 2 ^ 40) (l0 : 0 < lim) (l1 : lim < 1000000000) {Q : VK}
    (q : ∀ r H2, 0 ≤ r → r < lim → Kp (Ws a q1 q2 k) H H2 → Stt a q1 q2 (k + 1) H2 → Q (.int r) H2) : tCall spDraw [] E (tCons (tVar i) (tCons tl tNil)) σ H Q :=
  ⟨.ref a, e.slot i _ hi, hl σ H e _ fun v H1 g t => ⟨a, q1, q2, k, lim, by rw [t.int_inv]; rfl, g.2, hk, l0, l1, fun r H2 r0 r1 kp j => q r H2 r0 r1 (g.1.trans kp) j⟩⟩
def spSteps (K : PySem.W.Frag) : Sp := fun vs H Q _ => ∃ (a q1 q2 : Addr) (k : Int) (n : Nat), vs = [.ref a, .int n, .int 4] ∧ Stt a q1 q2 k H ∧ k < 2 ^ 30 ∧ 2 ≤ n ∧ n ≤ 4 ∧ ∀ (ts : List (Int × Int)) v H2, ts.length ≤ 4 → (∀ t ∈ ts, StepOk n t) → Kp (Ws a q1 q2 k) H H2 → Stt a q1 q2 (k + 9) H2 → TV K H2 v (eSts ts) → Q v H2
theorem cl__law_steps (T : Txt mg) (F : FD K mg "_law_steps" s__law_steps) (C_law_draw : Cl P w K mg base "_law_draw" P__law_draw 2 spDraw) : Cl P w K mg base "_law_steps" P__law_steps 3 (spSteps K) :=
  clOf F (fun _ _ _ _ _ _ us hl => match us, hl with | [_, _, _], _ => rfl) fun f fd F => F.ok sc__law_steps (by rintro vs H Q E ⟨a, q1, q2, k, n, rfl, _⟩; rfl) fun cdv A outer s H vs Q E hr h => by
    have nd := sc__law_steps.nd
    refine ⟨_, PSs.nox (pss_cons (ps_set (i := 3) nd rfl (by first | exact Or.inl rfl | exact Or.inr rfl) (pe_tup pa_nil))
      (pss_cons (ps_for PassesOwn.never rfl (pi_range1 (by rfl) T.b_range (pa_cons (pe_cl C_law_draw hr (pa_cons (pv 0) (pa_cons (pe_op op_add (pv 2) pe_int) pa_nil))) pa_nil)) (pg_name (i := 4) nd rfl (by first | exact Or.inl rfl | exact Or.inr rfl)) (pss_cons (ps_set (i := 5) nd rfl (by first | exact Or.inl rfl | exact Or.inr rfl) (pe_cl C_law_draw hr (pa_cons (pv 0) (pa_cons (pe_op op_sub (pv 1) pe_int) pa_nil))))
      (pss_one (ps_set (i := 3) nd rfl (by first | exact Or.inl rfl | exact Or.inr rfl) (pe_op (k_catA rfl) (pv 3) (pe_tup (pa_cons (pe_tup (pa_cons (pv 5) (pa_cons (pe_op op_add (pe_op op_add (pv 5) pe_int) (pe_cl C_law_draw hr (pa_cons (pv 0) (pa_cons (pe_op op_sub (pe_op op_sub (pv 1) (pv 5)) pe_int) pa_nil)))) pa_nil))) pa_nil)))))))
      (pss_one (ps_ret (pv 3))))), ?_⟩
    obtain ⟨a, q1, q2, k, n, rfl, hst, hk, n2, n4, q⟩ := h
    have e40 : (2 : Int) ^ 40 = 1099511627776 := by decide
    have e30 : (2 : Int) ^ 30 = 1073741824 := by decide
    have e0 : Env K (Ws a q1 q2 k) H (L2.start N__law_steps [.ref a, .int n, .int 4]) H [.r a, .d (.int n), .d (.int 4), .u, .u, .u] :=
      env_start (N := N__law_steps) (as := [.r a, .d (.int n), .d (.int 4)]) hst (.cons rfl (.cons .int (.cons .int .nil))) (Nat.le_of_ble_eq_true rfl)
    refine (s_seq (W := Ws a q1 q2 k) (H0 := H) (s_asg (x := eSts []) (ed_tup eds_nil (by decide)) ?_) : SDo K (Ws a q1 q2 k) H _ _ _) _ _ e0
    intro σ1 H1 e1
    refine t_draw e1 rfl (ed_opI0 (ed_var rfl) ed_int) (by omega) (by decide) (by decide) fun r H2 r0 r1 kp2 st2 => ?_
    have e2 := envS_next e1 kp2 st2 (by omega)
    refine ⟨r, rfl, by omega, by omega, ?_⟩
    refine for_range (fun i σ' H' => ∃ ts : List (Int × Int), Env K (Ws a q1 q2 (k + 1 + 2 * i)) H σ' H' [.r a, .d (.int n), .d (.int 4), .d (eSts ts), .u, .u] ∧ ts.length = i ∧ ∀ t ∈ ts, StepOk n t) ⟨[], envS_mono e2 (by omega), rfl, by simp⟩ (fun i σ' H' hi ⟨ts, e3, h1, h2⟩ => ?_) (fun σ' H' ⟨ts, e3, h1, h2⟩ => ?_)
    · have e4 := e3.setD (K := K) (v := .int (0 + (i : Nat))) (x := .int (0 + (i : Nat))) .int 4
      refine t_draw (σ := σ'.set 4 (some (.int (0 + (i : Nat))))) e4 rfl (ed_opI0 (ed_var rfl) ed_int) (by omega) (by omega) (by omega) fun nr H5 n0 n1 kp5 st5 => ?_
      have e5 := (envS_next e4 kp5 st5 (by omega)).setD (K := K) (v := .int nr) (x := .int nr) .int 5
      obtain ⟨v1, s1, t6⟩ := e5.slot 3 (.d (eSts ts)) rfl
      obtain ⟨v2, s2, t7⟩ := e5.slot 5 (.d (.int nr)) rfl
      refine ⟨v1, s1, v2, s2, v2, s2, nr, 1, t7.int_inv, rfl, ?_⟩
      refine t_draw e5 rfl (ed_opI0 (ed_opI0 (ed_var rfl) (ed_var rfl)) ed_int) (by omega) (by omega) (by omega) fun fr H9 f0 f1 kp9 st9 => ?_
      have e9 := envS_next e5 kp9 st9 (by omega)
      have tk9 : Tk H5 H9 := Kp.tk e5.j kp9
      refine ⟨nr + 1, fr, rfl, rfl, sz_of (Nat.le_of_ble_eq_true rfl), fun p1 hp1 => ?_⟩
      obtain ⟨gp, tp⟩ := TV.tup_new (W := Ws a q1 q2 (k + 1 + 2 * i + 1 + 1)) (K := K) (ys := [v2, .int (nr + 1 + fr)]) (xs := [.int nr, .int (nr + 1 + fr)]) e9.j hp1 (.cons (by rw [t7.int_inv]; exact .int) (.cons .int .nil))
      have e10 := e9.gr gp
      refine ⟨sz_of (Nat.le_of_ble_eq_true rfl), fun p2 hp2 => ?_⟩
      obtain ⟨gq, tq⟩ := TV.tup_new (W := Ws a q1 q2 (k + 1 + 2 * i + 1 + 1)) (K := K) (ys := [.ref p1]) (xs := [eSt (nr, nr + 1 + fr)]) e10.j hp2 (.cons tp .nil)
      have e11 := e10.gr gq
      have t6' := ((t6.tk tk9).tk (gp.1.tk e9.j)).tk (gq.1.tk e10.j)
      obtain ⟨b1, us, eb, sb, rb⟩ := t6'.tup_inv
      obtain ⟨b2, vs2, eb2, sb2, rb2⟩ := tq.tup_inv
      have hl1 : us.length = ts.length := by rw [rb.length, List.length_map]
      have hl2 : vs2.length = 1 := rb2.length
      have okt : ∀ t ∈ ts ++ [(nr, nr + 1 + fr)], StepOk n t := fun t ht => by
        rcases List.mem_append.mp ht with h3 | h3
        · exact h2 t h3
        · rw [List.mem_singleton] at h3
          subst h3
          exact ⟨n0, by show nr < nr + 1 + fr; omega, by show nr + 1 + fr < n; omega⟩
      have fin : ∀ v H12, Env K (Ws a q1 q2 (k + 1 + 2 * i + 1 + 1)) H ((σ'.set 4 (some (.int (0 + (i : Nat))))).set 5 (some (.int nr))) H12 [.r a, .d (.int n), .d (.int 4), .d (eSts ts), .d (.int (0 + (i : Nat))), .d (.int nr)] → TV K H12 v (eSts (ts ++ [(nr, nr + 1 + fr)])) →
          ∃ ts' : List (Int × Int), Env K (Ws a q1 q2 (k + 1 + 2 * ((i + 1 : Nat) : Int))) H (((σ'.set 4 (some (.int (0 + (i : Nat))))).set 5 (some (.int nr))).set 3 (some v)) H12 [.r a, .d (.int n), .d (.int 4), .d (eSts ts'), .u, .u] ∧ ts'.length = i + 1 ∧ ∀ t ∈ ts', StepOk n t := fun v H12 e12 t12 =>
        ⟨ts ++ [(nr, nr + 1 + fr)], envS_mono ((e12.setD t12 3).wk (by repeat' first | exact wk_nil | refine wk_u ?_ | refine wk_same ?_)) (by omega), by rw [List.length_append, h1]; rfl, okt⟩
      refine ⟨b1, p2, us, vs2, eb, rfl, sb, by cases eb2; exact sb2, by rw [hl1, hl2, h1]; exact sz_of (by omega), fun z => ?_, fun _ z => absurd hl2 (by rw [z]; decide), fun _ _ p3 hp3 => ?_⟩
      · have z2 : ts = [] := by
          rw [z] at hl1
          exact List.length_eq_zero_iff.mp hl1.symm
        refine fin (.ref p2) _ e11 ?_
        rw [z2]
        exact tq
      · obtain ⟨gr, tr⟩ := TV.tup_new (W := Ws a q1 q2 (k + 1 + 2 * i + 1 + 1)) (K := K) (ys := us ++ vs2) (xs := ts.map eSt ++ [eSt (nr, nr + 1 + fr)]) e11.j hp3 (rb.append rb2)
        refine fin (.ref p3) _ (e11.gr gr) ?_
        show TV K _ _ (.tuple _)
        rw [List.map_append]
        exact tr
    · obtain ⟨v, s1, t4⟩ := e3.slot 3 (.d (eSts ts)) rfl
      refine ⟨v, s1, ?_⟩
      exact q ts v H' (by omega) h2 (fun b o hb hm => e3.kp b o hb hm) (Stt.mono e3.j (by omega)) t4
/-! ### the state's start -/
def spBegin (K : PySem.W.Frag) : Sp := fun vs H Q _ => ∃ (p : Addr) (ns : List Int), vs = [.ref p] ∧ SqL K H p (ns.map V.int) ∧ ns.length ≤ 40000 ∧ ∀ a q1 q2 H2, H a = none → H q1 = none → H q2 = none → Same H H2 → Stt a q1 q2 0 H2 → Q (.ref a) H2
end
end Hf

set_option Elab.async false
set_option linter.all false
set_option maxRecDepth 100000
set_option maxHeartbeats 4000000
namespace Hf
open PySem PySem.Spec PyProof.Rows L2 Hd Net
section
variable {P : Program} {w : World} {K : PySem.W.Frag} {mg : Str → Option Value} {base : Heap} {W : Wd} {H0 H H' H2 : Hp} {σ : L2.St} {ρ ρ' ρ'' : List SD} {te ta tb tc te' tl : TE} {ts : TA} {g : TG} {D : Ends} {x y : PyData} {a q1 q2 : Addr} {k k' : Int}
theorem nxS_mono {f : L2.St → Hp → Prop} (le : k ≤ k') (h : Nx K (Ws a q1 q2 k') H0 f ρ) : Nx K (Ws a q1 q2 k) H0 f ρ := fun σ H e => h σ H (envS_mono e le)
theorem t_steps {i j : Nat} {n : Nat} {E : XK} (e : Env K (Ws a q1 q2 k) H0 σ H ρ) (hi : ρ[i]? = some (.r a)) (hn : ρ[j]? = some (.d (.int n))) (hk : k < 2 ^ 30) (n2 : 2 ≤ n) (n4 : n ≤ 4) {Q : VK}
    (q : ∀ (ts : List (Int × Int)) v H2, ts.length ≤ 4 → (∀ t ∈ ts, StepOk n t) → Kp (Ws a q1 q2 k) H H2 → Stt a q1 q2 (k + 9) H2 → TV K H2 v (eSts ts) → Q v H2) : tCall (spSteps K) [] E (tCons (tVar i) (tCons (tVar j) (tCons (tC (.int 4)) tNil))) σ H Q := by
  obtain ⟨v, h1, h2⟩ := e.slot j _ hn
  exact ⟨.ref a, e.slot i _ hi, v, h1, a, q1, q2, k, n, by rw [h2.int_inv]; rfl, e.j, hk, n2, n4, q⟩
/-- near, far = steps, steps -/
theorem s_steps2 {i j l m : Nat} {n : Nat} {E : XK} (hi : ρ[i]? = some (.r a)) (hn : ρ[j]? = some (.d (.int n))) (hk : k + 9 < 2 ^ 30) (n2 : 2 ≤ n) (n4 : n ≤ 4)
    (q : ∀ ts us : List (Int × Int), ts.length ≤ 4 → us.length ≤ 4 → (∀ t ∈ ts, StepOk n t) → (∀ t ∈ us, StepOk n t) → Nx K (Ws a q1 q2 (k + 18)) H0 D.nx ((ρ.set l (.d (eSts ts))).set m (.d (eSts us)))) :
    SDo K (Ws a q1 q2 k) H0 (tPar l m (tCons (tCall (spSteps K) [] E (tCons (tVar i) (tCons (tVar j) (tCons (tC (.int 4)) tNil)))) (tCons (tCall (spSteps K) [] E (tCons (tVar i) (tCons (tVar j) (tCons (tC (.int 4)) tNil)))) tNil))) D ρ := fun σ H e => by
  refine t_steps e hi hn (by omega) n2 n4 fun ts v H1 l1 o1 kp1 st1 tv => ?_
  have e1 := envS_next e kp1 st1 (by omega)
  refine t_steps e1 hi hn (by omega) n2 n4 fun us u H2 l2 o2 kp2 st2 tu => ?_
  have e2 := envS_next e1 kp2 st2 (by omega)
  exact ⟨v, u, rfl, q ts us l1 l2 o1 o2 _ _ ((envS_mono (k' := k + 18) e2 (by omega)).setD (tv.tk (Kp.tk e1.j kp2)) l |>.setD tu m)⟩
/-- tuple([draw(9) for .. in range(n)]) -/
theorem s_drawn {i j l m : Nat} {n : Nat} {E : XK} (hi : ρ[i]? = some (.r a)) (hn : ρ[j]? = some (.d (.int n))) (hij : i ≠ l) (hk : k + 4 < 2 ^ 40) (n4 : n ≤ 4)
    (q : ∀ row : List Int, row.length = n → (∀ z ∈ row, 0 ≤ z ∧ z < 9) → Nx K (Ws a q1 q2 (k + 4)) H0 D.nx (ρ.set m (.d (eS row)))) :
    SDo K (Ws a q1 q2 k) H0 (tAsg (tCB (rTupOf K) (tCons (tLc (iRng1 (tCons (tVar j) tNil)) (gName l) tYes (tCall spDraw [] E (tCons (tVar i) (tCons (tC (.int 9)) tNil))) [l]) tNil)) (gName m)) D ρ := fun σ H e => by
  obtain ⟨v, h1, h2⟩ := e.slot j _ hn
  refine ⟨v, h1, n, by rw [h2.int_inv], by omega, by omega, fun Dl hD => ?_⟩
  have eD := e.same (same_new (o := .lst []) hD)
  obtain ⟨n0, nM⟩ := e.new hD
  refine lc_range (lo := 0) (n := (n : Int).toNat) (fun i H' => ∃ row : List Int, Env K (Ws a q1 q2 (k + i)) H0 σ H' ρ ∧ row.length = i ∧ (∀ z ∈ row, 0 ≤ z ∧ z < 9) ∧ H' Dl = some (.lst (row.map V.int))) ⟨[], envS_mono eD (by omega), rfl, by simp, upd_same⟩ (fun c H' hc ⟨row, e1, r1, r2, r3⟩ => ?_) (fun H' ⟨row, e1, r1, r2, r3⟩ => ?_)
  · refine ⟨wipe_wipe (List.mem_cons_self ..), ?_⟩
    simp only [tYes, ↓reduceIte]
    have ew := (e1.wipe [l]).setD (K := K) (v := .int ((0 : Int) + (c : Int))) (x := .int ((0 : Int) + (c : Int))) .int l
    have hi' : ((wipeD ρ [l]).set l (.d (.int ((0 : Int) + (c : Int)))))[i]? = some (.r a) := by
      rw [List.getElem?_set_ne (Ne.symm hij)]
      show (ρ.set l .u)[i]? = _
      rw [List.getElem?_set_ne (Ne.symm hij)]
      exact hi
    refine t_draw ew hi' ed_int (by omega) (by decide) (by decide) fun r H3 r0 r1' kp st => ?_
    have nM3 : ¬ (Ws a q1 q2 (k + c)).M Dl := nM
    have d3 := kp _ _ r3 nM3
    have e3 := envS_next e1 kp st (by omega)
    refine ⟨row.map V.int, d3, by rw [List.length_map]; exact sz_lt (by omega), row ++ [r], ?_, by rw [List.length_append, r1]; rfl, fun z hz => ?_, ?_⟩
    · have := e3.updNew (ys := row.map V.int) (zs := row.map V.int ++ [.int r]) n0 nM d3 fun j es hj z => e.ne_new hD hj z rfl
      exact envS_mono this (by omega)
    · rcases List.mem_append.mp hz with h | h
      · exact r2 z h
      · rw [List.mem_singleton] at h
        rw [h]; exact ⟨r0, r1'⟩
    · rw [upd_same, List.map_append]
      rfl
  · refine ⟨Dl, _, rfl, .inl ⟨.inl (.inl r3), fun T hT => ?_⟩⟩
    obtain ⟨gT, tT⟩ := TV.tup_new (W := Ws a q1 q2 (k + ((n : Int).toNat : Nat))) (K := K) (ys := row.map V.int) (xs := row.map PyData.int) e1.j hT .ints
    exact q row (by omega) r2 _ _ ((envS_mono (e1.gr gT) (by omega)).setD tT m)
theorem unsorted_eq {n : Nat} {ts : List (Int × Int)} (hs : ∀ t ∈ ts, StepOk n t) (hn : n ≤ 4) : (unsorted n (netLots n ts)).isEmpty = (bitRows n).all fun row => decide (exs row ts = sortI row) := by
  unfold unsorted
  have e : ∀ row ∈ bitRows n, risen (netLots n ts) row = exs row ts := fun row hr => risen_net hs (rows_small hn hr).1
  generalize bitRows n = l at e
  induction l with
  | nil => rfl
  | cons r l ih =>
    have ih2 := ih fun row hr => e row (List.mem_cons_of_mem _ hr)
    rw [List.all_cons, List.filter_cons, e r (List.mem_cons_self ..), ← ih2]
    cases decide (exs r ts = sortI r) <;> simp
theorem cut_last {ts : List (Int × Int)} {t : Int × Int} (h : ts.getLast? = some t) : Hd.cutD (ts.map eSt) (some (-1)) none = [t].map eSt := by
  obtain ⟨l, rfl⟩ := List.getLast?_eq_some_iff.mp h
  unfold Hd.cutD
  have e1 : HT.sIx ((l ++ [t]).map eSt).length 0 (some (-1)) = l.length := by
    show (if (-1 : Int) < 0 then ((-1 : Int) + ((((l ++ [t]).map eSt).length : Nat) : Int)).toNat else min (-1 : Int).toNat ((l ++ [t]).map eSt).length) = l.length
    rw [if_pos (by decide), List.length_map, List.length_append]
    show ((-1 : Int) + ((l.length + 1 : Nat) : Int)).toNat = l.length
    omega
  rw [e1, HT.sIx_none, List.length_map, List.length_append, List.map_append, List.drop_append_of_le_length (by rw [List.length_map]; exact Nat.le_refl _)]
  rw [List.drop_of_length_le (by rw [List.length_map]; exact Nat.le_refl _)]
  show ([t].map eSt).take (l.length + 1 - l.length) = _
  rw [show l.length + 1 - l.length = 1 by omega]
  rfl
theorem EDs_two (h1 : ED K W H0 ta ρ x) (h2 : ED K W H0 tb ρ y) : EDs K W H0 (tCons ta (tCons tb tNil)) ρ [x, y] := eds_cons h1 (eds_cons h2 eds_nil)
def spRight : Sp := fun vs H Q _ => ∃ (a q1 q2 : Addr) (k : Int) (n : Nat), vs = [.ref a, .int n] ∧ Stt a q1 q2 k H ∧ k < 2 ^ 29 ∧ n ∈ [2, 3, 4] ∧ ∀ H2, Kp (Ws a q1 q2 k) H H2 → Stt a q1 q2 (k + 30) H2 → Q (.bl true) H2
theorem small9 {i : Int} (h : 0 ≤ i ∧ i < 10) : i.natAbs < 10 ^ 9 := by
  have e : (10 : Nat) ^ 9 = 1000000000 := by decide
  omega
theorem cl__law_right (T : Txt mg) (F : FD K mg "_law_right" s__law_right) (C_law_steps : Cl P w K mg base "_law_steps" P__law_steps 3 (spSteps K)) (C_law_draw : Cl P w K mg base "_law_draw" P__law_draw 2 spDraw) (C_network : Cl P w K mg base "network" P_network 4 (PSp K R_network)) (C_law_like : ClG P w K mg base "_law_like" P__law_like 1 (spLike K))
    (C_need_riser : Cl P w K mg base "need_riser" P_need_riser 5 (PSp K R_need_riser)) (C_law_rows : Cl P w K mg base "_law_rows" P__law_rows 1 (PSp K R__law_rows)) (C_law_exchanged : Cl P w K mg base "_law_exchanged" P__law_exchanged 1 (PSp K R__law_exchanged)) (C_law_risen : Cl P w K mg base "_law_risen" P__law_risen 2 (PSp K R__law_risen))
    (C_riser_done : Cl P w K mg base "riser_done" P_riser_done 6 (PSp K R_riser_done)) (C_law_leads : ClG P w K mg base "_law_leads" P__law_leads 3 (PSp K R__law_leads)) (C_riser_behind : Cl P w K mg base "riser_behind" P_riser_behind 5 (PSp K R_riser_behind)) (C_is_sorter : Cl P w K mg base "is_sorter" P_is_sorter 5 (PSp K R_is_sorter)) (C_law_sorter : Cl P w K mg base "_law_sorter" P__law_sorter 2 (PSp K R__law_sorter)) :
    ClG P w K mg base "_law_right" P__law_right 7 spRight :=
  clOfG F (fun _ _ _ _ _ _ us hl => match us, hl with | [_, _], _ => rfl) fun f fd F => okG F sc__law_right (by rintro vs H Q E ⟨a, q1, q2, k, n, rfl, _⟩; rfl) fun cdv A outer s H vs Q E hG hr h => by
    have nd := sc__law_right.nd
    refine ⟨_, PSs.nox (pss_cons (ps_par (i := 2) (j := 3) rfl nd rfl rfl (by decide) rfl rfl (pa_cons (pe_cl C_law_steps hr (pa_cons (pv 0) (pa_cons (pv 1) (pa_cons pe_int pa_nil)))) (pa_cons (pe_cl C_law_steps hr (pa_cons (pv 0) (pa_cons (pv 1) (pa_cons pe_int pa_nil)))) pa_nil)) (by rfl))
      (pss_cons (ps_par (i := 4) (j := 5) rfl nd rfl rfl (by decide) rfl rfl (pa_cons (pe_tup (pa_cons (pv 1) pa_nil)) (pa_cons (pe_cl C_network hr (pa_cons (pv 1) (pa_cons (pe_op (k_catA rfl) (pv 2) (pv 3)) pa_nil))) pa_nil)) (by rfl))
      (pss_cons (ps_if (pt_not (pt_val (pe_clG C_law_like hG hr (pa_cons (pe_cl C_need_riser hr (pa_cons (pv 4) (pa_cons (pv 4) (pa_cons (pv 5) pa_nil)))) (pa_cons (pv 5) pa_nil))))) (pss_one (ps_ret pe_bl)) pss_nil)
      (pss_cons (ps_set (i := 6) nd rfl (by first | exact Or.inl rfl | exact Or.inr rfl) (pe_callTy (k_tupOf rfl) (by rfl) T.b_tuple (by decide +kernel) (pa_cons (pe_lc (own := [("_law_spot", 7)]) rfl nd (pi_range1 (by rfl) T.b_range (pa_cons (pv 1) pa_nil)) (blkOk_by (by kernel_rfl)) (fun _ _ _ _ _ => pg_name (i := 7) nd rfl (Or.inl rfl)) (fun _ _ _ _ _ => pts_nil) (fun _ _ _ _ _ => (pe_cl C_law_draw hr (pa_cons (pv 0) (pa_cons pe_int pa_nil))))) pa_nil)))
      (pss_cons (ps_for PassesOwn.never rfl (k_list rfl (pe_op op_cat (pe_cl C_law_rows hr (pa_cons (pv 1) (pa_cons pe_int pa_nil))) (pe_lst (pa_cons (pv 6) pa_nil)))) (pg_name (i := 8) nd rfl (by first | exact Or.inl rfl | exact Or.inr rfl)) (pss_cons (ps_set (i := 9) nd rfl (by first | exact Or.inl rfl | exact Or.inr rfl) (pe_tup (pa_cons pe_int (pa_cons (pe_cl C_law_exchanged hr (pa_cons (pv 8) (pa_cons (pe_op (k_catA rfl) (pv 2) (pv 3)) pa_nil))) pa_nil))))
      (pss_cons (ps_if (pt_not (pt_val (pe_clG C_law_like hG hr (pa_cons (pe_cl C_law_risen hr (pa_cons (pv 5) (pa_cons (pe_tup (pa_cons pe_int (pa_cons (pv 8) pa_nil))) pa_nil))) (pa_cons (pv 9) pa_nil))))) (pss_one (ps_ret pe_bl)) pss_nil)
      (pss_one (ps_if (pt_not (pt_val (pe_clG C_law_like hG hr (pa_cons (pe_cl C_riser_done hr (pa_cons (pv 4) (pa_cons (pv 4) (pa_cons (pv 5) (pa_cons (pe_tup (pa_cons pe_int (pa_cons (pv 8) pa_nil))) pa_nil))))) (pa_cons (pv 9) pa_nil))))) (pss_one (ps_ret pe_bl)) pss_nil)))))
      (pss_cons (ps_par (i := 10) (j := 11) rfl nd rfl rfl (by decide) rfl rfl (pa_cons (pe_cl C_network hr (pa_cons (pv 1) (pa_cons (pv 2) pa_nil))) (pa_cons (pe_cl C_network hr (pa_cons (pv 1) (pa_cons (pv 3) pa_nil))) pa_nil)) (by rfl))
      (pss_cons (ps_if (PW.pt (pw_or (pt_not (pt_val (pe_clG C_law_leads hG hr (pa_cons (pv 1) (pa_cons (pv 10) (pa_cons (pv 2) pa_nil)))))) (pw_or1 (pt_not (pt_val (pe_clG C_law_leads hG hr (pa_cons (pv 1) (pa_cons (pv 11) (pa_cons (pv 3) pa_nil))))))))) (pss_one (ps_ret pe_bl)) pss_nil)
      (pss_cons (ps_if (pt_not (pt_val (pe_clG C_law_like hG hr (pa_cons (pe_cl C_riser_behind hr (pa_cons (pv 4) (pa_cons (pv 4) (pa_cons (pv 4) (pa_cons (pv 10) (pa_cons (pv 11) pa_nil)))))) (pa_cons (pv 5) pa_nil))))) (pss_one (ps_ret pe_bl)) pss_nil)
      (pss_cons (ps_set (i := 12) nd rfl (by first | exact Or.inl rfl | exact Or.inr rfl) pe_bl)
      (pss_cons (ps_for PassesOwn.never rfl (k_list rfl (pe_cl C_law_rows hr (pa_cons (pv 1) (pa_cons pe_int pa_nil)))) (pg_name (i := 8) nd rfl (by first | exact Or.inl rfl | exact Or.inr rfl)) (pss_one (ps_set (i := 12) nd rfl (by first | exact Or.inl rfl | exact Or.inr rfl) (pe_and (pv 12) (pe_one (pe_cmpR (k_eqD rfl (hu64 hr)) (pe_cl C_law_exchanged hr (pa_cons (pv 8) (pa_cons (pe_op (k_catA rfl) (pv 2) (pv 3)) pa_nil))) (pe_callTy (k_tupOf rfl) (by rfl) T.b_tuple (by decide +kernel) (pa_cons (pe_callB (k_sortedT rfl) (by rfl) T.b_sorted (by decide +kernel) (pa_cons (pv 8) pa_nil)) pa_nil)) (nomark _)))))))
      (pss_cons (ps_if (pt_not (pt_val (pe_clG C_law_like hG hr (pa_cons (pe_cl C_is_sorter hr (pa_cons (pv 1) (pa_cons (pv 5) pa_nil))) (pa_cons (pv 12) pa_nil))))) (pss_one (ps_ret pe_bl)) pss_nil)
      (pss_cons (ps_if (PW.pt (pw_and (pt_val (pv 12)) (pw_and1 (pt_cmpR (k_neD rfl (hu64 hr)) (pv 5) (pe_cl C_law_sorter hr (pa_cons (pv 1) pa_nil)) (nomark _))))) (pss_one (ps_ret pe_bl)) pss_nil)
      (pss_one (ps_ret (pe_or (pe_cmpR (k_eqD rfl (hu64 hr)) (pv 2) (pe_tup pa_nil) (nomark _)) (pe_one (pe_clG C_law_like hG hr (pa_cons (pe_cl C_network hr (pa_cons (pv 1) (pa_cons (pe_op (k_catA rfl) (pv 2) (pe_slice (k_slA rfl) (pv 2) (po_some (pe_un un_neg pe_int)) po_none)) pa_nil))) (pa_cons (pv 10) pa_nil))))))))))))))))))), ?_⟩
    obtain ⟨a, q1, q2, k, n, rfl, hst, hk, hn, q⟩ := h
    have n2 : 2 ≤ n ∧ n ≤ 4 := by simp at hn; omega
    have hn4 := n2.2
    have e29 : (2 : Int) ^ 29 = 536870912 := by decide
    have e30 : (2 : Int) ^ 30 = 1073741824 := by decide
    have e40 : (2 : Int) ^ 40 = 1099511627776 := by decide
    have e0 : Env K (Ws a q1 q2 k) H (L2.start N__law_right [.ref a, .int n]) H [.r a, .d (.int n), .u, .u, .u, .u, .u, .u, .u, .u, .u, .u, .u] :=
      env_start (N := N__law_right) (as := [.r a, .d (.int n)]) hst (.cons rfl (.cons .int .nil)) (Nat.le_of_ble_eq_true rfl)
    have hrt : ∀ D : Ends, D.rt = Q → RtOk K (Ws a q1 q2 (k + 18 + 4)) H D (.d (.bool true)) := fun D eD v H2 kp j t => by
      rw [eD, t.bl_inv]
      exact q H2 (fun b o hb hm => kp b o hb hm) (Stt.mono j (by omega))
    refine (s_seq (W := Ws a q1 q2 k) (H0 := H) (s_steps2 (i := 0) (j := 1) rfl rfl (by omega) n2.1 n2.2 fun near far ln lf on off => ?_) : SDo K (Ws a q1 q2 k) H _ _ _) _ _ e0
    have oall : ∀ t ∈ near ++ far, StepOk n t := fun t ht => (List.mem_append.mp ht).elim (on t) (off t)
    have sall : StepsOk n (near ++ far) := ⟨hn4, by rw [List.length_append]; omega, oall⟩
    have snear : StepsOk n near := ⟨hn4, by omega, on⟩
    have sfar : StepsOk n far := ⟨hn4, by omega, off⟩
    have gall := good_net oall
    have catted : ∀ {W : Wd} {H0 : Hp} {ρ : List SD} {i j : Nat}, ρ[i]? = some (.d (eSts near)) → ρ[j]? = some (.d (eSts far)) → ED K W H0 (tOp (rCatA K) (tVar i) (tVar j)) ρ (eSts (near ++ far)) := fun h1 h2 =>
      ed_is (ed_cat (ed_var h1) (ed_var h2) (by rw [List.length_map, List.length_map]; omega)) (by rw [← List.map_append])
    refine s_seq (s_par (EDs_two (ed_tup (eds_cons (ed_var rfl) eds_nil) (Nat.le_of_ble_eq_true rfl)) (ed_call (ea_d (ed_var rfl) (ea_d (catted rfl rfl) ea_nil)) ⟨n, near ++ far, rfl, rfl, sall⟩)) ?_)
    refine s_seq (s_unless (et_is (et_not (et_B (ed_like (x := eR (netLots n (near ++ far))) (ea_d (ed_call (ea_d (ed_var rfl) (ea_d (ed_var rfl) (ea_d (ed_var rfl) ea_nil))) ⟨n, _, rfl, rfl, hn4, gall⟩) (ea_d (ed_var rfl) ea_nil)) (sh_R hn4 gall).shows))) rfl) ?_)
    refine s_seq (s_drawn (i := 0) (j := 1) (n := n) rfl rfl (by decide) (by omega) hn4 fun drawn ld od => ?_)
    have hrows : (bitRows n).length ≤ 16 := bits_len n hn4
    have rowok : ∀ row ∈ bitRows n ++ [drawn], row.length = n ∧ ∀ i ∈ row, 0 ≤ i ∧ i < 10 := fun row hr => by
      rcases List.mem_append.mp hr with h | h
      · obtain ⟨h1, h2⟩ := rows_small hn4 h
        exact ⟨h1, fun i hi => by have := h2 i hi; omega⟩
      · rw [List.mem_singleton] at h
        subst h
        exact ⟨ld, fun i hi => by have := od i hi; omega⟩
    refine s_seq (s_forN (xs := (bitRows n ++ [drawn]).map eS) (en_is (en_cat (en_call (ea_d (ed_var rfl) (ea_d ed_int ea_nil)) ⟨n, rfl, rfl, hn4⟩).e0 (en_lst (eds_cons (ed_var rfl) eds_nil) (Nat.le_of_ble_eq_true rfl)) (by rw [List.length_map]; show _ + 1 ≤ _; omega)) (by rw [List.map_append]; rfl))
      (fun _ => [.r a, .d (.int n), .d (eSts near), .d (eSts far), .d (eS [(n : Int)]), .d (eR (netLots n (near ++ far))), .u, .u, .u, .u, .u, .u, .u]) (by repeat' first | exact wk_nil | refine wk_u ?_ | refine wk_same ?_) _ (fun i x _ => tg_name) (fun H0' u i x hx => ?_) ?_)
    · obtain ⟨row, hrow, rfl⟩ := map_at hx
      obtain ⟨rl, rs⟩ := rowok row (List.mem_of_getElem? hrow)
      have shF : Shows (eF (exs row (near ++ far))) := (sh_F (exs_small (n := n) fun i hi => small9 (rs i hi)) (by rw [exs_len, rl]; exact hn4)).shows
      refine s_seq (s_asg (x := eF (exs row (near ++ far))) (ed_tup (eds_cons ed_int (eds_cons (ed_call (ea_d (ed_var rfl) (ea_d (catted rfl rfl) ea_nil)) ⟨n, row, near ++ far, rfl, rfl, rl, hn4, oall⟩) eds_nil)) (Nat.le_of_ble_eq_true rfl)) ?_)
      refine s_seq (s_unless (et_is (et_not (et_B (ed_like (x := eF (exs row (near ++ far))) (ea_d (ed_is (ed_call (ea_d (ed_var rfl) (ea_d (ed_tup (eds_cons ed_int (eds_cons (ed_var rfl) eds_nil)) (Nat.le_of_ble_eq_true rfl)) ea_nil)) ⟨n, netLots n (near ++ far), row, rfl, rfl, hn4, gall, rl⟩) (by rw [risen_net oall rl])) (ea_d (ed_var rfl) ea_nil)) shF))) rfl) ?_)
      exact s_unless (et_is (et_not (et_B (ed_like (x := eF (exs row (near ++ far))) (ea_d (ed_is (ed_call (ea_d (ed_var rfl) (ea_d (ed_var rfl) (ea_d (ed_var rfl) (ea_d (ed_tup (eds_cons ed_int (eds_cons (ed_var rfl) eds_nil)) (Nat.le_of_ble_eq_true rfl)) ea_nil)))) ⟨n, netLots n (near ++ far), row, rfl, rfl, hn4, gall, rl, by omega, fun i hi => by
        have := rs i hi
        have e60 : (10 : Int) ≤ 10 ^ 60 := by decide
        omega⟩) (by rw [risen_net oall rl])) (ea_d (ed_var rfl) ea_nil)) shF))) rfl) (nx_turn (by repeat' first | exact wk_nil | refine wk_u ?_ | refine wk_same ?_))
    refine s_seq (s_par (EDs_two (ed_call (ea_d (ed_var rfl) (ea_d (ed_var rfl) ea_nil)) ⟨n, near, rfl, rfl, snear⟩) (ed_call (ea_d (ed_var rfl) (ea_d (ed_var rfl) ea_nil)) ⟨n, far, rfl, rfl, sfar⟩)) ?_)
    refine s_seq (s_unless (et_is (et_or (et_not (et_B (ed_call (ea_d (ed_var rfl) (ea_d (ed_var rfl) (ea_d (ed_var rfl) ea_nil))) ⟨n, near, rfl, rfl, snear⟩))) fun _ => et_not (et_B (ed_call (ea_d (ed_var rfl) (ea_d (ed_var rfl) (ea_d (ed_var rfl) ea_nil))) ⟨n, far, rfl, rfl, sfar⟩))) rfl) ?_)
    refine s_seq (s_unless (et_is (et_not (et_B (ed_like (x := eR (netLots n (near ++ far))) (ea_d (ed_is (ed_call (ea_d (ed_var rfl) (ea_d (ed_var rfl) (ea_d (ed_var rfl) (ea_d (ed_var rfl) (ea_d (ed_var rfl) ea_nil))))) ⟨n, netLots n near, netLots n far, rfl, rfl, hn4, good_net on, good_net off⟩) (by rw [net_behind on off])) (ea_d (ed_var rfl) ea_nil)) (sh_R hn4 gall).shows))) rfl) ?_)
    refine s_seq (ts := tAsg (tC (.bl true)) (gName 12)) (s_asg (x := .bool true) ed_bl ?_)
    refine s_seq (s_forN (xs := (bitRows n).map eS) (en_call (ea_d (ed_var rfl) (ea_d ed_int ea_nil)) ⟨n, rfl, rfl, hn4⟩)
      (fun i => [.r a, .d (.int n), .d (eSts near), .d (eSts far), .u, .d (eR (netLots n (near ++ far))), .u, .u, .u, .u, .d (eR (netLots n near)), .u, .d (.bool (((bitRows n).take i).all fun row => decide (exs row (near ++ far) = sortI row)))]) (by repeat' first | exact wk_nil | refine wk_u ?_ | refine wk_same ?_) _ (fun i x _ => tg_name) (fun H0' u i x hx => ?_) ?_)
    · obtain ⟨row, hrow, rfl⟩ := map_at hx
      obtain ⟨rl, rs⟩ := rows_small hn4 (List.mem_of_getElem? hrow)
      refine s_asg (ed_and (ed_var rfl) fun _ => ed_is (ed_eqD (x := eS (exs row (near ++ far))) (y := eS (sortI row)) (ed_call (ea_d (ed_var rfl) (ea_d (catted rfl rfl) ea_nil)) ⟨n, row, near ++ far, rfl, rfl, rl, hn4, oall⟩) (ed_tupL (en_sortedT (ed_var rfl) (by omega) (sortI row) fun l hp hs => sortI_of hp hs).el) (shaped_clean (k := 1) clean_eS) (shaped_clean (k := 1) clean_eS)) (by rw [eqv_S]))
        (nx_eq (ρ' := [.r a, .d (.int n), .d (eSts near), .d (eSts far), .u, .d (eR (netLots n (near ++ far))), .u, .u, .u, .u, .d (eR (netLots n near)), .u, .d (.bool ((((bitRows n).take i).all fun row => decide (exs row (near ++ far) = sortI row)) && decide (exs row (near ++ far) = sortI row)))]) ?_ (by repeat' first | exact wk_nil | refine wk_u ?_ | refine wk_same ?_))
      rw [take_succ hrow, List.all_append]
      simp
    have eall : ((bitRows n).take ((bitRows n).map eS).length).all (fun row => decide (exs row (near ++ far) = sortI row)) = (bitRows n).all fun row => decide (exs row (near ++ far) = sortI row) := by rw [List.length_map, List.take_length]
    rw [eall]
    have hsort : (bitRows n).all (fun row => decide (exs row (near ++ far) = sortI row)) = true → netLots n (near ++ far) = sorterLots n := fun h => net_sorter hn oall fun row hr => by
      have := List.all_eq_true.mp h row hr
      simpa using this
    have huns := unsorted_eq (n := n) oall hn4
    generalize (bitRows n).all (fun row => decide (exs row (near ++ far) = sortI row)) = sorts at hsort huns
    refine s_seq (s_unless (et_is (et_not (et_B (ed_like (x := .bool sorts) (ea_d (ed_is (ed_call (ea_d (ed_var rfl) (ea_d (ed_var rfl) ea_nil)) ⟨n, netLots n (near ++ far), rfl, rfl, hn4, gall⟩) (by rw [huns])) (ea_d (ed_var rfl) ea_nil)) sh_bl.shows))) rfl) ?_)
    refine s_seq (s_unless (et_is (b := false) (et_and (et_B (ed_var rfl)) fun _ => et_test (ed_neD (x := eR (netLots n (near ++ far))) (y := eR (sorterLots n)) (ed_var rfl) (ed_call (ea_d (ed_var rfl) ea_nil) ⟨n, rfl, rfl, hn4⟩) (shaped_clean (k := 5) clean_eR) (shaped_clean (k := 5) clean_eR))) ?_) ?_)
    · cases sorts with
      | false => rfl
      | true =>
        rw [hsort rfl, eqv_refl_c (k := 5) clean_eR]
        rfl
    refine s_ret (ed_is (y := .bool true) (ed_or (b := true) (ed_eqD (x := eSts near) (y := .tuple []) (ed_var rfl) (ed_tup eds_nil (by decide)) (shaped_clean (k := 2) clean_eSts) (shaped_clean (k := 2) (clean_eSts (ts := [])))) fun hne => ?_) (by rw [Bool.or_true])) (hrt _ rfl)
    have nne : near ≠ [] := fun z => by
      rw [z] at hne
      exact absurd hne (by decide)
    obtain ⟨t, hlast⟩ : ∃ t, near.getLast? = some t := Option.ne_none_iff_exists'.mp fun z => nne (List.getLast?_eq_none_iff.mp z)
    have ht : t ∈ near := List.mem_of_getLast? hlast
    refine ed_like (x := eR (netLots n near)) (ea_d (ed_is (ed_call (ea_d (ed_var rfl) (ea_d (ed_is (y := eSts (near ++ [t])) (ed_cat (ed_var rfl) (ed_is (ed_sl (ed_var rfl) (eo_some (ed_neg ed_int)) eo_none) (y := .tuple ([t].map eSt)) (by rw [cut_last hlast])) (by rw [List.length_map]; show _ + 1 ≤ _; omega)) (by rw [← List.map_append])) ea_nil)) ⟨n, near ++ [t], rfl, rfl, hn4, by rw [List.length_append]; show _ + 1 ≤ _; omega, fun u hu => ?_⟩) (by rw [net_twice on (on t ht) hlast])) (ea_d (ed_var rfl) ea_nil)) (sh_R hn4 (good_net on)).shows
    rcases List.mem_append.mp hu with h | h
    · exact on u h
    · rw [List.mem_singleton] at h
      rw [h]; exact on t ht
end
end Hf

set_option Elab.async false
set_option linter.all false
set_option maxRecDepth 100000
set_option maxHeartbeats 4000000
namespace Hf
open PySem PySem.Spec PyProof.Rows L2 Hd Net
section
variable {P : Program} {w : World} {K : PySem.W.Frag} {mg : Str → Option Value} {base : Heap} {W : Wd} {H0 H H' H2 : Hp} {σ : L2.St} {ρ ρ' ρ'' : List SD} {te ta tb tc te' tl : TE} {ts : TA} {g : TG} {D : Ends} {x y : PyData} {a q1 q2 : Addr} {k k' : Int}
theorem merge3 {x y z : V} : mergeK [] [((.inr "cells" : Key), x), (.inr "lefts", y), (.inr "at", z)] = [((.inr "cells" : Key), x), (.inr "lefts", y), (.inr "at", z)] := by
  have h1 : ((Sum.inr "cells" : Key) = .inr "lefts") = False := eq_false kcl
  have h2 : ((Sum.inr "cells" : Key) = .inr "at") = False := eq_false kca
  have h3 : ((Sum.inr "lefts" : Key) = .inr "at") = False := eq_false kla
  simp [mergeK, putK, h1, h2, h3]
def t_begin2 (K : PySem.W.Frag) : TS := tSeq (tAsg (tLc (iList K (tVar 1)) (gName 3) tYes (tIf (tTest (tOp (rI0 fun i j => .bl (decide (j ≤ i))) (tVar 3) (tOp (rI CPow fun i j => .int (i ^ j.toNat)) (tC (.int 10)) (tC (.int 18))))) (tVar 3) (tC (.int 0))) [3]) (gName 2))
  (tRet (tDisp [(tC (.str "cells"), tVar 1), (tC (.str "lefts"), tVar 2), (tC (.str "at"), tC (.int 0))]))
def leftsOf (cs : List Int) : List Int := cs.map fun c => if 10 ^ 18 ≤ c then c else 0
theorem cl__law_begin (T : Txt mg) (F : FD K mg "_law_begin" s__law_begin) : Cl P w K mg base "_law_begin" P__law_begin 1 (spBegin K) :=
  clOf F (fun _ _ _ _ _ _ us hl => match us, hl with | [_], _ => rfl) fun f fd F => F.ok sc__law_begin (by rintro vs H Q E ⟨p, ns, rfl, _⟩; rfl) fun cdv A outer s H vs Q E hr h => by
    have nd := sc__law_begin.nd
    refine ⟨_, PSs.nox (pss_cons (ps_set (i := 1) nd rfl (by first | exact Or.inl rfl | exact Or.inr rfl) (pe_ifExp (pt_cmpR (k_neD rfl (hu64 hr)) (pv 0) (pe_lst pa_nil) (nomark _)) (pe_callTy (k_listOf rfl) (by rfl) T.b_list (by decide +kernel) (pa_cons (pv 0) pa_nil)) (pe_lst (pa_cons pe_int pa_nil))))
      (pss_cons (ps_setLc (i := 2) (own := [("_law_cell", 3)]) rfl nd rfl rfl (sw_true rfl rfl rfl (by decide +kernel)) (k_list rfl (pv 1)) (blkOk_by (by kernel_rfl)) (fun _ _ _ _ _ => pg_name (i := 3) nd rfl (Or.inl rfl)) (fun _ _ _ _ _ => pts_nil) (fun _ _ _ _ _ => (pe_ifExp (pt_cmpR op_ge (pv 3) (pe_op op_pow pe_int pe_int) (nomark _)) (pv 3) pe_int)))
      (pss_one (ps_ret (pe_disp (pps_cons pe_str (pv 1) (pps_cons pe_str (pv 2) (pps_cons pe_str pe_int pps_nil))) rfl rfl (by simp) (by decide)))))), ?_⟩
    obtain ⟨p, ns, rfl, hS, hl, q⟩ := h
    have e0 : Env K W0 H (L2.start N__law_begin [.ref p]) H [.r p, .u, .u, .u] := env_start (N := N__law_begin) (as := [.r p]) trivial (.cons rfl .nil) (Nat.le_of_ble_eq_true rfl)
    have rest : ∀ (cs : List Int) (l : Addr) H1, 0 < cs.length → cs.length ≤ 40000 → H l = none → Gr W0 H H1 → H1 l = some (.lst (cs.map V.int)) → SDo K W0 H (t_begin2 K) { nx := fun _ H' => Q .non H', rt := Q } [.r p, .l (cs.map PyData.int), .u, .u] := fun cs l H1 hc hc2 hl g h1 => by
      refine s_seq (s_asgN (ds := (leftsOf cs).map PyData.int) (en_is (en_lcL (as := cs) PyData.int (fun _ => true) (fun c => .int (if 10 ^ 18 ≤ c then c else 0)) (el_varl rfl) (List.mem_cons_self ..) ?_ (fun _ _ => et_yes) fun c _ _ => ed_if (et_test (ed_opB0 (ed_var rfl) (ed_opI ed_int ed_int ⟨by decide, by decide, by decide⟩))) (fun h => ed_is (ed_var rfl) (by have h' : (10 : Int) ^ 18 ≤ c := of_decide_eq_true h; rw [if_pos h'])) fun h => ed_is ed_int (by have h' : ¬ (10 : Int) ^ 18 ≤ c := of_decide_eq_false h; rw [if_neg h'])) (by rw [filter_yes]; unfold leftsOf; rw [List.map_map]; rfl)) ?_)
      · omega
      intro σ H2 e2
      obtain ⟨p1, xs1, a1, f1, m1, c1, t1⟩ := e2.slot 1 (.l (cs.map PyData.int)) rfl
      obtain ⟨p2, xs2, a2, f2, m2, c2, t2⟩ := e2.slot 2 (.l ((leftsOf cs).map PyData.int)) rfl
      have x1 := t1.ints_inv
      have x2 := t2.ints_inv
      subst x1 x2
      have ne : p1 ≠ p2 := fun z => by
        rw [z] at a1
        exact (e2.sep 1 2 p2 _ rfl a1 a2 (by decide)).1 _ rfl
      refine fun d hd => ⟨_, a1, _, a2, upd_same, [(.inr "cells", .ref p1), (.inr "lefts", .ref p2), (.inr "at", .int 0)], rfl, by show 3 ≤ 15; decide, ?_⟩
      rw [merge3]
      have d1 : p1 ≠ d := fun z => by rw [z, hd] at c1; cases c1
      have d2 : p2 ≠ d := fun z => by rw [z, hd] at c2; cases c2
      refine q d p1 p2 _ (e2.kp.free trivial hd) f1 f2 (fun b o hb => ?_) ⟨⟨0, cs, leftsOf cs, by decide, by decide, upd_same, ?_, ?_, by unfold leftsOf; rw [List.length_map], hc⟩, ne⟩
      · have hb2 := e2.kp b o hb (fun z => z)
        have hne : b ≠ d := fun z => by rw [z, hd] at hb2; cases hb2
        rw [upd_ne hne, upd_ne hne]
        exact hb2
      · rw [upd_ne d1, upd_ne d1]; exact c1
      · rw [upd_ne d2, upd_ne d2]; exact c2
    have hlen : (L2.start N__law_begin [V.ref p]).length = 4 := rfl
    refine ⟨.ref p, rfl, sz_of (Nat.le_of_ble_eq_true rfl), fun n1 hn1 => ?_⟩
    have g1 : Gr W0 H (upd H n1 (.lst [])) := .of_same trivial (same_new hn1)
    have hp1 : SqL K (upd H n1 (.lst [])) p (ns.map V.int) := by
      rcases hS with h | h
      · refine .inl ?_
        rcases h with h | ⟨o, h⟩
        · exact .inl (same_new hn1 _ _ h)
        · exact .inr ⟨o, same_new hn1 _ _ h⟩
      · exact .inr h
    refine ⟨.list (ns.map PyData.int), .list [], .lst hp1 TVs.ints.1, .lst (.inl (.inl upd_same)) .nil, shaped_list (k := 0) clean_ints, rfl, !PyData.eqv (.list (ns.map PyData.int)) (.list []), rfl, ?_⟩
    have ev : PyData.eqv (.list (ns.map PyData.int)) (.list []) = decide (ns = []) := by
      have := eqv_Li ns []
      rw [List.map_nil] at this
      exact this
    rw [ev]
    by_cases c : ns = []
    · rw [decide_eq_true c]
      refine iteF ?_
      refine ⟨sz_of (Nat.le_of_ble_eq_true rfl), fun l hl' => ?_⟩
      have g2 : Gr W0 (upd H n1 (.lst [])) (upd (upd H n1 (.lst [])) l (.lst [.int 0])) := .of_same trivial (same_new hl')
      have g := g1.trans g2
      have hl0 : H l = none := g1.1.free trivial hl'
      exact rest [0] l _ (by decide) (by decide) hl0 g upd_same _ _ (e0.setL g hl0 upd_same (TVs.ints (ns := [0])) 1)
    · rw [decide_eq_false c]
      refine iteT ?_
      refine ⟨.ref p, rfl, p, _, rfl, .inl hp1, fun l hl' => ?_⟩
      have g2 : Gr W0 (upd H n1 (.lst [])) (upd (upd H n1 (.lst [])) l (.lst (ns.map V.int))) := .of_same trivial (same_new hl')
      have g := g1.trans g2
      have hl0 : H l = none := g1.1.free trivial hl'
      exact rest ns l _ (List.length_pos_iff.mpr c) hl hl0 g upd_same _ _ (e0.setL g hl0 upd_same (TVs.ints (ns := ns)) 1)
end
end Hf

set_option Elab.async false
set_option linter.all false
set_option maxRecDepth 100000
set_option maxHeartbeats 4000000
namespace Hf
open PySem PySem.Spec PyProof.Rows L2 Hd Net
section
variable {P : Program} {w : World} {K : PySem.W.Frag} {mg : Str → Option Value} {base : Heap} {W : Wd} {H0 H H' H2 : Hp} {σ : L2.St} {ρ ρ' ρ'' : List SD} {te ta tb tc te' tl : TE} {ts : TA} {g : TG} {D : Ends} {x y : PyData} {a q1 q2 : Addr} {k k' : Int}
theorem catA_run {v u : V} {xs ys : List PyData} (j : W.J H) (t1 : TV K H v (.tuple xs)) (t2 : TV K H u (.tuple ys)) (hl : xs.length + ys.length ≤ 100000) {Q : VK} (q : ∀ z H2, Gr W H H2 → TV K H2 z (.tuple (xs ++ ys)) → Q z H2) : rCatA K v u H Q := by
  obtain ⟨a, us, e1, s1, r1⟩ := t1.tup_inv
  obtain ⟨b, vs, e2, s2, r2⟩ := t2.tup_inv
  refine ⟨a, b, us, vs, e1, e2, s1, s2, by rw [r1.length, r2.length]; exact sz_of hl, fun z => ?_, fun _ z => ?_, fun _ _ p hp => ?_⟩
  · have z2 := r1.nil_iff.mp z
    subst z2
    rw [← e2]
    exact q _ H (Gr.refl j) t2
  · have z2 := r2.nil_iff.mp z
    subst z2
    rw [← e1]
    exact q _ H (Gr.refl j) (by rw [List.append_nil]; exact t1)
  · have := TV.tup_new (W := W) j hp (r1.append r2)
    exact q _ _ this.1 this.2
theorem call_run {R : List AD → RD → Prop} {E : XK} {vs : List V} {as : List AD} {Q : VK} (j : W.J H) (h : AsOk K W H vs as) (r : R as (.d x)) (q : ∀ v H2, Gr W H H2 → TV K H2 v x → Q v H2) : PSp K R (vs ++ []) H Q E :=
  ⟨as, .d x, by rw [List.append_nil]; exact h.w0, r, fun v H2 s t => q v H2 (.of_same j s) t⟩
/-- [network(3, three), network(4, four), network(3, three + steps(3))] -/
theorem s_three {E : XK} {R3 : PyData} (h0 : ρ[0]? = some (.r a)) (h1 : ρ[1]? = some (.d (eSts three))) (h2 : ρ[2]? = some (.d (eSts four))) (hk : k + 9 < 2 ^ 30)
    (q : Nx K (Ws a q1 q2 (k + 9)) H0 D.nx (ρ.set 3 (.l [eR (sorterLots 3), eR (sorterLots 4), eR (sorterLots 3)]))) :
    SDo K (Ws a q1 q2 k) H0 (tAsg (tLst (tCons (tCall (PSp K R_network) [] E (tCons (tC (.int 3)) (tCons (tVar 1) tNil))) (tCons (tCall (PSp K R_network) [] E (tCons (tC (.int 4)) (tCons (tVar 2) tNil)))
      (tCons (tCall (PSp K R_network) [] E (tCons (tC (.int 3)) (tCons (tOp (rCatA K) (tVar 1) (tCall (spSteps K) [] E (tCons (tVar 0) (tCons (tC (.int 3)) (tCons (tC (.int 4)) tNil))))) tNil))) tNil)))) (gName 3)) D ρ := fun σ H e => by
  refine (ed_call (ea_d ed_int (ea_d (ed_var h1) ea_nil)) ⟨3, three, rfl, rfl, by decide, by decide, net_three.1⟩ : ED K (Ws a q1 q2 k) H0 _ ρ (eR (netLots 3 three))) σ H e _ fun v1 H1 g1 t1 => ?_
  have e1 := e.gr g1
  refine (ed_call (ea_d ed_int (ea_d (ed_var h2) ea_nil)) ⟨4, four, rfl, rfl, by decide, by decide, net_four.1⟩ : ED K (Ws a q1 q2 k) H0 _ ρ (eR (netLots 4 four))) σ H1 e1 _ fun v2 H2 g2 t2 => ?_
  have e2 := e1.gr g2
  obtain ⟨v3, s3, t3⟩ := e2.slot 1 _ h1
  refine ⟨v3, s3, .ref a, e2.slot 0 _ h0, a, q1, q2, k, 3, rfl, e2.j, by omega, by decide, by decide, fun ts v4 H4 ll ok kp st t4 => ?_⟩
  have e4 := envS_next e2 kp st (by omega)
  have tk4 := Kp.tk e2.j kp
  refine catA_run (W := Ws a q1 q2 (k + 9)) e4.j (t3.tk tk4) t4 (by rw [List.length_map, List.length_map]; show 3 + _ ≤ _; omega) fun v5 H5 g5 t5 => ?_
  have e5 := e4.gr g5
  have more := net_more (n := 3) (by simp) three_sorts ok
  refine call_run (E := E) (W := Ws a q1 q2 (k + 9)) (x := eR (netLots 3 (three ++ ts))) e5.j (.cons .int (.cons (by rw [← List.map_append] at t5; exact t5) .nil) : AsOk K _ H5 [.int 3, v5] [.d (.int 3), .d (eSts (three ++ ts))]) ⟨3, three ++ ts, rfl, rfl, by decide, by rw [List.length_append]; show 3 + _ ≤ _; omega, more.1⟩ fun v6 H6 g6 t6 => ?_
  have e6 := e5.gr g6
  refine ⟨sz_of (Nat.le_of_ble_eq_true rfl), fun p hp => ?_⟩
  have tkall : ∀ {z : V} {d : PyData}, TV K H2 z d → TV K H6 z d := fun t => ((t.tk tk4).tk (g5.1.tk e4.j)).tk (g6.1.tk e5.j)
  have gp : Gr (Ws a q1 q2 (k + 9)) H6 (upd H6 p (.lst [v1, v2, v6])) := .of_same e6.j (same_new hp)
  rw [net_three.2] at t1
  rw [net_four.2] at t2
  rw [more.2] at t6
  exact q _ _ (e6.setL gp hp upd_same (TVs.tk (gp.1.tk e6.j) (.cons (tkall (t1.tk (g2.1.tk g1.2))) (.cons (tkall t2) (.cons t6 .nil)))) 3)
theorem sh_sorter {n : Nat} (hn : n ∈ [2, 3, 4]) : Sh 5 2986 (eR (sorterLots n)) := sh_R (by simp at hn; omega) (good_sorter n hn)
def spKnown : Sp := fun vs H Q _ => ∃ (a q1 q2 : Addr) (k : Int), vs = [.ref a] ∧ Stt a q1 q2 k H ∧ k < 2 ^ 29 ∧ ∀ H2, Kp (Ws a q1 q2 k) H H2 → Stt a q1 q2 (k + 9) H2 → Q (.bl true) H2
theorem known1 : exs [1, 1, 0] [(0, 1), (1, 2)] = [1, 0, 1] := by decide
theorem known2 : (unsorted 4 (netLots 4 (four.take 4))).isEmpty = false := by decide +kernel
theorem four4 : ∀ t ∈ four.take 4, StepOk 4 t := fun t ht => net_four.1 t (List.mem_of_mem_take ht)
theorem two3 : ∀ t ∈ [((0 : Int), (1 : Int)), (1, 2)], StepOk 3 t := fun t ht => stepB_ok ((by decide : ∀ t ∈ [((0 : Int), (1 : Int)), (1, 2)], stepB 3 t = true) t ht)
theorem cl__law_known (T : Txt mg) (F : FD K mg "_law_known" s__law_known) (C_law_steps : Cl P w K mg base "_law_steps" P__law_steps 3 (spSteps K)) (C_network : Cl P w K mg base "network" P_network 4 (PSp K R_network)) (C_law_like : ClG P w K mg base "_law_like" P__law_like 1 (spLike K))
    (C_riser_done : Cl P w K mg base "riser_done" P_riser_done 6 (PSp K R_riser_done)) (C_is_sorter : Cl P w K mg base "is_sorter" P_is_sorter 5 (PSp K R_is_sorter)) (C_law_sorter : Cl P w K mg base "_law_sorter" P__law_sorter 2 (PSp K R__law_sorter)) (C_sorter : Cl P w K mg base "sorter" P_sorter 4 (PSp K R_sorter)) :
    ClG P w K mg base "_law_known" P__law_known 7 spKnown :=
  clOfG F (fun _ _ _ _ _ _ us hl => match us, hl with | [_], _ => rfl) fun f fd F => okG F sc__law_known (by rintro vs H Q E ⟨a, q1, q2, k, rfl, _⟩; rfl) fun cdv A outer s H vs Q E hG hr h => by
    have nd := sc__law_known.nd
    refine ⟨_, PSs.nox (pss_cons (ps_asg (pe_tup (pa_cons (pe_tup (pa_cons (pe_tup (pa_cons pe_int (pa_cons pe_int pa_nil))) (pa_cons (pe_tup (pa_cons pe_int (pa_cons pe_int pa_nil))) (pa_cons (pe_tup (pa_cons pe_int (pa_cons pe_int pa_nil))) pa_nil)))) (pa_cons (pe_tup (pa_cons (pe_tup (pa_cons pe_int (pa_cons pe_int pa_nil))) (pa_cons (pe_tup (pa_cons pe_int (pa_cons pe_int pa_nil))) (pa_cons (pe_tup (pa_cons pe_int (pa_cons pe_int pa_nil))) (pa_cons (pe_tup (pa_cons pe_int (pa_cons pe_int pa_nil))) (pa_cons (pe_tup (pa_cons pe_int (pa_cons pe_int pa_nil))) pa_nil)))))) pa_nil))) (k_gtup (n := 2) rfl rfl (pgs_cons (pg_name (i := 1) nd rfl (by first | exact Or.inl rfl | exact Or.inr rfl)) (pgs_cons (pg_name (i := 2) nd rfl (by first | exact Or.inl rfl | exact Or.inr rfl)) pgs_nil))))
      (pss_cons (ps_set (i := 3) nd rfl (by first | exact Or.inl rfl | exact Or.inr rfl) (pe_lst (pa_cons (pe_cl C_network hr (pa_cons pe_int (pa_cons (pv 1) pa_nil))) (pa_cons (pe_cl C_network hr (pa_cons pe_int (pa_cons (pv 2) pa_nil))) (pa_cons (pe_cl C_network hr (pa_cons pe_int (pa_cons (pe_op (k_catA rfl) (pv 1) (pe_cl C_law_steps hr (pa_cons (pv 0) (pa_cons pe_int (pa_cons pe_int pa_nil))))) pa_nil))) pa_nil)))))
      (pss_cons (ps_set (i := 3) nd rfl (by first | exact Or.inl rfl | exact Or.inr rfl) (pe_op op_cat (pv 3) (pe_lst (pa_cons (pe_cl C_network hr (pa_cons pe_int (pa_cons (pe_tup (pa_cons (pe_tup (pa_cons pe_int (pa_cons pe_int pa_nil))) pa_nil)) pa_nil))) (pa_cons (pe_cl C_network hr (pa_cons pe_int (pa_cons (pe_tup pa_nil) pa_nil))) (pa_cons (pe_cl C_network hr (pa_cons pe_int (pa_cons (pe_tup pa_nil) pa_nil))) pa_nil))))))
      (pss_cons (ps_set (i := 4) nd rfl (by first | exact Or.inl rfl | exact Or.inr rfl) (pe_lst (pa_cons (pe_cl C_law_sorter hr (pa_cons pe_int pa_nil)) (pa_cons (pe_cl C_law_sorter hr (pa_cons pe_int pa_nil)) (pa_cons (pe_cl C_law_sorter hr (pa_cons pe_int pa_nil)) (pa_cons (pe_cl C_law_sorter hr (pa_cons pe_int pa_nil)) pa_nil))))))
      (pss_cons (ps_set (i := 4) nd rfl (by first | exact Or.inl rfl | exact Or.inr rfl) (pe_op op_cat (pv 4) (pe_lst (pa_cons (pe_tup (pa_cons (pe_tup (pa_cons pe_int (pa_cons (pe_tup pa_nil) pa_nil))) pa_nil)) (pa_cons (pe_tup (pa_cons (pe_tup (pa_cons pe_int (pa_cons (pe_tup (pa_cons (pe_tup (pa_cons (pe_tup (pa_cons pe_int pa_nil)) pa_nil)) pa_nil)) pa_nil))) pa_nil)) pa_nil)))))
      (pss_cons (ps_set (i := 3) nd rfl (by first | exact Or.inl rfl | exact Or.inr rfl) (pe_op op_cat (pv 3) (pe_lst (pa_cons (pe_cl C_network hr (pa_cons pe_int (pa_cons (pe_op (k_repT rfl) (pe_tup (pa_cons (pe_tup (pa_cons pe_int (pa_cons pe_int pa_nil))) pa_nil)) pe_int) pa_nil))) (pa_cons (pe_cl C_is_sorter hr (pa_cons pe_int (pa_cons (pe_cl C_network hr (pa_cons pe_int (pa_cons (pe_slice (k_slA rfl) (pv 2) po_none (po_some pe_int)) pa_nil))) pa_nil))) pa_nil)))))
      (pss_cons (ps_expr (pe_bm PySem.F.plainAttrs_list PySem.F.slot_list_append PySem.F.type_list_append mt_append (pv 3) (pa_cons (pe_cl C_riser_done hr (pa_cons (pe_tup (pa_cons pe_int pa_nil)) (pa_cons (pe_tup (pa_cons pe_int pa_nil)) (pa_cons (pe_cl C_network hr (pa_cons pe_int (pa_cons (pe_tup (pa_cons (pe_tup (pa_cons pe_int (pa_cons pe_int pa_nil))) (pa_cons (pe_tup (pa_cons pe_int (pa_cons pe_int pa_nil))) pa_nil))) pa_nil))) (pa_cons (pe_tup (pa_cons pe_int (pa_cons (pe_tup (pa_cons pe_int (pa_cons pe_int (pa_cons pe_int pa_nil)))) pa_nil))) pa_nil))))) pa_nil)))
      (pss_cons (ps_set (i := 3) nd rfl (by first | exact Or.inl rfl | exact Or.inr rfl) (pe_op op_cat (pv 3) (pe_lst (pa_cons (pe_cl C_sorter hr (pa_cons pe_int pa_nil)) (pa_cons (pe_cl C_sorter hr (pa_cons pe_int pa_nil)) pa_nil)))))
      (pss_one (ps_ret (pe_clG C_law_like hG hr (pa_cons (pv 3) (pa_cons (pe_op op_cat (pv 4) (pe_lst (pa_cons (pe_cl C_law_sorter hr (pa_cons pe_int pa_nil)) (pa_cons pe_bl (pa_cons (pe_tup (pa_cons pe_int (pa_cons (pe_tup (pa_cons pe_int (pa_cons pe_int (pa_cons pe_int pa_nil)))) pa_nil))) (pa_cons (pe_cl C_law_sorter hr (pa_cons pe_int pa_nil)) (pa_cons (pe_cl C_law_sorter hr (pa_cons pe_int pa_nil)) pa_nil))))))) pa_nil))))))))))))), ?_⟩
    obtain ⟨a, q1, q2, k, rfl, hst, hk, q⟩ := h
    have e29 : (2 : Int) ^ 29 = 536870912 := by decide
    have e30 : (2 : Int) ^ 30 = 1073741824 := by decide
    have e0 : Env K (Ws a q1 q2 k) H (L2.start N__law_known [.ref a]) H [.r a, .u, .u, .u, .u] := env_start (N := N__law_known) (as := [.r a]) hst (.cons rfl .nil) (Nat.le_of_ble_eq_true rfl)
    have hrt : ∀ D : Ends, D.rt = Q → RtOk K (Ws a q1 q2 (k + 9)) H D (.d (.bool true)) := fun D eD v H2 kp j t => by
      rw [eD, t.bl_inv]
      exact q H2 (fun b o hb hm => kp b o hb hm) j
    have st : ∀ {W : Wd} {H0 : Hp} {ρ : List SD} {i j : Int}, ED K W H0 (tTup (tCons (tC (.int i)) (tCons (tC (.int j)) tNil))) ρ (eSt (i, j)) := ed_tup (eds_cons ed_int (eds_cons ed_int eds_nil)) (Nat.le_of_ble_eq_true rfl)
    refine (s_seq (W := Ws a q1 q2 k) (H0 := H) (s_asgT (ed_tup (xs := [eSts three, eSts four]) (EDs_two (ed_tup (eds_cons st (eds_cons st (eds_cons st eds_nil))) (Nat.le_of_ble_eq_true rfl)) (ed_tup (eds_cons st (eds_cons st (eds_cons st (eds_cons st (eds_cons st eds_nil))))) (Nat.le_of_ble_eq_true rfl))) (Nat.le_of_ble_eq_true rfl)) tg_two ?_) : SDo K (Ws a q1 q2 k) H _ _ _) _ _ e0
    refine s_seq (s_three (R3 := .none) rfl rfl rfl (by omega) ?_)
    have srt : ∀ {W : Wd} {H0 : Hp} {ρ : List SD} (n : Nat), n ≤ 4 → ED K W H0 (tCall (PSp K R__law_sorter) [] E0 (tCons (tC (.int n)) tNil)) ρ (eR (sorterLots n)) := fun n hn => ed_call (ea_d ed_int ea_nil) ⟨n, rfl, rfl, hn⟩
    refine s_seq (s_asgN (en_cat (el0_var rfl) (en_lst (eds_cons (ed_is (ed_call (ea_d ed_int (ea_d (ed_tup (eds_cons st eds_nil) (Nat.le_of_ble_eq_true rfl)) ea_nil)) ⟨2, [(0, 1)], rfl, rfl, by decide, by decide, net_two.1⟩) (y := eR (sorterLots 2)) (by rw [net_two.2]))
      (eds_cons (ed_call (ea_d ed_int (ea_d (ed_tup eds_nil (by decide)) ea_nil)) ⟨0, [], rfl, rfl, by decide, by decide, by simp⟩) (eds_cons (ed_call (ea_d ed_int (ea_d (ed_tup eds_nil (by decide)) ea_nil)) ⟨1, [], rfl, rfl, by decide, by decide, by simp⟩) eds_nil))) (Nat.le_of_ble_eq_true rfl)) (Nat.le_of_ble_eq_true rfl)) ?_)
    refine s_seq (s_asgN (en_lst (eds_cons (srt 3 (by decide)) (eds_cons (srt 4 (by decide)) (eds_cons (srt 3 (by decide)) (eds_cons (srt 2 (by decide)) eds_nil)))) (Nat.le_of_ble_eq_true rfl)) ?_)
    refine s_seq (s_asgN (en_cat (el0_var rfl) (en_lst (eds_cons (ed_is (y := eR (netLots 0 [])) (ed_tup (eds_cons (ed_tup (eds_cons ed_int (eds_cons (ed_tup eds_nil (by decide)) eds_nil)) (Nat.le_of_ble_eq_true rfl)) eds_nil) (Nat.le_of_ble_eq_true rfl)) rfl) (eds_cons (ed_is (y := eR (netLots 1 [])) (ed_tup (eds_cons (ed_tup (eds_cons ed_int (eds_cons (ed_tup (eds_cons (ed_tup (eds_cons (ed_tup (eds_cons ed_int eds_nil) (Nat.le_of_ble_eq_true rfl)) eds_nil) (Nat.le_of_ble_eq_true rfl)) eds_nil) (Nat.le_of_ble_eq_true rfl)) eds_nil)) (Nat.le_of_ble_eq_true rfl)) eds_nil) (Nat.le_of_ble_eq_true rfl)) rfl) eds_nil)) (Nat.le_of_ble_eq_true rfl)) (Nat.le_of_ble_eq_true rfl)) ?_)
    refine s_seq (s_asgN (en_cat (el0_var rfl) (en_lst (eds_cons (ed_is (y := eR (sorterLots 2)) (ed_call (ea_d ed_int (ea_d (ed_is (y := eSts (List.replicate 60 (0, 1))) (ed_rep (ed_tup (eds_cons st eds_nil) (Nat.le_of_ble_eq_true rfl)) ed_int (by simp) (by decide) (Nat.le_of_ble_eq_true rfl)) rfl) ea_nil)) ⟨2, List.replicate 60 (0, 1), rfl, rfl, by decide, by decide, net_sixty.1⟩) (by rw [net_sixty.2]))
      (eds_cons (ed_is (y := .bool false) (ed_call (ea_d ed_int (ea_d (ed_call (ea_d ed_int (ea_d (ed_is (y := eSts (four.take 4)) (ed_sl (ed_var rfl) eo_none (eo_some ed_int)) rfl) ea_nil)) ⟨4, four.take 4, rfl, rfl, by decide, by decide, four4⟩) ea_nil)) ⟨4, netLots 4 (four.take 4), rfl, rfl, by decide, good_net four4⟩) (by rw [known2])) eds_nil)) (Nat.le_of_ble_eq_true rfl)) (Nat.le_of_ble_eq_true rfl)) ?_)
    refine s_seq (s_app rfl (ed_is (y := eF [1, 0, 1]) (ed_call (ea_d (ed_tup (eds_cons ed_int eds_nil) (Nat.le_of_ble_eq_true rfl)) (ea_d (ed_tup (eds_cons ed_int eds_nil) (Nat.le_of_ble_eq_true rfl)) (ea_d (ed_call (ea_d ed_int (ea_d (ed_tup (eds_cons st (eds_cons st eds_nil)) (Nat.le_of_ble_eq_true rfl)) ea_nil)) ⟨3, [(0, 1), (1, 2)], rfl, rfl, by decide, by decide, two3⟩)
      (ea_d (ed_tup (eds_cons ed_int (eds_cons (ed_tup (eds_cons ed_int (eds_cons ed_int (eds_cons ed_int eds_nil))) (Nat.le_of_ble_eq_true rfl)) eds_nil)) (Nat.le_of_ble_eq_true rfl)) ea_nil)))) ⟨3, netLots 3 [(0, 1), (1, 2)], [1, 1, 0], rfl, rfl, by decide, good_net two3, rfl, by decide, by decide⟩) (by rw [risen_net two3 (by rfl), known1])) (Nat.lt_of_lt_of_le (show _ < 100 by simp) (by decide)) ?_)
    refine s_seq (s_asgN (en_cat (el0_var rfl) (en_lst (eds_cons (ed_call (ea_d ed_int ea_nil) ⟨2, rfl, rfl, by simp⟩) (eds_cons (ed_call (ea_d ed_int ea_nil) ⟨4, rfl, rfl, by simp⟩) eds_nil)) (Nat.le_of_ble_eq_true rfl)) (by simp)) ?_)
    refine s_ret (ed_likeL (xs := [eR (sorterLots 3), eR (sorterLots 4), eR (sorterLots 3), eR (sorterLots 2), eR (netLots 0 []), eR (netLots 1 []), eR (sorterLots 2), .bool false, eF [1, 0, 1], eR (sorterLots 2), eR (sorterLots 4)]) (ea_s (el_varl rfl) (ea_s (el_is (en_cat (el0_var rfl) (en_lst (eds_cons (srt 2 (by decide)) (eds_cons ed_bl (eds_cons (ed_tup (eds_cons ed_int (eds_cons (ed_tup (eds_cons ed_int (eds_cons ed_int (eds_cons ed_int eds_nil))) (Nat.le_of_ble_eq_true rfl)) eds_nil)) (Nat.le_of_ble_eq_true rfl)) (eds_cons (srt 2 (by decide)) (eds_cons (srt 4 (by decide)) eds_nil))))) (Nat.le_of_ble_eq_true rfl)) (Nat.le_of_ble_eq_true rfl)).el rfl) ea_nil)) ?_) (hrt _ rfl)
    have s2 := sh_sorter (n := 2) (by simp)
    have s3 := sh_sorter (n := 3) (by simp)
    have s4 := sh_sorter (n := 4) (by simp)
    have z0 : Sh 5 2986 (eR (netLots 0 [])) := sh_R (n := 0) (by decide) (good_net (by simp))
    have z1 : Sh 5 2986 (eR (netLots 1 [])) := sh_R (n := 1) (by decide) (good_net (by simp))
    have f1 : Sh 5 2986 (eF [1, 0, 1]) := (sh_F (by decide) (by decide)).mono
    have b1 : Sh 5 2986 (.bool false) := sh_bl.mono
    refine (sh_lst (k := 5) (m := 2986) (n := 11) (fun x hx => ?_) (by simp)).shows
    simp only [List.mem_cons, List.not_mem_nil, or_false] at hx
    rcases hx with rfl | rfl | rfl | rfl | rfl | rfl | rfl | rfl | rfl | rfl | rfl <;> assumption
end
end Hf

set_option Elab.async false
set_option linter.all false
set_option maxRecDepth 100000
set_option maxHeartbeats 4000000
/-! own exceptions: super().__init__(v); self.f = v -/
namespace PySem
namespace OwnX
open PySem.W PySem.Calls PyProof.Rows PySem.HandSPX
def iA (pn : Str) (p1 p2 : Pos) : Arguments := { posonlyargs := [], args := [{ arg := "self", annotation := none, pos := p1 }, { arg := pn, annotation := none, pos := p2 }], vararg := none, kwonlyargs := [], kw_defaults := [], kwarg := none, defaults := [] }
def iB (pn : Str) (a1 a2 a3 a4 a5 a6 b1 b2 b3 b4 : Pos) : List Stmt := [.Expr (.Call (.Attribute (.Call (.Name "super" a1) [] [] a2) "__init__" a3) [.Name pn a4] [] a5) a6, .Assign [.Attribute (.Name "self" b1) pn b2] (.Name pn b3) b4]
def iS (pn : Str) : Scope := { kind := .function, names := [(PySem.Str.ofString "self", .local), (pn, .local), (PySem.Str.ofString "__class__", .free), (PySem.Str.ofString "super", .globalImplicit)], isGenerator := false, isCoroutine := false, more := [] }
structure PosOf where
  (p1 p2 a1 a2 a3 a4 a5 a6 b1 b2 b3 b4 : Pos)
def iBz (pn : Str) (z : PosOf) : List Stmt := iB pn z.a1 z.a2 z.a3 z.a4 z.a5 z.a6 z.b1 z.b2 z.b3 z.b4
/-- how the call of super().__init__ is read -/
def EvOk (pn : Str) (z : PosOf) : Prop := ∀ env : Env, ∃ pl : Sem Bool, eval (.Call (.Attribute (.Call (.Name "super" z.a1) [] [] z.a2) "__init__" z.a3) [.Name pn z.a4] [] z.a5) env = (do
  let ov ← attributeBase (.Call (.Name "super" z.a1) [] [] z.a2) "__init__" env (eval (.Call (.Name "super" z.a1) [] [] z.a2) env)
  standAt z.a3.atName
  let (f, first) ← holding [ov] (getMethod ov "__init__" pl)
  callWith z.a5 f first (backTo z.a5 (starEach [.Name pn z.a4] env)) [])
/-- what the written part says of the class at C, of its __init__ at fI -/
structure OTxt (prog : Program) (K : Frag) (C fI : Addr) (pn : Str) (z : PosOf) : Prop where
  ev : EvOk pn z
  top : (prog.main.scope.names.lookup ("super" : Str)).isSome = false
  cls : ∃ nm q N bs bm sn sub ab col dd k0 k1 k2 k3 k5, K.lookup C = some (excClassObj nm q C N bs bm true sn sub ab col dd k0 k1 k2 k3 k5 "ValueError.__new__") ∧ refsVE bm = true
  sa : findIn K (.ref C) "__setattr__" = some (some (.builtin "object.__setattr__"))
  noN : findIn K (.ref C) pn = some none
  iC : findIn K (.ref C) "__init__" = some (some (.ref fI))
  tC : typeIn K (.ref fI) = some (.type "function")
  kC : keepIn K (.ref C) = true
  exC : subIn K (.ref C) (.type "BaseException") = some true
  tyC : typeIn K (.ref C) = some (.type "type")
  isVE : subIn K (.ref C) (.type "ValueError") = some true
  sup : ks_superIn K C C "__init__" = some (some (.builtin "ValueError.__init__"))
  stat : nsIn K cStatics "thirdparty.any" = some none
  mro : mroIn K C (.ref C) = some true
  free : nsIn K mainGlobals "super" = some none
  fn : ∃ (oc : Value) (od : Option Addr) (doc pm : Value) (an : Option Addr) (ct : Value) (osl : Array (Option Value)) (q : Str) (cda cc : Addr),
    K.lookup fI = some ⟨oc, od, .func (ksFn "__init__" q (iA pn z.p1 z.p2) (iBz pn z) (iS pn) .none .none doc pm an (.ref cda) ct cc), osl⟩ ∧ codeIn K (.ref cda) q = true ∧
    (∃ ccl cdd vs ccs file tf, K.lookup cda = some ⟨ccl, cdd, .fields vs, ccs⟩ ∧ vs[2]? = some (.str file tf) ∧ ((prog.main.file : Str) == file) = true) ∧
    ∃ cl cld csl, K.lookup cc = some ⟨cl, cld, .cell (some (.ref C)), csl⟩
structure PnOk (pn : Str) : Prop where
  ne : (PySem.Str.ofString "self" == pn) = false
  l1 : (iS pn).names.lookup pn = some .local
  l2 : (iS pn).names.lookup (PySem.Str.ofString "self") = some .local
  l3 : (iS pn).names.lookup (PySem.Str.ofString "super") = some .globalImplicit
  l4 : (iS pn).names.lookup (PySem.Str.ofString "__class__") = some .free
  l5 : ∀ x ∈ (iS pn).names, x.2 ≠ .cell
  dbg : (pn == ("__debug__" : Str)) = false
  bd : ∀ (q : Str) (B : List Stmt) (doc pm cdv ct x v : Value) (an : Option Addr) (cc : Addr) (p1 p2 : Pos), bindArgs (ksFn "__init__" q (iA pn p1 p2) B (iS pn) .none .none doc pm an cdv ct cc) ⟨[x, v], []⟩ = pure [(PySem.Str.ofString "self", x), (pn, v)]
theorem pn_value : PnOk "value" := ⟨by decide, rfl, rfl, rfl, rfl, by decide, by decide, fun _ _ _ _ _ _ _ _ _ _ _ _ => by first | rfl | with_unfolding_all rfl⟩
theorem pn_most : PnOk "most" := ⟨by decide, rfl, rfl, rfl, rfl, by decide, by decide, fun _ _ _ _ _ _ _ _ _ _ _ _ => by first | rfl | with_unfolding_all rfl⟩
/-- what __init__ leaves of a fresh exception at x -/
structure InitEnd (h h' : Heap) (x C dx t1 : Addr) (pn : Str) (v : Value) : Prop where
  keep : ∀ b o, b ≠ x → h.get? b = some o → h'.get? b = some o
  obj : h'.get? x = some { cls := .ref C, dict := some dx, data := .fields #[.ref t1, .none, .none, .none, .bool false, .none] }
  dbig : h.objs.size ≤ dx
  dne : dx ≠ x
  ns : h'.Ns1 dx (fun y => if y = pn then some v else none)
section
variable {prog : Program} {w : World} {A : Around} {E : Value → Shared → Prop} {R : Result → Shared → Prop} {s : Shared} {K : Frag} {mg : Str → Option Value} {C fI : Addr} {pn : Str} {z : PosOf}
theorem ldE {M : Model} {env : Env} {m : Str → Option Value} {x : Str} {pos : Pos} {v : Value} {Q : Value → Shared → Prop} (hn : s.heap.Ns env.locals m) (hv : m x = some v) (h : Q v s)
    (hk : env.scope.kind = .function) (hl : env.kindOf x = some .local) (hd : (x == ("__debug__" : Str)) = false) : wpAny M A (eval (.Name x pos) env) Q E s := wpAny_Name (wpAny_loadName_local hk hl hn hv h) hd
/-- the bound __init__ called -/
theorem call_mw {h : Heap} {g : Array GenState} {d : Drawn} {t : Nat} {os : OsState} {nm q : Str} {C N : Addr} {bs bm bmB : List Value} {hdct : Bool} {sn : List Str} {sub : List Value} {ab : Bool} {col : Option Bool} {dd : Option Addr} {k0 k1 k2 k3 k5 : Option Value} {B newId i : String} {u x t0 : Addr} {rest : List Value} {Q : Value → Shared → Prop}
    (FB : ExcBaseFacts B newId i bmB) (hC : h.get? C = some (excClassObj nm q C N bs bm hdct sn sub ab col dd k0 k1 k2 k3 k5 newId)) (he : h.get? x = some (excO C t0)) (hu : h.get? u = some (kxs_mw i x)) (hrest : rest.length ≤ sizeLine)
    (hq : ∀ h' t1, (∀ b o, b ≠ x → h.get? b = some o → h'.get? b = some o) → h'.get? x = some (excO C t1) → h.objs.size ≤ h'.objs.size → Q .none ⟨h', g, d, t, os⟩) :
    wpAny (model prog w) A (call (.ref u) rest) Q E ⟨h, g, d, t, os⟩ := by
  refine wpAny_call (codeAny_of_tree ?_)
  show wpAny _ A.in1 (callAny (.ref u) ⟨rest, []⟩) _ _ _
  simp only [callAny]
  refine wpAny_bind (wpAny_load hu ?_)
  simp only [kxs_mw, show (Value.type "method-wrapper" == Value.type "method" || Value.type "method-wrapper" == Value.type "builtin_function_or_method" || Value.type "method-wrapper" == Value.type "method-wrapper") = true by decide, if_true]
  refine KFB.if_so (by decide) ?_
  refine wpAny_bind (check_bound_init FB.toExcCallFacts hC he rfl ?_)
  refine wpAny_bind (wpAny_pure (wpAny_pure ?_))
  refine ⟨plainId_quiet FB.init.plain _, codeAny_builtin FB.initEntry ?_⟩
  refine exc_init_tree (cls := .ref C) (t0 := t0) (dv := none) (c2 := .none) (c3 := .none) (b4 := .bool false) he hrest fun h' k he' ht => ?_
  exact hq h' h.objs.size k he' (Nat.le_of_lt (Heap.lt_size ht))
theorem own_init (T : OTxt prog K C fI pn z) (hp : PnOk pn) {x t0 : Addr} {v : Value} {mb : Str → Option Value} (X : K.In s.heap) (hg : s.heap.Ns mainGlobals mg) (hb : s.heap.Ns builtinsNs mb) (hsb : mb "super" = some (.type "super"))
    (hlim : s.heap.NoLimit) (hx : s.heap.get? x = some (excO C t0)) (hnx : K.lookup x = none) (hroom : A.depth < recursionLimit)
    (hq : ∀ h' tk dx t1, InitEnd s.heap h' x C dx t1 pn v → R (.ok (.ret .none)) { s with heap := h', toks := tk }) :
    codeAny (model prog w) A (.call (.ref fI) ⟨[.ref x, v], []⟩) R s := by
  obtain ⟨oc, od, doc, pm, an, ct, osl, q, cda, cc, ho, hcd, ⟨ccl, cdd, vs, ccs, file, tf, hcda, hvs, hfile⟩, cl, cld, csl, hcc⟩ := T.fn
  obtain ⟨nm, qn, N, bs, bm, sn, sub, ab, col, dd, k0, k1, k2, k3, k5, hC, hbm⟩ := T.cls
  have hcl : clsIn K C = some { name := nm, bases := bs, mro := .ref C :: bm, ns := N, qualname := qn, hasDict := true, slotNames := sn, subclasses := sub, abstract := ab, collection := col, hasDel := false } := by unfold clsIn; rw [hC] <;> rfl
  refine ks_codeAny_call_defAt (fd := ksFn "__init__" q (iA pn z.p1 z.p2) (iBz pn z) (iS pn) .none .none doc pm an (.ref cda) ct cc) (body := iBz pn z) (binds := [(PySem.Str.ofString "self", .ref x), (pn, v)]) hroom (X _ _ ho) rfl hlim (codeRec_of X hcd) rfl ?hbind hp.l5 ?hloc (fun h₁ hn k => ?_)
  case hbind => exact BindsTo.of_eq (hp.bd _ _ _ _ _ _ _ _ _ _ _ _)
  case hloc =>
    intro y hy
    rcases List.mem_cons.mp hy with e | e
    · rw [e]; exact hp.l2
    · rw [List.mem_singleton] at e
      rw [e]; exact hp.l1
  have X₁ : K.In h₁ := X.keeps k
  have hx₁ := k _ _ hx
  have lself : ([(PySem.Str.ofString "self", Value.ref x), (pn, v)].reverse.lookup (PySem.Str.ofString "self")) = some (.ref x) := by
    show ([(pn, v), (PySem.Str.ofString "self", Value.ref x)].lookup (PySem.Str.ofString "self")) = _
    rw [List.lookup_cons, hp.ne]
    rfl
  have lpn : ([(PySem.Str.ofString "self", Value.ref x), (pn, v)].reverse.lookup pn) = some v := by
    show ([(pn, v), (PySem.Str.ofString "self", Value.ref x)].lookup pn) = _
    simp [List.lookup_cons]
  have hfree : mg "super" = none := mg_none_of X hg T.free
  have sz1 : s.heap.objs.size < h₁.objs.size := hn.lt
  obtain ⟨pl, hev⟩ := T.ev (callEnv (ksFn "__init__" q (iA pn z.p1 z.p2) (iBz pn z) (iS pn) .none .none doc pm an (.ref cda) ct cc) s.heap.objs.size fI)
  refine ks_wpAt_execs_cons (ks_wpAt_Expr_any (ks_wpAt_MethodCall (pl := pl) ?_ hev) ?hi ?hs)
  case hi => rfl
  case hs => rfl
  refine ks_wpAt_super_base hp.l3 hp.l4 (by decide) rfl (k _ _ (X _ _ ho)) rfl rfl rfl (X₁ _ _ hcda) rfl hvs hfile T.top ?_
  refine ks_loadName_global rfl hp.l3 (loadGlobal_builtin (hg.keeps k) hfree (hb.keeps k) hsb ⟨rfl, ?_⟩)
  refine wpAny_loadName_free rfl hp.l4 rfl ⟨_, X₁ _ _ hcc, rfl⟩ ?_
  refine wpAny_loadName_local rfl hp.l2 hn lself ?_
  refine ks_wpAny_isType_cls (X₁ _ _ hC) rfl ⟨rfl, ?_⟩
  refine ks_wpAny_call_super (X₁ _ _ hC) rfl hx₁ rfl (by intro c e; cases e) (looks_mroIn X₁ T.mro) (fun h₂ hso k₂ => ?_)
  have X₂ : K.In h₂ := X₁.keeps k₂
  have hx₂ := k₂ _ _ hx₁
  have I₂ : InstAt h₂ x (excO C t0) C none := ⟨hx₂, rfl, rfl, trivial⟩
  have hsup : alongIn K "__init__" (((Value.ref C :: bm).dropWhile (· != .ref C)).drop 1) = some (some (.builtin "ValueError.__init__")) := by
    have h := T.sup
    unfold ks_superIn at h
    rw [hcl] at h
    exact h
  have sz2 : h₁.objs.size < h₂.objs.size := Heap.lt_size hso
  refine kxs_getMethod kxs_ValueError hso (looks_opaque X₂ T.stat) (l₀ := .ref C :: bm) ?_ rfl X₂ hsup (I₂.type.andThen (looks_subIn X₂ T.isVE)) (ks_ne X₂ I₂ hcl) (by decide) ?_
  · exact fun A Q E s k q => wpAny_bind ((looks_clsIn X₂ hcl) A _ E s k (wpAny_pure q))
  have k₃ : ∀ b o, h₂.get? b = some o → (h₂.push (kxs_mw "ValueError.__init__" x)).get? b = some o := fun b o e => Heap.get?_push_of_some _ e
  have hmw : (h₂.push (kxs_mw "ValueError.__init__" x)).get? h₂.objs.size = some (kxs_mw "ValueError.__init__" x) := Heap.get?_push_at rfl rfl
  have hn₃ := hn.keeps fun b o e => k₃ b o (k₂ b o e)
  refine kxs_callWith (i := "ValueError.__init__") (x := x) rfl (evalArgs_plain (spliced_cons (ldE hn₃ lpn (spliced_nil ⟨hmw, ?_⟩) rfl hp.l1 hp.dbg)))
  refine call_mw F.excBase_ValueError (k₃ _ _ (X₂ _ _ hC)) (k₃ _ _ hx₂) hmw (by show 1 ≤ sizeLine; rw [sizeLine_eq]; decide) fun h₄ t1 k₄ hx₄ sz4 => ?_
  have sz3 : (h₂.push (kxs_mw "ValueError.__init__" x)).objs.size = h₂.objs.size + 1 := Heap.size_push ..
  have xL : s.heap.objs.size ≠ x := Nat.ne_of_gt (Heap.lt_size hx)
  have X₄ : K.In h₄ := fun b o e => k₄ b o (fun z => by rw [z, hnx] at e; cases e) (k₃ _ _ (X₂ _ _ e))
  have hn₄ : h₄.Ns s.heap.objs.size (fun y => [(PySem.Str.ofString "self", Value.ref x), (pn, v)].reverse.lookup y) := by
    obtain ⟨o, es, ep, e1, e2⟩ := hn₃
    exact ⟨o, es, ep, k₄ _ _ xL e1, e2⟩
  refine wpAt_of_wpAny ?_
  show wpAny _ _ (execs _ _) _ _ _
  refine wpAny_execs_cons (plainObj_wpAny_Assign_Attribute ?_)
  refine ldE hn₄ lpn (ldE hn₄ lself ?_ rfl hp.l2 (by decide)) rfl hp.l1 hp.dbg
  refine set_plain X₄ (ox := excO C t1) (od := none) ⟨hx₄, rfl, rfl, trivial⟩ T.sa ?_
  refine exc_osa X₄ hx₄ hcl (show refsVE (.ref C :: bm) = true from hbm) rfl T.noN (fun h₅ tk₅ dx k₅ dn dne hx₅ hn₅ => ?_)
  show wpAny _ _ (execs _ _) _ _ _
  refine wpAny_execs_nil (hq h₅ tk₅ dx t1 ⟨fun b o hb' e => k₅ b o hb' (k₄ b o hb' (k₃ b o (k₂ b o (k b o e)))), hx₅, ?_, dne, hn₅⟩)
  have dn' : h₄.objs.size ≤ dx := dn
  omega
/-- a made exception -/
structure OwnMade (h h' : Heap) (e C d : Addr) (pn : Str) (v : Value) : Prop where
  keep : ∀ b o, h.get? b = some o → h'.get? b = some o
  new : h.objs.size ≤ e
  obj : ∃ oe vs, h'.get? e = some oe ∧ oe.cls = .ref C ∧ oe.dict = some d ∧ oe.data = .fields vs ∧ vs[1]? = some .none
  dbig : h.objs.size ≤ d
  dne : d ≠ e
  ns : h'.Ns1 d (fun y => if y = pn then some v else none)
theorem own_made (T : OTxt prog K C fI pn z) (hp : PnOk pn) {v : Value} {mb : Str → Option Value} (X : K.In s.heap) (hg : s.heap.Ns mainGlobals mg) (hb : s.heap.Ns builtinsNs mb) (hsb : mb "super" = some (.type "super")) (hlim : s.heap.NoLimit) (hroom : A.depth + 1 < recursionLimit)
    (hq : ∀ h' tk e d, OwnMade s.heap h' e C d pn v → R (.ok (.ret (.ref e))) { s with heap := h', toks := tk }) :
    codeAny (model prog w) A (.call (.ref C) ⟨[v], []⟩) R s := by
  obtain ⟨nm, q, N, bs, bm, sn, sub, ab, col, dd, k0, k1, k2, k3, k5, hC, hbm⟩ := T.cls
  obtain ⟨hh, g, dr, tk, os⟩ := s
  have k : ∀ b o, hh.get? b = some o → ((hh.push (kdv_tup [v])).push (excO C hh.objs.size)).get? b = some o := fun b o e => Heap.get?_push_of_some _ (Heap.get?_push_of_some _ e)
  have hget : ((hh.push (kdv_tup [v])).push (excO C hh.objs.size)).get? (hh.objs.size + 1) = some (excO C hh.objs.size) := by heap_get
  have hnx : K.lookup (hh.objs.size + 1) = none := by
    cases e : K.lookup (hh.objs.size + 1) with
    | none => rfl
    | some o =>
      have z : hh.get? (hh.objs.size + 1) = some o := X _ _ e
      exact absurd (Nat.lt_of_succ_lt (Heap.lt_size z)) (Nat.lt_irrefl _)
  refine call_own F.excBase_ValueError (fun X => refsVE_contains X bm hbm) (X _ _ hC) (looks_findIn X T.iC) (fun self => bind_fn X self T.tC) (by show 1 ≤ sizeLine; rw [sizeLine_eq]; decide) ?_
  refine own_init (s := ⟨(hh.push (kdv_tup [v])).push (excO C hh.objs.size), g, dr, tk, os⟩) T hp (X.keeps k) (hg.keeps k) (hb.keeps k) hsb (hlim.keeps k) hget hnx ?_ fun h' tk' dx t1 ⟨k', hx, dn, dne, hns⟩ => ?_
  · show A.depth + 1 < recursionLimit
    exact hroom
  · have old : ∀ b o, hh.get? b = some o → h'.get? b = some o := fun b o e => k' b o (Nat.ne_of_lt (Nat.lt_succ_of_lt (Heap.lt_size e))) (k b o e)
    have z : hh.objs.size + 1 + 1 ≤ dx := by
      first
        | (simpa only [Heap.size_push] using dn)
        | exact dn
        | (have q := dn; rw [Heap.size_push, Heap.size_push] at q; exact q)
    exact ⟨rfl, hq h' tk' (hh.objs.size + 1) dx ⟨old, Nat.le_succ _, ⟨_, _, hx, rfl, rfl, rfl, rfl⟩, Nat.le_trans (Nat.le_trans (Nat.le_succ _) (Nat.le_succ _)) z, dne, hns⟩⟩
end
end OwnX
end PySem
namespace L2
open PySem PySem.Spec PyProof.Rows
theorem relO_one {v : V} {v' : Value} {pn : Str} (r : RelV v v') (f : Str) : RelO (List.lookup f [(pn, v)]) (if f = pn then some v' else none) := by
  by_cases hw : f = pn
  · subst hw
    rw [if_pos rfl]
    have q : List.lookup f [(f, v)] = some v := by simp [List.lookup]
    rw [q]
    exact r
  · rw [if_neg hw]
    have qw : (f == pn) = false := by simpa using hw
    have q2 : List.lookup f [(pn, v)] = none := by simp [List.lookup, qw]
    rw [q2]
    trivial
section
variable {X : Cx} {C fI : Addr} {pn : Str} {z : PySem.OwnX.PosOf}
/-- C(e) -/
def tMkX (C : Addr) (pn : Str) (ta : TA) : St → Hp → XK → Prop := fun σ H Q => ta σ H fun vs H1 => ∃ v, vs = [v] ∧ ∀ d, H1 d = none → Q (.ref C) (some d) (upd H1 d (.xd [(pn, v)]))
theorem pmk_x {cn : Str} {a : Expr} {ta : TA} {p pos : Pos} {k : Nat} (T : PySem.OwnX.OTxt X.prog X.K C fI pn z) (hp : PySem.OwnX.PnOk pn) (gC : X.mg cn = some (.ref C)) (hr : Room k X.A) (ha : PA X [a] ta) (hg : Gl X cn := by rfl) (hdb : (cn == ("__debug__" : Str)) = false := by decide)
    (he : starEach (a :: []) X.env = (false, eval a X.env) :: starEach [] X.env := by rfl) (hpl : (backTo pos (starEach [] X.env)).any (·.1) = false := by rfl) :
    PMk X (.Call (.Name cn p) [a] [] pos) (tMkX C pn ta) := by
  intro pins s σ H Q I h
  refine wpAny_Call_Name_kw (ld_glob I hg gC ?_ hdb)
  refine PySem.W.callWith_K (h₀ := X.base) I.ok.mod.kin T.kC (thn (ha.run pos pins s σ H _ I h) fun us s1 hh => ?_) he hpl
  obtain ⟨vs, H1, I1, r1, v, ev, q1⟩ := hh
  subst ev
  refine ⟨I1.kIn, ?_⟩
  cases r1 with
  | cons rv rn =>
    rename_i v' us'
    cases rn
    show wpAny _ _ (call (.ref C) [v']) _ _ _
    have hlim := I1.nolimit
    obtain ⟨mb, hb1, hb2⟩ := I1.mod.blt
    have hgl := I1.mod.glob.keeps I1.bk
    have hbl := hb1.keeps I1.bk
    obtain ⟨hp', g, dr, tk, os⟩ := s1
    refine wpAny_call (PySem.OwnX.own_made T hp I1.kIn hgl hbl ((hb2 "super" (by decide)).trans (by decide +kernel)) hlim (by have := hr.dp; omega) fun h' tk' e d M => ?_)
    show MkP X pins σ Q (.ref e) ⟨h', g, dr, tk', os⟩
    obtain ⟨oe, fv, hoe, hc, hd, hdat, h1⟩ := M.obj
    have hns := M.ns
    obtain ⟨G', g1, g2⟩ := restrict h' fun b => decide (b ≠ e)
    have gk : ∀ b, b ≠ e → G'.get? b = h'.get? b := fun b hb => g1 b (decide_eq_true hb)
    have ge : G'.get? e = none := g2 e (by simp)
    have old : ∀ b o, hp'.get? b = some o → G'.get? b = some o := fun b o q => (gk b (Nat.ne_of_lt (Nat.lt_of_lt_of_le (Heap.lt_size q) M.new))).trans (M.keep b o q)
    have ob : ObjOk X.prog X.w (upd H1 d (.xd [(pn, v)])) G' d (.xd [(pn, v)]) :=
      ⟨_, hns.at (fun o q => (gk d M.dne).trans q), fun f => relO_one rv f⟩
    have J : Inv X pins σ (upd H1 d (.xd [(pn, v)])) ⟨G', g, dr, tk', os⟩ := I1.laid (t' := tk') old M.dbig ob
    refine ⟨e, oe, fv, ⟨G', g, dr, tk', os⟩, _, .ref C, some d, rfl, J, fun b o q => ?_, ge, hoe, ⟨hc, hd⟩, hdat, h1, ?_, rfl, I1.bare, raises_own T.exC T.tyC, q1 d (I1.hok.fresh M.dbig)⟩
    · by_cases hb : b = e
      · have q' : G'.get? b = some o := q
        rw [hb, ge] at q'; cases q'
      · exact (gk b hb).symm.trans q
    · rw [upd_ne (Ne.symm M.dne)]
      exact I1.hok.fresh M.new
end
end L2

set_option Elab.async false
set_option linter.all false
set_option maxRecDepth 100000
set_option maxHeartbeats 4000000
/-! several clauses, each with a name -/
namespace L2A
open PySem PySem.Spec PyProof.Rows L2
/-- behind a suite its name is gone -/
abbrev offE (i : Nat) (D : Ends) : Ends := { nx := fun σ' H' => D.nx (σ'.set i none) H', rt := D.rt, bk := fun σ' H' => D.bk (σ'.set i none) H', ct := fun σ' H' => D.ct (σ'.set i none) H' }
def wManyA (K : PySem.W.Frag) (i : Nat) (Wout : WX) (D : Ends) : List (Value × (Addr → Value → Option Addr → TS)) → WX
  | [] => Wout
  | (c, ts) :: r => fun cls d σ H => ∃ b, PySem.W.exmOne K cls c = some b ∧ (b = true → ∀ a, H a = none → ts a cls d (offE i D) (σ.set i (some (.ref a))) H) ∧ (b = false → wManyA K i Wout D r cls d σ H)
inductive HdsA (X : Cx) (n : Str) : List ExceptHandler → List (Value × (Addr → Value → Option Addr → TS)) → Prop
  | nil : HdsA X n [] []
  | cons {x : Str} {c : Value} {ts : Addr → Value → Option Addr → TS} {b₀ : Stmt} {suite : List Stmt} {np pos' : Pos} {hds : List ExceptHandler} {l : List (Value × (Addr → Value → Option Addr → TS))} (hc : Names X x c)
      (hsu : ∀ (a : Addr) (oe : Obj) (cls : Value) (d : Option Addr) (pn : List (Addr × Obj)), Zc cls d oe → (∃ vs, oe.data = .fields vs) → PSs (X.suite a ((a, oe) :: pn)) (b₀ :: suite) (ts a cls d)) (r : HdsA X n hds l) :
      HdsA X n (.ExceptHandler (some (.Name x np)) (some n) (b₀ :: suite) pos' :: hds) ((c, ts) :: l)
section
variable {X : Cx} {n : Str} {i : Nat} {body : List Stmt} {h₀ : ExceptHandler} {hds : List ExceptHandler} {l : List (Value × (Addr → Value → Option Addr → TS))} {pos : Pos} {tb : WX → TS} {Wout : WX}
theorem ps_try_manyA (hs : X.stack = X.env :: X.outer) (hf : X.env.frame = some X.env.locals) (hN : X.N.Nodup) (hi : X.N[i]? = some n) (hln : X.env.kindOf n = some .local) (tk : Takes X Wout)
    (hb : ∀ (W : WX) (pn : List (Addr × Obj)) (xe : Value → Shared → Prop), Takes (X.tr pn xe) W → PassesOwn (model X.prog X.w) X.A X.env xe → PSs (X.tr pn xe) body (tb W))
    (hh : HdsA X n (h₀ :: hds) l) : PS X (.Try body (h₀ :: hds) [] [] pos) (fun D σ H => tb (fun cls d σ' H' => σ'.length = X.N.length → wManyA X.K i Wout D l cls d σ' H') D σ H) := by
  refine ⟨fun pins s σ H D I h => ?_⟩
  have ok := I.ok
  have hfr : X.A.frames = some (X.env :: X.outer) := by rw [ok.frames, hs]
  have hloc : Loc X.env.scope n := .inl hln
  refine wpAny_Try_except ?_
  refine wpAny_mono ((hb (fun cls d σ' H' => σ'.length = X.N.length → wManyA X.K i Wout D l cls d σ' H') (X.pn ++ pins) (fun e s₁ => wpAny (model X.prog X.w) X.A (noteFrame e X.env) (fun _ s₂ => wpAny (model X.prog X.w) X.A (setFlight e none) (fun _ s₃ =>
    wpAny (model X.prog X.w) X.A (handleBy e X.env (h₀ :: hds)) (SP X pins D) X.xe s₃) X.xe s₂) X.xe s₁) (fun u s' xx => ?_) PassesOwn.looking).run [] s σ H D (I.toTry _) h) (fun f s1 hsp => ?_) (fun e s1 he => he)
  · obtain ⟨a, B, sI, pins', σ', H', cls, d, rfl, J', nb, up, sky, na, os, ag, w⟩ := xx
    have J : Inv X pins σ' H' sI := J'.ofTry ok
    have sky' : Sky B (X.env :: X.outer) a (Zc cls d) X.env.locals s'.heap := by rw [← hs]; exact sky
    show wpAny (model X.prog X.w) X.A (noteFrame (.ref a) X.env) _ _ _
    refine Sky.land Zc.steady hfr hf sky' fun h3 fl3 up3 => ?_
    have J3 : Inv X pins σ' H' { s' with heap := h3 } := J.landed nb fl3.1 (up.trans up3) os ag
    obtain ⟨oe3, vs3, he3, hz3, hd3⟩ := fl3.there
    have notFr : ∀ {h : Heap} {o : Obj} {vs : Array Value}, h.FunFrames B (X.env :: X.outer) → h.get? a = some o → o.data = .fields vs → a ∉ frs (X.env :: X.outer) := fun {h o vs} ff e dd hm => by
      obtain ⟨_, o', e', hnf⟩ := ff.mem hm
      rw [e] at e'; cases e'
      exact hnf _ dd
    have nfr := notFr fl3.2.2.1 he3 hd3
    have nL : a ≠ X.env.locals := fun z => nfr (List.mem_filterMap.mpr ⟨X.env, List.mem_cons_self, by rw [hf, z]⟩)
    have nF : a ∉ X.fs := fun hm => by
      obtain ⟨e, he, q⟩ := List.mem_filterMap.mp hm
      exact nfr (List.mem_filterMap.mpr ⟨e, List.mem_cons_of_mem _ he, q⟩)
    have S3 := J3.suite he3 hd3 na nL nF
    have go : ∀ {hds' : List ExceptHandler} {l' : List (Value × (Addr → Value → Option Addr → TS))}, HdsA X n hds' l' → wManyA X.K i Wout D l' cls d σ' H' →
        wpAny (model X.prog X.w) X.A (handleBy (.ref a) X.env hds') (SP X pins D) X.xe { s' with heap := h3 } := by
      intro hds' l' hk
      induction hk with
      | nil =>
        intro w
        refine wpAny_handleBy_nil ?_
        obtain ⟨k1, k2, k3, oe, vs, T, oT, ts', he, hz, hd, h1, hr⟩ := id fl3
        unfold PySem.passOn
        refine wpAny_bind (wpAny_field he hd h1 ?_)
        rw [if_neg (show ¬ ((Value.ref T == Value.none) = true) from by simp)]
        have fin : wpAny (model X.prog X.w) X.A (setFlight (.ref a) X.env.frame) (fun _ s4 => wpAny (model X.prog X.w) X.A (throw (.ref a) : Sem Flow) (SP X pins D) X.xe s4) X.xe { s' with heap := h3 } := by
          rw [hf]
          refine HandSPX.setFlight_upZ fl3 fun h4 hh4 up4 => wpAny_throw (tk _ _ ?_)
          exact ⟨a, B, sI, pins, σ', H', cls, d, rfl, J, nb, (up.trans up3).trans up4, .inr (.inr (by rw [hs]; exact hh4)), na, os, ag, w⟩
        first
          | exact wpAny_bind (wpAny_pure (wpAny_bind fin))
          | exact wpAny_bind fin
      | @cons x c ts b₀ suite np pos' hds2 l2 hc hsu r ih =>
        intro w
        obtain ⟨b, hb1, hyes, hno⟩ := w
        refine wpAny_handleBy_cons (codeAny_handlers_test ?_) (by intro q; cases q)
        have LT : PySem.W.Looks (model X.prog X.w) h3 (typeOf (.ref a)) cls := fun A Q E s k q => wpAny_typeOf_ref (k _ _ he3) (by rw [hz3.1]; exact q)
        have LM := PySem.W.exm_one (M := model X.prog X.w) (J3.kIn) LT hb1
        have test : ∀ {Q : Value → Shared → Prop} {E : Value → Shared → Prop}, Q c { s' with heap := h3 } → wpAny (model X.prog X.w) (X.A.mark (some (.ref a))) (eval (.Name x np) X.env) Q E { s' with heap := h3 } := fun {Q E} q => by
          obtain ⟨hg, hdbg, hm | ⟨hm, hv, hnn⟩⟩ := hc
          · exact ld_glob (X := X.suite a ((a, oe3) :: (X.pn ++ pins))) S3 hg hm q hdbg
          · exact ld_blt (X := X.suite a ((a, oe3) :: (X.pn ++ pins))) S3 hg hm hv q hnn hdbg
        refine test (LM.here ?_)
        cases b with
        | true =>
          refine codeAny_handlers_suite_as ?_
          refine HandSPX.lands_againZ fl3 fun h4 fl4 up4 => ?_
          have J4 : Inv X pins σ' H' { s' with heap := h4 } := J.landed nb fl4.1 ((up.trans up3).trans up4) os ag
          obtain ⟨oe4, vs4, he4, hz4, hd4⟩ := fl4.there
          have S4 := J4.suite he4 hd4 na nL nF
          refine store_ok (X := X.suite a ((a, oe4) :: (X.pn ++ pins))) (v := .ref a) S4 hN hi hloc rfl (fun s5 S5 => ?_) (.inr hln)
          refine wpAny_mono ((hsu a oe4 cls d (X.pn ++ pins) hz4 ⟨_, hd4⟩).run [] s5 _ H' _ S5 (hyes rfl a na)) (fun f s6 hsp => ?_) (fun _ _ z => False.elim z)
          have end_ : ∀ {σ6 : L2.St} {H6 : Hp} {Q : Shared → Prop}, Inv (X.suite a ((a, oe4) :: (X.pn ++ pins))) [] σ6 H6 s6 → (∀ s7, Inv X pins (σ6.set i none) H6 s7 → Q s7) →
              wpAny (model X.prog X.w) X.A (do bindName X.env n .none; unbindBehindTheSuite X.env n pos') (fun _ s7 => Q s7) X.xe s6 := fun {σ6 H6 Q} S6 hq => gone_ok (S6.unsuite ok) hN hi hln hq
          cases f with
          | next =>
            obtain ⟨σ6, H6, S6, q6⟩ := hsp
            exact end_ S6 fun s7 J7 => ⟨_, _, J7, q6⟩
          | brk =>
            obtain ⟨σ6, H6, S6, q6⟩ := hsp
            exact end_ S6 fun s7 J7 => ⟨_, _, J7, q6⟩
          | cont =>
            obtain ⟨σ6, H6, S6, q6⟩ := hsp
            exact end_ S6 fun s7 J7 => ⟨_, _, J7, q6⟩
          | ret u =>
            obtain ⟨v6, σ6, H6, S6, r6, q6⟩ := hsp
            exact end_ S6 fun s7 J7 => ⟨_, _, _, J7, r6, q6⟩
        | false =>
          show wpAny _ X.A (handleBy (.ref a) X.env hds2) _ _ _
          exact ih (hno rfl)
    exact go hh (w J.len)
  · cases f with
    | next =>
      obtain ⟨σ', H', J', q⟩ := hsp
      exact wpAny_execs_nil ⟨σ', H', J'.ofTry ok, q⟩
    | brk =>
      obtain ⟨σ', H', J', q⟩ := hsp
      exact ⟨σ', H', J'.ofTry ok, q⟩
    | cont =>
      obtain ⟨σ', H', J', q⟩ := hsp
      exact ⟨σ', H', J'.ofTry ok, q⟩
    | ret u =>
      obtain ⟨v, σ', H', J', r, q⟩ := hsp
      exact ⟨v, σ', H', J'.ofTry ok, r, q⟩
end
/-! ### try: return [a()] / except c1 as n: return (s1, n.f1) / except c2 as n: return (s2, n.f2) -/
section
variable {X : Cx}
/-- what is wanted of the lambda -/
def TWord (C1 C2 : Addr) : (XK → Hp → VK → Prop) → Hp → VK → Prop := fun tl H Q =>
  tl (fun cls d H' => (cls = .ref C1 ∧ ∃ dd v, d = some dd ∧ H' dd = some (.xd [(("value" : Str), v)]) ∧ ∀ p, H' p = none → Q (.ref p) (upd H' p (.tup [.str "parameter", v]))) ∨
    (cls = .ref C2 ∧ ∃ dd v, d = some dd ∧ H' dd = some (.xd [(("most" : Str), v)]) ∧ ∀ p, H' p = none → Q (.ref p) (upd H' p (.tup [.str "great", v]))))
    H (fun v H1 => [v].length ≤ sizeLine ∧ ∀ p, H1 p = none → Q (.ref p) (upd H1 p (.lst [v])))
theorem word_gives {Ng : List Str} {x a q en e1 e2 : Str} {sg : Scope} {g C1 C2 : Addr} {cdg : Value} {j1 j2 : Nat} {p1 p2 p3 p4 p5 p6 p7 p8 p9 r1 r2 r3 r4 r5 r6 r7 : Pos} {kt1 kt2 kt3 : Nat} {p10 p11 r8 : Pos}
    (hN : Ng.Nodup) (hi : Ng[1]? = some en) (hvn : Vis sg en) (dcn : (en == ("__classdict__" : Str)) = false) (hln : sg.names.lookup en = some .local)
    (n1 : sg.names.lookup e1 = some .globalImplicit) (n2 : sg.names.lookup e2 = some .globalImplicit) (m1 : X.mg e1 = some (.ref C1)) (m2 : X.mg e2 = some (.ref C2)) (d1 : (e1 == ("__debug__" : Str)) = false) (d2 : (e2 == ("__debug__" : Str)) = false) (dn : (en == ("__debug__" : Str)) = false)
    (h0 : ∀ f : Addr, (L2.start Ng [V.ref f])[0]? = some (some (V.ref f))) (hlN : Ng.length = 2)
    (x1 : XfC X.K C1) (x2 : XfC X.K C2) (v1 : PySem.W.findIn X.K (.ref C1) "value" = some none) (v2 : PySem.W.findIn X.K (.ref C2) "most" = some none)
    (t11 : PySem.W.exmOne X.K (.ref C1) (.ref C1) = some true) (t21 : PySem.W.exmOne X.K (.ref C2) (.ref C1) = some false) (t22 : PySem.W.exmOne X.K (.ref C2) (.ref C2) = some true) :
    LamX.GivesTo X Ng x sg g cdg [.Try [.Return (some (.List [.Call (.Name a p1) [] [] p2] p3)) p4]
      [.ExceptHandler (some (.Name e1 p5)) (some en) [.Return (some (.Tuple [.Constant (.str "parameter") j1 p6, .Attribute (.Name en p7) "value" p8] kt2 p9)) p10] r1,
        .ExceptHandler (some (.Name e2 r2)) (some en) [.Return (some (.Tuple [.Constant (.str "great") j2 r3, .Attribute (.Name en r4) "most" r5] kt3 r6)) r7] r8] [] [] p11] a q (TWord C1 C2) := by
  intro f c' s H Q tl act hc h
  have hgl1 : Gl (cxOf C8.CX0 X.prog X.w X.K X.mg X.base Ng x sg g cdg X.A X.stack s H C8.E0).nox e1 := n1
  have hgl2 : Gl (cxOf C8.CX0 X.prog X.w X.K X.mg X.base Ng x sg g cdg X.A X.stack s H C8.E0).nox e2 := n2
  refine ⟨_, pss_one (ps_try_manyA (n := en) (i := 1) (X := (cxOf C8.CX0 X.prog X.w X.K X.mg X.base Ng x sg g cdg X.A X.stack s H C8.E0).nox)
      (l := [(.ref C1, fun a cls d => tRet (tTup (tCons (tC (.str "parameter")) (tCons (tXf a cls d C1 "value" (tVar 1)) tNil)))), (.ref C2, fun a cls d => tRet (tTup (tCons (tC (.str "great")) (tCons (tXf a cls d C2 "most" (tVar 1)) tNil))))])
      (tb := fun W D σ H => ∃ Ech : XK, (∀ cls d σ' H', Ech cls d H' → W cls d σ' H') ∧ σ[0]? = some (some (.ref f)) ∧ H c' = some (LamX.CodeO c' q) ∧ tl Ech H fun v H1 => [v].length ≤ sizeLine ∧ ∀ p, H1 p = none → D.rt (.ref p) (upd H1 p (.lst [v])))
      rfl rfl hN hi hln LamX.takes0 (fun W pn xe tk _ => ?_) (.cons ⟨hgl1, d1, .inl m1⟩ (fun a oe cls d pn hz hf => ?_) (.cons ⟨hgl2, d2, .inl m2⟩ (fun a oe cls d pn hz hf => ?_) .nil))), ?_⟩
  · refine ⟨fun pins s' σ H' D I h' => ?_⟩
    obtain ⟨Ech, hW, h1, h2, h3⟩ := h'
    have hp := act W pn xe Ech p1 p2 tk hW
    have hq := pss_one (ps_ret (pos := p4) (pe_lst (pos := p3) (pa_cons hp pa_nil)))
    exact hq.run pins s' σ H' D I ⟨h1, h2, h3⟩
  · exact pss_one (ps_ret (pe_tup (pa_cons pe_str (pa_cons (pe_xf x1 v1 hz hf (pe_var (i := 1) hi hvn dn dcn)) pa_nil))))
  · exact pss_one (ps_ret (pe_tup (pa_cons pe_str (pa_cons (pe_xf x2 v2 hz hf (pe_var (i := 1) hi hvn dn dcn)) pa_nil))))
  · have key : ∀ (cls : Value) (d : Option Addr) (σ' : L2.St) (H' : Hp), σ'.length = 2 → ((cls = .ref C1 ∧ ∃ dd v, d = some dd ∧ H' dd = some (.xd [(("value" : Str), v)]) ∧ ∀ p, H' p = none → Q (.ref p) (upd H' p (.tup [.str "parameter", v]))) ∨
        (cls = .ref C2 ∧ ∃ dd v, d = some dd ∧ H' dd = some (.xd [(("most" : Str), v)]) ∧ ∀ p, H' p = none → Q (.ref p) (upd H' p (.tup [.str "great", v])))) →
        wManyA X.K 1 (fun _ _ _ _ => False) { nx := fun _ H' => Q .non H', rt := Q } [(.ref C1, fun a cls d => tRet (tTup (tCons (tC (.str "parameter")) (tCons (tXf a cls d C1 "value" (tVar 1)) tNil)))), (.ref C2, fun a cls d => tRet (tTup (tCons (tC (.str "great")) (tCons (tXf a cls d C2 "most" (tVar 1)) tNil))))] cls d σ' H' := by
      intro cls d σ' H' hl hcase
      have at1 : ∀ a : Addr, (σ'.set 1 (some (V.ref a)))[1]? = some (some (.ref a)) := fun a => by rw [List.getElem?_set_self (by omega)]
      rcases hcase with ⟨rfl, dd, v, rfl, hd, hq⟩ | ⟨rfl, dd, v, rfl, hd, hq⟩
      · refine ⟨true, t11, fun _ a na => ?_, (fun z => nomatch z)⟩
        exact ⟨.ref a, at1 a, rfl, rfl, dd, _, v, rfl, hd, by simp [List.lookup], by show 2 ≤ sizeLine; rw [sizeLine_eq]; decide, hq⟩
      · refine ⟨false, t21, (fun z => nomatch z), fun _ => ⟨true, t22, fun _ a na => ?_, (fun z => nomatch z)⟩⟩
        exact ⟨.ref a, at1 a, rfl, rfl, dd, _, v, rfl, hd, by simp [List.lookup], by show 2 ≤ sizeLine; rw [sizeLine_eq]; decide, hq⟩
    refine ⟨_, fun cls d σ' H' hE hlen => key cls d σ' H' (by rw [hlen]; exact hlN) hE, h0 f, hc, h⟩
end
end L2A

set_option Elab.async false
set_option linter.all false
set_option maxRecDepth 100000
set_option maxHeartbeats 4000000
namespace Hf
open PySem PySem.Spec PyProof.Rows L2 Hd Net
/-- a def that may raise, by its name -/
structure ClX (P : Program) (w : World) (K : PySem.W.Frag) (mg : Str → Option Value) (base : Heap) (x : Str) (ps : List Str) (k : Nat) (sp : Sp) : Prop where
  ex : ∃ (f : Addr) (fd : FuncData), FnOk P w K mg base (L2.CX P w) k f fd ps sp ∧ mg x = some (.ref f) ∧ PySem.W.keepIn K (.ref f) = true ∧ Binds K fd ps []
theorem pe_clX {X : Cx} {x : Str} {ps : List Str} {k j : Nat} {sp : Sp} {e : Expr} {es : List Expr} {t : TA} {E : XK} {p pos : Pos} (C : ClX X.prog X.w X.K X.mg X.base x ps k sp) (hr : Room j X.A) (hx : Passes (L2.CX X.prog X.w) X E) (ha : PA X (e :: es) t) (hg : Gl X x := by rfl) (hk : k ≤ j := by decide)
    (hd : (x == ("__debug__" : Str)) = false := by decide) (he : starEach (e :: es) X.env = (false, eval e X.env) :: starEach es X.env := by rfl) (hpl : (backTo pos (starEach es X.env)).any (·.1) = false := by rfl) :
    PE X (.Call (.Name x p) (e :: es) [] pos) (tCall sp [] E t) := by
  obtain ⟨f, fd, F, hm, kp, b⟩ := C.ex
  exact pe_call F (hr.mono hk) hg hm kp b .nil hx ha (hdb := hd) (he := he) (hpl := hpl)
theorem clOfX {P : Program} {w : World} {K : PySem.W.Frag} {mg : Str → Option Value} {base : Heap} {x : Str} {st : Stmt} {ps : List Str} {k : Nat} {sp : Sp} (F : FD K mg x st) (hb : ∀ (kV doc pm : Value) (an : Option Addr) (cdv ct : Value) (us : List Value), us.length = ps.length → bindArgs (PySem.W.fnOf x x (defArgs st) (defBody st) (defScope st) .none kV doc pm an cdv ct) ⟨us, []⟩ = pure (ps.zip us))
    (h : ∀ f fd, FunD K x x (defArgs st) (defBody st) (defScope st) [] [] f fd → FnOk P w K mg base (L2.CX P w) k f fd ps sp) : ClX P w K mg base x ps k sp := by
  obtain ⟨f, fd, F, hm⟩ := F
  exact ⟨f, fd, h f fd F, hm, F.kp, F.bindsN hb⟩
theorem tyX_tup {K : PySem.W.Frag} {H : Hp} {a : Addr} {xs : List V} (h : SqT K H a xs) : TyX K H (.ref a) (.type "tuple") := by
  rcases h with (h | ⟨o, h⟩) | h
  · exact .base (.tup h)
  · exact .fTuple h
  · obtain ⟨o, its, n, lk, hc, _⟩ := h
    exact .kTuple lk hc
/-! ### is_step of anything -/
def isStepD (n : Int) : PyData → Bool
  | .tuple [a, b] => match a with
    | .int i => (decide (0 ≤ i) && decide (i ≤ n - 1)) && isFrom b (i + 1) (n - 1)
    | _ => false
  | _ => false
section
variable {P : Program} {w : World} {K : PySem.W.Frag} {mg : Str → Option Value} {base : Heap} {W : Wd} {H0 H H' H2 : Hp} {σ : L2.St} {ρ ρ' ρ'' : List SD} {te ta tb tc te' tl : TE} {ts : TA} {g : TG} {D : Ends} {x y : PyData}
theorem ed_isiL {ds : List PyData} (ha : EL K W H0 ta ρ ds) : ED K W H0 (tCB (rIsi K) (tCons ta (tCons (tC (.ty "tuple")) tNil))) ρ (.bool false) := fun σ H e Q q =>
  ha σ H e _ fun a xs H1 g1 l1 t1 => ⟨.ref a, .ty "tuple", .type "list", .type "tuple", false, rfl, .ty "tuple", by
    rcases l1.1 with h | ⟨o, h⟩
    · exact .base (.lst h)
    · exact .base (.frz h), kit_ty (by decide +kernel), q _ H1 g1 .bl⟩
theorem et_orT {tt tu : TT} (h : ET K W H0 tt ρ true) : ET K W H0 (tOr tt tu) ρ true := fun σ H e Q q => h σ H e _ fun H1 g1 => iteT (q H1 g1)
def R_is_stepG (as : List AD) (rd : RD) : Prop := (∃ (n : Int) (x : PyData), as = [.d (.int n), .d x] ∧ rd = .d (.bool (isStepD n x))) ∨ ∃ (n : Int) (ds : List PyData), as = [.d (.int n), .s ds] ∧ rd = .d (.bool false)
theorem cl_is_stepG (T : Txt mg) (F : FD K mg "is_step" s_is_step) (C_is_from : Cl P w K mg base "is_from" P_is_from 1 (PSp K R_is_from)) : Cl P w K mg base "is_step" P_is_step 2 (PSp K R_is_stepG) :=
  clOf F (fun _ _ _ _ _ _ us hl => match us, hl with | [_, _], _ => rfl) fun f fd F => fnok F sc_is_step (by rintro as rd (⟨n, x, rfl, rfl⟩ | ⟨n, ds, rfl, rfl⟩) <;> rfl) fun cdv A outer s H E hr => by
    have nd := sc_is_step.nd
    refine ⟨_, (pss_cons (ps_if (PW.pt (pw_or (pt_not (pt_val (pe_callB (k_isi rfl) (by rfl) T.b_isinstance (by decide +kernel) (pa_cons (pv 1) (pa_cons (pe_bltn (v := .ty "tuple") (by rfl) T.b_tuple (by decide +kernel) rfl) pa_nil))))) (pw_or (pt_cmpR op_ne (pe_callB (k_len rfl) (by rfl) T.b_len (by decide +kernel) (pa_cons (pv 1) pa_nil)) pe_int (nomark _)) (pw_or1 (pt_not (pt_val (pe_cl C_is_from hr (pa_cons (pe_ix (k_ixT rfl) (pv 1) pe_int (fun _ _ => rfl)) (pa_cons pe_int (pa_cons (pe_op op_sub (pv 0) pe_int) pa_nil)))))))))) (pss_one (ps_ret pe_bl)) pss_nil)
      (pss_one (ps_ret (pe_cl C_is_from hr (pa_cons (pe_ix (k_ixT rfl) (pv 1) pe_int (fun _ _ => rfl)) (pa_cons (pe_op op_add (pe_ix (k_ixT rfl) (pv 1) pe_int (fun _ _ => rfl)) pe_int) (pa_cons (pe_op op_sub (pv 0) pe_int) pa_nil))))))), ?_⟩
    rintro as rd (⟨n, x, rfl, rfl⟩ | ⟨n, ds, rfl, rfl⟩) H0 D hrt hnx
    · cases x with
      | tuple xs =>
        match xs with
        | [a, b] =>
          refine s_seq (s_if (et_is (b := !isFrom a 0 (n - 1)) (et_or (et_not (et_B (ed_isi (ed_var rfl) (kT _)))) fun _ => et_or (et_test (ed_neI (ed_lenT (ed_var rfl)) ed_int)) fun _ => et_not (et_B (ed_call (ea_d (ed_ixT (ed_var rfl) ed_int (by decide) rfl) (ea_d ed_int (ea_d (ed_opI0 (ed_var rfl) ed_int) ea_nil))) ⟨_, _, _, rfl, rfl⟩))) rfl) (fun h => ?_) (fun h => ?_))
          · have hf : isFrom a 0 (n - 1) = false := by simpa using h
            refine s_ret (ed_is ed_bl ?_) hrt
            cases a with
            | int i =>
              have h2 : (decide ((0 : Int) ≤ i) && decide (i ≤ n - 1)) = false := hf
              show _ = PyData.bool ((decide ((0 : Int) ≤ i) && decide (i ≤ n - 1)) && isFrom b (i + 1) (n - 1))
              rw [h2]
              rfl
            | _ => rfl
          · have hf : isFrom a 0 (n - 1) = true := by simpa using h
            cases a with
            | int i =>
              have h2 : (decide ((0 : Int) ≤ i) && decide (i ≤ n - 1)) = true := hf
              refine s_next ?_
              refine s_ret (ed_is (ed_call (ea_d (ed_ixT (ed_var rfl) ed_int (by decide) rfl) (ea_d (ed_opI0 (ed_ixT (ed_var rfl) ed_int (by decide) rfl) ed_int) (ea_d (ed_opI0 (ed_var rfl) ed_int) ea_nil))) ⟨_, _, _, rfl, rfl⟩) ?_) hrt
              show _ = PyData.bool ((decide ((0 : Int) ≤ i) && decide (i ≤ n - 1)) && isFrom b (i + 1) (n - 1))
              rw [h2]
              rfl
            | _ => cases hf
        | [] => exact s_seq (s_if (b := true) (et_is (et_or (et_not (et_B (ed_isi (ed_var rfl) (kT _)))) fun _ => et_orT (et_is (et_test (ed_neI (ed_lenT (ed_var rfl)) ed_int)) rfl)) rfl) (fun _ => s_ret ed_bl hrt) fun z => nomatch z)
        | [_] => exact s_seq (s_if (b := true) (et_is (et_or (et_not (et_B (ed_isi (ed_var rfl) (kT _)))) fun _ => et_orT (et_is (et_test (ed_neI (ed_lenT (ed_var rfl)) ed_int)) rfl)) rfl) (fun _ => s_ret ed_bl hrt) fun z => nomatch z)
        | _ :: _ :: _ :: r =>
          have ne : (!decide (((r.length + 1 + 1 + 1 : Nat) : Int) = 2)) = true := by
            have : ¬ (((r.length + 1 + 1 + 1 : Nat) : Int) = 2) := by omega
            rw [decide_eq_false this]
            rfl
          exact s_seq (s_if (b := true) (et_is (et_or (et_not (et_B (ed_isi (ed_var rfl) (kT _)))) fun _ => et_orT (et_is (et_test (ed_neI (ed_lenT (ed_var rfl)) ed_int)) ne)) rfl) (fun _ => s_ret ed_bl hrt) fun z => nomatch z)
      | none => exact s_seq (s_if (b := true) (et_orT (et_is (et_not (et_B (ed_isi (ed_var rfl) (kT _)))) rfl)) (fun _ => s_ret ed_bl hrt) fun z => nomatch z)
      | bool _ => exact s_seq (s_if (b := true) (et_orT (et_is (et_not (et_B (ed_isi (ed_var rfl) (kT _)))) rfl)) (fun _ => s_ret ed_bl hrt) fun z => nomatch z)
      | int _ => exact s_seq (s_if (b := true) (et_orT (et_is (et_not (et_B (ed_isi (ed_var rfl) (kT _)))) rfl)) (fun _ => s_ret ed_bl hrt) fun z => nomatch z)
      | str _ => exact s_seq (s_if (b := true) (et_orT (et_is (et_not (et_B (ed_isi (ed_var rfl) (kT _)))) rfl)) (fun _ => s_ret ed_bl hrt) fun z => nomatch z)
      | list _ => exact s_seq (s_if (b := true) (et_orT (et_is (et_not (et_B (ed_isi (ed_var rfl) (kT _)))) rfl)) (fun _ => s_ret ed_bl hrt) fun z => nomatch z)
      | dict _ => exact s_seq (s_if (b := true) (et_orT (et_is (et_not (et_B (ed_isi (ed_var rfl) (kT _)))) rfl)) (fun _ => s_ret ed_bl hrt) fun z => nomatch z)
    · exact s_seq (s_if (b := true) (et_orT (et_is (et_not (et_B (ed_isiL (el_vars rfl)))) rfl)) (fun _ => s_ret ed_bl hrt) fun z => nomatch z)
/-! ### need_size raises -/
def spSize (K : PySem.W.Frag) (C1 C2 : Addr) : Sp := fun vs H Q E => ∃ x d, vs = [x] ∧ TV K H x d ∧ ((isFrom d 0 12 = false ∧ ∀ H' dx, Same H H' → H' dx = none → E (.ref C1) (some dx) (upd H' dx (.xd [(("value" : Str), x)]))) ∨
  (∃ i : Int, d = .int i ∧ 4 < i ∧ i ≤ 12 ∧ ∀ H' dx, Same H H' → H' dx = none → E (.ref C2) (some dx) (upd H' dx (.xd [(("most" : Str), .int 4)]))) ∨ (∃ i : Int, d = .int i ∧ 0 ≤ i ∧ i ≤ 4 ∧ ∀ H', Same H H' → Q x H'))
theorem cl_need_sizeX {C1 C2 f1 f2 : Addr} {z1 z2 : OwnX.PosOf} (T : Txt mg) (F : FD K mg "need_size" s_need_size) (C_is_from : Cl P w K mg base "is_from" P_is_from 1 (PSp K R_is_from)) (TBadParameter : OwnX.OTxt P K C1 f1 "value" z1) (TTooGreat : OwnX.OTxt P K C2 f2 "most" z2) (gBadParameter : mg "BadParameter" = some (.ref C1)) (gTooGreat : mg "TooGreat" = some (.ref C2)) :
    ClX P w K mg base "need_size" P_need_size 2 (spSize K C1 C2) :=
  clOfX F (fun _ _ _ _ _ _ us hl => match us, hl with | [_], _ => rfl) fun f fd F => F.ok sc_need_size (by rintro vs H Q E ⟨x, d, rfl, _⟩; rfl) fun cdv A outer s H vs Q E hr h => by
    have nd := sc_need_size.nd
    have TK := takes_of (X := cxOf (L2.CX P w) P w K mg base N_need_size "need_size" (defScope s_need_size) f cdv A outer s H E) rfl rfl rfl rfl
    refine ⟨_, (pss_cons (ps_if (pt_not (pt_val (pe_cl C_is_from hr (pa_cons (pv 0) (pa_cons pe_int (pa_cons (pe_gi T.c_MOST_PLACES) pa_nil)))))) (pss_one (ps_raise rfl TK (pmk_x TBadParameter OwnX.pn_value gBadParameter hr (pa_cons (pv 0) pa_nil)))) pss_nil)
      (pss_cons (ps_if (pt_cmpR op_gt (pv 0) (pe_gi T.c_MOST_LOOKED) (nomark _)) (pss_one (ps_raise rfl TK (pmk_x TTooGreat OwnX.pn_most gTooGreat hr (pa_cons (pe_gi T.c_MOST_LOOKED) pa_nil)))) pss_nil)
      (pss_one (ps_ret (pv 0))))), ?_⟩
    obtain ⟨x, d, rfl, t, h⟩ := h
    refine ⟨x, rfl, [.d d, .d (.int 0), .d (.int 12)], .d (.bool (isFrom d 0 12)), .cons t (.cons .int (.cons .int .nil)), ⟨_, _, _, rfl, rfl⟩, fun v H1 s1 t1 => ?_⟩
    refine ⟨isFrom d 0 12, TV.bl_inv t1, ?_⟩
    rcases h with ⟨hf, h⟩ | ⟨i, rfl, i1, i2, h⟩ | ⟨i, rfl, i1, i2, h⟩
    · rw [hf]
      refine iteT ?_
      exact ⟨x, rfl, x, rfl, fun dx hd => h _ dx s1 hd⟩
    · have hf : isFrom (.int i) 0 12 = true := from_ok (by omega) i2
      rw [hf]
      refine iteF ?_
      have tx := t.int_inv
      subst tx
      refine ⟨_, rfl, i, 4, rfl, rfl, _, rfl, ?_⟩
      rw [decide_eq_true i1]
      refine iteT ?_
      exact ⟨_, rfl, fun dx hd => h _ dx s1 hd⟩
    · have hf : isFrom (.int i) 0 12 = true := from_ok i1 (by omega)
      rw [hf]
      refine iteF ?_
      have tx := t.int_inv
      subst tx
      refine ⟨_, rfl, i, 4, rfl, rfl, _, rfl, ?_⟩
      rw [decide_eq_false (by omega)]
      refine iteF ?_
      exact ⟨_, rfl, h _ s1⟩
end
end Hf

set_option Elab.async false
set_option linter.all false
set_option maxRecDepth 100000
set_option maxHeartbeats 4000000
namespace Hf
open PySem PySem.Spec PyProof.Rows L2 Hd Net
/-- a step's value, good or bad for n = 2 -/
def StepV (K : PySem.W.Frag) (H : Hp) (s : V) (b : Bool) : Prop := (∃ x, TV K H s x ∧ isStepD 2 x = b) ∨ (b = false ∧ ∃ q xs ds, s = .ref q ∧ H q = some (.lst xs) ∧ TVs K H xs ds)
def BadY (K : PySem.W.Frag) (H : Hp) (y : V) : Prop := (∃ x, TV K H y x ∧ isTup x = false) ∨ (∃ q xs, y = .ref q ∧ H q = some (.lst xs)) ∨ (∃ p ys, y = .ref p ∧ SqT K H p ys ∧ 60 < ys.length) ∨
  ∃ p ys bs, y = .ref p ∧ SqT K H p ys ∧ ys.length ≤ 60 ∧ Paired (StepV K H) ys bs ∧ false ∈ bs
def spNet (K : PySem.W.Frag) (C1 C2 : Addr) : Sp := fun vs H Q E => ∃ x y, vs = [x, y] ∧ ((∃ d, TV K H x d ∧ isFrom d 0 12 = false ∧ ∀ H' dx, Same H H' → H' dx = none → E (.ref C1) (some dx) (upd H' dx (.xd [(("value" : Str), x)]))) ∨
  (x = .int 12 ∧ ∀ H' dx, Same H H' → H' dx = none → E (.ref C2) (some dx) (upd H' dx (.xd [(("most" : Str), .int 4)]))) ∨
  (x = .int 2 ∧ BadY K H y ∧ ∀ H' dx, Same H H' → H' dx = none → E (.ref C1) (some dx) (upd H' dx (.xd [(("value" : Str), y)]))))
theorem tk_same {H H' : Hp} (s : Same H H') : Tk H H' := ⟨fun b xs hb => s _ _ hb, fun b o u hb => s _ _ hb⟩
theorem paired_at {α β : Type} {R : α → β → Prop} : ∀ {xs : List α} {ys : List β} {i : Nat} {x : α}, Paired R xs ys → xs[i]? = some x → ∃ y, ys[i]? = some y ∧ R x y
  | _, _, _, _, .nil, h => by simp at h
  | _, _, 0, _, .cons r _, h => ⟨_, rfl, by cases h; exact r⟩
  | _, _, i + 1, _, .cons _ t, h => paired_at (i := i) t h
section
variable {P : Program} {w : World} {K : PySem.W.Frag} {mg : Str → Option Value} {base : Heap} {W : Wd} {H0 H H' H2 : Hp} {σ : L2.St} {ρ ρ' ρ'' : List SD} {te ta tb tc te' tl : TE} {ts : TA} {g : TG} {D : Ends} {x y : PyData}
theorem StepV.same {s : V} {b : Bool} (e : Same H H') (h : StepV K H s b) : StepV K H' s b := by
  rcases h with ⟨x, t, hb⟩ | ⟨hb, q, xs, ds, h1, h2, h3⟩
  · exact .inl ⟨x, t.tk (tk_same e), hb⟩
  · exact .inr ⟨hb, q, xs, ds, h1, e _ _ h2, h3.tk (tk_same e)⟩
theorem cl_networkX {C1 C2 f1 f2 : Addr} {z1 z2 : OwnX.PosOf} (T : Txt mg) (F : FD K mg "network" s_network) (C_need_size : ClX P w K mg base "need_size" P_need_size 2 (spSize K C1 C2)) (C_is_step : Cl P w K mg base "is_step" P_is_step 2 (PSp K R_is_stepG))
    (C_least_of : Cl P w K mg base "least_of" P_least_of 3 (PSp K R_least_of)) (C_greatest_of : Cl P w K mg base "greatest_of" P_greatest_of 3 (PSp K R_greatest_of)) (TBadParameter : OwnX.OTxt P K C1 f1 "value" z1) (TTooGreat : OwnX.OTxt P K C2 f2 "most" z2) (gBadParameter : mg "BadParameter" = some (.ref C1)) (gTooGreat : mg "TooGreat" = some (.ref C2)) :
    ClX P w K mg base "network" P_network 4 (spNet K C1 C2) :=
  clOfX F (fun _ _ _ _ _ _ us hl => match us, hl with | [_, _], _ => rfl) fun f fd F => F.ok sc_network (by rintro vs H Q E ⟨x, y, rfl, _⟩; rfl) fun cdv A outer s H vs Q E hr h => by
    have nd := sc_network.nd
    have TK := takes_of (X := cxOf (L2.CX P w) P w K mg base N_network "network" (defScope s_network) f cdv A outer s H E) rfl rfl rfl rfl
    have PK : Passes (L2.CX P w) (cxOf (L2.CX P w) P w K mg base N_network "network" (defScope s_network) f cdv A outer s H E) E := passes_call TK fun _ _ _ _ h => h
    refine ⟨_, (pss_cons (ps_expr (pe_clX C_need_size hr PK (pa_cons (pv 0) pa_nil)))
      (pss_cons (ps_if (PW.pt (pw_or (pt_not (pt_val (pe_callB (k_isi rfl) (by rfl) T.b_isinstance (by decide +kernel) (pa_cons (pv 1) (pa_cons (pe_bltn (v := .ty "tuple") (by rfl) T.b_tuple (by decide +kernel) rfl) pa_nil))))) (pw_or1 (pt_cmpR op_gt (pe_callB (k_len rfl) (by rfl) T.b_len (by decide +kernel) (pa_cons (pv 1) pa_nil)) (pe_gi T.c_MOST_STEPS) (nomark _))))) (pss_one (ps_raise rfl TK (pmk_x TBadParameter OwnX.pn_value gBadParameter hr (pa_cons (pv 1) pa_nil)))) pss_nil)
      (pss_cons (ps_if (pt_cmpR (k_neD rfl (hu64 hr)) (pe_lc (own := [("step", 2)]) rfl nd (k_tup rfl (pv 1)) (blkOk_by (by kernel_rfl)) (fun _ _ _ _ _ => pg_name (i := 2) nd rfl (Or.inl rfl)) (fun _ _ _ _ _ => pts_one (pt_not (pt_val (pe_cl C_is_step hr (pa_cons (pv 0) (pa_cons (pv 2) pa_nil)))))) (fun _ _ _ _ _ => pe_int)) (pe_lst pa_nil) (nomark _)) (pss_one (ps_raise rfl TK (pmk_x TBadParameter OwnX.pn_value gBadParameter hr (pa_cons (pv 1) pa_nil)))) pss_nil)
      (pss_cons (ps_setLc (i := 3) (own := [("place", 4)]) rfl nd rfl rfl (sw_true rfl rfl rfl (by decide +kernel)) (pi_range1 (by rfl) T.b_range (pa_cons (pv 0) pa_nil)) (blkOk_by (by kernel_rfl)) (fun _ _ _ _ _ => pg_name (i := 4) nd rfl (Or.inl rfl)) (fun _ _ _ _ _ => pts_nil) (fun _ _ _ _ _ => (pe_tup (pa_cons (pe_tup (pa_cons (pv 4) pa_nil)) pa_nil))))
      (pss_cons (ps_for (passes_of rfl) rfl (k_tup rfl (pv 1)) (k_gtup (n := 2) rfl rfl (pgs_cons (pg_name (i := 5) nd rfl (by first | exact Or.inl rfl | exact Or.inr rfl)) (pgs_cons (pg_name (i := 6) nd rfl (by first | exact Or.inl rfl | exact Or.inr rfl)) pgs_nil))) (pss_cons (ps_set (i := 7) nd rfl (by first | exact Or.inl rfl | exact Or.inr rfl) (pe_lst (pa_cons (pe_ix (k_ixL rfl) (pv 3) (pv 5) (fun _ _ => rfl)) (pa_cons (pe_ix (k_ixL rfl) (pv 3) (pv 6) (fun _ _ => rfl)) pa_nil))))
      (pss_cons (ps_asg (pe_cl C_least_of hr (pa_cons (pv 7) pa_nil)) (pg_sub (pv 3) (pv 5) set_list))
      (pss_one (ps_asg (pe_cl C_greatest_of hr (pa_cons (pv 7) pa_nil)) (pg_sub (pv 3) (pv 6) set_list))))))
      (pss_one (ps_ret (pe_tup (pa_cons (pe_tup (pa_cons pe_int (pa_cons (pe_callTy (k_tupOf rfl) (by rfl) T.b_tuple (by decide +kernel) (pa_cons (pv 3) pa_nil)) pa_nil))) pa_nil))))))))), ?_⟩
    obtain ⟨x, y, rfl, h⟩ := h
    rcases h with ⟨d, t, hf, h⟩ | ⟨rfl, h⟩ | ⟨rfl, hy, h⟩
    · exact ⟨x, rfl, x, d, rfl, t, .inl ⟨hf, h⟩⟩
    · exact ⟨.int 12, rfl, .int 12, .int 12, rfl, .int, .inr (.inl ⟨12, rfl, by decide, by decide, h⟩)⟩
    · refine ⟨.int 2, rfl, .int 2, .int 2, rfl, .int, .inr (.inr ⟨2, rfl, by decide, by decide, fun H1 s1 => ?_⟩)⟩
      have raise : ∀ H', Same H H' → ∀ dx, H' dx = none → E (.ref C1) (some dx) (upd H' dx (.xd [(("value" : Str), y)])) := fun H' s dx hd => h H' dx s hd
      rcases hy with ⟨yd, ty, hty⟩ | ⟨q, xs, rfl, hq⟩ | ⟨p, ys, rfl, hs, hlen⟩ | ⟨p, ys, bs, rfl, hs, hlen, hp, hbad⟩
      · refine ⟨y, rfl, y, .ty "tuple", _, _, false, rfl, .ty "tuple", tyX_of (ty.tk (tk_same s1)), kit_ty (by rw [kT, hty]), false, rfl, ?_⟩
        refine iteT ?_
        refine iteT ?_
        exact ⟨y, rfl, y, rfl, fun dx hd => raise _ s1 dx hd⟩
      · refine ⟨_, rfl, _, .ty "tuple", .type "list", .type "tuple", false, rfl, .ty "tuple", .base (.lst (s1 _ _ hq)), kit_ty (by decide +kernel), false, rfl, ?_⟩
        refine iteT ?_
        refine iteT ?_
        exact ⟨_, rfl, _, rfl, fun dx hd => raise _ s1 dx hd⟩
      · have hs1 := SqT.tk (tk_same s1) hs
        refine ⟨_, rfl, _, .ty "tuple", .type "tuple", .type "tuple", true, rfl, .ty "tuple", tyX_tup hs1, kit_ty (by decide +kernel), true, rfl, ?_⟩
        refine iteF ?_
        refine ⟨_, rfl, p, ys, rfl, .inr hs1, _, 60, rfl, rfl, _, rfl, ?_⟩
        rw [decide_eq_true (show (60 : Int) < (ys.length : Int) by omega)]
        refine iteT ?_
        exact ⟨_, rfl, _, rfl, fun dx hd => raise _ s1 dx hd⟩
      · have hs1 := SqT.tk (tk_same s1) hs
        refine ⟨_, rfl, _, .ty "tuple", .type "tuple", .type "tuple", true, rfl, .ty "tuple", tyX_tup hs1, kit_ty (by decide +kernel), true, rfl, ?_⟩
        refine iteF ?_
        refine ⟨_, rfl, p, ys, rfl, .inr hs1, _, 60, rfl, rfl, _, rfl, ?_⟩
        rw [decide_eq_false (show ¬ (60 : Int) < (ys.length : Int) by omega)]
        refine iteF ?_
        refine ⟨_, rfl, p, rfl, ⟨ys, hs1⟩, fun Dl hD => ?_⟩
        have lens : ys.length = bs.length := Paired.length hp
        refine lc_tup (K := K) (a := p) (xs := ys) (fun j H2 => Same H1 H2 ∧ ∃ acc : List Int, H2 Dl = some (.lst (acc.map V.int)) ∧ acc.length ≤ j ∧ (acc = [] → ∀ b ∈ bs.take j, b = true)) ⟨same_new hD, [], upd_same, Nat.le_refl _, by simp⟩ (fun j H2 _ hh => SqT.tk (tk_same hh.1) hs1) (fun j v H2 hv hh => ?_) (fun H2 hh => ?_)
        · obtain ⟨e1, acc, a1, a2, a3⟩ := hh
          obtain ⟨b, hb, sv⟩ := paired_at hp hv
          have sv2 := StepV.same (fun b o hb => e1 b o (s1 b o hb)) sv
          have hj : j < 60 := by
            have := (List.getElem?_eq_some_iff.mp hv).1
            omega
          refine ⟨wipe_wipe (List.mem_cons_self ..), ?_⟩
          have fin : ∀ H3, Same H2 H3 → (if (!b) = true then tC (.int 1) ((L2.wipe (L2.start N_network [.int 2, .ref p]) [2]).set 2 (some v)) H3 fun y H4 => ∃ acc, H4 Dl = some (.lst acc) ∧ acc.length < sizeLine ∧ Same H1 (upd H4 Dl (.lst (acc ++ [y]))) ∧ ∃ acc_1 : List Int, (upd H4 Dl (.lst (acc ++ [y]))) Dl = some (.lst (acc_1.map V.int)) ∧ acc_1.length ≤ j + 1 ∧ (acc_1 = [] → ∀ b ∈ bs.take (j + 1), b = true)
              else Same H1 H3 ∧ ∃ acc : List Int, H3 Dl = some (.lst (acc.map V.int)) ∧ acc.length ≤ j + 1 ∧ (acc = [] → ∀ b ∈ bs.take (j + 1), b = true)) := fun H3 e3 => by
            cases b with
            | false =>
              refine iteT ?_
              refine ⟨acc.map V.int, e3 _ _ a1, by rw [List.length_map]; exact sz_lt (by omega), Same.upd0 (fun b o hb => e3 b o (e1 b o hb)) hD, acc ++ [1], by rw [upd_same, List.map_append]; rfl, by rw [List.length_append]; show _ + 1 ≤ _; omega, fun z => ?_⟩
              simp at z
            | true =>
              refine iteF ?_
              refine ⟨fun b o hb => e3 b o (e1 b o hb), acc, e3 _ _ a1, by omega, fun z c hc => ?_⟩
              rw [take_succ hb] at hc
              rcases List.mem_append.mp hc with h1 | h1
              · exact a3 z c h1
              · rw [List.mem_singleton] at h1
                exact h1
          rcases sv2 with ⟨sx, st, sb⟩ | ⟨sb, q, xs, ds, rfl, hq, ht⟩
          · exact ⟨.int 2, rfl, v, rfl, [.d (.int 2), .d sx], .d (.bool b), .cons .int (.cons st .nil), .inl ⟨2, sx, rfl, by rw [sb]⟩, fun u H3 e3 tu => ⟨b, TV.bl_inv tu, fin H3 e3⟩⟩
          · subst sb
            exact ⟨.int 2, rfl, _, rfl, [.d (.int 2), .s ds], .d (.bool false), .cons .int (.cons ⟨q, xs, rfl, ⟨.inl hq, fun z => z⟩, ht⟩ .nil), .inr ⟨2, ds, rfl, rfl⟩, fun u H3 e3 tu => ⟨false, TV.bl_inv tu, fin H3 e3⟩⟩
        · obtain ⟨e1, acc, a1, a2, a3⟩ := hh
          have ane : acc ≠ [] := fun z => by
            have := a3 z false (by rw [lens, List.take_length]; exact hbad)
            cases this
          refine ⟨sz_of (Nat.le_of_ble_eq_true rfl), fun n1 hn1 => ?_⟩
          have e2 : Same H2 (upd H2 n1 (.lst [])) := same_new hn1
          refine ⟨.list (acc.map PyData.int), .list [], .lst (.inl (.inl (e2 _ _ a1))) (TVs.ints (ns := acc)).1, .lst (.inl (.inl upd_same)) .nil, shaped_list (k := 0) clean_ints, rfl, !PyData.eqv (.list (acc.map PyData.int)) (.list []), rfl, ?_⟩
          have ev : PyData.eqv (.list (acc.map PyData.int)) (.list []) = decide (acc = []) := by
            have := eqv_Li acc []
            rw [List.map_nil] at this
            exact this
          rw [ev, decide_eq_false ane]
          refine iteT ?_
          exact ⟨_, rfl, _, rfl, fun dx hd => raise _ (fun b o hb => e2 b o (e1 b o (s1 b o hb))) dx hd⟩
end
end Hf

set_option Elab.async false
set_option linter.all false
set_option maxRecDepth 100000
set_option maxHeartbeats 4000000
namespace Hf
open PySem PySem.Spec PyProof.Rows L2 Hd Net
section
variable {P : Program} {w : World} {K : PySem.W.Frag} {mg : Str → Option Value} {base : Heap}
def spOf : Sp := fun vs H Q _ => ∃ (a q1 q2 q : Addr) (k : Int) (xs : List V), vs = [.ref a, .ref q] ∧ Stt a q1 q2 k H ∧ k < 2 ^ 40 ∧ H q = some (.lst xs) ∧ ¬ (q = a ∨ q = q1 ∨ q = q2) ∧ 0 < xs.length ∧ xs.length < 1000000000 ∧
  ∀ (r : Nat) (x : V) (H2 : Hp), xs[r]? = some x → Kp (Ws a q1 q2 k) H H2 → Stt a q1 q2 (k + 1) H2 → Q x H2
theorem cl__law_of (T : Txt mg) (F : FD K mg "_law_of" s__law_of) (C_law_draw : Cl P w K mg base "_law_draw" P__law_draw 2 spDraw) : Cl P w K mg base "_law_of" P__law_of 3 spOf :=
  clOf F (fun _ _ _ _ _ _ us hl => match us, hl with | [_, _], _ => rfl) fun f fd F => F.ok sc__law_of (by rintro vs H Q E ⟨a, q1, q2, q, k, xs, rfl, _⟩; rfl) fun cdv A outer s H vs Q E hr h => by
    have nd := sc__law_of.nd
    refine ⟨_, PSs.nox (pss_one (ps_ret (pe_ix (k_ixL rfl) (pv 1) (pe_cl C_law_draw hr (pa_cons (pv 0) (pa_cons (pe_callB (k_len rfl) (by rfl) T.b_len (by decide +kernel) (pa_cons (pv 1) pa_nil)) pa_nil))) (fun _ _ => rfl)))), ?_⟩
    obtain ⟨a, q1, q2, q, k, xs, rfl, S, hk, hq, hn, l0, l1, h⟩ := h
    refine ⟨_, rfl, _, rfl, _, rfl, q, _, rfl, .inl (.inl (.inl hq)), a, q1, q2, k, _, rfl, S, hk, by omega, by omega, fun r H2 r0 r1 kp S2 => ?_⟩
    have hq2 : H2 q = some (.lst xs) := kp q _ hq hn
    obtain ⟨n, rfl⟩ : ∃ n : Nat, r = n := ⟨r.toNat, by omega⟩
    have hn2 : n < xs.length := by omega
    exact ⟨q, _, _, _, rfl, rfl, .inl (.inl hq2), atI_nat (List.getElem?_eq_getElem hn2), h n _ H2 (List.getElem?_eq_getElem hn2) kp S2⟩
end
end Hf

set_option Elab.async false
set_option linter.all false
set_option maxRecDepth 100000
set_option maxHeartbeats 4000000
namespace Hf
open PySem PySem.Spec PyProof.Rows L2 Hd Net
abbrev N__law_word : List Str := ["_law_call", "error"]
abbrev P__law_word : List Str := ["_law_call"]
theorem sc__law_word : FnScope N__law_word P__law_word (defScope s__law_word) := ⟨rfl, rfl, rfl, by decide +kernel, rfl, by decide +kernel, by decide +kernel⟩
/-- what is asked of the two classes -/
structure TwoX (K : PySem.W.Frag) (mg : Str → Option Value) (C1 C2 : Addr) : Prop where
  m1 : mg "BadParameter" = some (.ref C1)
  m2 : mg "TooGreat" = some (.ref C2)
  x1 : XfC K C1
  x2 : XfC K C2
  v1 : PySem.W.findIn K (.ref C1) "value" = some none
  v2 : PySem.W.findIn K (.ref C2) "most" = some none
  t11 : PySem.W.exmOne K (.ref C1) (.ref C1) = some true
  t21 : PySem.W.exmOne K (.ref C2) (.ref C1) = some false
  t22 : PySem.W.exmOne K (.ref C2) (.ref C2) = some true
theorem cxq {CX : CXT} {P : Program} {w : World} {K : PySem.W.Frag} {mg : Str → Option Value} {base : Heap} {N : List Str} {qual : Str} {scope : Scope} {f : Addr} {cdv : Value} {A : Around} {outer : List Env} {s : Shared} {H : Hp} {E : XK} :
    (cxOf CX P w K mg base N qual scope f cdv A outer s H E).nox.env.qual = qual ++ ".<locals>." := rfl
theorem pe_word {X : Cx} {q : Str} {c P0 C1 C2 : Addr} {params : Arguments} {body : Expr} {scope : Scope} {t : XK → TE} {p lpos pos : Pos} (hq : X.env.qual = q) (FW : FD X.K X.mg "_law_word" s__law_word) (Z : TwoX X.K X.mg C1 C2)
    (TB : LamX.TabB X.base X.mg c P0) (hcode : X.env.code = .ref c) (hr : Room 7 X.A) (hg : Gl X "_law_word") (L : LamX.LamS X.env.scope scope) (hdef : defaultsOf params X.env = ([], []))
    (hbind : ∀ (q : Str) (cl : List (Str × Addr)) (pm cv ctv : Value), bindArgs (PySem.W.kla_fn "<lambda>" q params body scope cl pm cv ctv) ⟨[], []⟩ = pure [])
    (hbody : ∀ (A : Around) (outer : List Env) (s : Shared) (H : Hp) (E : XK) (f c' : Addr), Room 5 (A.deeper (LamX.lamEnv X scope s.heap.objs.size f c')) → PE (LamX.lamCx X A outer s H E scope f c') body (t E)) :
    PE X (.Call (.Name "_law_word" p) [.Lambda params body scope lpos] [] pos) (LamX.tLam [(P0, q ++ "<lambda>")] (L2A.TWord C1 C2) t) := by
  subst hq
  obtain ⟨g, fd, F, hm⟩ := FW
  have kp := F.kp
  have bn : Binds X.K fd ["_law_call"] [] := F.bindsN (fun _ _ _ _ _ _ us hl => match us, hl with | [_], _ => rfl)
  obtain ⟨oc, od, dV, kV, doc, pm, an, cdv, ct, osl, rfl, lk, hcd, _, _⟩ := F.ex
  refine LamX.pe_lamcall (a := "_law_call") hg hm kp lk hcd bn sc__law_word rfl (by first | exact .inl rfl | exact .inr (.inl rfl)) ?_ TB hcode (List.mem_cons_self ..) (fun p hp _ => by rw [List.mem_singleton] at hp; rw [hp]) hr L hdef hbind hbody
  exact L2A.word_gives (kt1 := 0) (en := "error") sc__law_word.nd rfl (by first | exact .inl rfl | exact .inr (.inl rfl)) (by decide) rfl rfl rfl Z.m1 Z.m2 (by decide) (by decide) (by decide) (fun _ => rfl) rfl Z.x1 Z.x2 Z.v1 Z.v2 Z.t11 Z.t21 Z.t22
/-- okG with the code's place -/
theorem okGc {P : Program} {w : World} {K : PySem.W.Frag} {mg : Str → Option Value} {base : Heap} {x qual : Str} {params : Arguments} {body : List Stmt} {scope : Scope} {f : Addr} {fd : FuncData} {CX : CXT} {N ps : List Str} {k : Nat} {sp : Sp} {c : Addr} (F : FunD K x qual params body scope [] [] f fd) (S : FnScope N ps scope)
    (hc : ∀ oc od osl fd, K.lookup f = some ⟨oc, od, .func fd, osl⟩ → fd.code = .ref c) (len : ∀ vs H Q E, sp vs H Q E → vs.length = ps.length)
    (hbody : ∀ (A : Around) (outer : List PySem.Env) (s : Shared) (H : Hp) (vs : List V) (Q : VK) (E : XK), (A.deeper (envOfC qual scope s.heap.objs.size f (.ref c))).guards = some [] → Room k (A.deeper (envOfC qual scope s.heap.objs.size f (.ref c))) → sp vs H Q E →
      ∃ t, PSs (cxOf CX P w K mg base N qual scope f (.ref c) A outer s H E) body t ∧ t { nx := fun _ H' => Q .non H', rt := Q } (L2.start N vs) H) : FnG P w K mg base CX (k + 1) f fd ps sp := by
  obtain ⟨oc, od, dV, kV, doc, pm, an, cdv, ct, osl, rfl, lk, hcd, _, _⟩ := F.ex
  have e : cdv = .ref c := hc _ _ _ _ lk
  subst e
  exact fn_ofG lk hcd S len fun A outer s H vs Q E hG hr hsp => hbody A outer s H vs Q E hG hr hsp
end Hf

set_option Elab.async false
set_option linter.all false
set_option maxRecDepth 100000
set_option maxHeartbeats 4000000
namespace Hf
open PySem PySem.Spec PyProof.Rows L2 Hd Net
section
variable {K : PySem.W.Frag} {H H' H2 : Hp} {M : Addr → Prop}
theorem sm_trans {H H1 H2 : Hp} (a : Same H H1) (b : Same H1 H2) : Same H H2 := fun c o h => b c o (a c o h)
theorem sm_refl {H : Hp} : Same H H := fun _ _ h => h
/-! ### plain data, told in any heap -/
def PT (K : PySem.W.Frag) (te : TE) (d : PyData) : Prop := ∀ σ H (Q : VK), (∀ v H', Same H H' → TV K H' v d → Q v H') → te σ H Q
def PTs (K : PySem.W.Frag) (ts : TA) (ds : List PyData) : Prop := ∀ σ H (Q : List V → Hp → Prop), (∀ vs H', Same H H' → TVs K H' vs ds → Q vs H') → ts σ H Q
theorem pt_int {i : Int} : PT K (tC (.int i)) (.int i) := fun σ H Q q => q _ _ sm_refl .int
theorem pt_bl {b : Bool} : PT K (tC (.bl b)) (.bool b) := fun σ H Q q => q _ _ sm_refl .bl
theorem pt_non : PT K (tC .non) .none := fun σ H Q q => q _ _ sm_refl .non
theorem pt_neg {i : Int} : PT K (tUn (rU fun i => .int (-i)) (tC (.int i))) (.int (-i)) := fun σ H Q q => ⟨i, rfl, q _ _ sm_refl .int⟩
theorem pts_nil' : PTs K tNil [] := fun σ H Q q => q _ _ sm_refl .nil
theorem pts_cons' {te : TE} {ts : TA} {d : PyData} {ds : List PyData} (h : PT K te d) (hs : PTs K ts ds) : PTs K (tCons te ts) (d :: ds) := fun σ H Q q =>
  h σ H _ fun v H1 s1 t1 => hs σ H1 _ fun vs H2 s2 t2 => q _ _ (sm_trans s1 s2) (.cons (t1.tk (tk_same s2)) t2)
theorem pt_tup {ts : TA} {ds : List PyData} (h : PTs K ts ds) (hl : ds.length ≤ 100000 := by decide) : PT K (tTup ts) (.tuple ds) := fun σ H Q q =>
  h σ H _ fun vs H1 s1 t1 => ⟨by rw [t1.length]; exact sz_of hl, fun p hp => q _ _ (sm_trans s1 (same_new hp)) (.tup (.inl (.inl upd_same)) (t1.tk (tk_same (same_new hp))))⟩
theorem pt_rep {te : TE} {ds : List PyData} {k : Int} (h : PT K te (.tuple ds)) (hne : ds ≠ []) (hk : 2 ≤ k ∧ k ≤ 1000) (hl : ds.length ≤ 1000) : PT K (tOp (rRepT K) te (tC (.int k))) (.tuple (List.replicate k.toNat ds).flatten) := fun σ H Q q =>
  h σ H _ fun v H1 s1 t1 => by
    obtain ⟨a, us, e1, u1, r1⟩ := t1.tup_inv
    refine ⟨a, k, us, e1, rfl, u1, fun z => hne (r1.nil_iff.mp z), hk.1, hk.2, by rw [r1.length]; exact hl, fun p hp => ?_⟩
    have key : ∀ n : Nat, TVs K H1 (List.replicate n us).flatten (List.replicate n ds).flatten := by
      intro n
      induction n with
      | zero => exact .nil
      | succ n ih => rw [List.replicate_succ, List.replicate_succ, List.flatten_cons, List.flatten_cons]; exact r1.append ih
    exact q _ _ (sm_trans s1 (same_new hp)) (.tup (.inl (.inl upd_same)) ((key k.toNat).tk (tk_same (same_new hp))))
/-! ### .. a list, or a list in a tuple -/
def BV (K : PySem.W.Frag) (M : Addr → Prop) (H : Hp) (v : V) (d : PyData) : Prop := TV K H v d ∨ (∃ q xs ds, v = .ref q ∧ ¬ M q ∧ H q = some (.lst xs) ∧ TVs K H xs ds ∧ d = .list ds) ∨
  ∃ p q xs ds, v = .ref p ∧ H p = some (.tup [.ref q]) ∧ ¬ M q ∧ H q = some (.lst xs) ∧ TVs K H xs ds ∧ d = .tuple [.list ds]
/-- tables and the lists at M may change -/
def Rx (M : Addr → Prop) (H H' : Hp) : Prop := ∀ b o, H b = some o → (∀ ps, o ≠ .tbl ps) → ¬ M b → H' b = some o
def Ml (M : Addr → Prop) (H : Hp) : Prop := ∀ b, M b → ∃ xs, H b = some (.lst xs)
theorem Rx.tk (m : Ml M H) (r : Rx M H H') : Tk H H' := by
  refine ⟨fun b xs hb => r _ _ hb (by intro ps z; cases z) fun z => ?_, fun b o u hb => r _ _ hb (by intro ps z; cases z) fun z => ?_⟩
  · obtain ⟨zs, e⟩ := m b z
    rw [hb] at e
    cases e
  · obtain ⟨zs, e⟩ := m b z
    rw [hb] at e
    cases e
theorem BV.rx {v : V} {d : PyData} (m : Ml M H) (r : Rx M H H') (h : BV K M H v d) : BV K M H' v d := by
  have tk := Rx.tk m r
  rcases h with h | ⟨q, xs, ds, h1, h2, h3, h4, h5⟩ | ⟨p, q, xs, ds, h1, h2, h3, h4, h5, h6⟩
  · exact .inl (h.tk tk)
  · exact .inr (.inl ⟨q, xs, ds, h1, h2, r _ _ h3 (by intro ps z; cases z) h2, h4.tk tk, h5⟩)
  · exact .inr (.inr ⟨p, q, xs, ds, h1, tk.1 _ _ h2, h3, r _ _ h4 (by intro ps z; cases z) h3, h5.tk tk, h6⟩)
theorem BV.same {v : V} {d : PyData} (s : Same H H') (h : BV K M H v d) : BV K M H' v d := by
  have tk := tk_same s
  rcases h with h | ⟨q, xs, ds, h1, h2, h3, h4, h5⟩ | ⟨p, q, xs, ds, h1, h2, h3, h4, h5, h6⟩
  · exact .inl (h.tk tk)
  · exact .inr (.inl ⟨q, xs, ds, h1, h2, s _ _ h3, h4.tk tk, h5⟩)
  · exact .inr (.inr ⟨p, q, xs, ds, h1, tk.1 _ _ h2, h3, s _ _ h4, h5.tk tk, h6⟩)
theorem TVs.dps {vs : List V} {ds : List PyData} (h : TVs K H vs ds) : DpAll K H vs ds := h.1
theorem BV.dp {v : V} {d : PyData} (h : BV K M H v d) : Dp K H v d := by
  rcases h with h | ⟨q, xs, ds, h1, h2, h3, h4, h5⟩ | ⟨p, q, xs, ds, h1, h2, h3, h4, h5, h6⟩
  · exact h.dp
  · subst h1 h5
    exact .lst (.inl (.inl h3)) (TVs.dps h4)
  · subst h1 h6
    exact .tup (.inl (.inl h2)) (.cons (.lst (.inl (.inl h4)) (TVs.dps h5)) .nil)
def PB (K : PySem.W.Frag) (M : Addr → Prop) (te : TE) (d : PyData) : Prop := ∀ σ H (Q : VK), Ml M H → (∀ v H', Same H H' → BV K M H' v d → Q v H') → te σ H Q
def PBs (K : PySem.W.Frag) (M : Addr → Prop) (ts : TA) (ds : List PyData) : Prop := ∀ σ H (Q : List V → Hp → Prop), Ml M H → (∀ vs H', Same H H' → Paired (BV K M H') vs ds → Q vs H') → ts σ H Q
theorem Ml.same (s : Same H H') (m : Ml M H) : Ml M H' := fun b hb => by
  obtain ⟨xs, e⟩ := m b hb
  exact ⟨xs, s _ _ e⟩
theorem pb_t {te : TE} {d : PyData} (h : PT K te d) : PB K M te d := fun σ H Q m q => h σ H Q fun v H' s t => q v H' s (.inl t)
theorem Ml.new (m : Ml M H) {p : Addr} (hp : H p = none) : ¬ M p := fun z => by
  obtain ⟨xs, e⟩ := m p z
  rw [hp] at e
  cases e
theorem pb_l {ts : TA} {ds : List PyData} (h : PTs K ts ds) (hl : ds.length ≤ 100000 := by decide) : PB K M (tLst ts) (.list ds) := fun σ H Q m q =>
  h σ H _ fun vs H1 s1 t1 => ⟨by rw [t1.length]; exact sz_of hl, fun p hp => q _ _ (sm_trans s1 (same_new hp)) (.inr (.inl ⟨p, vs, ds, rfl, (m.same s1).new hp, upd_same, t1.tk (tk_same (same_new hp)), rfl⟩))⟩
theorem pb_tl {ts : TA} {ds : List PyData} (h : PTs K ts ds) (hl : ds.length ≤ 100000 := by decide) : PB K M (tTup (tCons (tLst ts) tNil)) (.tuple [.list ds]) := fun σ H Q m q =>
  h σ H _ fun vs H1 s1 t1 => ⟨by rw [t1.length]; exact sz_of hl, fun p hp => ⟨sz_of (Nat.le_of_ble_eq_true rfl), fun p2 hp2 => by
    have s2 := same_new (o := .lst vs) hp
    have s3 := same_new (o := .tup [.ref p]) hp2
    exact q _ _ (sm_trans s1 (sm_trans s2 s3)) (.inr (.inr ⟨p2, p, vs, ds, rfl, upd_same, (m.same s1).new hp, s3 _ _ upd_same, t1.tk (tk_same (sm_trans s2 s3)), rfl⟩))⟩⟩
theorem pbs_nil : PBs K M tNil [] := fun σ H Q m q => q _ _ sm_refl .nil
theorem pbs_cons {te : TE} {ts : TA} {d : PyData} {ds : List PyData} (h : PB K M te d) (hs : PBs K M ts ds) : PBs K M (tCons te ts) (d :: ds) := fun σ H Q m q =>
  h σ H _ m fun v H1 s1 t1 => hs σ H1 _ (m.same s1) fun vs H2 s2 t2 => q _ _ (sm_trans s1 s2) (.cons (t1.same s2) t2)
/-! ### what is bad at two places -/
def badD : PyData → Bool
  | .tuple ds => decide (60 < ds.length) || (ds.map (isStepD 2)).any (! ·)
  | _ => true
theorem pair_steps : ∀ {vs : List V} {ds : List PyData}, TVs K H vs ds → Paired (StepV K H) vs (ds.map (isStepD 2))
  | [], [], _ => .nil
  | v :: vs, d :: ds, h => .cons (.inl ⟨d, h.inv.1, rfl⟩) (pair_steps h.inv.2)
  | [], d :: ds, h => by have := h.length; simp at this
  | v :: vs, [], h => by have := h.length; simp at this
theorem BV.bad {v : V} {d : PyData} (h : BV K M H v d) (b : badD d = true) : BadY K H v := by
  rcases h with h | ⟨q, xs, ds, h1, h2, h3, h4, h5⟩ | ⟨p, q, xs, ds, h1, h2, h3, h4, h5, h6⟩
  · cases d with
    | tuple ds =>
      obtain ⟨a, xs, rfl, s, t⟩ := h.tup_inv
      by_cases hl : 60 < ds.length
      · exact .inr (.inr (.inl ⟨a, xs, rfl, s, by rw [t.length]; exact hl⟩))
      · refine .inr (.inr (.inr ⟨a, xs, _, rfl, s, by rw [t.length]; omega, pair_steps t, ?_⟩))
        simp only [badD, decide_eq_false hl, Bool.false_or, List.any_eq_true, Bool.not_eq_true'] at b
        obtain ⟨x, hx, e⟩ := b
        rw [e] at hx
        exact hx
    | _ => exact .inl ⟨_, h, rfl⟩
  · exact .inr (.inl ⟨q, xs, h1, h3⟩)
  · exact .inr (.inr (.inr ⟨p, [.ref q], [false], h1, .inl (.inl h2), by show 1 ≤ 60; decide, .cons (.inr ⟨rfl, q, xs, ds, rfl, h4, h5⟩) .nil, List.mem_cons_self ..⟩))
/-! ### the word of a call that raises -/
theorem word_of {C1 C2 : Addr} {T : List (Addr × Str)} {σ : L2.St} {Q : VK} {ta : TA} {vs : List V} {z : Str} {u : V} (tb : LamX.Tabs T H) (ht : ∀ (H1 : Hp) (R : List V → Hp → Prop), R vs H1 → ta σ H1 R)
    (hn : ∀ (H1 : Hp) (Q' : VK) (E : XK), LamX.ExtN H H1 → (∀ H' dx, Same H1 H' → H' dx = none → (E (.ref C1) (some dx) (upd H' dx (.xd [(("value" : Str), u)])) ∨ z ≠ "parameter") ∧ (E (.ref C2) (some dx) (upd H' dx (.xd [(("most" : Str), u)])) ∨ z ≠ "great")) → spNet K C1 C2 vs H1 Q' E)
    (q : ∀ (t : Addr) (H4 : Hp), LamX.ExtN H H4 → LamX.Tabs T H4 → H4 t = some (.tup [.str z, u]) → Q (.ref t) H4) : LamX.tLam T (L2A.TWord C1 C2) (fun E => tCall (spNet K C1 C2) [] E ta) σ H Q := by
  refine ⟨tb, fun H1 ex tb1 => ?_⟩
  refine ht H1 _ ?_
  rw [List.append_nil]
  refine hn H1 _ _ ex fun H' dx s hd => ⟨?_, ?_⟩
  · by_cases e : z = "parameter"
    · subst e
      refine .inl (.inl ⟨rfl, dx, u, rfl, upd_same, fun p hp => ?_⟩)
      have s4 : Same H1 (upd (upd H' dx (.xd [(("value" : Str), u)])) p (.tup [.str "parameter", u])) := sm_trans (sm_trans s (same_new hd)) (same_new hp)
      exact q p _ (ex.trans (.of s4)) (tb1.ext s4) upd_same
    · exact .inr e
  · by_cases e : z = "great"
    · subst e
      refine .inl (.inr ⟨rfl, dx, u, rfl, upd_same, fun p hp => ?_⟩)
      have s4 : Same H1 (upd (upd H' dx (.xd [(("most" : Str), u)])) p (.tup [.str "great", u])) := sm_trans (sm_trans s (same_new hd)) (same_new hp)
      exact q p _ (ex.trans (.of s4)) (tb1.ext s4) upd_same
    · exact .inr e
end
end Hf

set_option Elab.async false
set_option linter.all false
set_option maxRecDepth 100000
set_option maxHeartbeats 4000000
namespace Hf
open PySem PySem.Spec PyProof.Rows L2 Hd Net
section
variable {K : PySem.W.Frag} {H H' H2 : Hp} {M : Addr → Prop}
theorem extN_tk (e : LamX.ExtN H H') : Tk H H' := ⟨fun b xs hb => e _ _ hb (by intro ps z; cases z), fun b o u hb => e _ _ hb (by intro ps z; cases z)⟩
theorem extN_rx (e : LamX.ExtN H H') : Rx M H H' := fun b o hb n _ => e b o hb n
theorem same_rx (s : Same H H') : Rx M H H' := fun b o hb _ _ => s b o hb
theorem Rx.trans {H H1 H2 : Hp} (a : Rx M H H1) (b : Rx M H1 H2) : Rx M H H2 := fun c o h n m => b c o (a c o h n m) n m
theorem rx_upd {p : Addr} {o : HO} (h : M p) : Rx M H (upd H p o) := fun b x hb n m => by
  rw [upd_ne (fun z => m (by rw [z]; exact h))]
  exact hb
def EW (K : PySem.W.Frag) (M : Addr → Prop) (H : Hp) (v : V) (e : PyData) : Prop := ∃ t s x d, v = .ref t ∧ H t = some (.tup [.str s, x]) ∧ BV K M H x d ∧ e = .tuple [.str s, d]
theorem EW.rx {v : V} {e : PyData} (m : Ml M H) (r : Rx M H H') (h : EW K M H v e) : EW K M H' v e := by
  obtain ⟨t, s, x, d, h1, h2, h3, h4⟩ := h
  exact ⟨t, s, x, d, h1, (Rx.tk m r).1 _ _ h2, h3.rx m r, h4⟩
theorem ews_rx (m : Ml M H) (r : Rx M H H') : ∀ {vs : List V} {es : List PyData}, Paired (EW K M H) vs es → Paired (EW K M H') vs es
  | _, _, .nil => .nil
  | _, _, .cons h t => .cons (h.rx m r) (ews_rx m r t)
theorem bvs_rx (m : Ml M H) (r : Rx M H H') : ∀ {vs : List V} {es : List PyData}, Paired (BV K M H) vs es → Paired (BV K M H') vs es
  | _, _, .nil => .nil
  | _, _, .cons h t => .cons (h.rx m r) (bvs_rx m r t)
theorem paired_app {α β : Type} {R : α → β → Prop} : ∀ {xs xs' : List α} {ys ys' : List β}, Paired R xs ys → Paired R xs' ys' → Paired R (xs ++ xs') (ys ++ ys')
  | _, _, _, _, .nil, h => h
  | _, _, _, _, .cons a t, h => .cons a (paired_app t h)
theorem EW.dp {v : V} {e : PyData} (h : EW K M H v e) : Dp K H v e := by
  obtain ⟨t, s, x, d, h1, h2, h3, h4⟩ := h
  subst h1 h4
  exact .tup (.inl (.inl h2)) (.cons (.str s) (.cons h3.dp .nil))
theorem ews_dp : ∀ {vs : List V} {es : List PyData}, Paired (EW K M H) vs es → DpAll K H vs es
  | _, _, .nil => .nil
  | _, _, .cons h t => .cons h.dp (ews_dp t)
theorem Stt.same {a q1 q2 : Addr} {k : Int} (s : Same H H') (h : Stt a q1 q2 k H) : Stt a q1 q2 k H' := by
  obtain ⟨⟨at_, cs, ls, h1, h2, h3, h4, h5, h6⟩, ne⟩ := h
  exact ⟨⟨at_, cs, ls, h1, h2, s _ _ h3, s _ _ h4, s _ _ h5, h6⟩, ne⟩
theorem Stt.off {a q1 q2 b : Addr} {k : Int} (h : Stt a q1 q2 k H) (n : H b = none ∨ ∃ ps, H b = some (.tbl ps)) : ¬ (b = a ∨ b = q1 ∨ b = q2) := by
  obtain ⟨⟨at_, cs, ls, h1, h2, h3, h4, h5, h6⟩, ne⟩ := h
  rintro (rfl | rfl | rfl) <;> rcases n with n | ⟨ps, n⟩
  · rw [h3] at n; cases n
  · rw [h3] at n; cases n
  · rw [h4] at n; cases n
  · rw [h4] at n; cases n
  · rw [h5] at n; cases n
  · rw [h5] at n; cases n
end
/-! ### the data -/
abbrev dI (i : Int) : PyData := .int i
abbrev d2 (i j : Int) : PyData := .tuple [.int i, .int j]
def oddD : List PyData := [.none, .int (-1), .int 13, .bool true, .tuple [.int 2]]
def bad1D : List PyData := [.none, .list [d2 0 1], .tuple (List.replicate 61 [d2 0 1]).flatten, .tuple [d2 1 0], .tuple [d2 0 0], .tuple [d2 0 2], .tuple [d2 0 1, .none], .tuple [.tuple [.int 0, .int 1, .int 1]]]
def bad2D : List PyData := [.tuple [.tuple [.bool false, .int 1]], .tuple [.tuple [.int 0, .bool true]], .tuple [.list [.int 0, .int 1]], .tuple [d2 (-1) 1]]
theorem bads_bad : ∀ d ∈ bad1D ++ bad2D, badD d = true := by decide +kernel
theorem odd_bad : ∀ d ∈ oddD, isFrom d 0 12 = false := by decide +kernel
theorem odd_sh : ∀ d ∈ oddD, Sh 2 2000 d := by
  intro d hd
  simp only [oddD, List.mem_cons, List.not_mem_nil, or_false] at hd
  rcases hd with rfl | rfl | rfl | rfl | rfl
  · exact sh_non.mono
  · exact (sh_int (by decide)).mono
  · exact (sh_int (by decide)).mono
  · exact sh_bl.mono
  · exact (sh_tup (k := 0) (m := 12) (n := 1) (fun x hx => by rw [List.mem_singleton] at hx; rw [hx]; exact sh_int (by decide)) (by decide)).mono
theorem sh_i2 {i j : Int} (hi : i.natAbs < 10 ^ 9) (hj : j.natAbs < 10 ^ 9) : Sh 1 50 (d2 i j) := (sh_tup (k := 0) (m := 12) (n := 2) (fun x hx => by
  simp only [List.mem_cons, List.not_mem_nil, or_false] at hx
  rcases hx with rfl | rfl
  · exact sh_int hi
  · exact sh_int hj) (by simp)).mono
theorem sh_all1 {xs : List PyData} (h : ∀ x ∈ xs, Sh 1 50 x) (hn : xs.length ≤ 61) : Sh 2 3200 (.tuple xs) := (sh_tup (k := 1) (m := 50) (n := 61) h hn).mono
theorem bad_sh : ∀ d ∈ bad1D ++ bad2D, Sh 2 3200 d := by
  intro d hd
  simp only [bad1D, bad2D, List.cons_append, List.nil_append, List.mem_cons, List.not_mem_nil, or_false] at hd
  have one : ∀ {x y : PyData}, Sh 1 50 y → x ∈ [y] → Sh 1 50 x := fun h hx => by rw [List.mem_singleton] at hx; rw [hx]; exact h
  rcases hd with rfl | rfl | rfl | rfl | rfl | rfl | rfl | rfl | rfl | rfl | rfl | rfl
  · exact sh_non.mono
  · exact (sh_lst (k := 1) (m := 50) (n := 1) (fun x hx => one (sh_i2 (by decide) (by decide)) hx) (by decide)).mono
  · refine sh_all1 (fun x hx => ?_) (by decide)
    obtain ⟨l, hl, hx⟩ := List.mem_flatten.mp hx
    rw [(List.mem_replicate.mp hl).2] at hx
    exact one (sh_i2 (by decide) (by decide)) hx
  · exact sh_all1 (fun x hx => one (sh_i2 (by decide) (by decide)) hx) (by decide)
  · exact sh_all1 (fun x hx => one (sh_i2 (by decide) (by decide)) hx) (by decide)
  · exact sh_all1 (fun x hx => one (sh_i2 (by decide) (by decide)) hx) (by decide)
  · refine sh_all1 (fun x hx => ?_) (by decide)
    simp only [List.mem_cons, List.not_mem_nil, or_false] at hx
    rcases hx with rfl | rfl
    · exact sh_i2 (by decide) (by decide)
    · exact sh_non.mono
  · refine sh_all1 (fun x hx => one ?_ hx) (by decide)
    refine (sh_tup (k := 0) (m := 12) (n := 3) (fun x hx => ?_) (by simp)).mono
    simp only [List.mem_cons, List.not_mem_nil, or_false] at hx
    rcases hx with rfl | rfl | rfl <;> exact sh_int (by decide)
  · refine sh_all1 (fun x hx => one ?_ hx) (by decide)
    refine (sh_tup (k := 0) (m := 12) (n := 2) (fun x hx => ?_) (by simp)).mono
    simp only [List.mem_cons, List.not_mem_nil, or_false] at hx
    rcases hx with rfl | rfl
    · exact sh_bl
    · exact sh_int (by decide)
  · refine sh_all1 (fun x hx => one ?_ hx) (by decide)
    refine (sh_tup (k := 0) (m := 12) (n := 2) (fun x hx => ?_) (by simp)).mono
    simp only [List.mem_cons, List.not_mem_nil, or_false] at hx
    rcases hx with rfl | rfl
    · exact sh_int (by decide)
    · exact sh_bl
  · refine sh_all1 (fun x hx => one ?_ hx) (by decide)
    refine (sh_lst (k := 0) (m := 12) (n := 2) (fun x hx => ?_) (by simp)).mono
    simp only [List.mem_cons, List.not_mem_nil, or_false] at hx
    rcases hx with rfl | rfl <;> exact sh_int (by decide)
  · exact sh_all1 (fun x hx => one (sh_i2 (by decide) (by decide)) hx) (by decide)
theorem sh_word {s : Str} {d : PyData} (hs : s = "parameter" ∨ s = "great") (h : Sh 2 3200 d) : Sh 3 6407 (.tuple [.str s, d]) := (sh_tup (k := 2) (m := 3200) (n := 2) (fun x hx => by
  simp only [List.mem_cons, List.not_mem_nil, or_false] at hx
  rcases hx with rfl | rfl
  · rcases hs with rfl | rfl
    · exact ⟨by decide +kernel, by decide +kernel, by decide +kernel, by decide +kernel⟩
    · exact ⟨by decide +kernel, by decide +kernel, by decide +kernel, by decide +kernel⟩
  · exact h) (by simp)).mono
end Hf

set_option Elab.async false
set_option linter.all false
set_option maxRecDepth 100000
set_option maxHeartbeats 4000000
namespace Hf
open PySem PySem.Spec PyProof.Rows L2 Hd Net
section
variable {P : Program} {w : World} {K : PySem.W.Frag} {mg : Str → Option Value} {base : Heap}
def spRef (P0 : Addr) : Sp := fun vs H Q _ => ∃ (a q1 q2 : Addr) (k : Int), vs = [.ref a] ∧ Stt a q1 q2 k H ∧ k < 2 ^ 30 ∧ H P0 = some (.tbl #[]) ∧ ∀ H', Q (.bl true) H'
structure LI (K : PySem.W.Frag) (P0 a pb p1 p2 pl : Addr) (x : V) (vs : List V) (i : Nat) (σ : L2.St) (H : Hp) : Prop where
  sg : ∃ x5, σ = [some (.ref a), some x, some (.ref p1), some (.ref p2), some (.ref pb), x5]
  ne : p1 ≠ p2
  hl : H pl = some (.lst vs)
  npl : ¬ (pl = p1 ∨ pl = p2)
  bs : Paired (BV K (fun b => b = p1 ∨ b = p2) H) vs (bad1D ++ bad2D)
  tb : LamX.Tabs [(P0, "_law_refused" ++ ".<locals>." ++ "<lambda>")] H
  es : ∃ gs ds es, H p1 = some (.lst gs) ∧ H p2 = some (.lst ds) ∧ Paired (EW K (fun b => b = p1 ∨ b = p2) H) gs es ∧ Paired (EW K (fun b => b = p1 ∨ b = p2) H) ds es ∧ es.length = 2 + i ∧ ∀ e ∈ es, Sh 3 6407 e
theorem LI.ml {P0 a pb p1 p2 pl : Addr} {x : V} {vs : List V} {i : Nat} {σ : L2.St} {H : Hp} (L : LI K P0 a pb p1 p2 pl x vs i σ H) : Ml (fun b => b = p1 ∨ b = p2) H := by
  obtain ⟨gs, ds, es, h1, h2, _⟩ := L.es
  rintro b (rfl | rfl)
  · exact ⟨_, h1⟩
  · exact ⟨_, h2⟩
/-- after a turn -/
theorem LI.turn {P0 a pb p1 p2 pl t1 t2 : Addr} {x y : V} {vs gs ds : List V} {i : Nat} {σ : L2.St} {H H4 : Hp} (L : LI K P0 a pb p1 p2 pl x vs i σ H) (hi : i < 12) (hy : vs[i]? = some y) (ex : LamX.ExtN H H4) (tb : LamX.Tabs [(P0, "_law_refused" ++ ".<locals>." ++ "<lambda>")] H4) (ht : H4 t1 = some (.tup [.str "parameter", y]))
    (hg : H p1 = some (.lst gs)) (hd : H p2 = some (.lst ds)) (hn : (upd H4 p1 (.lst (gs ++ [.ref t1]))) t2 = none) :
    LI K P0 a pb p1 p2 pl x vs (i + 1) (σ.set 5 (some y)) (upd (upd (upd H4 p1 (.lst (gs ++ [.ref t1]))) t2 (.tup [.str "parameter", y])) p2 (.lst (ds ++ [.ref t2]))) := by
  have ml := L.ml
  obtain ⟨⟨x5, es⟩, ne, hpl, npl, bs, _, ⟨gs', ds', ees, h1, h2, pg, pd, hl, hs⟩⟩ := L
  rw [hg] at h1
  rw [hd] at h2
  cases h1
  cases h2
  have h41 : H4 p1 = some (.lst gs) := ex _ _ hg (by intro ps z; cases z)
  have h42 : H4 p2 = some (.lst ds) := ex _ _ hd (by intro ps z; cases z)
  generalize hH5 : upd H4 p1 (.lst (gs ++ [.ref t1])) = H5 at hn ⊢
  have r45 : Rx (fun b => b = p1 ∨ b = p2) H4 H5 := by rw [← hH5]; exact rx_upd (.inl rfl)
  have h52 : H5 p2 = some (.lst ds) := by rw [← hH5, upd_ne (Ne.symm ne)]; exact h42
  have h51 : H5 p1 = some (.lst (gs ++ [.ref t1])) := by rw [← hH5, upd_same]
  have s56 : Same H5 (upd H5 t2 (.tup [.str "parameter", y])) := same_new hn
  generalize hH6 : upd H5 t2 (.tup [.str "parameter", y]) = H6 at s56 ⊢
  have h6t : H6 t2 = some (.tup [.str "parameter", y]) := by rw [← hH6, upd_same]
  have r67 : Rx (fun b => b = p1 ∨ b = p2) H6 (upd H6 p2 (.lst (ds ++ [.ref t2]))) := rx_upd (.inr rfl)
  have m4 : Ml (fun b => b = p1 ∨ b = p2) H4 := by rintro b (rfl | rfl); exact ⟨_, h41⟩; exact ⟨_, h42⟩
  have m6 : Ml (fun b => b = p1 ∨ b = p2) H6 := by rintro b (rfl | rfl); exact ⟨_, s56 _ _ h51⟩; exact ⟨_, s56 _ _ h52⟩
  have r46 : Rx (fun b => b = p1 ∨ b = p2) H4 H6 := r45.trans (same_rx s56)
  have r4 := r46.trans r67
  have r := (extN_rx ex).trans r4
  obtain ⟨d, hd2, bv⟩ := paired_at bs hy
  have bmem : d ∈ bad1D ++ bad2D := List.mem_of_getElem? hd2
  refine ⟨⟨some y, by rw [es]; rfl⟩, ne, r _ _ hpl (by intro ps z; cases z) npl, npl, bvs_rx ml r bs, fun p hp => ?_, gs ++ [.ref t1], ds ++ [.ref t2], ees ++ [.tuple [.str "parameter", d]], ?_, upd_same, paired_app (ews_rx ml r pg) (.cons ⟨t1, _, y, d, rfl, (Rx.tk m4 r4).1 _ _ ht, bv.rx ml r, rfl⟩ .nil), paired_app (ews_rx ml r pd) (.cons ⟨t2, _, y, d, rfl, (Rx.tk m6 r67).1 _ _ h6t, bv.rx ml r, rfl⟩ .nil), by rw [List.length_append, hl]; rfl, fun e he => ?_⟩
  · obtain ⟨ps, a1, a2, a3⟩ := tb p hp
    have nP : ¬ (p.1 = p1 ∨ p.1 = p2) := by
      intro z
      obtain ⟨xs, e⟩ := m4 _ z
      rw [a1] at e
      cases e
    have up : upd H6 p2 (.lst (ds ++ [.ref t2])) p.1 = some (.tbl ps) := by
      rw [upd_ne (fun z => nP (.inr z))]
      refine s56 _ _ ?_
      rw [← hH5, upd_ne (fun z => nP (.inl z))]
      exact a1
    refine ⟨ps, up, a2, fun pos cv hc => ?_⟩
    obtain ⟨c, e1, e2⟩ := a3 pos cv hc
    refine ⟨c, e1, r4 _ _ e2 LamX.codeO_ne fun z => ?_⟩
    obtain ⟨xs, e⟩ := m4 _ z
    rw [e2] at e
    exact absurd (Option.some.inj e) (by unfold LamX.CodeO; intro z; cases z)
  · rw [upd_ne ne]
    exact s56 _ _ h51
  · rcases List.mem_append.mp he with h | h
    · exact hs e h
    · rw [List.mem_singleton] at h
      rw [h]
      exact sh_word (.inl rfl) (bad_sh d bmem)
end
end Hf

set_option Elab.async false
set_option linter.all false
set_option maxRecDepth 100000
set_option maxHeartbeats 4000000
namespace Hf
open PySem PySem.Spec PyProof.Rows L2 Hd Net
section
variable {P : Program} {w : World} {K : PySem.W.Frag} {mg : Str → Option Value} {base : Heap}
theorem clOfGc {x : Str} {st : Stmt} {ps : List Str} {k : Nat} {sp : Sp} (F : FD K mg x st) (hb : ∀ (kV doc pm : Value) (an : Option Addr) (cdv ct : Value) (us : List Value), us.length = ps.length → bindArgs (PySem.W.fnOf x x (defArgs st) (defBody st) (defScope st) .none kV doc pm an cdv ct) ⟨us, []⟩ = pure (ps.zip us))
    (h : ∀ f fd, mg x = some (.ref f) → FunD K x x (defArgs st) (defBody st) (defScope st) [] [] f fd → FnG P w K mg base CX0 k f fd ps sp) : ClG P w K mg base x ps k sp := by
  obtain ⟨f, fd, F, hm⟩ := F
  exact ⟨f, fd, h f fd hm F, hm, F.kp, F.bindsN hb⟩
theorem tlst_ {ts : TA} {σ : L2.St} {H : Hp} {Q : VK} (h : ts σ H fun xs H1 => xs.length ≤ sizeLine ∧ ∀ p, H1 p = none → Q (.ref p) (upd H1 p (.lst xs))) : tLst ts σ H Q := h
theorem tcons_lst {ts tr : TA} {σ : L2.St} {H : Hp} {Q : List V → Hp → Prop} (h : ts σ H fun xs H1 => xs.length ≤ sizeLine ∧ ∀ p, H1 p = none → tr σ (upd H1 p (.lst xs)) fun ys H2 => Q (.ref p :: ys) H2) : tCons (tLst ts) tr σ H Q := h
theorem tseq_lst {ts : TA} {g : TG} {u : TS} {D : Ends} {σ : L2.St} {H : Hp} (h : ts σ H fun xs H1 => xs.length ≤ sizeLine ∧ ∀ p, H1 p = none → g (.ref p) σ (upd H1 p (.lst xs)) fun σ2 H2 => u D σ2 H2) : tSeq (tAsg (tLst ts) g) u D σ H := h
theorem tseq_lst1 {te : TE} {g : TG} {u : TS} {D : Ends} {σ : L2.St} {H : Hp} (h : te σ H fun x H1 => [x].length ≤ sizeLine ∧ ∀ p, H1 p = none → g (.ref p) σ (upd H1 p (.lst [x])) fun σ2 H2 => u D σ2 H2) : tSeq (tAsg (tLst (tCons te tNil)) g) u D σ H := h
theorem app_run {K : PySem.W.Frag} {i : Nat} {te : TE} {D : Ends} {σ : L2.St} {H : Hp} {p : Addr} {xs : List V} (hs : σ[i]? = some (some (.ref p))) (hp : H p = some (.lst xs)) (h : te σ H fun y H1 => rAppend (.ref p) [y] H1 fun _ H2 => D.nx σ H2) :
    tDrop (tBM K "list" rAppend (tVar i) (tCons te tNil)) D σ H := ⟨_, hs, .inl ⟨rfl, _, .inl (.inl hp)⟩, h⟩
theorem app_seq {K : PySem.W.Frag} {i : Nat} {te : TE} {u : TS} {D : Ends} {σ : L2.St} {H : Hp} {p : Addr} {xs : List V} (hs : σ[i]? = some (some (.ref p))) (hp : H p = some (.lst xs)) (h : te σ H fun y H1 => rAppend (.ref p) [y] H1 fun _ H2 => u D σ H2) :
    tSeq (tDrop (tBM K "list" rAppend (tVar i) (tCons te tNil))) u D σ H := app_run (D := { D with nx := u D }) hs hp h
theorem word_facts {T : List (Addr × Str)} {H H1 H' : Hp} {dx p : Addr} {o o' : HO} (ex : LamX.ExtN H H1) (tb1 : LamX.Tabs T H1) (s : Same H1 H') (hd : H' dx = none) (hp : (upd H' dx o) p = none) :
    LamX.ExtN H (upd (upd H' dx o) p o') ∧ LamX.Tabs T (upd (upd H' dx o) p o') ∧ (upd (upd H' dx o) p o') p = some o' := by
  have s4 : Same H1 (upd (upd H' dx o) p o') := sm_trans (sm_trans s (same_new hd)) (same_new hp)
  exact ⟨ex.trans (.of s4), tb1.ext s4, upd_same⟩
theorem pts_odd : PTs K (tCons (tC .non) (tCons (tUn (rU fun i => .int (-i)) (tC (.int 1))) (tCons (tC (.int 13)) (tCons (tC (.bl true)) (tCons (tTup (tCons (tC (.int 2)) tNil)) tNil))))) oddD :=
  pts_cons' pt_non (pts_cons' pt_neg (pts_cons' pt_int (pts_cons' pt_bl (pts_cons' (pt_tup (pts_cons' pt_int pts_nil')) pts_nil'))))
theorem pt_2 {i j : Int} : PT K (tTup (tCons (tC (.int i)) (tCons (tC (.int j)) tNil))) (d2 i j) := pt_tup (pts_cons' pt_int (pts_cons' pt_int pts_nil')) (Nat.le_of_ble_eq_true rfl)
theorem pt_1 {te : TE} {d : PyData} (h : PT K te d) : PT K (tTup (tCons te tNil)) (.tuple [d]) := pt_tup (pts_cons' h pts_nil') (Nat.le_of_ble_eq_true rfl)
abbrev tI2 (i j : Int) : TE := tTup (tCons (tC (.int i)) (tCons (tC (.int j)) tNil))
abbrev tT1 (t : TE) : TE := tTup (tCons t tNil)
theorem pbs_1 {M : Addr → Prop} : PBs K M (tCons (tC .non) (tCons (tLst (tCons (tI2 0 1) tNil)) (tCons (tOp (rRepT K) (tT1 (tI2 0 1)) (tC (.int 61))) (tCons (tT1 (tI2 1 0)) (tCons (tT1 (tI2 0 0)) (tCons (tT1 (tI2 0 2)) (tCons (tTup (tCons (tI2 0 1) (tCons (tC .non) tNil))) (tCons (tT1 (tTup (tCons (tC (.int 0)) (tCons (tC (.int 1)) (tCons (tC (.int 1)) tNil))))) tNil)))))))) bad1D :=
  pbs_cons (pb_t pt_non) (pbs_cons (pb_l (pts_cons' pt_2 pts_nil') (Nat.le_of_ble_eq_true rfl)) (pbs_cons (pb_t (pt_rep (pt_1 pt_2) (by simp) (by decide) (by decide))) (pbs_cons (pb_t (pt_1 pt_2)) (pbs_cons (pb_t (pt_1 pt_2)) (pbs_cons (pb_t (pt_1 pt_2))
    (pbs_cons (pb_t (pt_tup (pts_cons' pt_2 (pts_cons' pt_non pts_nil')) (Nat.le_of_ble_eq_true rfl))) (pbs_cons (pb_t (pt_1 (pt_tup (pts_cons' pt_int (pts_cons' pt_int (pts_cons' pt_int pts_nil'))) (Nat.le_of_ble_eq_true rfl)))) pbs_nil)))))))
theorem pbs_2 {M : Addr → Prop} : PBs K M (tCons (tT1 (tTup (tCons (tC (.bl false)) (tCons (tC (.int 1)) tNil)))) (tCons (tT1 (tTup (tCons (tC (.int 0)) (tCons (tC (.bl true)) tNil)))) (tCons (tT1 (tLst (tCons (tC (.int 0)) (tCons (tC (.int 1)) tNil)))) (tCons (tT1 (tTup (tCons (tUn (rU fun i => .int (-i)) (tC (.int 1))) (tCons (tC (.int 1)) tNil)))) tNil)))) bad2D :=
  pbs_cons (pb_t (pt_1 (pt_tup (pts_cons' pt_bl (pts_cons' pt_int pts_nil')) (Nat.le_of_ble_eq_true rfl)))) (pbs_cons (pb_t (pt_1 (pt_tup (pts_cons' pt_int (pts_cons' pt_bl pts_nil')) (Nat.le_of_ble_eq_true rfl))))
    (pbs_cons (pb_tl (pts_cons' pt_int (pts_cons' pt_int pts_nil')) (Nat.le_of_ble_eq_true rfl)) (pbs_cons (pb_t (pt_1 (pt_tup (pts_cons' pt_neg (pts_cons' pt_int pts_nil')) (Nat.le_of_ble_eq_true rfl)))) pbs_nil)))
theorem cl__law_refused {C1 C2 c P0 : Addr} (T : Txt mg) (F : FD K mg "_law_refused" s__law_refused) (F_law_word : FD K mg "_law_word" s__law_word) (Z2 : TwoX K mg C1 C2) (TB : LamX.TabB base mg c P0) (hc : ∀ f, mg "_law_refused" = some (.ref f) → ∀ oc od osl fd, K.lookup f = some ⟨oc, od, .func fd, osl⟩ → fd.code = .ref c)
    (C_network : ClX P w K mg base "network" P_network 4 (spNet K C1 C2)) (C_law_of : Cl P w K mg base "_law_of" P__law_of 3 spOf) (C_law_like : ClG P w K mg base "_law_like" P__law_like 1 (spLike K)) :
    ClG P w K mg base "_law_refused" P__law_refused 8 (spRef P0) :=
  clOfGc F (fun _ _ _ _ _ _ us hl => match us, hl with | [_], _ => rfl) fun f fd hmf F => okGc F sc__law_refused (hc f hmf) (by rintro vs H Q E ⟨a, q1, q2, k, rfl, _⟩; rfl) fun A outer s H vs Q E hG hr h => by
    have nd := sc__law_refused.nd
    refine ⟨_, PSs.nox (pss_cons (ps_set (i := 1) nd rfl (by first | exact Or.inl rfl | exact Or.inr rfl) (pe_cl C_law_of hr (pa_cons (pv 0) (pa_cons (pe_lst (pa_cons pe_non (pa_cons (pe_un un_neg pe_int) (pa_cons pe_int (pa_cons pe_bl (pa_cons (pe_tup (pa_cons pe_int pa_nil)) pa_nil)))))) pa_nil))))
      (pss_cons (ps_set (i := 2) nd rfl (by first | exact Or.inl rfl | exact Or.inr rfl) (pe_lst (pa_cons (pe_word cxq F_law_word Z2 TB rfl hr (by rfl) (LamX.lamS_by (by kernel_rfl)) rfl (fun _ _ _ _ _ => rfl) (fun A outer s H E f c2 hr2 => pe_clX C_network hr2 (passes_call (takes_of rfl rfl rfl rfl) fun _ _ _ _ h => h) (pa_cons (pv 1) (pa_cons pe_non pa_nil)))) pa_nil)))
      (pss_cons (ps_expr (pe_bm PySem.F.plainAttrs_list PySem.F.slot_list_append PySem.F.type_list_append mt_append (pv 2) (pa_cons (pe_word cxq F_law_word Z2 TB rfl hr (by rfl) (LamX.lamS_by (by kernel_rfl)) rfl (fun _ _ _ _ _ => rfl) (fun A outer s H E f c2 hr2 => pe_clX C_network hr2 (passes_call (takes_of rfl rfl rfl rfl) fun _ _ _ _ h => h) (pa_cons pe_int (pa_cons pe_non pa_nil)))) pa_nil)))
      (pss_cons (ps_set (i := 3) nd rfl (by first | exact Or.inl rfl | exact Or.inr rfl) (pe_lst (pa_cons (pe_tup (pa_cons pe_str (pa_cons (pv 1) pa_nil))) (pa_cons (pe_tup (pa_cons pe_str (pa_cons pe_int pa_nil))) pa_nil))))
      (pss_cons (ps_set (i := 4) nd rfl (by first | exact Or.inl rfl | exact Or.inr rfl) (pe_lst (pa_cons pe_non (pa_cons (pe_lst (pa_cons (pe_tup (pa_cons pe_int (pa_cons pe_int pa_nil))) pa_nil)) (pa_cons (pe_op (k_repT rfl) (pe_tup (pa_cons (pe_tup (pa_cons pe_int (pa_cons pe_int pa_nil))) pa_nil)) pe_int) (pa_cons (pe_tup (pa_cons (pe_tup (pa_cons pe_int (pa_cons pe_int pa_nil))) pa_nil)) (pa_cons (pe_tup (pa_cons (pe_tup (pa_cons pe_int (pa_cons pe_int pa_nil))) pa_nil)) (pa_cons (pe_tup (pa_cons (pe_tup (pa_cons pe_int (pa_cons pe_int pa_nil))) pa_nil)) (pa_cons (pe_tup (pa_cons (pe_tup (pa_cons pe_int (pa_cons pe_int pa_nil))) (pa_cons pe_non pa_nil))) (pa_cons (pe_tup (pa_cons (pe_tup (pa_cons pe_int (pa_cons pe_int (pa_cons pe_int pa_nil)))) pa_nil)) pa_nil))))))))))
      (pss_cons (ps_for PassesOwn.never rfl (k_list rfl (pe_op op_cat (pv 4) (pe_lst (pa_cons (pe_tup (pa_cons (pe_tup (pa_cons pe_bl (pa_cons pe_int pa_nil))) pa_nil)) (pa_cons (pe_tup (pa_cons (pe_tup (pa_cons pe_int (pa_cons pe_bl pa_nil))) pa_nil)) (pa_cons (pe_tup (pa_cons (pe_lst (pa_cons pe_int (pa_cons pe_int pa_nil))) pa_nil)) (pa_cons (pe_tup (pa_cons (pe_tup (pa_cons (pe_un un_neg pe_int) (pa_cons pe_int pa_nil))) pa_nil)) pa_nil))))))) (pg_name (i := 5) nd rfl (by first | exact Or.inl rfl | exact Or.inr rfl)) (pss_cons (ps_expr (pe_bm PySem.F.plainAttrs_list PySem.F.slot_list_append PySem.F.type_list_append mt_append (pv 2) (pa_cons (pe_word cxq F_law_word Z2 TB rfl hr (by rfl) (LamX.lamS_by (by kernel_rfl)) rfl (fun _ _ _ _ _ => rfl) (fun A outer s H E f c2 hr2 => pe_clX C_network hr2 (passes_call (takes_of rfl rfl rfl rfl) fun _ _ _ _ h => h) (pa_cons pe_int (pa_cons (pv 5) pa_nil)))) pa_nil)))
      (pss_one (ps_expr (pe_bm PySem.F.plainAttrs_list PySem.F.slot_list_append PySem.F.type_list_append mt_append (pv 3) (pa_cons (pe_tup (pa_cons pe_str (pa_cons (pv 5) pa_nil))) pa_nil))))))
      (pss_one (ps_ret (pe_clG C_law_like hG hr (pa_cons (pv 2) (pa_cons (pv 3) pa_nil))))))))))), ?_⟩
    obtain ⟨a, q1, q2, k, rfl, S, hk, hP, q⟩ := h
    have e30 : (2 : Int) ^ 30 = 1073741824 := by decide
    have e40 : (2 : Int) ^ 40 = 1099511627776 := by decide
    refine ⟨_, rfl, tcons_lst (pts_odd (K := K) _ _ _ fun xs H1 s1 t1 => ⟨by rw [t1.length]; exact sz_of (by decide), fun ql hq => ?_⟩)⟩
    have s2 : Same H1 (upd H1 ql (.lst xs)) := same_new hq
    have S1 := Stt.same s1 S
    have S2 := Stt.same s2 S1
    have nP := Stt.off S (.inr ⟨_, hP⟩)
    have hP2 := s2 _ _ (s1 _ _ hP)
    refine ⟨a, q1, q2, ql, k, xs, rfl, S2, by omega, upd_same, Stt.off S1 (.inl hq), by rw [t1.length]; decide, by rw [t1.length]; decide, fun r x H3 hx kp S3 => ?_⟩
    obtain ⟨d, hd, td⟩ := t1.getV hx
    have td3 : TV K H3 x d := (td.tk (tk_same s2)).tk (Kp.tk (W := Ws a q1 q2 k) S2 kp)
    have dm : d ∈ oddD := List.mem_of_getElem? hd
    have hP3 : H3 P0 = some (.tbl #[]) := kp _ _ hP2 nP
    have tb3 : LamX.Tabs [(P0, "_law_refused" ++ ".<locals>." ++ "<lambda>")] H3 := fun p hp => by
      rw [List.mem_singleton] at hp
      subst hp
      exact .nil hP3
    refine ⟨tb3, fun Ha exa tba => ⟨x, rfl, x, .non, rfl, .inl ⟨d, td3.tk (extN_tk exa), odd_bad d dm, fun H' dx s hd => .inl ⟨rfl, dx, x, rfl, upd_same, fun ta hta => ⟨sz_of (Nat.le_of_ble_eq_true rfl), fun p1 hp1 => ?_⟩⟩⟩⟩⟩
    obtain ⟨ex4, tb4, ht4⟩ := word_facts (o' := .tup [.str "parameter", x]) exa tba s hd hta
    generalize upd (upd H' dx (.xd [(("value" : Str), x)])) ta (.tup [.str "parameter", x]) = H4 at ex4 tb4 ht4 hp1 ⊢
    have s5 : Same H4 (upd H4 p1 (.lst [.ref ta])) := same_new hp1
    refine ⟨_, rfl, .inl ⟨rfl, _, .inl (.inl upd_same)⟩, tb4.ext s5, fun Hb exb tbb => ⟨.int 12, .non, rfl, .inr (.inl ⟨rfl, fun H' dx s hd => .inr ⟨rfl, dx, .int 4, rfl, upd_same, fun tb htb => ⟨p1, [.ref ta], .ref tb, rfl, rfl, ?_⟩⟩⟩)⟩⟩
    obtain ⟨ex6, tb6, ht6⟩ := word_facts (o' := .tup [.str "great", .int 4]) exb tbb s hd htb
    generalize upd (upd H' dx (.xd [(("most" : Str), .int 4)])) tb (.tup [.str "great", .int 4]) = H6 at ex6 tb6 ht6 ⊢
    refine ⟨ex6 _ _ upd_same (by intro ps z; cases z), sz_lt (Nat.le_of_ble_eq_true rfl), ?_⟩
    have l61 : H6 p1 = some (.lst [.ref ta]) := ex6 _ _ upd_same (by intro ps z; cases z)
    have ta6 : H6 ta = some (.tup [.str "parameter", x]) := ex6 _ _ (s5 _ _ ht4) (by intro ps z; cases z)
    have td6 : TV K H6 x d := ((td3.tk (extN_tk ex4)).tk (tk_same s5)).tk (extN_tk ex6)
    have m6 : Ml (fun b => b = p1) H6 := by rintro b rfl; exact ⟨_, l61⟩
    generalize hH7 : upd H6 p1 (.lst ([.ref ta] ++ [.ref tb])) = H7
    have r67 : Rx (fun b => b = p1) H6 H7 := by rw [← hH7]; exact rx_upd rfl
    have l71 : H7 p1 = some (.lst [.ref ta, .ref tb]) := by rw [← hH7, upd_same]; rfl
    have ta7 := (Rx.tk m6 r67).1 _ _ ta6
    have tb7 := (Rx.tk m6 r67).1 _ _ ht6
    have td7 := td6.tk (Rx.tk m6 r67)
    have tab7 : LamX.Tabs [(P0, "_law_refused" ++ ".<locals>." ++ "<lambda>")] H7 := fun p hp => by
      obtain ⟨ps, a1, a2, a3⟩ := tb6 p hp
      have n1 : p.1 ≠ p1 := fun z => by rw [z, l61] at a1; cases a1
      refine ⟨ps, by rw [← hH7, upd_ne n1]; exact a1, a2, fun pos cv hc => ?_⟩
      obtain ⟨c, e1, e2⟩ := a3 pos cv hc
      refine ⟨c, e1, r67 _ _ e2 LamX.codeO_ne fun z => ?_⟩
      have z' : c = p1 := z
      rw [z', l61] at e2
      exact absurd (Option.some.inj e2) (by unfold LamX.CodeO; intro z; cases z)
    refine ⟨x, rfl, sz_of (Nat.le_of_ble_eq_true rfl), fun p3 hp3 => ⟨sz_of (Nat.le_of_ble_eq_true rfl), fun p4 hp4 => ⟨sz_of (Nat.le_of_ble_eq_true rfl), fun p2 hp2 => ?_⟩⟩⟩
    generalize hH8 : upd H7 p3 (.tup [.str "parameter", x]) = H8 at hp4 hp2 ⊢
    have s8 : Same H7 H8 := by rw [← hH8]; exact same_new hp3
    have t83 : H8 p3 = some (.tup [.str "parameter", x]) := by rw [← hH8, upd_same]
    generalize hH9 : upd H8 p4 (.tup [.str "great", .int 4]) = H9 at hp2 ⊢
    have s9 : Same H8 H9 := by rw [← hH9]; exact same_new hp4
    have t94 : H9 p4 = some (.tup [.str "great", .int 4]) := by rw [← hH9, upd_same]
    have s10 : Same H9 (upd H9 p2 (.lst [.ref p3, .ref p4])) := same_new hp2
    generalize hH10 : upd H9 p2 (.lst [.ref p3, .ref p4]) = H10 at s10 ⊢
    have l102 : H10 p2 = some (.lst [.ref p3, .ref p4]) := by rw [← hH10, upd_same]
    have s710 : Same H7 H10 := sm_trans s8 (sm_trans s9 s10)
    have l101 := s710 _ _ l71
    have n12 : p1 ≠ p2 := fun z => by
      have h1 := sm_trans s8 s9 _ _ l71
      rw [z, hp2] at h1
      cases h1
    have m10 : Ml (fun b => b = p1 ∨ b = p2) H10 := by rintro b (rfl | rfl); exact ⟨_, l101⟩; exact ⟨_, l102⟩
    refine tseq_lst (pbs_1 (K := K) (M := fun b => b = p1 ∨ b = p2) _ H10 _ m10 fun vs1 H11 s11 b11 => ⟨by rw [b11.length]; exact sz_of (by decide), fun pb hpb => ?_⟩)
    have s12 : Same H11 (upd H11 pb (.lst vs1)) := same_new hpb
    have m12 := (m10.same s11).same s12
    refine ⟨_, rfl, tlst_ (pbs_2 (K := K) (M := fun b => b = p1 ∨ b = p2) _ _ _ m12 fun vs2 H13 s13 b13 => ⟨by rw [b13.length]; exact sz_of (by decide), fun pc hpc => ⟨pb, pc, vs1, vs2, rfl, rfl, (same_new hpc) _ _ (s13 _ _ upd_same), upd_same, by rw [b11.length, b13.length]; exact sz_of (by decide), fun pl hpl => ⟨pl, rfl, ⟨_, .inl (.inl upd_same)⟩, ?_⟩⟩⟩)⟩
    have s14 := sm_trans (same_new (o := .lst vs2) hpc) (same_new (o := .lst (vs1 ++ vs2)) hpl)
    have nl : ¬ (pl = p1 ∨ pl = p2) := ((m12.same s13).same (same_new (o := .lst vs2) hpc)).new hpl
    generalize hH14 : upd (upd H13 pc (.lst vs2)) pl (.lst (vs1 ++ vs2)) = H14 at s14 ⊢
    have l14 : H14 pl = some (.lst (vs1 ++ vs2)) := by rw [← hH14, upd_same]
    have s1014 : Same H10 H14 := sm_trans s11 (sm_trans s12 (sm_trans s13 s14))
    have s714 := sm_trans s710 s1014
    have b14 : Paired (BV K (fun b => b = p1 ∨ b = p2) H14) (vs1 ++ vs2) (bad1D ++ bad2D) := paired_app (bvs_rx (m10.same s11) (same_rx (sm_trans s12 (sm_trans s13 s14))) b11) (bvs_rx (m12.same s13) (same_rx s14) b13)
    have lv : (vs1 ++ vs2).length = 12 := b14.length.trans (by decide)
    have sh1 : Sh 3 6407 (.tuple [.str "parameter", d]) := sh_word (.inl rfl) (odd_sh d dm).mono
    have sh2 : Sh 3 6407 (.tuple [.str "great", .int 4]) := sh_word (.inr rfl) (sh_int (by decide)).mono
    have L0 : LI K P0 a pb p1 p2 pl x (vs1 ++ vs2) 0 [some (.ref a), some x, some (.ref p1), some (.ref p2), some (.ref pb), none] H14 :=
      ⟨⟨none, rfl⟩, n12, l14, nl, b14, tab7.ext s714, _, _, [.tuple [.str "parameter", d], .tuple [.str "great", .int 4]], s1014 _ _ l101, s1014 _ _ l102,
        .cons ⟨ta, _, x, d, rfl, s714 _ _ ta7, .inl (td7.tk (tk_same s714)), rfl⟩ (.cons ⟨tb, _, .int 4, .int 4, rfl, s714 _ _ tb7, .inl .int, rfl⟩ .nil),
        .cons ⟨p3, _, x, d, rfl, s1014 _ _ (s10 _ _ (s9 _ _ t83)), .inl (td7.tk (tk_same s714)), rfl⟩ (.cons ⟨p4, _, .int 4, .int 4, rfl, s1014 _ _ (s10 _ _ t94), .inl .int, rfl⟩ .nil), rfl, fun e he => by
          rcases List.mem_cons.mp he with h | h
          · rw [h]; exact sh1
          · rw [List.mem_singleton] at h
            rw [h]; exact sh2⟩
    refine ⟨fun i m σ H => m + i = 12 ∧ LI K P0 a pb p1 p2 pl x (vs1 ++ vs2) i σ H, ⟨12, rfl, L0⟩, fun i m σ H hL => ?_⟩
    obtain ⟨hm, L⟩ := hL
    by_cases hi : i < 12
    · obtain ⟨y, hy⟩ : ∃ y, (vs1 ++ vs2)[i]? = some y := ⟨_, List.getElem?_eq_getElem (by rw [lv]; exact hi)⟩
      refine .inr ⟨⟨_, y, .inl (.inl L.hl), hy⟩, fun σ' H' => (m - 1) + (i + 1) = 12 ∧ LI K P0 a pb p1 p2 pl x (vs1 ++ vs2) (i + 1) σ' H', fun σ' H' h => ⟨m - 1, by omega, h⟩, ?_⟩
      rintro y' H' ⟨rfl, hy'⟩
      have ey := hy' _ (.inl (.inl L.hl))
      rw [hy] at ey
      cases ey
      have L2 := L
      obtain ⟨⟨x5, rfl⟩, ne, hl, npl, bs, tbs, ⟨gs, ds, ees, h1, h2, pg, pd, hle, hs⟩⟩ := L2
      obtain ⟨dy, hdy, bvy⟩ := paired_at bs hy
      have byd := bads_bad dy (List.mem_of_getElem? hdy)
      refine ⟨_, rfl, .inl ⟨rfl, _, .inl (.inl h1)⟩, tbs, fun Hb exb tbb => ⟨y, rfl, .int 2, y, rfl, .inr (.inr ⟨rfl, (bvy.rx L.ml (extN_rx exb)).bad byd, fun H' dx s hd => .inl ⟨rfl, dx, y, rfl, upd_same, fun t1 ht1 => ?_⟩⟩)⟩⟩
      obtain ⟨ex15, tb15, ht15⟩ := word_facts (o' := .tup [.str "parameter", y]) exb tbb s hd ht1
      generalize upd (upd H' dx (.xd [(("value" : Str), y)])) t1 (.tup [.str "parameter", y]) = H15 at ex15 tb15 ht15 ⊢
      have hg15 := ex15 _ _ h1 (by intro ps z; cases z)
      refine ⟨p1, gs, .ref t1, rfl, rfl, hg15, by rw [pg.length, hle]; exact sz_lt (by omega), ?_⟩
      refine ⟨_, rfl, .inl ⟨rfl, ds, .inl (.inl (by rw [upd_ne (Ne.symm n12)]; exact ex15 _ _ h2 (by intro ps z; cases z)))⟩, y, rfl, sz_of (Nat.le_of_ble_eq_true rfl), fun t2 ht2 => ⟨p2, ds, .ref t2, rfl, rfl, ?_, by rw [pd.length, hle]; exact sz_lt (by omega), by omega, L.turn hi hy ex15 tb15 ht15 h1 h2 ht2⟩⟩
      rw [upd_ne (fun z => by rw [← z, upd_ne (Ne.symm n12), ex15 _ _ h2 (by intro ps z; cases z)] at ht2; cases ht2), upd_ne (Ne.symm n12)]
      exact ex15 _ _ h2 (by intro ps z; cases z)
    · have i12 : i = 12 := by omega
      subst i12
      refine .inl ⟨⟨_, .inl (.inl L.hl), by rw [lv]; exact Nat.le_refl _⟩, ?_⟩
      obtain ⟨⟨x5, rfl⟩, ne, hl, npl, bs, tbs, ⟨gs, ds, ees, h1, h2, pg, pd, hle, hs⟩⟩ := L
      exact ⟨_, rfl, _, rfl, _, _, .list ees, rfl, .lst (.inl (.inl h1)) (ews_dp pg), .lst (.inl (.inl h2)) (ews_dp pd), (sh_lst (k := 3) (m := 6407) (n := 14) hs (by rw [hle]; decide)).shows, q _⟩
end
end Hf

set_option Elab.async false
set_option linter.all false
set_option maxRecDepth 100000
set_option maxHeartbeats 4000000
namespace Hf
open PySem PySem.Spec PyProof.Rows L2 Hd Net
section
variable {P : Program} {w : World} {K : PySem.W.Frag} {mg : Str → Option Value} {base : Heap}
def spLaw (K : PySem.W.Frag) (P0 : Addr) : Sp := fun vs H Q _ => ∃ (p : Addr) (ns : List Int), vs = [.ref p] ∧ SqL K H p (ns.map V.int) ∧ ns.length ≤ 40000 ∧ H P0 = some (.tbl #[]) ∧ ∀ H', Q (.bl true) H'
theorem four_are : ∀ (i : Nat) (v : V), ([V.int 2, V.int 3, V.int 3, V.int 4] : List V)[i]? = some v → ∃ n : Nat, v = V.int (n : Int) ∧ n ∈ [2, 3, 4]
  | 0, v, h => ⟨2, by cases h; rfl, by decide⟩
  | 1, v, h => ⟨3, by cases h; rfl, by decide⟩
  | 2, v, h => ⟨3, by cases h; rfl, by decide⟩
  | 3, v, h => ⟨4, by cases h; rfl, by decide⟩
  | n + 4, v, h => by simp at h
theorem fn_law {P0 : Addr} {f : Addr} {fd : FuncData} (T : Txt mg) (F : FunD K "law" "law" (defArgs s_law) (defBody s_law) (defScope s_law) [] [] f fd) (C_law_begin : Cl P w K mg base "_law_begin" P__law_begin 1 (spBegin K)) (C_law_right : ClG P w K mg base "_law_right" P__law_right 7 spRight) (C_law_known : ClG P w K mg base "_law_known" P__law_known 7 spKnown) (C_law_refused : ClG P w K mg base "_law_refused" P__law_refused 8 (spRef P0)) :
    FnG P w K mg base CX0 9 f fd P_law (spLaw K P0) :=
  okG F sc_law (by rintro vs H Q E ⟨p, ns, rfl, _⟩; rfl) fun cdv A outer s H vs Q E hG hr h => by
    have nd := sc_law.nd
    refine ⟨_, PSs.nox (pss_cons (ps_set (i := 1) nd rfl (by first | exact Or.inl rfl | exact Or.inr rfl) (pe_cl C_law_begin hr (pa_cons (pv 0) pa_nil)))
      (pss_cons (ps_for PassesOwn.never rfl (k_tup rfl (pe_tup (pa_cons pe_int (pa_cons pe_int (pa_cons pe_int (pa_cons pe_int pa_nil)))))) (pg_name (i := 2) nd rfl (by first | exact Or.inl rfl | exact Or.inr rfl)) (pss_one (ps_if (pt_not (pt_val (pe_clG C_law_right hG hr (pa_cons (pv 1) (pa_cons (pv 2) pa_nil))))) (pss_one (ps_ret pe_bl)) pss_nil)))
      (pss_one (ps_ret (pe_and (pe_clG C_law_known hG hr (pa_cons (pv 1) pa_nil)) (pe_one (pe_clG C_law_refused hG hr (pa_cons (pv 1) pa_nil)))))))), ?_⟩
    obtain ⟨p, ns, rfl, hS, hl, hP, q⟩ := h
    have e29 : (2 : Int) ^ 29 = 536870912 := by decide
    have e30 : (2 : Int) ^ 30 = 1073741824 := by decide
    refine ⟨.ref p, rfl, p, ns, rfl, hS, hl, fun a q1 q2 H2 ha hq1 hq2 s2 S2 => ?_⟩
    refine ⟨sz_of (Nat.le_of_ble_eq_true rfl), fun pt hpt => ⟨pt, rfl, ⟨_, .inl (.inl upd_same)⟩, ?_⟩⟩
    have npt := Stt.off S2 (.inl hpt)
    have hP2 := s2 _ _ hP
    have nP := Stt.off S2 (.inr ⟨_, hP2⟩)
    have s3 : Same H2 (upd H2 pt (.tup [.int 2, .int 3, .int 3, .int 4])) := same_new hpt
    have S0 : Stt a q1 q2 (30 * ((0 : Nat) : Int)) (upd H2 pt (.tup [.int 2, .int 3, .int 3, .int 4])) := Stt.same s3 S2
    refine ⟨fun i m σ H => m + i = 4 ∧ (∃ x2, σ = [some (.ref p), some (.ref a), x2]) ∧ H pt = some (.tup [.int 2, .int 3, .int 3, .int 4]) ∧ Stt a q1 q2 (30 * (i : Int)) H ∧ H P0 = some (.tbl #[]), ⟨4, rfl, ⟨none, rfl⟩, upd_same, S0, s3 _ _ hP2⟩, fun i m σ H hW => ?_⟩
    obtain ⟨hm, ⟨x2, rfl⟩, ht, S, hPi⟩ := hW
    have sq : SqT K H pt [.int 2, .int 3, .int 3, .int 4] := .inl (.inl ht)
    by_cases hi : i < 4
    · obtain ⟨y, hy⟩ : ∃ y, ([V.int 2, V.int 3, V.int 3, V.int 4] : List V)[i]? = some y := ⟨_, List.getElem?_eq_getElem hi⟩
      refine .inr ⟨⟨_, y, sq, hy⟩, fun σ' H' => (m - 1) + (i + 1) = 4 ∧ (∃ x2, σ' = [some (.ref p), some (.ref a), x2]) ∧ H' pt = some (.tup [.int 2, .int 3, .int 3, .int 4]) ∧ Stt a q1 q2 (30 * ((i + 1 : Nat) : Int)) H' ∧ H' P0 = some (.tbl #[]), fun σ' H' h => ⟨m - 1, by omega, h⟩, ?_⟩
      rintro y' H' ⟨rfl, hy'⟩
      have ey := hy' _ sq
      rw [hy] at ey
      cases ey
      obtain ⟨n, rfl, hn⟩ := four_are i _ hy
      refine ⟨_, rfl, _, rfl, a, q1, q2, _, n, rfl, S, by omega, hn, fun H3 kp S3 => ⟨true, rfl, iteF ?_⟩⟩
      refine ⟨by omega, ⟨_, rfl⟩, kp _ _ ht npt, ?_, kp _ _ hPi nP⟩
      have e : (30 * ((i + 1 : Nat) : Int)) = 30 * (i : Int) + 30 := by omega
      rw [e]
      exact S3
    · have i4 : i = 4 := by omega
      subst i4
      refine .inl ⟨⟨_, sq, Nat.le_refl _⟩, ?_⟩
      exact ⟨_, rfl, a, q1, q2, _, rfl, S, by decide, fun H3 kp S3 => ⟨true, rfl, iteT ⟨_, rfl, a, q1, q2, _, rfl, S3, by decide, kp _ _ hPi nP, fun H' => q H'⟩⟩⟩
end
end Hf

set_option Elab.async false
set_option linter.all false
set_option maxRecDepth 100000
set_option maxHeartbeats 4000000
namespace Hf
open PySem PySem.Spec PyProof.Rows L2 Hd Net
section
variable {P : Program} {w : World} {K : PySem.W.Frag} {mg mb : Str → Option Value} {k : Nat} {fa a c P0 : Addr} {fd : FuncData} {x : Str} {sp : Sp} {s₁ : Shared} {vs : List Value} {ns : List Int}
/-- the start: what is hidden and what the def's bundle asks, at a heap that tracks P0's table and perhaps the script -/
theorem law_core {H : Hp} (KX : K.In s₁.heap) (hns : s₁.heap.Ns mainGlobals mg) (hb : s₁.heap.Ns builtinsNs mb) (hbb : ∀ x : Str, x ≠ "__name__" → mb x = bootBuiltins x) (hlim : s₁.heap.NoLimit) (hg : s₁.gens = #[])
    (hT : s₁.heap.get? P0 = some { cls := .none, data := .fields #[] }) (nT : K.lookup P0 = none) (C : PySem.W.CodeHd s₁.heap c P0)
    (hbm : ∃ (bm : Addr) (ob : Obj), mg "__builtins__" = some (.ref bm) ∧ bm ≠ builtinsNs ∧ s₁.heap.get? bm = some ob ∧ ob.cls = .type "module" ∧ ob.dict = some builtinsNs ∧ ob.data = .plain)
    (ha : s₁.heap.get? a = some { cls := .type "list", data := .seq vs.toArray }) (hr : Room k callerA)
    (F : ∀ base : Heap, K.In base → base.Ns mainGlobals mg → LamX.TabB base mg c P0 → FnG P w K mg base C8.CX0 k fa fd [x] sp) (hbind : ∀ (s : Shared) (u : Value), BindsTo s fd ⟨[u], []⟩ [(x, u)])
    (hP : H P0 = some (.tbl #[])) (hO : ∀ b, H b = none ∨ b = P0 ∨ ∃ o xs, H b = some (.frz o (.lst xs))) (ok : HOk P w H s₁.heap) (hA : ∀ b, H b ≠ none → b = a ∨ b = P0) (hK : H a ≠ none → K.lookup a = none)
    (hsp : sp [.ref a] H (fun v _ => v = .bl true) C8.E0) :
    codeAny (model P w) callerA (.call (.ref fa) ⟨[.ref a], []⟩) (fun r s' => r = .ok (.ret (.bool true)) ∧ OldK s₁.heap s'.heap ∧ s'.os = s₁.os ∧ AllBare s'.gens) s₁ := by
  have plain : ∀ {b : Addr} {o : Obj}, s₁.heap.get? b = some o → (∀ vs n, o.data ≠ .seq vs n) → o.data ≠ .fields #[] → H b = none := fun {b o} e h1 h2 => Classical.byContradiction fun q => by
    rcases hA b q with rfl | rfl
    · rw [ha] at e
      cases e
      exact h1 _ _ rfl
    · rw [hT] at e
      cases e
      exact h2 rfl
  have there : ∀ {b : Addr} {o : Obj}, s₁.heap.get? b = some o → (∀ vs n, o.data ≠ .seq vs n) → o.data ≠ .fields #[] → (hidT s₁.heap H).get? b = some o := fun e h1 h2 => hidT_get e (plain e h1 h2)
  have nsK : ∀ {b : Addr} {m : Str → Option Value}, s₁.heap.Ns b m → (hidT s₁.heap H).Ns b m := fun {b m} ⟨o, es, ep, e, d, r⟩ =>
    ⟨o, es, ep, there e (fun _ _ z => by rw [d] at z; cases z) (fun z => by rw [d] at z; cases z), d, r⟩
  have KB : K.In (hidT s₁.heap H) := fun b o e => hidT_get (KX b o e) (Classical.byContradiction fun q => by
    rcases hA b q with rfl | rfl
    · rw [hK q] at e; cases e
    · rw [nT] at e; cases e)
  have TB : LamX.TabB (hidT s₁.heap H) mg c P0 := by
    refine ⟨?_, ?_, fun z => ?_⟩
    · obtain ⟨o, us, file, tf, flags, tg, inF, text, tt, e1, r1, r2, r3, rest⟩ := C
      refine ⟨o, us, file, tf, flags, tg, inF, text, tt, there e1 (fun _ _ z => by rw [r2] at z; cases z) (fun z => ?_), r1, r2, r3, rest⟩
      rw [r2] at z
      cases z
      simp at r3
    · obtain ⟨bm, ob, b1, b2, b3, b4, b5, b6⟩ := hbm
      refine ⟨bm, ob, b1, b2, fun q => ?_, fun q => ?_, there b3 (fun _ _ z => by rw [b6] at z; cases z) (fun z => by rw [b6] at z; cases z), b4, b5, b6⟩
      · obtain ⟨o, es, ep, e, hd, _⟩ := hns
        rw [← q, b3] at e
        cases e
        rw [b6] at hd
        cases hd
      · rw [q, hT] at b3
        cases b3
        cases b6
    · obtain ⟨o, es, ep, e, hd, _⟩ := hns
      rw [z, hT] at e
      cases e
      cases hd
  have e0 : Env0 P w K mg (hidT s₁.heap H) callerA [] s₁ H := ⟨rfl, ⟨KB, nsK hns, ⟨mb, nsK hb, hbb⟩, let ⟨mc, h1, h2⟩ := hlim; ⟨mc, nsK h1, h2⟩⟩, fun b o e => of_hidT e, Nat.le_of_eq (hidT_size _ _), trivial, fun b hb => absurd (show b ∈ ([] : List Addr) from hb) (by simp), ok, .of_eq hg⟩
  refine codeAny_mono ((F _ KB (nsK hns) TB).run callerA [] s₁ H ⟨[.ref a], []⟩ [.ref a] [.ref a] _ _ rfl hr e0 (hbind s₁ (.ref a)) (.cons rfl .nil) hsp) fun r s' h => ?_
  match r, h with
  | .error e, h => exact False.elim h
  | .ok .next, h => exact False.elim h
  | .ok .brk, h => exact False.elim h
  | .ok .cont, h => exact False.elim h
  | .ok (.ret u), h =>
    obtain ⟨v, H', os, bare, un, ok', rv, rfl⟩ := h
    obtain rfl : u = Value.bool true := rv
    have same : ∀ b o, b ≠ P0 → s₁.heap.get? b = some o → s'.heap.get? b = some o := fun b o nb e => by
      rcases hO b with z | z | ⟨ob, xs, z⟩
      · exact un.keep b o e z (fun q => nomatch (show b ∈ ([] : List Addr) from q)) (by simp)
      · exact absurd z nb
      · have g1 := (ok b _ z).1
        have g2 := (ok' b _ (un.frzs b ob _ z)).1
        rw [e] at g1
        cases g1
        exact g2
    obtain ⟨more, hm⟩ := un.tbls P0 #[] hP
    have hm2 := ok' P0 _ hm
    have hm2' : s'.heap.get? P0 = some { cls := .none, data := .fields (#[] ++ more) } := hm2
    refine ⟨rfl, ⟨fun b o e => ?_, fun b o e => ?_⟩, os, bare⟩
    · by_cases hb : b = P0
      · subst hb
        rw [hT] at e
        cases e
        exact .inr (.inl ⟨(C.tab hT).isCodeTable, rfl, #[], more, rfl, hm2'⟩)
      · exact .inl (same b o hb e)
    · by_cases hb : b = P0
      · subst hb
        exact ⟨_, hm2'⟩
      · exact ⟨o, same b o hb e⟩
theorem law_end (KX : K.In s₁.heap) (hns : s₁.heap.Ns mainGlobals mg) (hb : s₁.heap.Ns builtinsNs mb) (hbb : ∀ x : Str, x ≠ "__name__" → mb x = bootBuiltins x) (hlim : s₁.heap.NoLimit) (hg : s₁.gens = #[])
    (hT : s₁.heap.get? P0 = some { cls := .none, data := .fields #[] }) (nT : K.lookup P0 = none) (C : PySem.W.CodeHd s₁.heap c P0)
    (hbm : ∃ (bm : Addr) (ob : Obj), mg "__builtins__" = some (.ref bm) ∧ bm ≠ builtinsNs ∧ s₁.heap.get? bm = some ob ∧ ob.cls = .type "module" ∧ ob.dict = some builtinsNs ∧ ob.data = .plain)
    (ha : s₁.heap.get? a = some { cls := .type "list", data := .seq vs.toArray }) (hi : IntsAre vs ns) (hl : ns.length ≤ sizeLine) (hr : Room k callerA)
    (F : ∀ base : Heap, K.In base → base.Ns mainGlobals mg → LamX.TabB base mg c P0 → FnG P w K mg base C8.CX0 k fa fd [x] sp) (hbind : ∀ (s : Shared) (u : Value), BindsTo s fd ⟨[u], []⟩ [(x, u)])
    (hsp : ∀ H : Hp, H P0 = some (.tbl #[]) → SqL K H a (ns.map V.int) → sp [.ref a] H (fun v _ => v = .bl true) C8.E0) :
    codeAny (model P w) callerA (.call (.ref fa) ⟨[.ref a], []⟩) (fun r s' => r = .ok (.ret (.bool true)) ∧ OldK s₁.heap s'.heap ∧ s'.os = s₁.os ∧ AllBare s'.gens) s₁ := by
  have rv := vals_ints hi
  have aP : a ≠ P0 := fun z => by
    rw [z, hT] at ha
    cases ha
  cases hk : K.lookup a with
  | some o =>
    have e := KX a o hk
    rw [ha] at e
    cases e
    have hH : ∀ b, b ≠ P0 → upd (fun _ => none) P0 (.tbl #[]) b = none := fun b hb => upd_ne hb
    refine law_core (H := upd (fun _ => none) P0 (.tbl #[])) KX hns hb hbb hlim hg hT nT C hbm ha hr F hbind upd_same (fun b => ?_) (fun b u z => ?_) (fun b z => ?_) (fun z => absurd (hH a aP) z) (hsp _ upd_same (.inr ⟨_, vs.toArray, _, hk, rfl, rfl, rfl, by rw [List.size_toArray, hi.length]; exact hl, by simpa using rv⟩))
    · by_cases hb : b = P0
      · exact .inr (.inl hb)
      · exact .inl (hH b hb)
    · by_cases hb : b = P0
      · subst hb
        rw [upd_same] at z
        cases z
        exact hT
      · rw [hH b hb] at z
        cases z
    · by_cases hb : b = P0
      · exact .inr hb
      · exact absurd (hH b hb) z
  | none =>
    have hH : ∀ b, b ≠ P0 → b ≠ a → upd (upd (fun _ => none) P0 (.tbl #[])) a (.frz { cls := .type "list", data := .seq vs.toArray } (.lst (ns.map V.int))) b = none := fun b hb hb2 => by rw [upd_ne hb2, upd_ne hb]
    have hHP : upd (upd (fun _ => none) P0 (.tbl #[])) a (.frz { cls := .type "list", data := .seq vs.toArray } (.lst (ns.map V.int))) P0 = some (.tbl #[]) := by rw [upd_ne (Ne.symm aP), upd_same]
    refine law_core (H := upd (upd (fun _ => none) P0 (.tbl #[])) a (.frz { cls := .type "list", data := .seq vs.toArray } (.lst (ns.map V.int)))) KX hns hb hbb hlim hg hT nT C hbm ha hr F hbind hHP (fun b => ?_) (fun b u z => ?_) (fun b z => ?_) (fun _ => hk) (hsp _ hHP (.inl (.inr ⟨_, upd_same⟩)))
    · by_cases hb : b = P0
      · exact .inr (.inl hb)
      · by_cases hb2 : b = a
        · subst hb2
          exact .inr (.inr ⟨_, _, upd_same⟩)
        · exact .inl (hH b hb hb2)
    · by_cases hb2 : b = a
      · subst hb2
        rw [upd_same] at z
        cases z
        exact ⟨ha, by rw [List.length_map]; exact hl, vs, _, rv, ha⟩
      · by_cases hb : b = P0
        · subst hb
          rw [hHP] at z
          cases z
          exact hT
        · rw [hH b hb hb2] at z
          cases z
    · by_cases hb : b = P0
      · exact .inr hb
      · by_cases hb2 : b = a
        · exact .inl hb2
        · exact absurd (hH b hb hb2) z
end
end Hf

set_option Elab.async false
set_option linter.all false
set_option maxRecDepth 100000
set_option maxHeartbeats 4000000
/-! facts of the two exception classes, and a Hook that tells them -/
namespace Hf
open PySem PySem.Spec PyProof.Rows L2 Hd Net
section
variable {K : PySem.W.Frag} {C fI : Addr} {pn file : Str} {z : OwnX.PosOf} {prog : Program}
abbrev QV : Type := Option (Str × Arguments × FuncBody × Scope × Addr × List Str × Value × Value × Addr)
def fnQ (K : PySem.W.Frag) (f : Addr) : QV := match K.lookup f with
  | some ⟨_, _, .func fd, _⟩ => some (fd.name, fd.params, fd.body, fd.scope, fd.globals, fd.closure.map (·.1), fd.defaults, fd.kwdefaults, fd.builtins)
  | _ => none
def valQ (pn : Str) (z : OwnX.PosOf) : QV := some ("__init__", OwnX.iA pn z.p1 z.p2, .stmts (OwnX.iBz pn z), OwnX.iS pn, mainGlobals, ["__class__"], .none, .none, builtinsNs)
def fileB (K : PySem.W.Frag) (a : Addr) (file : Str) : Bool := match K.lookup a with
  | some ⟨_, _, .fields vs, _⟩ => (match (vs[2]? : Option Value) with
    | some (Value.str f _) => file == f
    | _ => false)
  | _ => false
def cellB (K : PySem.W.Frag) (a C : Addr) : Bool := match K.lookup a with
  | some ⟨_, _, .cell (some (.ref C')), _⟩ => decide (C' = C)
  | _ => false
def initM (K : PySem.W.Frag) (C : Addr) (file : Str) (cd : Value) (cl : List (Str × Addr)) (q : Str) : Bool := match cd, cl with
  | .ref a, [(_, c)] => PySem.W.codeIn K (.ref a) q && (fileB K a file && cellB K c C)
  | _, _ => false
def initB (K : PySem.W.Frag) (C fI : Addr) (file : Str) : Bool := match K.lookup fI with
  | some ⟨_, _, .func fd, _⟩ => initM K C file fd.code fd.closure fd.qualname
  | _ => false
def clsB (K : PySem.W.Frag) (C : Addr) : Bool := match K.lookup C with
  | some ⟨.type "type", _, .cls cd, sl⟩ => (match cd.mro, sl.toList with
    | .ref C' :: bm, [_, _, _, _, some (.builtin n), _] => C' == C && n == "ValueError.__new__" && !cd.hasDel && cd.hasDict && HandSPX.refsVE bm
    | _, _ => false)
  | _ => false
def vE (a b : Option (Option Value)) : Bool := decide (a = b)
def ownB (K : PySem.W.Frag) (C fI : Addr) (pn file : Str) : Bool :=
  clsB K C && (He.eqO (PySem.W.findIn K (.ref C) "__setattr__") (some (some (.builtin "object.__setattr__"))) && (He.eqO (PySem.W.findIn K (.ref C) pn) (some none) && (He.eqO (PySem.W.findIn K (.ref C) "__init__") (some (some (.ref fI))) && (decide (PySem.W.typeIn K (.ref fI) = some (.type "function")) &&
    (PySem.W.keepIn K (.ref C) && (decide (PySem.W.subIn K (.ref C) (.type "BaseException") = some true) && (decide (PySem.W.typeIn K (.ref C) = some (.type "type")) && (decide (PySem.W.subIn K (.ref C) (.type "ValueError") = some true) && (He.eqO (PySem.W.ks_superIn K C C "__init__") (some (some (.builtin "ValueError.__init__"))) &&
      (He.eqO (PySem.W.nsIn K cStatics "thirdparty.any") (some none) && (decide (PySem.W.mroIn K C (.ref C) = some true) && (He.eqO (PySem.W.nsIn K mainGlobals "super") (some none) && initB K C fI file))))))))))))
theorem fileB_ok {a : Addr} (h : fileB K a file = true) : ∃ ccl cdd vs ccs f tf, K.lookup a = some ⟨ccl, cdd, .fields vs, ccs⟩ ∧ vs[2]? = some (.str f tf) ∧ (file == f) = true := by
  unfold fileB at h
  split at h
  · rename_i a1 b1 vs c1 e
    split at h
    · rename_i f t e2
      exact ⟨_, _, vs, _, f, t, e, e2, h⟩
    · cases h
  · cases h
theorem cellB_ok {a : Addr} (h : cellB K a C = true) : ∃ cl cld csl, K.lookup a = some ⟨cl, cld, .cell (some (.ref C)), csl⟩ := by
  unfold cellB at h
  split at h
  · rename_i a1 b1 C' c1 e
    have e2 : C' = C := of_decide_eq_true h
    subst e2
    exact ⟨_, _, _, e⟩
  · cases h
theorem init_of (e : fnQ K fI = valQ pn z) (h : initB K C fI prog.main.file = true) : ∃ (oc : Value) (od : Option Addr) (doc pm : Value) (an : Option Addr) (ct : Value) (osl : Array (Option Value)) (q : Str) (cda cc : Addr),
    K.lookup fI = some ⟨oc, od, .func (PySem.W.ksFn "__init__" q (OwnX.iA pn z.p1 z.p2) (OwnX.iBz pn z) (OwnX.iS pn) .none .none doc pm an (.ref cda) ct cc), osl⟩ ∧ PySem.W.codeIn K (.ref cda) q = true ∧
    (∃ ccl cdd vs ccs file tf, K.lookup cda = some ⟨ccl, cdd, .fields vs, ccs⟩ ∧ vs[2]? = some (.str file tf) ∧ ((prog.main.file : Str) == file) = true) ∧
    ∃ cl cld csl, K.lookup cc = some ⟨cl, cld, .cell (some (.ref C)), csl⟩ := by
  unfold fnQ at e
  unfold initB at h
  cases q : K.lookup fI with
  | none =>
    rw [q] at e
    cases e
  | some o =>
    obtain ⟨oc, od, dt, osl⟩ := o
    rw [q] at e h
    cases dt with
    | func fd =>
      obtain ⟨n1, n2, n3, n4, n5, n6, n7, n8, n9, n10, n11, n12, n13, n14, n15⟩ := fd
      have e2 : (some (n1, n3, n4, n5, n6, n7.map (·.1), n8, n9, n15) : QV) = (some ("__init__", OwnX.iA pn z.p1 z.p2, .stmts (OwnX.iBz pn z), OwnX.iS pn, mainGlobals, ["__class__"], .none, .none, builtinsNs) : QV) := e
      simp only [Option.some.injEq, Prod.mk.injEq] at e2
      obtain ⟨h1, h2, h3, h4, h5, h6, h7, h8, h9⟩ := e2
      subst h1 h2 h3 h4 h5 h7 h8 h9
      have h' : initM K C prog.main.file n13 n7 n2 = true := h
      clear h e
      unfold initM at h'
      split at h'
      · rename_i a n c
        obtain ⟨k1, k2⟩ := He.ba h'
        obtain ⟨k3, k4⟩ := He.ba k2
        have hn : n = ("__class__" : Str) := by
          have h7 := h6
          simp only [List.map_cons, List.map_nil, List.cons.injEq, and_true] at h7
          exact h7
        subst hn
        exact ⟨oc, od, _, _, _, _, osl, n2, a, c, rfl, k1, fileB_ok k3, cellB_ok k4⟩
      · cases h'
    | _ => cases e
theorem cls_of (q : clsB K C = true) : ∃ nm q N bs bm sn sub ab col dd k0 k1 k2 k3 k5, K.lookup C = some (excClassObj nm q C N bs bm true sn sub ab col dd k0 k1 k2 k3 k5 "ValueError.__new__") ∧ HandSPX.refsVE bm = true := by
  unfold clsB at q
  split at q
  · rename_i dd cd sl ho
    split at q
    · rename_i C' bm k0 k1 k2 k3 n k5 hm hs
      simp only [Bool.and_eq_true, beq_iff_eq, Bool.not_eq_true'] at q
      obtain ⟨⟨⟨⟨rfl, rfl⟩, hdel⟩, hd2⟩, ht⟩ := q
      obtain ⟨nm, bs, mro, ns, qn, hd, sn, sub, ab, col, del⟩ := cd
      dsimp only at hm hdel hd2
      subst hm hdel hd2
      have hsl : sl = #[k0, k1, k2, k3, some (.builtin "ValueError.__new__"), k5] := by
        obtain ⟨l⟩ := sl
        simp only at hs
        rw [hs]
      subst hsl
      exact ⟨nm, qn, ns, bs, bm, sn, sub, ab, col, dd, k0, k1, k2, k3, k5, ho, ht⟩
    · cases q
  · cases q
theorem own_of (ev : OwnX.EvOk pn z) (top : (prog.main.scope.names.lookup ("super" : Str)).isSome = false) (e : fnQ K fI = valQ pn z) (h : ownB K C fI pn prog.main.file = true) : OwnX.OTxt prog K C fI pn z := by
  obtain ⟨h1, h⟩ := He.ba h
  obtain ⟨h2, h⟩ := He.ba h
  obtain ⟨h3, h⟩ := He.ba h
  obtain ⟨h4, h⟩ := He.ba h
  obtain ⟨h5, h⟩ := He.ba h
  obtain ⟨h6, h⟩ := He.ba h
  obtain ⟨h7, h⟩ := He.ba h
  obtain ⟨h8, h⟩ := He.ba h
  obtain ⟨h9, h⟩ := He.ba h
  obtain ⟨h10, h⟩ := He.ba h
  obtain ⟨h11, h⟩ := He.ba h
  obtain ⟨h12, h⟩ := He.ba h
  obtain ⟨h13, h14⟩ := He.ba h
  exact ⟨ev, top, cls_of h1, He.eqO_ok h2, He.eqO_ok h3, He.eqO_ok h4, of_decide_eq_true h5, h6, of_decide_eq_true h7, of_decide_eq_true h8, of_decide_eq_true h9, He.eqO_ok h10, He.eqO_ok h11, of_decide_eq_true h12, He.eqO_ok h13, init_of e h14⟩
end
def zV : OwnX.PosOf := ⟨⟨21, 17, 21, 21⟩, ⟨21, 23, 21, 28⟩, ⟨22, 8, 22, 13⟩, ⟨22, 8, 22, 15⟩, ⟨22, 8, 22, 24⟩, ⟨22, 25, 22, 30⟩, ⟨22, 8, 22, 31⟩, ⟨22, 8, 22, 31⟩, ⟨23, 8, 23, 12⟩, ⟨23, 8, 23, 18⟩, ⟨23, 21, 23, 26⟩, ⟨23, 8, 23, 26⟩⟩
def zM : OwnX.PosOf := ⟨⟨26, 17, 26, 21⟩, ⟨26, 23, 26, 27⟩, ⟨27, 8, 27, 13⟩, ⟨27, 8, 27, 15⟩, ⟨27, 8, 27, 24⟩, ⟨27, 25, 27, 29⟩, ⟨27, 8, 27, 30⟩, ⟨27, 8, 27, 30⟩, ⟨28, 8, 28, 12⟩, ⟨28, 8, 28, 17⟩, ⟨28, 20, 28, 24⟩, ⟨28, 8, 28, 24⟩⟩
theorem evV : OwnX.EvOk "value" zV := fun env => ⟨_, rfl⟩
theorem evM : OwnX.EvOk "most" zM := fun env => ⟨_, rfl⟩
abbrev iBad (K : PySem.W.Frag) : Addr := He.ma K (He.ga K "BadParameter") "__init__"
abbrev iGre (K : PySem.W.Frag) : Addr := He.ma K (He.ga K "TooGreat") "__init__"
/-- the Bool facts of both -/
def exB (K : PySem.W.Frag) (file : Str) : Bool :=
  ownB K (He.ga K "BadParameter") (iBad K) "value" file && (ownB K (He.ga K "TooGreat") (iGre K) "most" file && (xfB K (He.ga K "BadParameter") && (xfB K (He.ga K "TooGreat") &&
    (decide (PySem.W.exmOne K (.ref (He.ga K "BadParameter")) (.ref (He.ga K "BadParameter")) = some true) && (decide (PySem.W.exmOne K (.ref (He.ga K "TooGreat")) (.ref (He.ga K "BadParameter")) = some false) && decide (PySem.W.exmOne K (.ref (He.ga K "TooGreat")) (.ref (He.ga K "TooGreat")) = some true))))))
abbrev p0 : He.Defn := ("_law_refused", none)
structure SaysZ (fa : List He.Fa) (fn : List He.DefD) (file : Str) (h : Heap) (K : PySem.W.Frag) : Prop where
  d : He.SaysD fa fn K
  ex : exB K file = true
  q1 : fnQ K (iBad K) = valQ "value" zV
  q2 : fnQ K (iGre K) = valQ "most" zM
  hd : PySem.W.codeHdIn K (He.cT K p0).1 (He.cT K p0).2 = true
  out : K.lookup (He.cT K p0).2 = none
  empty : h.get? (He.cT K p0).2 = some { cls := .none, data := .fields #[] }
def asZ (g : Addr → Option Obj) (n : Nat) : List Addr := cStatics :: He.asD g n
abbrev AlZ : Type := He.AlD × Bool × QV × QV
def obsK (fa : List He.Fa) (fn : List He.DefD) (file : Str) (g : Addr → Option Obj) (K : PySem.W.Frag) : AlZ := (He.obsD fa fn K, exB K file && He.tabsB g [p0] K, fnQ K (iBad K), fnQ K (iGre K))
def obsZ (n : Nat) (fa : List He.Fa) (fn : List He.DefD) (file : Str) (g : Addr → Option Obj) : AlZ := obsK fa fn file g (He.frT g (asZ g n))
def valZ (fn : List He.DefD) : AlZ := (He.valD fn, true, valQ "value" zV, valQ "most" zM)
theorem saysZ_of {n : Nat} {fa : List He.Fa} {fn : List He.DefD} {file : Str} {h : Heap} (e : obsZ n fa fn file h.get? = valZ fn) : SaysZ fa fn file h (He.frT h.get? (asZ h.get? n)) := by
  generalize hK : He.frT h.get? (asZ h.get? n) = K
  have e0 : obsK fa fn file h.get? K = valZ fn := by rw [← hK]; exact e
  have hn : ∀ {a : Addr} {o : Obj}, h.get? a = some o → He.emptyTab o = true → K.lookup a = none := fun {a o} h1 h2 => by rw [← hK]; exact He.frT_none h1 h2
  have e1 : He.SaysD fa fn K := congrArg (fun z : AlZ => z.1) e0
  have e2 : (exB K file && He.tabsB h.get? [p0] K) = true := congrArg (fun z : AlZ => z.2.1) e0
  have e3 : fnQ K (iBad K) = valQ "value" zV := congrArg (fun z : AlZ => z.2.2.1) e0
  have e4 : fnQ K (iGre K) = valQ "most" zM := congrArg (fun z : AlZ => z.2.2.2) e0
  obtain ⟨h1, h2⟩ := He.ba e2
  obtain ⟨h3, h4⟩ := He.ba (List.all_eq_true.mp h2 p0 (List.mem_cons_self ..))
  split at h4
  · rename_i o ho
    exact ⟨e1, h1, e3, e4, h3, hn ho h4, by rw [ho, He.emptyTab_eq h4]⟩
  · cases h4
def hookZ (n : Nat) (fa : List He.Fa) (fn : List He.DefD) (file : Str) : PySem.W.Hook where
  α := AlZ
  obs := fun s => obsZ n fa fn file s.heap.get?
  val := fun _ => valZ fn
  says := fun _ h => ∃ K : PySem.W.Frag, K.In h ∧ SaysZ fa fn file h K
  of := fun _ _ e => ⟨_, He.frT_in, saysZ_of e⟩
  keeps := fun _ _ _ ⟨K, hK, c⟩ k => ⟨K, PySem.W.Frag.In.keeps hK k, ⟨c.d, c.ex, c.q1, c.q2, c.hd, c.out, k _ _ c.empty⟩⟩
theorem obsZ_eq {n : Nat} {fa : List He.Fa} {fn : List He.DefD} {file : Str} {g : Addr → Option Obj} {s : Shared} (h : ∀ a, g a = s.heap.get? a) : obsZ n fa fn file g = (hookZ n fa fn file).obs s := by
  have e : g = s.heap.get? := funext h
  rw [e] <;> rfl
end Hf

set_option Elab.async false
set_option linter.all false
set_option maxRecDepth 100000
set_option maxHeartbeats 0
namespace Hf
open PySem PySem.Spec PyProof.Rows L2

def d_is_from : He.DefD := ⟨("is_from", none), "is_from", "is_from", defArgs s_is_from, defBody s_is_from, defScope s_is_from, [], []⟩
def d_is_holder : He.DefD := ⟨("is_holder", none), "is_holder", "is_holder", defArgs s_is_holder, defBody s_is_holder, defScope s_is_holder, [], []⟩
def d_need_holder : He.DefD := ⟨("need_holder", none), "need_holder", "need_holder", defArgs s_need_holder, defBody s_need_holder, defScope s_need_holder, [], []⟩
def d_is_thing : He.DefD := ⟨("is_thing", none), "is_thing", "is_thing", defArgs s_is_thing, defBody s_is_thing, defScope s_is_thing, [], []⟩
def d_is_filling : He.DefD := ⟨("is_filling", none), "is_filling", "is_filling", defArgs s_is_filling, defBody s_is_filling, defScope s_is_filling, [], []⟩
def d_check_filling : He.DefD := ⟨("check_filling", none), "check_filling", "check_filling", defArgs s_check_filling, defBody s_check_filling, defScope s_check_filling, [], []⟩
def d_rows_of : He.DefD := ⟨("rows_of", none), "rows_of", "rows_of", defArgs s_rows_of, defBody s_rows_of, defScope s_rows_of, [], []⟩
def d_need_size : He.DefD := ⟨("need_size", none), "need_size", "need_size", defArgs s_need_size, defBody s_need_size, defScope s_need_size, [], []⟩
def d_is_within : He.DefD := ⟨("is_within", none), "is_within", "is_within", defArgs s_is_within, defBody s_is_within, defScope s_is_within, [], []⟩
def d_least_sets : He.DefD := ⟨("least_sets", none), "least_sets", "least_sets", defArgs s_least_sets, defBody s_least_sets, defScope s_least_sets, [], []⟩
def d_is_set : He.DefD := ⟨("is_set", none), "is_set", "is_set", defArgs s_is_set, defBody s_is_set, defScope s_is_set, [], []⟩
def d_is_lot : He.DefD := ⟨("is_lot", none), "is_lot", "is_lot", defArgs s_is_lot, defBody s_is_lot, defScope s_is_lot, [], []⟩
def d_level_so : He.DefD := ⟨("level_so", none), "level_so", "level_so", defArgs s_level_so, defBody s_level_so, defScope s_level_so, [], []⟩
def d_bits_of : He.DefD := ⟨("bits_of", none), "bits_of", "bits_of", defArgs s_bits_of, defBody s_bits_of, defScope s_bits_of, [], []⟩
def d_ones_of : He.DefD := ⟨("ones_of", none), "ones_of", "ones_of", defArgs s_ones_of, defBody s_ones_of, defScope s_ones_of, [], []⟩
def d_need_low : He.DefD := ⟨("need_low", none), "need_low", "need_low", defArgs s_need_low, defBody s_need_low, defScope s_need_low, [], []⟩
def d_need_pair : He.DefD := ⟨("need_pair", none), "need_pair", "need_pair", defArgs s_need_pair, defBody s_need_pair, defScope s_need_pair, [], []⟩
def d_need_three : He.DefD := ⟨("need_three", none), "need_three", "need_three", defArgs s_need_three, defBody s_need_three, defScope s_need_three, [], []⟩
def d_check_riser : He.DefD := ⟨("check_riser", none), "check_riser", "check_riser", defArgs s_check_riser, defBody s_check_riser, defScope s_check_riser, [], []⟩
def d_need_riser : He.DefD := ⟨("need_riser", none), "need_riser", "need_riser", defArgs s_need_riser, defBody s_need_riser, defScope s_need_riser, [], []⟩
def d_riser_so : He.DefD := ⟨("riser_so", none), "riser_so", "riser_so", defArgs s_riser_so, defBody s_riser_so, defScope s_riser_so, [], []⟩
def d_riser_done : He.DefD := ⟨("riser_done", none), "riser_done", "riser_done", defArgs s_riser_done, defBody s_riser_done, defScope s_riser_done, [], []⟩
def d_greatest_of : He.DefD := ⟨("greatest_of", none), "greatest_of", "greatest_of", defArgs s_greatest_of, defBody s_greatest_of, defScope s_greatest_of, [], []⟩
def d_least_of : He.DefD := ⟨("least_of", none), "least_of", "least_of", defArgs s_least_of, defBody s_least_of, defScope s_least_of, [], []⟩
def d_lot_behind : He.DefD := ⟨("lot_behind", none), "lot_behind", "lot_behind", defArgs s_lot_behind, defBody s_lot_behind, defScope s_lot_behind, [], []⟩
def d_riser_behind : He.DefD := ⟨("riser_behind", none), "riser_behind", "riser_behind", defArgs s_riser_behind, defBody s_riser_behind, defScope s_riser_behind, [], []⟩
def d_sorter_so : He.DefD := ⟨("sorter_so", none), "sorter_so", "sorter_so", defArgs s_sorter_so, defBody s_sorter_so, defScope s_sorter_so, [], []⟩
def d_sorter : He.DefD := ⟨("sorter", none), "sorter", "sorter", defArgs s_sorter, defBody s_sorter, defScope s_sorter, [], []⟩
def d_unsorted_so : He.DefD := ⟨("unsorted_so", none), "unsorted_so", "unsorted_so", defArgs s_unsorted_so, defBody s_unsorted_so, defScope s_unsorted_so, [], []⟩
def d_is_sorter : He.DefD := ⟨("is_sorter", none), "is_sorter", "is_sorter", defArgs s_is_sorter, defBody s_is_sorter, defScope s_is_sorter, [], []⟩
def d_is_step : He.DefD := ⟨("is_step", none), "is_step", "is_step", defArgs s_is_step, defBody s_is_step, defScope s_is_step, [], []⟩
def d_network : He.DefD := ⟨("network", none), "network", "network", defArgs s_network, defBody s_network, defScope s_network, [], []⟩
def d__law_mixed : He.DefD := ⟨("_law_mixed", none), "_law_mixed", "_law_mixed", defArgs s__law_mixed, defBody s__law_mixed, defScope s__law_mixed, [], []⟩
def d__law_begin : He.DefD := ⟨("_law_begin", none), "_law_begin", "_law_begin", defArgs s__law_begin, defBody s__law_begin, defScope s__law_begin, [], []⟩
def d__law_draw : He.DefD := ⟨("_law_draw", none), "_law_draw", "_law_draw", defArgs s__law_draw, defBody s__law_draw, defScope s__law_draw, [], []⟩
def d__law_sets : He.DefD := ⟨("_law_sets", none), "_law_sets", "_law_sets", defArgs s__law_sets, defBody s__law_sets, defScope s__law_sets, [], []⟩
def d__law_of : He.DefD := ⟨("_law_of", none), "_law_of", "_law_of", defArgs s__law_of, defBody s__law_of, defScope s__law_of, [], []⟩
def d__law_rows : He.DefD := ⟨("_law_rows", none), "_law_rows", "_law_rows", defArgs s__law_rows, defBody s__law_rows, defScope s__law_rows, [], []⟩
def d__law_by_lot : He.DefD := ⟨("_law_by_lot", none), "_law_by_lot", "_law_by_lot", defArgs s__law_by_lot, defBody s__law_by_lot, defScope s__law_by_lot, [], []⟩
def d__law_like : He.DefD := ⟨("_law_like", none), "_law_like", "_law_like", defArgs s__law_like, defBody s__law_like, defScope s__law_like, [], []⟩
def d__law_risen : He.DefD := ⟨("_law_risen", none), "_law_risen", "_law_risen", defArgs s__law_risen, defBody s__law_risen, defScope s__law_risen, [], []⟩
def d__law_word : He.DefD := ⟨("_law_word", none), "_law_word", "_law_word", defArgs s__law_word, defBody s__law_word, defScope s__law_word, [], []⟩
def d__law_exchanged : He.DefD := ⟨("_law_exchanged", none), "_law_exchanged", "_law_exchanged", defArgs s__law_exchanged, defBody s__law_exchanged, defScope s__law_exchanged, [], []⟩
def d__law_steps : He.DefD := ⟨("_law_steps", none), "_law_steps", "_law_steps", defArgs s__law_steps, defBody s__law_steps, defScope s__law_steps, [], []⟩
def d__law_sorter : He.DefD := ⟨("_law_sorter", none), "_law_sorter", "_law_sorter", defArgs s__law_sorter, defBody s__law_sorter, defScope s__law_sorter, [], []⟩
def d__law_leads : He.DefD := ⟨("_law_leads", none), "_law_leads", "_law_leads", defArgs s__law_leads, defBody s__law_leads, defScope s__law_leads, [], []⟩
def d__law_right : He.DefD := ⟨("_law_right", none), "_law_right", "_law_right", defArgs s__law_right, defBody s__law_right, defScope s__law_right, [], []⟩
def d__law_known : He.DefD := ⟨("_law_known", none), "_law_known", "_law_known", defArgs s__law_known, defBody s__law_known, defScope s__law_known, [], []⟩
def d__law_refused : He.DefD := ⟨("_law_refused", none), "_law_refused", "_law_refused", defArgs s__law_refused, defBody s__law_refused, defScope s__law_refused, [], []⟩
def d_law : He.DefD := ⟨("law", none), "law", "law", defArgs s_law, defBody s_law, defScope s_law, [], []⟩
def fn : List He.DefD := [d_is_from, d_is_holder, d_need_holder, d_is_thing, d_is_filling, d_check_filling, d_rows_of, d_need_size, d_is_within, d_least_sets, d_is_set, d_is_lot, d_level_so, d_bits_of, d_ones_of, d_need_low, d_need_pair, d_need_three, d_check_riser, d_need_riser, d_riser_so, d_riser_done, d_greatest_of, d_least_of, d_lot_behind, d_riser_behind, d_sorter_so, d_sorter, d_unsorted_so, d_is_sorter, d_is_step, d_network, d__law_mixed, d__law_begin, d__law_draw, d__law_sets, d__law_of, d__law_rows, d__law_by_lot, d__law_like, d__law_risen, d__law_word, d__law_exchanged, d__law_steps, d__law_sorter, d__law_leads, d__law_right, d__law_known, d__law_refused, d_law]
def fa : List He.Fa := [.glo "is_from", .glo "is_holder", .glo "need_holder", .glo "is_thing", .glo "is_filling", .glo "check_filling", .glo "rows_of", .glo "need_size", .glo "is_within", .glo "least_sets", .glo "is_set", .glo "is_lot", .glo "level_so", .glo "bits_of", .glo "ones_of", .glo "need_low", .glo "need_pair", .glo "need_three", .glo "check_riser", .glo "need_riser", .glo "riser_so", .glo "riser_done", .glo "greatest_of", .glo "least_of", .glo "lot_behind", .glo "riser_behind", .glo "sorter_so", .glo "sorter", .glo "unsorted_so", .glo "is_sorter", .glo "is_step", .glo "network", .glo "_law_mixed", .glo "_law_begin", .glo "_law_draw", .glo "_law_sets", .glo "_law_of", .glo "_law_rows", .glo "_law_by_lot", .glo "_law_like", .glo "_law_risen", .glo "_law_word", .glo "_law_exchanged", .glo "_law_steps", .glo "_law_sorter", .glo "_law_leads", .glo "_law_right", .glo "_law_known", .glo "_law_refused", .glo "law", .free "isinstance", .free "len", .free "sorted", .free "set", .free "tuple", .free "list", .free "range", .free "max", .free "min", .free "enumerate", .free "sum", .free "int", .free "repr", .free "super", .free "bool", .int "MOST_SHAPES" 60, .int "MOST_PLACES" 12, .int "MOST_THING" (10 ^ 60), .int "MOST_LOOKED" 4, .int "MOST_SETS" 6, .int "MOST_STEPS" 60, .glo "BadParameter", .glo "TooGreat"]
def loose0 : List Str := ["HoldError", "BadHolder", "BadFilling", "BadProgram", "BadParameter", "TooGreat", "MOST_SHAPES", "MOST_PLACES", "MOST_THING", "is_from", "is_holder", "need_holder"]
def loose1 : List Str := ["is_thing", "is_filling", "check_filling", "rows_of", "MOST_LOOKED", "need_size", "MOST_SETS", "is_within", "least_sets", "is_set", "is_lot", "level_so"]
def loose2 : List Str := ["bits_of", "ones_of", "need_low", "need_pair", "need_three", "check_riser", "need_riser", "riser_so", "riser_done", "greatest_of", "least_of", "lot_behind"]
def loose3 : List Str := ["riser_behind", "MOST_STEPS", "sorter_so", "sorter", "unsorted_so", "is_sorter", "is_step", "network", "_law_mixed", "_law_begin", "_law_draw", "_law_sets"]
def loose4 : List Str := ["_law_of", "_law_rows", "_law_by_lot", "_law_like", "_law_risen", "_law_word", "_law_exchanged", "_law_steps", "_law_sorter", "_law_leads", "_law_right", "_law_known"]
def loose5 : List Str := ["_law_refused"]
abbrev loose : List Str := loose0 ++ loose1 ++ loose2 ++ loose3 ++ loose4 ++ loose5
abbrev R : PySem.W.OpenRow := PySem.W.OpenLaw.row PySem.Challenge.rw_holdfills_k19_whole_networks
abbrev fileZ : Str := PySem.Challenge.pw_holdfills_k19_whole_networks.main.file
abbrev hk : PySem.W.Hook := hookZ 5 fa fn fileZ
def ob (s : PySem.W.SharedT) : AlZ := obsZ 5 fa fn fileZ (HandSHeadRun.getT s)
theorem ob_eq (s : PySem.W.SharedT) : ob s = hk.obs s.abs := obsZ_eq (HandSHeadRun.getT_eq s)
theorem run (w : World) : HandSHeadRun.RunEq R (PySem.W.view R.prog [70]) hk ob 40000 loose w := by
  intro os
  kernel_rfl
end Hf

set_option Elab.async false
set_option linter.all false
set_option maxRecDepth 100000
set_option maxHeartbeats 4000000
namespace Hf
open PySem PySem.Spec PyProof.Rows L2 Hd Net
theorem fd_of {K : PySem.W.Frag} {h : Heap} {mg : Str → Option Value} {x : Str} {st : Stmt} (X : K.In h) (G : h.Ns mainGlobals mg) (F : ∃ fd, FunD K x x (defArgs st) (defBody st) (defScope st) [] [] (He.fAd K (x, none)) fd) (g : (He.Fa.glo x).ok K = true) : FD K mg x st := by
  obtain ⟨fd, F⟩ := F
  exact ⟨_, fd, F, He.glo_ok X G g⟩
abbrev PZ : Program := PySem.Challenge.pw_holdfills_k19_whole_networks
section
variable {w : World} {K : PySem.W.Frag} {h : Heap} {mg : Str → Option Value} {base : Heap}
theorem txt_of (X : K.In h) (G : h.Ns mainGlobals mg) (c : He.SaysD fa fn K) : Txt mg where
  b_isinstance := He.free_ok X G (c.fact 50 (f := .free "isinstance") rfl)
  b_len := He.free_ok X G (c.fact 51 (f := .free "len") rfl)
  b_sorted := He.free_ok X G (c.fact 52 (f := .free "sorted") rfl)
  b_set := He.free_ok X G (c.fact 53 (f := .free "set") rfl)
  b_tuple := He.free_ok X G (c.fact 54 (f := .free "tuple") rfl)
  b_list := He.free_ok X G (c.fact 55 (f := .free "list") rfl)
  b_range := He.free_ok X G (c.fact 56 (f := .free "range") rfl)
  b_max := He.free_ok X G (c.fact 57 (f := .free "max") rfl)
  b_min := He.free_ok X G (c.fact 58 (f := .free "min") rfl)
  b_enumerate := He.free_ok X G (c.fact 59 (f := .free "enumerate") rfl)
  b_sum := He.free_ok X G (c.fact 60 (f := .free "sum") rfl)
  b_int := He.free_ok X G (c.fact 61 (f := .free "int") rfl)
  b_repr := He.free_ok X G (c.fact 62 (f := .free "repr") rfl)
  b_super := He.free_ok X G (c.fact 63 (f := .free "super") rfl)
  b_bool := He.free_ok X G (c.fact 64 (f := .free "bool") rfl)
  c_MOST_SHAPES := He.int_ok X G (c.fact 65 (f := .int "MOST_SHAPES" 60) rfl)
  c_MOST_PLACES := He.int_ok X G (c.fact 66 (f := .int "MOST_PLACES" 12) rfl)
  c_MOST_THING := He.int_ok X G (c.fact 67 (f := .int "MOST_THING" (10 ^ 60)) rfl)
  c_MOST_LOOKED := He.int_ok X G (c.fact 68 (f := .int "MOST_LOOKED" 4) rfl)
  c_MOST_SETS := He.int_ok X G (c.fact 69 (f := .int "MOST_SETS" 6) rfl)
  c_MOST_STEPS := He.int_ok X G (c.fact 70 (f := .int "MOST_STEPS" 60) rfl)
theorem f_is_from (X : K.In h) (G : h.Ns mainGlobals mg) (c : He.SaysD fa fn K) : FD K mg "is_from" s_is_from := fd_of X G (c.def_ 0 (d := d_is_from) rfl) (c.fact 0 (f := .glo "is_from") rfl)
theorem f_is_holder (X : K.In h) (G : h.Ns mainGlobals mg) (c : He.SaysD fa fn K) : FD K mg "is_holder" s_is_holder := fd_of X G (c.def_ 1 (d := d_is_holder) rfl) (c.fact 1 (f := .glo "is_holder") rfl)
theorem f_need_holder (X : K.In h) (G : h.Ns mainGlobals mg) (c : He.SaysD fa fn K) : FD K mg "need_holder" s_need_holder := fd_of X G (c.def_ 2 (d := d_need_holder) rfl) (c.fact 2 (f := .glo "need_holder") rfl)
theorem f_is_thing (X : K.In h) (G : h.Ns mainGlobals mg) (c : He.SaysD fa fn K) : FD K mg "is_thing" s_is_thing := fd_of X G (c.def_ 3 (d := d_is_thing) rfl) (c.fact 3 (f := .glo "is_thing") rfl)
theorem f_is_filling (X : K.In h) (G : h.Ns mainGlobals mg) (c : He.SaysD fa fn K) : FD K mg "is_filling" s_is_filling := fd_of X G (c.def_ 4 (d := d_is_filling) rfl) (c.fact 4 (f := .glo "is_filling") rfl)
theorem f_check_filling (X : K.In h) (G : h.Ns mainGlobals mg) (c : He.SaysD fa fn K) : FD K mg "check_filling" s_check_filling := fd_of X G (c.def_ 5 (d := d_check_filling) rfl) (c.fact 5 (f := .glo "check_filling") rfl)
theorem f_rows_of (X : K.In h) (G : h.Ns mainGlobals mg) (c : He.SaysD fa fn K) : FD K mg "rows_of" s_rows_of := fd_of X G (c.def_ 6 (d := d_rows_of) rfl) (c.fact 6 (f := .glo "rows_of") rfl)
theorem f_need_size (X : K.In h) (G : h.Ns mainGlobals mg) (c : He.SaysD fa fn K) : FD K mg "need_size" s_need_size := fd_of X G (c.def_ 7 (d := d_need_size) rfl) (c.fact 7 (f := .glo "need_size") rfl)
theorem f_is_within (X : K.In h) (G : h.Ns mainGlobals mg) (c : He.SaysD fa fn K) : FD K mg "is_within" s_is_within := fd_of X G (c.def_ 8 (d := d_is_within) rfl) (c.fact 8 (f := .glo "is_within") rfl)
theorem f_least_sets (X : K.In h) (G : h.Ns mainGlobals mg) (c : He.SaysD fa fn K) : FD K mg "least_sets" s_least_sets := fd_of X G (c.def_ 9 (d := d_least_sets) rfl) (c.fact 9 (f := .glo "least_sets") rfl)
theorem f_is_set (X : K.In h) (G : h.Ns mainGlobals mg) (c : He.SaysD fa fn K) : FD K mg "is_set" s_is_set := fd_of X G (c.def_ 10 (d := d_is_set) rfl) (c.fact 10 (f := .glo "is_set") rfl)
theorem f_is_lot (X : K.In h) (G : h.Ns mainGlobals mg) (c : He.SaysD fa fn K) : FD K mg "is_lot" s_is_lot := fd_of X G (c.def_ 11 (d := d_is_lot) rfl) (c.fact 11 (f := .glo "is_lot") rfl)
theorem f_level_so (X : K.In h) (G : h.Ns mainGlobals mg) (c : He.SaysD fa fn K) : FD K mg "level_so" s_level_so := fd_of X G (c.def_ 12 (d := d_level_so) rfl) (c.fact 12 (f := .glo "level_so") rfl)
theorem f_bits_of (X : K.In h) (G : h.Ns mainGlobals mg) (c : He.SaysD fa fn K) : FD K mg "bits_of" s_bits_of := fd_of X G (c.def_ 13 (d := d_bits_of) rfl) (c.fact 13 (f := .glo "bits_of") rfl)
theorem f_ones_of (X : K.In h) (G : h.Ns mainGlobals mg) (c : He.SaysD fa fn K) : FD K mg "ones_of" s_ones_of := fd_of X G (c.def_ 14 (d := d_ones_of) rfl) (c.fact 14 (f := .glo "ones_of") rfl)
theorem f_need_low (X : K.In h) (G : h.Ns mainGlobals mg) (c : He.SaysD fa fn K) : FD K mg "need_low" s_need_low := fd_of X G (c.def_ 15 (d := d_need_low) rfl) (c.fact 15 (f := .glo "need_low") rfl)
theorem f_need_pair (X : K.In h) (G : h.Ns mainGlobals mg) (c : He.SaysD fa fn K) : FD K mg "need_pair" s_need_pair := fd_of X G (c.def_ 16 (d := d_need_pair) rfl) (c.fact 16 (f := .glo "need_pair") rfl)
theorem f_need_three (X : K.In h) (G : h.Ns mainGlobals mg) (c : He.SaysD fa fn K) : FD K mg "need_three" s_need_three := fd_of X G (c.def_ 17 (d := d_need_three) rfl) (c.fact 17 (f := .glo "need_three") rfl)
theorem f_check_riser (X : K.In h) (G : h.Ns mainGlobals mg) (c : He.SaysD fa fn K) : FD K mg "check_riser" s_check_riser := fd_of X G (c.def_ 18 (d := d_check_riser) rfl) (c.fact 18 (f := .glo "check_riser") rfl)
theorem f_need_riser (X : K.In h) (G : h.Ns mainGlobals mg) (c : He.SaysD fa fn K) : FD K mg "need_riser" s_need_riser := fd_of X G (c.def_ 19 (d := d_need_riser) rfl) (c.fact 19 (f := .glo "need_riser") rfl)
theorem f_riser_so (X : K.In h) (G : h.Ns mainGlobals mg) (c : He.SaysD fa fn K) : FD K mg "riser_so" s_riser_so := fd_of X G (c.def_ 20 (d := d_riser_so) rfl) (c.fact 20 (f := .glo "riser_so") rfl)
theorem f_riser_done (X : K.In h) (G : h.Ns mainGlobals mg) (c : He.SaysD fa fn K) : FD K mg "riser_done" s_riser_done := fd_of X G (c.def_ 21 (d := d_riser_done) rfl) (c.fact 21 (f := .glo "riser_done") rfl)
theorem f_greatest_of (X : K.In h) (G : h.Ns mainGlobals mg) (c : He.SaysD fa fn K) : FD K mg "greatest_of" s_greatest_of := fd_of X G (c.def_ 22 (d := d_greatest_of) rfl) (c.fact 22 (f := .glo "greatest_of") rfl)
theorem f_least_of (X : K.In h) (G : h.Ns mainGlobals mg) (c : He.SaysD fa fn K) : FD K mg "least_of" s_least_of := fd_of X G (c.def_ 23 (d := d_least_of) rfl) (c.fact 23 (f := .glo "least_of") rfl)
theorem f_lot_behind (X : K.In h) (G : h.Ns mainGlobals mg) (c : He.SaysD fa fn K) : FD K mg "lot_behind" s_lot_behind := fd_of X G (c.def_ 24 (d := d_lot_behind) rfl) (c.fact 24 (f := .glo "lot_behind") rfl)
theorem f_riser_behind (X : K.In h) (G : h.Ns mainGlobals mg) (c : He.SaysD fa fn K) : FD K mg "riser_behind" s_riser_behind := fd_of X G (c.def_ 25 (d := d_riser_behind) rfl) (c.fact 25 (f := .glo "riser_behind") rfl)
theorem f_sorter_so (X : K.In h) (G : h.Ns mainGlobals mg) (c : He.SaysD fa fn K) : FD K mg "sorter_so" s_sorter_so := fd_of X G (c.def_ 26 (d := d_sorter_so) rfl) (c.fact 26 (f := .glo "sorter_so") rfl)
theorem f_sorter (X : K.In h) (G : h.Ns mainGlobals mg) (c : He.SaysD fa fn K) : FD K mg "sorter" s_sorter := fd_of X G (c.def_ 27 (d := d_sorter) rfl) (c.fact 27 (f := .glo "sorter") rfl)
theorem f_unsorted_so (X : K.In h) (G : h.Ns mainGlobals mg) (c : He.SaysD fa fn K) : FD K mg "unsorted_so" s_unsorted_so := fd_of X G (c.def_ 28 (d := d_unsorted_so) rfl) (c.fact 28 (f := .glo "unsorted_so") rfl)
theorem f_is_sorter (X : K.In h) (G : h.Ns mainGlobals mg) (c : He.SaysD fa fn K) : FD K mg "is_sorter" s_is_sorter := fd_of X G (c.def_ 29 (d := d_is_sorter) rfl) (c.fact 29 (f := .glo "is_sorter") rfl)
theorem f_is_step (X : K.In h) (G : h.Ns mainGlobals mg) (c : He.SaysD fa fn K) : FD K mg "is_step" s_is_step := fd_of X G (c.def_ 30 (d := d_is_step) rfl) (c.fact 30 (f := .glo "is_step") rfl)
theorem f_network (X : K.In h) (G : h.Ns mainGlobals mg) (c : He.SaysD fa fn K) : FD K mg "network" s_network := fd_of X G (c.def_ 31 (d := d_network) rfl) (c.fact 31 (f := .glo "network") rfl)
theorem f__law_mixed (X : K.In h) (G : h.Ns mainGlobals mg) (c : He.SaysD fa fn K) : FD K mg "_law_mixed" s__law_mixed := fd_of X G (c.def_ 32 (d := d__law_mixed) rfl) (c.fact 32 (f := .glo "_law_mixed") rfl)
theorem f__law_begin (X : K.In h) (G : h.Ns mainGlobals mg) (c : He.SaysD fa fn K) : FD K mg "_law_begin" s__law_begin := fd_of X G (c.def_ 33 (d := d__law_begin) rfl) (c.fact 33 (f := .glo "_law_begin") rfl)
theorem f__law_draw (X : K.In h) (G : h.Ns mainGlobals mg) (c : He.SaysD fa fn K) : FD K mg "_law_draw" s__law_draw := fd_of X G (c.def_ 34 (d := d__law_draw) rfl) (c.fact 34 (f := .glo "_law_draw") rfl)
theorem f__law_sets (X : K.In h) (G : h.Ns mainGlobals mg) (c : He.SaysD fa fn K) : FD K mg "_law_sets" s__law_sets := fd_of X G (c.def_ 35 (d := d__law_sets) rfl) (c.fact 35 (f := .glo "_law_sets") rfl)
theorem f__law_of (X : K.In h) (G : h.Ns mainGlobals mg) (c : He.SaysD fa fn K) : FD K mg "_law_of" s__law_of := fd_of X G (c.def_ 36 (d := d__law_of) rfl) (c.fact 36 (f := .glo "_law_of") rfl)
theorem f__law_rows (X : K.In h) (G : h.Ns mainGlobals mg) (c : He.SaysD fa fn K) : FD K mg "_law_rows" s__law_rows := fd_of X G (c.def_ 37 (d := d__law_rows) rfl) (c.fact 37 (f := .glo "_law_rows") rfl)
theorem f__law_by_lot (X : K.In h) (G : h.Ns mainGlobals mg) (c : He.SaysD fa fn K) : FD K mg "_law_by_lot" s__law_by_lot := fd_of X G (c.def_ 38 (d := d__law_by_lot) rfl) (c.fact 38 (f := .glo "_law_by_lot") rfl)
theorem f__law_like (X : K.In h) (G : h.Ns mainGlobals mg) (c : He.SaysD fa fn K) : FD K mg "_law_like" s__law_like := fd_of X G (c.def_ 39 (d := d__law_like) rfl) (c.fact 39 (f := .glo "_law_like") rfl)
theorem f__law_risen (X : K.In h) (G : h.Ns mainGlobals mg) (c : He.SaysD fa fn K) : FD K mg "_law_risen" s__law_risen := fd_of X G (c.def_ 40 (d := d__law_risen) rfl) (c.fact 40 (f := .glo "_law_risen") rfl)
theorem f__law_word (X : K.In h) (G : h.Ns mainGlobals mg) (c : He.SaysD fa fn K) : FD K mg "_law_word" s__law_word := fd_of X G (c.def_ 41 (d := d__law_word) rfl) (c.fact 41 (f := .glo "_law_word") rfl)
theorem f__law_exchanged (X : K.In h) (G : h.Ns mainGlobals mg) (c : He.SaysD fa fn K) : FD K mg "_law_exchanged" s__law_exchanged := fd_of X G (c.def_ 42 (d := d__law_exchanged) rfl) (c.fact 42 (f := .glo "_law_exchanged") rfl)
theorem f__law_steps (X : K.In h) (G : h.Ns mainGlobals mg) (c : He.SaysD fa fn K) : FD K mg "_law_steps" s__law_steps := fd_of X G (c.def_ 43 (d := d__law_steps) rfl) (c.fact 43 (f := .glo "_law_steps") rfl)
theorem f__law_sorter (X : K.In h) (G : h.Ns mainGlobals mg) (c : He.SaysD fa fn K) : FD K mg "_law_sorter" s__law_sorter := fd_of X G (c.def_ 44 (d := d__law_sorter) rfl) (c.fact 44 (f := .glo "_law_sorter") rfl)
theorem f__law_leads (X : K.In h) (G : h.Ns mainGlobals mg) (c : He.SaysD fa fn K) : FD K mg "_law_leads" s__law_leads := fd_of X G (c.def_ 45 (d := d__law_leads) rfl) (c.fact 45 (f := .glo "_law_leads") rfl)
theorem f__law_right (X : K.In h) (G : h.Ns mainGlobals mg) (c : He.SaysD fa fn K) : FD K mg "_law_right" s__law_right := fd_of X G (c.def_ 46 (d := d__law_right) rfl) (c.fact 46 (f := .glo "_law_right") rfl)
theorem f__law_known (X : K.In h) (G : h.Ns mainGlobals mg) (c : He.SaysD fa fn K) : FD K mg "_law_known" s__law_known := fd_of X G (c.def_ 47 (d := d__law_known) rfl) (c.fact 47 (f := .glo "_law_known") rfl)
theorem f__law_refused (X : K.In h) (G : h.Ns mainGlobals mg) (c : He.SaysD fa fn K) : FD K mg "_law_refused" s__law_refused := fd_of X G (c.def_ 48 (d := d__law_refused) rfl) (c.fact 48 (f := .glo "_law_refused") rfl)
theorem f_law (X : K.In h) (G : h.Ns mainGlobals mg) (c : He.SaysD fa fn K) : FD K mg "law" s_law := fd_of X G (c.def_ 49 (d := d_law) rfl) (c.fact 49 (f := .glo "law") rfl)
theorem own1 (c : SaysZ fa fn fileZ h K) : OwnX.OTxt PZ K (He.ga K "BadParameter") (iBad K) "value" zV := own_of evV (by decide +kernel) c.q1 (He.ba c.ex).1
theorem own2 (c : SaysZ fa fn fileZ h K) : OwnX.OTxt PZ K (He.ga K "TooGreat") (iGre K) "most" zM := own_of evM (by decide +kernel) c.q2 (He.ba (He.ba c.ex).2).1
theorem two_of (X : K.In h) (G : h.Ns mainGlobals mg) (c : SaysZ fa fn fileZ h K) : TwoX K mg (He.ga K "BadParameter") (He.ga K "TooGreat") := by
  obtain ⟨_, e⟩ := He.ba c.ex
  obtain ⟨_, e⟩ := He.ba e
  obtain ⟨x1, e⟩ := He.ba e
  obtain ⟨x2, e⟩ := He.ba e
  obtain ⟨t11, e⟩ := He.ba e
  obtain ⟨t21, t22⟩ := He.ba e
  exact ⟨He.glo_ok X G (c.d.fact 71 (f := .glo "BadParameter") rfl), He.glo_ok X G (c.d.fact 72 (f := .glo "TooGreat") rfl), xfB_ok x1, xfB_ok x2, (own1 c).noN, (own2 c).noN, of_decide_eq_true t11, of_decide_eq_true t21, of_decide_eq_true t22⟩
theorem code_of (X : K.In h) (G : h.Ns mainGlobals mg) (c : He.SaysD fa fn K) : ∀ f, mg "_law_refused" = some (.ref f) → ∀ oc od osl fd, K.lookup f = some ⟨oc, od, .func fd, osl⟩ → fd.code = .ref (He.codeOf K p0) := by
  intro f hf oc od osl fd lk
  have e := (He.glo_ok X G (c.fact 48 (f := .glo "_law_refused") rfl)).symm.trans hf
  cases e
  obtain ⟨fd2, F⟩ := c.def_ 48 (d := d__law_refused) rfl
  obtain ⟨oc, od, dV, kV, doc, pm, an, cdv, ct, osl, rfl, lk2, hcd, _, _⟩ := F.ex
  obtain ⟨cc, rfl⟩ := He.codeIn_ref hcd
  have e2 := He.codeOf_eq (p := p0) lk2 rfl
  have e3 := lk2.symm.trans lk
  cases e3
  rw [e2]
theorem law_all (X : K.In h) (G : h.Ns mainGlobals mg) (c : SaysZ fa fn fileZ h K) (TB : LamX.TabB base mg (He.codeOf K p0) (He.tabOf K (He.codeOf K p0))) : ∃ fd, FunD K "law" "law" (defArgs s_law) (defBody s_law) (defScope s_law) [] [] (He.ga K "law") fd ∧ FnG PZ w K mg base C8.CX0 9 (He.ga K "law") fd P_law (spLaw K (He.tabOf K (He.codeOf K p0))) := by
  have T := txt_of X G c.d
  have Z2 := two_of X G c
  have C_is_from := cl_is_from (P := PZ) (w := w) (base := base) T (f_is_from X G c.d) 
  have C_is_holder := cl_is_holder (P := PZ) (w := w) (base := base) T (f_is_holder X G c.d) (C_is_from := C_is_from)
  have C_need_holder := cl_need_holder (P := PZ) (w := w) (base := base) T (f_need_holder X G c.d) (C_is_holder := C_is_holder)
  have C_need_low := cl_need_low (P := PZ) (w := w) (base := base) T (f_need_low X G c.d) 
  have C_need_pair := cl_need_pair (P := PZ) (w := w) (base := base) T (f_need_pair X G c.d) (C_need_holder := C_need_holder) (C_need_low := C_need_low)
  have C_need_three := cl_need_three (P := PZ) (w := w) (base := base) T (f_need_three X G c.d) (C_need_holder := C_need_holder) (C_need_low := C_need_low)
  have C_is_thing := cl_is_thing (P := PZ) (w := w) (base := base) T (f_is_thing X G c.d) (C_is_from := C_is_from)
  have C_is_filling := cl_is_filling (P := PZ) (w := w) (base := base) T (f_is_filling X G c.d) (C_is_from := C_is_from) (C_is_thing := C_is_thing)
  have C_check_filling := cl_check_filling (P := PZ) (w := w) (base := base) T (f_check_filling X G c.d) (C_is_filling := C_is_filling)
  have C_need_size := cl_need_size (P := PZ) (w := w) (base := base) T (f_need_size X G c.d) (C_is_from := C_is_from)
  have C_rows_of := cl_rows_of (P := PZ) (w := w) (base := base) T (f_rows_of X G c.d) 
  have C_bits_of := cl_bits_of (P := PZ) (w := w) (base := base) T (f_bits_of X G c.d) (C_rows_of := C_rows_of)
  have C_ones_of := cl_ones_of (P := PZ) (w := w) (base := base) T (f_ones_of X G c.d) 
  have C_is_within := cl_is_within (P := PZ) (w := w) (base := base) T (f_is_within X G c.d) 
  have C_least_sets := cl_least_sets (P := PZ) (w := w) (base := base) T (f_least_sets X G c.d) (C_is_within := C_is_within)
  have C_is_set := cl_is_set (P := PZ) (w := w) (base := base) T (f_is_set X G c.d) (C_is_from := C_is_from)
  have C_is_lot := cl_is_lot (P := PZ) (w := w) (base := base) T (f_is_lot X G c.d) (C_is_set := C_is_set) (C_least_sets := C_least_sets)
  have C_level_so := cl_level_so (P := PZ) (w := w) (base := base) T (f_level_so X G c.d) 
  have C_check_riser := cl_check_riser (P := PZ) (w := w) (base := base) T (f_check_riser X G c.d) (C_is_from := C_is_from) (C_is_lot := C_is_lot)
  have C_need_riser := cl_need_riser (P := PZ) (w := w) (base := base) T (f_need_riser X G c.d) (C_need_pair := C_need_pair) (C_check_riser := C_check_riser)
  have C_riser_so := cl_riser_so (P := PZ) (w := w) (base := base) T (f_riser_so X G c.d) (C_level_so := C_level_so)
  have C_riser_done := cl_riser_done (P := PZ) (w := w) (base := base) T (f_riser_done X G c.d) (C_need_riser := C_need_riser) (C_riser_so := C_riser_so) (C_check_filling := C_check_filling)
  have C_greatest_of := cl_greatest_of (P := PZ) (w := w) (base := base) T (f_greatest_of X G c.d) (C_least_sets := C_least_sets)
  have C_least_of := cl_least_of (P := PZ) (w := w) (base := base) T (f_least_of X G c.d) (C_least_sets := C_least_sets)
  have C_lot_behind := cl_lot_behind (P := PZ) (w := w) (base := base) T (f_lot_behind X G c.d) (C_greatest_of := C_greatest_of) (C_least_of := C_least_of)
  have C_riser_behind := cl_riser_behind (P := PZ) (w := w) (base := base) T (f_riser_behind X G c.d) (C_need_three := C_need_three) (C_check_riser := C_check_riser) (C_lot_behind := C_lot_behind)
  have C_sorter_so := cl_sorter_so (P := PZ) (w := w) (base := base) T (f_sorter_so X G c.d) (C_bits_of := C_bits_of) (C_ones_of := C_ones_of)
  have C_sorter := cl_sorter (P := PZ) (w := w) (base := base) T (f_sorter X G c.d) (C_need_size := C_need_size) (C_sorter_so := C_sorter_so)
  have C_unsorted_so := cl_unsorted_so (P := PZ) (w := w) (base := base) T (f_unsorted_so X G c.d) (C_bits_of := C_bits_of) (C_riser_so := C_riser_so)
  have C_is_sorter := cl_is_sorter (P := PZ) (w := w) (base := base) T (f_is_sorter X G c.d) (C_need_size := C_need_size) (C_check_riser := C_check_riser) (C_unsorted_so := C_unsorted_so)
  have C_is_step := cl_is_step (P := PZ) (w := w) (base := base) T (f_is_step X G c.d) (C_is_from := C_is_from)
  have C_network := cl_network (P := PZ) (w := w) (base := base) T (f_network X G c.d) (C_need_size := C_need_size) (C_is_step := C_is_step) (C_least_of := C_least_of) (C_greatest_of := C_greatest_of)
  have C_law_rows := cl__law_rows (P := PZ) (w := w) (base := base) T (f__law_rows X G c.d) 
  have C_law_by_lot := cl__law_by_lot (P := PZ) (w := w) (base := base) T (f__law_by_lot X G c.d) 
  have C_law_risen := cl__law_risen (P := PZ) (w := w) (base := base) T (f__law_risen X G c.d) (C_law_by_lot := C_law_by_lot)
  have C_law_exchanged := cl__law_exchanged (P := PZ) (w := w) (base := base) T (f__law_exchanged X G c.d) 
  have C_law_sets := cl__law_sets (P := PZ) (w := w) (base := base) T (f__law_sets X G c.d) 
  have C_law_sorter := cl__law_sorter (P := PZ) (w := w) (base := base) T (f__law_sorter X G c.d) (C_law_sets := C_law_sets)
  have C_law_like := cl__law_like (P := PZ) (w := w) (base := base) T (f__law_like X G c.d) 
  have C_law_leads := cl__law_leads (P := PZ) (w := w) (base := base) T (f__law_leads X G c.d) (C_law_rows := C_law_rows) (C_law_like := C_law_like) (C_law_risen := C_law_risen) (C_law_exchanged := C_law_exchanged)
  have C_law_mixed := cl__law_mixed (P := PZ) (w := w) (base := base) T (f__law_mixed X G c.d) 
  have C_law_draw := cl__law_draw (P := PZ) (w := w) (base := base) T (f__law_draw X G c.d) (C_law_mixed := C_law_mixed)
  have C_law_steps := cl__law_steps (P := PZ) (w := w) (base := base) T (f__law_steps X G c.d) (C_law_draw := C_law_draw)
  have C_law_right := cl__law_right (P := PZ) (w := w) (base := base) T (f__law_right X G c.d) (C_law_steps := C_law_steps) (C_law_draw := C_law_draw) (C_network := C_network) (C_law_like := C_law_like) (C_need_riser := C_need_riser) (C_law_rows := C_law_rows) (C_law_exchanged := C_law_exchanged) (C_law_risen := C_law_risen) (C_riser_done := C_riser_done) (C_law_leads := C_law_leads) (C_riser_behind := C_riser_behind) (C_is_sorter := C_is_sorter) (C_law_sorter := C_law_sorter)
  have C_law_begin := cl__law_begin (P := PZ) (w := w) (base := base) T (f__law_begin X G c.d) 
  have C_law_known := cl__law_known (P := PZ) (w := w) (base := base) T (f__law_known X G c.d) (C_law_steps := C_law_steps) (C_network := C_network) (C_law_like := C_law_like) (C_riser_done := C_riser_done) (C_is_sorter := C_is_sorter) (C_law_sorter := C_law_sorter) (C_sorter := C_sorter)
  have C_law_of := cl__law_of (P := PZ) (w := w) (base := base) T (f__law_of X G c.d) (C_law_draw := C_law_draw)
  have C_is_stepG := cl_is_stepG (P := PZ) (w := w) (base := base) T (f_is_step X G c.d) C_is_from
  have C_need_sizeX := cl_need_sizeX (P := PZ) (w := w) (base := base) T (f_need_size X G c.d) C_is_from (own1 c) (own2 c) Z2.m1 Z2.m2
  have C_networkX := cl_networkX (P := PZ) (w := w) (base := base) T (f_network X G c.d) C_need_sizeX C_is_stepG C_least_of C_greatest_of (own1 c) (own2 c) Z2.m1 Z2.m2
  have C_law_refused := cl__law_refused (P := PZ) (w := w) (base := base) T (f__law_refused X G c.d) (f__law_word X G c.d) Z2 TB (code_of X G c.d) C_networkX C_law_of C_law_like
  obtain ⟨fd, F⟩ := c.d.def_ 49 (d := d_law) rfl
  exact ⟨fd, F, fn_law T F C_law_begin C_law_right C_law_known C_law_refused⟩
end
end Hf

set_option Elab.async false
set_option linter.all false
set_option maxRecDepth 100000
set_option maxHeartbeats 4000000
namespace Hf
open PySem PySem.Spec PyProof.Rows L2 Hd Net
theorem walk {q : Program} {loose : List Str} {XP : (Str → Option Value) → Heap → Prop} {d : DefRec} (hdf : d.params.defaults = []) (hnm : d.name = ("law" : Str)) :
    PySem.W.WalkO q loose XP hk.says PySem.Challenge.rw_holdfills_k19_whole_networks.row.toRowW d [] (fun f vs => PySem.call f vs) := by
  refine Att.attach_callB (l := PySem.Challenge.rw_holdfills_k19_whole_networks) (n := 63) rfl hdf fun w s₀ s₁ mg mb fa o pm cd doc a vs ns G Y ho hd hcd hmg hobj hints hlen hbits hg => ?_
  obtain ⟨K, KX, c⟩ := Y
  rw [hnm] at hmg
  have e := (He.glo_ok KX G.T.g (c.d.fact 49 (f := .glo "law") rfl)).symm.trans hmg
  cases e
  obtain ⟨fd, F⟩ := c.d.def_ 49 (d := d_law) rfl
  have hb := FunD.bindsA (ps := P_law) F fun _ _ _ _ _ _ us hl => match us, hl with | [_], _ => rfl
  refine law_end (P := PZ) (k := 9) (sp := spLaw K (He.tabOf K (He.codeOf K p0))) (x := "_law_script") (c := He.codeOf K p0) (P0 := He.tabOf K (He.codeOf K p0)) (fd := fd) KX G.T.g G.T.b G.T.builtins G.T.nolimit hg c.empty c.out (PySem.W.codeHd_of_K KX c.hd) G.T.bmain hobj hints (Nat.le_trans hlen (sz_of (by decide))) ⟨rfl, by decide, by decide⟩ (fun base hK hN TB => ?_) (fun s u => hb s [u] rfl) fun H hP hS => ⟨a, ns, rfl, hS, by omega, hP, fun _ => rfl⟩
  obtain ⟨fd2, F2, R2⟩ := law_all (w := w) (base := base) KX G.T.g c TB
  have efd : fd2 = fd := by
    obtain ⟨_, _, _, _, _, _, _, _, _, _, e1, lk1, _⟩ := F.ex
    obtain ⟨_, _, _, _, _, _, _, _, _, _, e2, lk2, _⟩ := F2.ex
    have lk3 := lk1.symm.trans lk2
    injection lk3 with lk4
    injection lk4 with _ _ lk5 _
    injection lk5 with lk6
    exact lk6.symm
  rw [← efd]
  exact R2
end Hf
open PySem PySem.W PySem.Calls PyProof.Rows
theorem PySem.Challenge.cw_holdfills_k19_whole_networks_holds : PySem.Challenge.rw_holdfills_k19_whole_networks.Holds := by
  w_on; o_law
  refine HandSHeadRun.head_any (r := OpenLaw.row PySem.Challenge.rw_holdfills_k19_whole_networks) (q := view (OpenLaw.row PySem.Challenge.rw_holdfills_k19_whole_networks).prog [70]) (H := Hf.hk) (ob := Hf.ob) (M := 40000) (loose := Hf.loose) (d := HandSHeadRun.topDef (OpenLaw.row PySem.Challenge.rw_holdfills_k19_whole_networks).prog 70) (kwd := []) Hf.ob_eq
    (by kernel_rfl) (fun s => by kernel_rfl) Hf.run (by kernel_rfl) (by kernel_rfl) (by kernel_rfl) (by rfl) (by first | assumption | decide +kernel) (by decide +kernel) ⟨rfl, rfl, rfl, rfl, rfl, by decide +kernel⟩ ?hw ?hc
  case hw => w_witness2
  case hc => exact Hf.walk (by kernel_rfl) (by kernel_rfl)
